import PyProof.Rows.All
import Wide.All
import OpenK.AllK
import Wide.FinOn
import HandS.ForMost
import HandS.Walk
import HandS.Deep
import HandS.Zip
import HandS.IsInst
import HandS.DictComp
import HandS.TupAny
import HandS.Star
import HandS.Flow
import HandS.NoneIn
import HandS.Conv
import KE.SortData
import KE.GoesEnum
import KE.KDictZip
import KE.KDictList
import HandS.TupMul
import HandS.Codes
import HandS.ForExc
import HandS.ExcInit
import HandS.ExcField
import HandS.Lambda
import HandS.OwnEq
import HandS.More
import HandS.FStrTup
import PyProof.ReprHeads
import PyProof.ReprHeadsEmpty
import PyProof.ReprHeadsTuple
import PyProof.CallFns
import PyProof.ReprLen
import HandS.Nested
import KE.SortKeyHeap
import PySem.Challenge.RW_objections_k11_whole_who_defends_wins
import HandS.ListItems
import HandS.SetKeys
import HandS.Finally
import HandS.DeepEq
import PyProof.ReprNest
import PyProof.ReprDict
import HandS.EndTab
import KE.DataMinMax
-- part Gd1
set_option Elab.async false
set_option linter.all false
set_option maxRecDepth 100000
set_option maxHeartbeats 2000000
namespace Gd
open PySem L2
def isD : HO → Bool
  | .dK _ => true
  | .dT _ => true
  | _ => false
def Rel (b : Bool) (G H : Hp) : Prop := ∀ a o, G a = some o → H a = some o ∨ (b = false ∧ isD o = true ∧ ∃ ob, H a = some (.frz ob o))
theorem Rel.refl {b : Bool} (G : Hp) : Rel b G G := fun _ _ h => .inl h
theorem Rel.ex {G H : Hp} (r : Rel true G H) {a : Addr} {o : HO} (h : G a = some o) : H a = some o := by
  rcases r a o h with h | ⟨e, _⟩
  · exact h
  · cases e
theorem Rel.low {b : Bool} {G H : Hp} (r : Rel b G H) : Rel false G H := fun a o h => by
  rcases r a o h with h | ⟨_, h⟩
  · exact .inl h
  · exact .inr ⟨rfl, h⟩
theorem Rel.of {b : Bool} {G H : Hp} (r : Rel true G H) : Rel b G H := fun a o h => .inl (r.ex h)
theorem Rel.at {b : Bool} {G H : Hp} (r : Rel b G H) {a : Addr} {o : HO} (h : G a = some o) (n : isD o = false) : H a = some o := by
  rcases r a o h with h | ⟨_, e, _⟩
  · exact h
  · rw [n] at e; cases e
theorem Rel.rd {b : Bool} {G H : Hp} (r : Rel b G H) {a : Addr} {o : HO} (h : G a = some o) : Rd H a o := by
  rcases r a o h with h | ⟨_, _, ob, h⟩
  · exact .inl h
  · exact .inr ⟨ob, h⟩
theorem Rel.free {b : Bool} {G H : Hp} (r : Rel b G H) {a : Addr} (h : H a = none) : G a = none := by
  cases q : G a with
  | none => rfl
  | some o =>
    rcases r a o q with e | ⟨_, _, ob, e⟩
    · rw [e] at h; cases h
    · rw [e] at h; cases h
theorem Rel.seqL {b : Bool} {K : PySem.W.Frag} {G H : Hp} (r : Rel b G H) {a : Addr} {xs : List V} (h : SqL K G a xs) : SqL K H a xs := by
  rcases h with (h | ⟨o, h⟩) | h
  · exact .inl (.inl (r.at h rfl))
  · exact .inl (.inr ⟨o, r.at h rfl⟩)
  · exact .inr h
theorem Rel.seqT {b : Bool} {K : PySem.W.Frag} {G H : Hp} (r : Rel b G H) {a : Addr} {xs : List V} (h : SqT K G a xs) : SqT K H a xs := by
  rcases h with (h | ⟨o, h⟩) | h
  · exact .inl (.inl (r.at h rfl))
  · exact .inl (.inr ⟨o, r.at h rfl⟩)
  · exact .inr h
theorem Rel.own {b : Bool} {G H : Hp} (r : Rel b G H) {p : Addr} {o : HO} (n : G p = none) : Rel b G (upd H p o) := fun a u h => by
  rw [upd_ne (ne_of_none h n)]
  exact r a u h
theorem Rel.give {b : Bool} {G H : Hp} (r : Rel b G H) {p : Addr} {o : HO} (h : H p = some o) : Rel b (upd G p o) H := fun a u e => by
  by_cases q : a = p
  · subst q
    rw [upd_same] at e
    cases e
    exact .inl h
  · rw [upd_ne q] at e
    exact r a u e
theorem Rel.up {b : Bool} {G H : Hp} (r : Rel b G H) {p : Addr} {o : HO} : Rel b (upd G p o) (upd H p o) := fun a u e => by
  by_cases q : a = p
  · subst q
    rw [upd_same] at e ⊢
    exact .inl e
  · rw [upd_ne q] at e ⊢
    exact r a u e
theorem Same.own {H H' : Hp} (e : Same H H') {p : Addr} {o : HO} (n : H p = none) : Same H (upd H' p o) := fun a u h => by
  rw [upd_ne (ne_of_none h n)]
  exact e a u h
theorem Same.new {H : Hp} {p : Addr} {o : HO} (n : H p = none) : Same H (upd H p o) := Same.own (Same.refl H) n
def isTb : HO → Bool
  | .tbl _ => true
  | _ => false
structure Go (G H G2 H2 : Hp) : Prop where
  g : Same G G2
  h : Same H H2
  r0 : ∀ a o, G a = none → G2 a = some o → H2 a = some o
  n : ∀ a o, H a = some o → G2 a = G a
  t : ∀ a o, G a = none → G2 a = some o → isTb o = false
theorem Go.r {G H G2 H2 : Hp} (k : Go G H G2 H2) (b : Bool) (r : Rel b G H) : Rel b G2 H2 := fun a o e => by
  cases q : G a with
  | none => exact .inl (k.r0 a o q e)
  | some u =>
    have e2 := k.g a u q
    rw [e] at e2
    cases e2
    rcases r a o q with h | ⟨h1, h2, ob, h⟩
    · exact .inl (k.h _ _ h)
    · exact .inr ⟨h1, h2, ob, k.h _ _ h⟩
theorem Go.refl (G H : Hp) : Go G H G H := ⟨Same.refl G, Same.refl H, fun a o h e => (by rw [h] at e; cases e), fun _ _ _ => rfl, fun a o h e => (by rw [h] at e; cases e)⟩
theorem Go.trans {G H G1 H1 G2 H2 : Hp} (a : Go G H G1 H1) (b : Go G1 H1 G2 H2) : Go G H G2 H2 :=
  ⟨a.g.trans b.g, a.h.trans b.h, fun x o q e => by
    cases z : G1 x with
    | none => exact b.r0 x o z e
    | some u =>
      have e2 := b.g x u z
      rw [e] at e2
      cases e2
      exact b.h _ _ (a.r0 x o q z), fun x o e => (b.n x o (a.h x o e)).trans (a.n x o e), fun x o q e => by
    cases z : G1 x with
    | none => exact b.t x o z e
    | some u =>
      have e2 := b.g x u z
      rw [e] at e2
      cases e2
      exact a.t x o q z⟩
theorem Go.new {b : Bool} {G H : Hp} (r : Rel b G H) {p : Addr} {o : HO} (n : H p = none) (ho : isTb o = false := by rfl) : Go G H (upd G p o) (upd H p o) :=
  ⟨Same.new (r.free n), Same.new n, (fun a u q e => by
    by_cases z : a = p
    · subst z; rw [upd_same] at e ⊢; exact e
    · rw [upd_ne z, q] at e; cases e), fun a u e => upd_ne (ne_of_none e n), (fun a u q e => by
    by_cases z : a = p
    · subst z; rw [upd_same] at e; cases e; exact ho
    · rw [upd_ne z, q] at e; cases e)⟩
theorem Go.own {b : Bool} {G H : Hp} (r : Rel b G H) {p : Addr} {o : HO} (n : H p = none) : Go G H G (upd H p o) :=
  ⟨Same.refl G, Same.new n, fun a u q e => (by rw [q] at e; cases e), fun _ _ _ => rfl, fun a u q e => (by rw [q] at e; cases e)⟩
theorem Go.wr {G H G2 H2 : Hp} (g : Go G H G2 H2) {p : Addr} {o : HO} (n : H p = none) (n2 : G2 p = none) : Go G H G2 (upd H2 p o) :=
  ⟨g.g, Same.own g.h n, fun a u q e => by rw [upd_ne (ne_of_none e n2)]; exact g.r0 a u q e, g.n, g.t⟩
theorem Go.give {G H G2 H2 : Hp} (g : Go G H G2 H2) {p : Addr} {o : HO} (n : H p = none) (n2 : G2 p = none) (h : H2 p = some o) (ho : isTb o = false := by rfl) : Go G H (upd G2 p o) H2 :=
  ⟨Same.own g.g (by
      cases q : G p with
      | none => rfl
      | some u => rw [g.g p u q] at n2; cases n2), g.h, fun a u q e => by
      by_cases z : a = p
      · subst z; rw [upd_same] at e; rw [h]; exact e
      · rw [upd_ne z] at e; exact g.r0 a u q e, fun a u e => by
      rw [upd_ne (ne_of_none e n)]
      exact g.n a u e, fun a u q e => by
      by_cases z : a = p
      · subst z; rw [upd_same] at e; cases e; exact ho
      · rw [upd_ne z] at e; exact g.t a u q e⟩
theorem Go.unlock {G H G2 H2 : Hp} {d : Addr} {od : Obj} {u : HO} (g : Go G (upd H d (.frz od u)) G2 H2) (hG : G d = some u) (hH : H d = some u) : Go G H G2 (upd H2 d u) :=
  ⟨g.g, fun a o e => by
    by_cases z : a = d
    · subst z; rw [hH] at e; rw [upd_same]; exact e
    · rw [upd_ne z]; exact g.h a o (by rw [upd_ne z]; exact e), fun a o q e => by
    by_cases z : a = d
    · subst z; rw [hG] at q; cases q
    · rw [upd_ne z]; exact g.r0 a o q e, fun a o e => by
    by_cases z : a = d
    · subst z; exact (g.g _ _ hG).trans hG.symm
    · exact g.n a o (by rw [upd_ne z]; exact e), g.t⟩
theorem Rel.lock {b : Bool} {G H : Hp} (r : Rel b G H) {d : Addr} {od : Obj} {u : HO} (hG : G d = some u) (hu : isD u = true) : Rel false G (upd H d (.frz od u)) := fun a o e => by
  by_cases z : a = d
  · subst z
    rw [hG] at e
    cases e
    exact .inr ⟨rfl, hu, od, upd_same⟩
  · rw [upd_ne z]
    exact r.low a o e
theorem Go.free {G H G2 H2 : Hp} (g : Go G H G2 H2) {p : Addr} (n : H2 p = none) : H p = none := g.h.free n
theorem Go.owned {G H G2 H2 : Hp} (g : Go G H G2 H2) {p : Addr} {o : HO} (h : H p = some o) (n : G p = none) : G2 p = none := (g.n p o h).trans n
structure SR where
  p : V → Hp → Prop
  st : ∀ {u : V} {G G' : Hp}, Same G G' → p u G → p u G'
inductive Al {α : Type} (e : α → SR) : List α → List V → Hp → Prop
  | nil {G : Hp} : Al e [] [] G
  | cons {G : Hp} {a : α} {as : List α} {v : V} {vs : List V} : (e a).p v G → Al e as vs G → Al e (a :: as) (v :: vs) G
theorem Al.st {α : Type} {e : α → SR} {G G' : Hp} (s : Same G G') : ∀ {as : List α} {vs : List V}, Al e as vs G → Al e as vs G'
  | _, _, .nil => .nil
  | _, _, .cons h t => .cons ((e _).st s h) (Al.st s t)
theorem Al.len {α : Type} {e : α → SR} {G : Hp} : ∀ {as : List α} {vs : List V}, Al e as vs G → vs.length = as.length
  | _, _, .nil => rfl
  | _, _, .cons _ t => congrArg (· + 1) (Al.len t)
theorem Al.get {α : Type} {e : α → SR} {G : Hp} : ∀ {as : List α} {vs : List V} {i : Nat} {v : V}, Al e as vs G → vs[i]? = some v → ∃ a, as[i]? = some a ∧ (e a).p v G
  | _, _, _, _, .nil, h => by simp at h
  | _, _, 0, _, .cons h _, e => by
    simp at e; subst e
    exact ⟨_, rfl, h⟩
  | _, _, i + 1, _, .cons _ t, e => by
    obtain ⟨a, h1, h2⟩ := Al.get (i := i) t (by simpa using e)
    exact ⟨a, by simpa using h1, h2⟩
theorem Al.get' {α : Type} {e : α → SR} {G : Hp} : ∀ {as : List α} {vs : List V} {i : Nat} {a : α}, Al e as vs G → as[i]? = some a → ∃ v, vs[i]? = some v ∧ (e a).p v G
  | _, _, _, _, .nil, h => by simp at h
  | _, _, 0, _, .cons h _, e => by
    simp at e; subst e
    exact ⟨_, rfl, h⟩
  | _, _, i + 1, _, .cons _ t, e => by
    obtain ⟨a, h1, h2⟩ := Al.get' (i := i) t (by simpa using e)
    exact ⟨a, by simpa using h1, h2⟩
theorem Al.app {α : Type} {e : α → SR} {G : Hp} : ∀ {as bs : List α} {vs ws : List V}, Al e as vs G → Al e bs ws G → Al e (as ++ bs) (vs ++ ws) G
  | _, _, _, _, .nil, s => s
  | _, _, _, _, .cons h t, s => .cons h (Al.app t s)
theorem Al.snoc {α : Type} {e : α → SR} {G : Hp} {as : List α} {vs : List V} {a : α} {v : V} (h : Al e as vs G) (r : (e a).p v G) : Al e (as ++ [a]) (vs ++ [v]) G := h.app (.cons r .nil)
theorem Al.take {α : Type} {e : α → SR} {G : Hp} : ∀ {as : List α} {vs : List V} (n : Nat), Al e as vs G → Al e (as.take n) (vs.take n) G
  | _, _, 0, _ => .nil
  | _, _, _ + 1, .nil => .nil
  | _, _, n + 1, .cons h t => .cons h (Al.take n t)
theorem Al.drop {α : Type} {e : α → SR} {G : Hp} : ∀ {as : List α} {vs : List V} (n : Nat), Al e as vs G → Al e (as.drop n) (vs.drop n) G
  | _, _, 0, h => h
  | _, _, _ + 1, .nil => .nil
  | _, _, n + 1, .cons _ t => Al.drop n t
theorem Al.erase {α : Type} {e : α → SR} {G : Hp} : ∀ {as : List α} {vs : List V} (n : Nat), Al e as vs G → Al e (as.eraseIdx n) (vs.eraseIdx n) G
  | _, _, _, .nil => .nil
  | _, _, 0, .cons _ t => t
  | _, _, n + 1, .cons h t => .cons h (Al.erase n t)
theorem Al.conv {α β : Type} {e : α → SR} {f : β → SR} {G : Hp} {c : α → β} (h : ∀ a v, (e a).p v G → (f (c a)).p v G) : ∀ {as : List α} {vs : List V}, Al e as vs G → Al f (as.map c) vs G
  | _, _, .nil => .nil
  | _, _, .cons r t => .cons (h _ _ r) (Al.conv h t)
theorem Al.perm {α : Type} {e : α → SR} {G : Hp} {bs : List α} : ∀ {as : List α}, List.Perm as bs → ∀ {vs : List V}, Al e as vs G → ∃ ws, List.Perm vs ws ∧ Al e bs ws G := by
  intro as p
  induction p with
  | nil => intro vs h; cases h; exact ⟨[], .nil, .nil⟩
  | cons x _ ih =>
    intro vs h
    cases h with
    | cons r t =>
      obtain ⟨ws, q1, q2⟩ := ih t
      exact ⟨_ :: ws, q1.cons _, .cons r q2⟩
  | swap x y l =>
    intro vs h
    cases h with
    | cons r t =>
      cases t with
      | cons r2 t => exact ⟨_, .swap _ _ _, .cons r2 (.cons r t)⟩
  | trans _ _ ih1 ih2 =>
    intro vs h
    obtain ⟨w1, a1, b1⟩ := ih1 h
    obtain ⟨w2, a2, b2⟩ := ih2 b1
    exact ⟨w2, a1.trans a2, b2⟩
def cst (v : V) : SR := ⟨fun u _ => u = v, fun _ h => h⟩
def I (i : Int) : SR := cst (.int i)
def B (b : Bool) : SR := cst (.bl b)
def okS (s : Str) : Bool := PyData.strOk s && decide (s.length ≤ 100000)
def S (s : Str) : SR := ⟨fun u _ => u = .str s ∧ okS s = true, fun _ h => h⟩
def N : SR := cst .non
def Lst {α : Type} (e : α → SR) (xs : List α) : SR := ⟨fun u G => ∃ a vs, u = .ref a ∧ G a = some (.lst vs) ∧ vs.length ≤ sizeLine ∧ Al e xs vs G,
  fun s ⟨a, vs, h1, h2, h3, h4⟩ => ⟨a, vs, h1, s _ _ h2, h3, h4.st s⟩⟩
def Tpl (K : PySem.W.Frag) {α : Type} (e : α → SR) (xs : List α) : SR := ⟨fun u G => ∃ a vs, u = .ref a ∧ SqT K G a vs ∧ vs.length ≤ sizeLine ∧ Al e xs vs G,
  fun s ⟨a, vs, h1, h2, h3, h4⟩ => ⟨a, vs, h1, (Rel.of (b := true) (fun x o q => .inl (s x o q))).seqT h2, h3, h4.st s⟩⟩
def Sq (K : PySem.W.Frag) {α : Type} (e : α → SR) (xs : List α) : SR := ⟨fun u G => (Lst e xs).p u G ∨ (Tpl K e xs).p u G,
  fun s h => h.elim (fun h => .inl ((Lst e xs).st s h)) fun h => .inr ((Tpl K e xs).st s h)⟩
def Pr (K : PySem.W.Frag) {α β : Type} (e : α → SR) (f : β → SR) (x : α × β) : SR := ⟨fun u G => ∃ a v w, u = .ref a ∧ SqT K G a [v, w] ∧ (e x.1).p v G ∧ (f x.2).p w G,
  fun s ⟨a, v, w, h1, h2, h3, h4⟩ => ⟨a, v, w, h1, (Rel.of (b := true) (fun x o q => .inl (s x o q))).seqT h2, (e _).st s h3, (f _).st s h4⟩⟩
def Tr (K : PySem.W.Frag) {α β γ : Type} (e : α → SR) (f : β → SR) (g : γ → SR) (x : α × β × γ) : SR := ⟨fun u G => ∃ a v w z, u = .ref a ∧ SqT K G a [v, w, z] ∧ (e x.1).p v G ∧ (f x.2.1).p w G ∧ (g x.2.2).p z G,
  fun s ⟨a, v, w, z, h1, h2, h3, h4, h5⟩ => ⟨a, v, w, z, h1, (Rel.of (b := true) (fun x o q => .inl (s x o q))).seqT h2, (e _).st s h3, (f _).st s h4, (g _).st s h5⟩⟩
def Ks (ks : List Str) : SR := ⟨fun u G => ∃ a kvs, u = .ref a ∧ G a = some (.dK kvs) ∧ kvs.length ≤ sizeLine ∧ kvs.map (·.1) = ks.map Sum.inr,
  fun s ⟨a, kvs, h1, h2, h3, h4⟩ => ⟨a, kvs, h1, s _ _ h2, h3, h4⟩⟩
inductive AlD {α : Type} (e : α → SR) : List (Str × α) → List (Key × V) → Hp → Prop
  | nil {G : Hp} : AlD e [] [] G
  | cons {G : Hp} {k : Str} {a : α} {as : List (Str × α)} {v : V} {vs : List (Key × V)} : (e a).p v G → AlD e as vs G → AlD e ((k, a) :: as) ((Sum.inr k, v) :: vs) G
theorem AlD.st {α : Type} {e : α → SR} {G G' : Hp} (s : Same G G') : ∀ {as : List (Str × α)} {vs : List (Key × V)}, AlD e as vs G → AlD e as vs G'
  | _, _, .nil => .nil
  | _, _, .cons h t => .cons ((e _).st s h) (AlD.st s t)
def Dct {α : Type} (e : α → SR) (kvs : List (Str × α)) : SR := ⟨fun u G => ∃ a vs, u = .ref a ∧ G a = some (.dK vs) ∧ vs.length ≤ sizeLine ∧ AlD e kvs vs G,
  fun s ⟨a, vs, h1, h2, h3, h4⟩ => ⟨a, vs, h1, s _ _ h2, h3, h4.st s⟩⟩
inductive AlR : List SR → List V → Hp → Prop
  | nil {G : Hp} : AlR [] [] G
  | cons {G : Hp} {r : SR} {rs : List SR} {v : V} {vs : List V} : r.p v G → AlR rs vs G → AlR (r :: rs) (v :: vs) G
theorem AlR.st {G G' : Hp} (s : Same G G') : ∀ {rs : List SR} {vs : List V}, AlR rs vs G → AlR rs vs G'
  | _, _, .nil => .nil
  | _, _, .cons h t => .cons (SR.st _ s h) (AlR.st s t)
theorem AlR.of {α : Type} {e : α → SR} {G : Hp} : ∀ {as : List α} {vs : List V}, AlR (as.map e) vs G → Al e as vs G
  | [], _, .nil => .nil
  | _ :: _, _, .cons h t => .cons h (AlR.of t)
def Ev (b : Bool) (t : TE) (σ : L2.St) (G : Hp) (R : SR) : Prop := ∀ G1 H1, Same G G1 → Rel b G1 H1 → ∀ Q : VK, (∀ u G2 H2, Go G1 H1 G2 H2 → R.p u G2 → Q u H2) → t σ H1 Q
def EvT (b : Bool) (t : TT) (σ : L2.St) (G : Hp) (c : Bool) : Prop := ∀ G1 H1, Same G G1 → Rel b G1 H1 → ∀ Q : Bool → Hp → Prop, (∀ G2 H2, Go G1 H1 G2 H2 → Q c H2) → t σ H1 Q
def EvA (b : Bool) (t : TA) (σ : L2.St) (G : Hp) (Rs : List SR) : Prop := ∀ G1 H1, Same G G1 → Rel b G1 H1 → ∀ Q : List V → Hp → Prop, (∀ vs G2 H2, Go G1 H1 G2 H2 → AlR Rs vs G2 → Q vs H2) → t σ H1 Q
def EvO (b : Bool) (t : TO) (σ : L2.St) (G : Hp) (o : Option Int) : Prop := ∀ G1 H1, Same G G1 → Rel b G1 H1 → ∀ Q : Option Int → Hp → Prop, (∀ G2 H2, Go G1 H1 G2 H2 → Q o H2) → t σ H1 Q
def EvN (b : Bool) (t : TE) (σ : L2.St) (G : Hp) {α : Type} (e : α → SR) (xs : List α) : Prop := ∀ G1 H1, Same G G1 → Rel b G1 H1 → ∀ Q : VK,
  (∀ p vs G2 H2, Go G1 H1 G2 H2 → H1 p = none → G2 p = none → H2 p = some (.lst vs) → vs.length ≤ sizeLine → Al e xs vs G2 → Q (.ref p) H2) → t σ H1 Q
section
variable {K : PySem.W.Frag} {b : Bool} {σ : L2.St} {G G' H : Hp} {t ta tb te : TE} {R R' : SR} {α β γ : Type} {e : α → SR} {f : β → SR}
theorem Ev.run (h : Ev b t σ G R) (r : Rel b G H) {Q : VK} (k : ∀ u G2 H2, Go G H G2 H2 → R.p u G2 → Q u H2) : t σ H Q := h G H (Same.refl G) r Q k
theorem EvT.run {t : TT} {c : Bool} (h : EvT b t σ G c) (r : Rel b G H) {Q : Bool → Hp → Prop} (k : ∀ G2 H2, Go G H G2 H2 → Q c H2) : t σ H Q := h G H (Same.refl G) r Q k
theorem EvA.run {t : TA} {Rs : List SR} (h : EvA b t σ G Rs) (r : Rel b G H) {Q : List V → Hp → Prop} (k : ∀ vs G2 H2, Go G H G2 H2 → AlR Rs vs G2 → Q vs H2) : t σ H Q := h G H (Same.refl G) r Q k
theorem EvN.run {xs : List α} (h : EvN b t σ G e xs) (r : Rel b G H) {Q : VK} (k : ∀ p vs G2 H2, Go G H G2 H2 → H p = none → G2 p = none → H2 p = some (.lst vs) → vs.length ≤ sizeLine → Al e xs vs G2 → Q (.ref p) H2) : t σ H Q := h G H (Same.refl G) r Q k
theorem Ev.mono (s : Same G G') (h : Ev b t σ G R) : Ev b t σ G' R := fun G1 H1 a r Q k => h G1 H1 (s.trans a) r Q k
theorem EvT.mono {t : TT} {c : Bool} (s : Same G G') (h : EvT b t σ G c) : EvT b t σ G' c := fun G1 H1 a r Q k => h G1 H1 (s.trans a) r Q k
theorem EvN.mono {xs : List α} (s : Same G G') (h : EvN b t σ G e xs) : EvN b t σ G' e xs := fun G1 H1 a r Q k => h G1 H1 (s.trans a) r Q k
theorem Ev.up (h : Ev false t σ G R) : Ev true t σ G R := fun G1 H1 a r Q k => h G1 H1 a r.low Q k
theorem EvT.up {t : TT} {c : Bool} (h : EvT false t σ G c) : EvT true t σ G c := fun G1 H1 a r Q k => h G1 H1 a r.low Q k
theorem Ev.is (h : Ev b t σ G R) (q : ∀ u G2, Same G G2 → R.p u G2 → R'.p u G2) : Ev b t σ G R' := fun G1 H1 a r Q k => h G1 H1 a r Q fun u G2 H2 g p => k u G2 H2 g (q u G2 (a.trans g.g) p)
theorem Ev.eq (h : Ev b t σ G R) (q : R = R') : Ev b t σ G R' := q ▸ h
theorem EvT.eq {t : TT} {c d : Bool} (h : EvT b t σ G c) (q : c = d) : EvT b t σ G d := q ▸ h
theorem EvN.eq {xs ys : List α} (h : EvN b t σ G e xs) (q : xs = ys) : EvN b t σ G e ys := q ▸ h
theorem EvN.ev {xs : List α} (h : EvN b t σ G e xs) : Ev b t σ G (Lst e xs) := fun G1 H1 a r Q k => h G1 H1 a r Q fun p vs G2 H2 g n1 n2 hp hl al =>
  k (.ref p) (upd G2 p (.lst vs)) H2 (g.give n1 n2 hp) ⟨p, vs, rfl, upd_same, hl, al.st (Same.new n2)⟩
theorem Ev.sqL {xs : List α} (h : Ev b t σ G (Lst e xs)) : Ev b t σ G (Sq K e xs) := h.is fun _ _ _ q => .inl q
theorem Ev.sqT {xs : List α} (h : Ev b t σ G (Tpl K e xs)) : Ev b t σ G (Sq K e xs) := h.is fun _ _ _ q => .inr q
theorem ev_var {i : Nat} {v : V} (h : σ[i]? = some (some v)) (q : R.p v G) : Ev b (tVar i) σ G R := fun G1 H1 a _ _ k => ⟨v, h, k v G1 H1 (Go.refl G1 H1) (R.st a q)⟩
theorem ev_c {v : V} : Ev b (tC v) σ G (cst v) := fun G1 H1 _ _ _ k => k v G1 H1 (Go.refl G1 H1) rfl
theorem ev_cR {v : V} (q : R.p v G) : Ev b (tC v) σ G R := fun G1 H1 a _ _ k => k v G1 H1 (Go.refl G1 H1) (R.st a q)
theorem ev_int {i : Int} : Ev b (tC (.int i)) σ G (I i) := ev_c
theorem ev_bl {i : Bool} : Ev b (tC (.bl i)) σ G (B i) := ev_c
theorem ev_str {i : Str} (h : okS i = true := by decide +kernel) : Ev b (tC (.str i)) σ G (S i) := ev_cR ⟨rfl, h⟩
theorem ea_nil : EvA b tNil σ G [] := fun G1 H1 _ _ _ k => k [] G1 H1 (Go.refl G1 H1) .nil
theorem ea_cons {tr : TA} {Rs : List SR} (h : Ev b ta σ G R) (hr : EvA b tr σ G Rs) : EvA b (tCons ta tr) σ G (R :: Rs) := fun G1 H1 a r Q k =>
  h G1 H1 a r _ fun u G2 H2 g p => hr G2 H2 (a.trans g.g) (g.r _ r) _ fun vs G3 H3 g' al => k _ G3 H3 (g.trans g') (.cons (R.st g'.g p) al)
theorem ev_op {r2 : R2} {R1 R2 : SR} (ha : Ev b ta σ G R1) (hb : Ev b tb σ G R2)
    (hr : ∀ x y G1 H1, Same G G1 → Rel b G1 H1 → R1.p x G1 → R2.p y G1 → ∀ Q : VK, (∀ u G2 H2, Go G1 H1 G2 H2 → R.p u G2 → Q u H2) → r2 x y H1 Q) : Ev b (tOp r2 ta tb) σ G R := fun G1 H1 a r Q k =>
  ha G1 H1 a r _ fun x G2 H2 g p => hb G2 H2 (a.trans g.g) (g.r _ r) _ fun y G3 H3 g' p' =>
    hr x y G3 H3 ((a.trans g.g).trans g'.g) (g'.r _ (g.r _ r)) (R1.st g'.g p) p' Q fun u G4 H4 g'' q => k u G4 H4 ((g.trans g').trans g'') q
theorem en_op {r2 : R2} {R1 R2 : SR} {xs : List α} (ha : Ev b ta σ G R1) (hb : Ev b tb σ G R2)
    (hr : ∀ x y G1 H1, Same G G1 → Rel b G1 H1 → R1.p x G1 → R2.p y G1 → ∀ Q : VK, (∀ p vs G2 H2, Go G1 H1 G2 H2 → H1 p = none → G2 p = none → H2 p = some (.lst vs) → vs.length ≤ sizeLine → Al e xs vs G2 → Q (.ref p) H2) → r2 x y H1 Q) : EvN b (tOp r2 ta tb) σ G e xs := fun G1 H1 a r Q k =>
  ha G1 H1 a r _ fun x G2 H2 g p => hb G2 H2 (a.trans g.g) (g.r _ r) _ fun y G3 H3 g' p' =>
    hr x y G3 H3 ((a.trans g.g).trans g'.g) (g'.r _ (g.r _ r)) (R1.st g'.g p) p' Q fun q vs G4 H4 g'' n1 n2 h4 l4 q4 => k q vs G4 H4 ((g.trans g').trans g'') (g.free (g'.free n1)) n2 h4 l4 q4
theorem ev_opP {r2 : R2} {R1 R2 : SR} (ha : Ev b ta σ G R1) (hb : Ev b tb σ G R2)
    (hr : ∀ x y G1 H1, Same G G1 → Rel b G1 H1 → R1.p x G1 → R2.p y G1 → ∃ u, R.p u G1 ∧ ∀ Q : VK, Q u H1 → r2 x y H1 Q) : Ev b (tOp r2 ta tb) σ G R := ev_op ha hb fun x y G1 H1 a r p q Q k => by
  obtain ⟨u, hu, h⟩ := hr x y G1 H1 a r p q
  exact h Q (k u G1 H1 (Go.refl G1 H1) hu)
theorem ev_cb {rc : List V → Hp → VK → Prop} {tr : TA} {Rs : List SR} (ha : EvA b tr σ G Rs)
    (hr : ∀ vs G1 H1, Same G G1 → Rel b G1 H1 → AlR Rs vs G1 → ∀ Q : VK, (∀ u G2 H2, Go G1 H1 G2 H2 → R.p u G2 → Q u H2) → rc vs H1 Q) : Ev b (tCB rc tr) σ G R := fun G1 H1 a r Q k =>
  ha G1 H1 a r _ fun vs G2 H2 g al => hr vs G2 H2 (a.trans g.g) (g.r _ r) al Q fun u G3 H3 g' p => k u G3 H3 (g.trans g') p
theorem en_cb {rc : List V → Hp → VK → Prop} {tr : TA} {Rs : List SR} {xs : List α} (ha : EvA b tr σ G Rs)
    (hr : ∀ vs G1 H1, Same G G1 → Rel b G1 H1 → AlR Rs vs G1 → ∀ Q : VK, (∀ p vs G2 H2, Go G1 H1 G2 H2 → H1 p = none → G2 p = none → H2 p = some (.lst vs) → vs.length ≤ sizeLine → Al e xs vs G2 → Q (.ref p) H2) → rc vs H1 Q) : EvN b (tCB rc tr) σ G e xs := fun G1 H1 a r Q k =>
  ha G1 H1 a r _ fun vs G2 H2 g al => hr vs G2 H2 (a.trans g.g) (g.r _ r) al Q fun p ws G3 H3 g' n1 n2 h3 l3 q3 => k p ws G3 H3 (g.trans g') (g.free n1) n2 h3 l3 q3
theorem alr1 {r : SR} {vs : List V} (h : AlR [r] vs G) : ∃ v, vs = [v] ∧ r.p v G := by
  cases h with
  | cons h t => cases t; exact ⟨_, rfl, h⟩
theorem alr2 {r s : SR} {vs : List V} (h : AlR [r, s] vs G) : ∃ v w, vs = [v, w] ∧ r.p v G ∧ s.p w G := by
  cases h with
  | cons h t => cases t with
    | cons h2 t => cases t; exact ⟨_, _, rfl, h, h2⟩
theorem alr3 {r s q : SR} {vs : List V} (h : AlR [r, s, q] vs G) : ∃ v w z, vs = [v, w, z] ∧ r.p v G ∧ s.p w G ∧ q.p z G := by
  cases h with
  | cons h t => cases t with
    | cons h2 t => cases t with
      | cons h3 t => cases t; exact ⟨_, _, _, rfl, h, h2, h3⟩
theorem et_test {c : Bool} (h : Ev b te σ G (B c)) : EvT b (tTest te) σ G c := fun G1 H1 a r Q k => h G1 H1 a r _ fun u G2 H2 g p => ⟨c, p, k G2 H2 g⟩
theorem et_B {c : Bool} (h : Ev b te σ G (B c)) : EvT b (tB te) σ G c := fun G1 H1 a r Q k => h G1 H1 a r _ fun u G2 H2 g p => ⟨c, p, k G2 H2 g⟩
theorem et_and {t u : TT} {c d : Bool} (h1 : EvT b t σ G c) (h2 : c = true → EvT b u σ G d) : EvT b (tAnd t u) σ G (c && d) := fun G1 H1 a r Q k => h1 G1 H1 a r _ fun G2 H2 g => by
  cases c with
  | true => exact h2 rfl G2 H2 (a.trans g.g) (g.r _ r) Q fun G3 H3 g' => k G3 H3 (g.trans g')
  | false => exact k G2 H2 g
theorem et_or {t u : TT} {c d : Bool} (h1 : EvT b t σ G c) (h2 : c = false → EvT b u σ G d) : EvT b (tOr t u) σ G (c || d) := fun G1 H1 a r Q k => h1 G1 H1 a r _ fun G2 H2 g => by
  cases c with
  | true => exact k G2 H2 g
  | false => exact h2 rfl G2 H2 (a.trans g.g) (g.r _ r) Q fun G3 H3 g' => k G3 H3 (g.trans g')
theorem et_not {t : TT} {c : Bool} (h : EvT b t σ G c) : EvT b (tNot t) σ G (!c) := fun G1 H1 a r Q k => h G1 H1 a r _ fun G2 H2 g => k G2 H2 g
theorem et_yes : EvT b tYes σ G true := fun G1 H1 _ _ _ k => k G1 H1 (Go.refl G1 H1)
theorem ev_and {c d : Bool} (h1 : Ev b ta σ G (B c)) (h2 : c = true → Ev b tb σ G (B d)) : Ev b (tAndV ta tb) σ G (B (c && d)) := fun G1 H1 a r Q k => h1 G1 H1 a r _ fun u G2 H2 g p => ⟨c, p, by
  cases c with
  | true => exact h2 rfl G2 H2 (a.trans g.g) (g.r _ r) Q fun u G3 H3 g' p' => k u G3 H3 (g.trans g') p'
  | false => exact k _ G2 H2 g rfl⟩
theorem ev_not {c : Bool} (h : Ev b ta σ G (B c)) : Ev b (tNotV ta) σ G (B (!c)) := fun G1 H1 a r Q k => h G1 H1 a r _ fun u G2 H2 g p => ⟨c, p, k _ G2 H2 g rfl⟩
theorem ev_if {t : TT} {c : Bool} (h : EvT b t σ G c) (h1 : c = true → Ev b ta σ G R) (h2 : c = false → Ev b tb σ G R) : Ev b (tIf t ta tb) σ G R := fun G1 H1 a r Q k => h G1 H1 a r _ fun G2 H2 g => by
  cases c with
  | true => exact h1 rfl G2 H2 (a.trans g.g) (g.r _ r) Q fun u G3 H3 g' p => k u G3 H3 (g.trans g') p
  | false => exact h2 rfl G2 H2 (a.trans g.g) (g.r _ r) Q fun u G3 H3 g' p => k u G3 H3 (g.trans g') p
theorem en_lst {tr : TA} {xs : List α} (h : EvA b tr σ G (xs.map e)) (hl : xs.length ≤ 100000) : EvN b (tLst tr) σ G e xs := fun G1 H1 a r Q k =>
  h G1 H1 a r _ fun vs G2 H2 g al => by
    have al' := AlR.of al
    have l : vs.length ≤ sizeLine := by rw [al'.len]; exact Nat.le_trans hl (by decide)
    exact ⟨l, fun p hp => k p vs G2 _ (g.trans (Go.own (g.r _ r) hp)) (g.free hp) ((g.r _ r).free hp) upd_same l al'⟩
theorem ev_pr {x : α} {y : β} (h1 : Ev b ta σ G (e x)) (h2 : Ev b tb σ G (f y)) : Ev b (tTup (tCons ta (tCons tb tNil))) σ G (Pr K e f (x, y)) := fun G1 H1 a r Q k =>
  (ea_cons h1 (ea_cons h2 ea_nil)) G1 H1 a r _ fun vs G2 H2 g al => by
    obtain ⟨v, w, rfl, q1, q2⟩ := alr2 al
    refine ⟨(by show 2 ≤ sizeLine; decide), fun p hp => ?_⟩
    have s := Same.new (o := .tup [v, w]) ((g.r _ r).free hp)
    exact k _ _ _ (g.trans (Go.new (g.r _ r) hp)) ⟨p, v, w, rfl, SqT.of upd_same, (e x).st s q1, (f y).st s q2⟩
end
end Gd
-- part Gd2b
set_option Elab.async false
set_option linter.all false
set_option maxRecDepth 100000
set_option maxHeartbeats 2000000
namespace Gd
open PySem PySem.W PySem.SeqAt PySem.Calls PyProof.Rows
section
variable {prog : Program} {w : World} {A : Around} {s : Shared}
theorem call_tuple_lt {E : Value → Shared → Prop} {Q : Value → Shared → Prop} {l b : Addr} {items items2 : Array Value} {e r : Nat → Bool} (hl : s.heap.IsTuple l items) (hb : s.heap.IsTuple b items2)
    (he : ∀ j (h1 : j < items.size) (h2 : j < items2.size), EqAt A.in1 s items[j] items2[j] (e j)) (hr : ∀ j (h1 : j < items.size) (h2 : j < items2.size), e j = false → RcLt A.in1 s items[j] items2[j] (r j))
    (h : Q (.bool (firstLt e r (decide (items.size < items2.size)) (List.range (min items.size items2.size)))) s) : wpAny (model prog w) A (call (.builtin "tuple.__lt__") [.ref l, .ref b]) Q E s := by
  obtain ⟨⟨cls, dd, data, sl⟩, ho, hc, n, hd⟩ := id hl
  obtain ⟨⟨cls2, dd2, data2, sl2⟩, ho2, hc2, n2, hd2⟩ := id hb
  simp only at hc hd hc2 hd2
  subst hc hd hc2 hd2
  exact call_meets F.slot_tuple_lt ⟨_, ho, rfl⟩ F.entry_tuple_lt (F.args_tuple_lt_2 _ _) (tuple_ltAt l b items items2 n n2 dd dd2 sl sl2 e r) ⟨ho, ho2, he, hr, h⟩
theorem oneLt_tup {E : Value → Shared → Prop} {xs ys : List PyData} {a b : Value} {as bs : List Addr} {Q : Bool → Shared → Prop} (ra : Reads s.heap a (.tuple xs) as) (rb : Reads s.heap b (.tuple ys) bs) (h : alike (.tuple xs) (.tuple ys) = true)
    (hu : A.units + min (PyData.tuple xs).depth (PyData.tuple ys).depth < cLine) (hq : Q (dataLt (.tuple xs) (.tuple ys)) s) : wpAny (model prog w) A (oneLt' true a b) Q E s := by
  have hal : alikeAll xs ys = true := by simpa [alike] using h
  cases ra with
  | @tuple l o vs n _ as₁ h1 h2 h3 h4 =>
    cases rb with
    | @tuple l' o' vs' n' _ bs₁ k1 k2 k3 k4 =>
      have n1 : vs.size = xs.length := by simpa using ReadsAll.length _ _ _ h4
      have n2 : vs'.size = ys.length := by simpa using ReadsAll.length _ _ _ k4
      rw [dataLt_tuple, ← firstLt_toks xs ys hal, ← n1, ← n2] at hq
      rw [oneLt'_eq]
      simp only [if_true]
      refine wpAny_bind (wpAny_cRoomFor (room_here hu) ?_)
      refine wpAny_bind (wpAny_callSpecialIfBound?_slot (T := "tuple") ⟨_, h1, h2⟩ F.slot_tuple_lt (call_tuple_lt (e := pairEq xs ys) (r := fun j => dataLt (xs.getD j .none) (ys.getD j .none)) ⟨_, h1, h2, _, h3⟩ ⟨_, k1, k2, _, k3⟩ (fun j j1 j2 => ?_) (fun j j1 j2 hj => ?_) ?_))
      · have := eqAt_alikeAll xs ys A.in1 s vs.toList vs'.toList _ _ h4 k4 hal (room_in hu) j (by simpa using j1) (by simpa using j2)
        simpa using this
      · have := rcLt_alikeAll xs ys A.in1 s vs.toList vs'.toList _ _ h4 k4 hal (room_in hu) j (by simpa using j1) (by simpa using j2) hj
        simpa using this
      · exact wpAny_truthy_bool hq
def isE : PyData → Bool
  | .tuple [] => true
  | _ => false
theorem firsts_tup {M : Model} {E : Value → Shared → Prop} : ∀ {vs : List Value} {ds : List PyData}, EachIs (fun v d => ∃ as, Reads s.heap v d as) vs ds → (∀ d, d ∈ ds → ∃ xs, d = .tuple xs) →
    ∃ fs : List (Option Value), EachIs (fun o d => o.isSome = !isE d) fs ds ∧ ∀ Q : List (Option Value) → Shared → Prop, Q fs s → wpAny M A (vs.mapM firstOfTuple') Q E s
  | _, _, .nil, _ => ⟨[], .nil, fun Q h => by rw [List.mapM_nil]; exact wpAny_pure h⟩
  | _, _, .cons (b := d) ⟨as, r⟩ t, ht => by
    obtain ⟨fs, h1, h2⟩ := firsts_tup t fun d hd => ht d (List.mem_cons_of_mem _ hd)
    obtain ⟨xs, rfl⟩ := ht d (List.mem_cons_self ..)
    cases r with
    | @tuple a o its n _ _ ho hc hd hr =>
      refine ⟨its[0]? :: fs, .cons ?_ h1, fun Q h => ?_⟩
      · cases xs with
        | nil =>
          have : its.toList = [] := by
            have := ReadsAll.length _ _ _ hr
            exact List.eq_nil_of_length_eq_zero (by simpa using this)
          have e0 : its[0]? = none := by rw [← Array.getElem?_toList, this]; rfl
          rw [e0]; rfl
        | cons x r =>
          have hl : its.toList.length = r.length + 1 := by simpa using ReadsAll.length _ _ _ hr
          have : (its[0]?).isSome = true := by
            rw [← Array.getElem?_toList]
            cases e : its.toList with
            | nil => rw [e] at hl; simp at hl
            | cons y z => rfl
          rw [this]; rfl
      · rw [List.mapM_cons]
        refine wpAny_bind ?_
        rw [kas_first_eq]
        refine wpAny_bind (wpAny_typeOf (T := "tuple") ⟨o, ho, hc⟩ ?_)
        rw [if_neg (by decide)]
        refine wpAny_bind (listItems_at ho hd (wpAny_pure ?_))
        exact wpAny_bind (h2 _ (wpAny_pure h))
theorem each_len {α β : Type} {R : α → β → Prop} : ∀ {as : List α} {bs : List β}, EachIs R as bs → as.length = bs.length
  | _, _, .nil => rfl
  | _, _, .cons _ t => congrArg (· + 1) (each_len t)
theorem SortsAt.tups {vs : List Value} {ds : List PyData} (e : EachIs (fun v d => ∃ as, Reads s.heap v d as) vs ds) (hal : AllAlike ds) (ht : ∀ d, d ∈ ds → ∃ xs, d = .tuple xs) (hu : ∀ d, d ∈ ds → A.units + d.depth < cLine) : SortsAt prog w A s (dataKind s.heap ds) vs := by
  by_cases hE : ∃ d, d ∈ ds ∧ isE d = true
  · have room : ∀ {d d' : PyData}, d ∈ ds → A.units + min d.depth d'.depth < cLine := fun {d d'} hd => Nat.lt_of_le_of_lt (Nat.add_le_add_left (Nat.min_le_left _ _) _) (hu d hd)
    refine ⟨fun v hv => ?_, ?_⟩
    · obtain ⟨d, hd, as, r⟩ := e.left v hv
      exact ⟨_, dataKind_some hal hd r⟩
    · cases ds with
      | nil => obtain ⟨d, hd, _⟩ := hE; exact absurd hd (by simp)
      | cons d₀ ds₀ =>
        have noAll : ∀ {fs : List (Option Value)}, EachIs (fun o d => o.isSome = !isE d) fs (d₀ :: ds₀) → (fs.toArray.all fun x => x.isSome) = false := fun {fs} hf => by
          obtain ⟨d, hd, he⟩ := hE
          have : ∀ {as : List (Option Value)} {bs : List PyData}, EachIs (fun o d => o.isSome = !isE d) as bs → d ∈ bs → ∃ o ∈ as, o.isSome = false := by
            intro as bs h
            induction h with
            | nil => intro q; exact absurd q (by simp)
            | @cons a b as bs h t ih =>
              intro q
              rcases List.mem_cons.mp q with rfl | q
              · exact ⟨a, List.mem_cons_self .., by rw [h, he]; rfl⟩
              · obtain ⟨o, h1, h2⟩ := ih q
                exact ⟨o, List.mem_cons_of_mem _ h1, h2⟩
          obtain ⟨o, h1, h2⟩ := this hf hd
          cases z : (fs.toArray.all fun x => x.isSome) with
          | false => rfl
          | true =>
            simp only [List.all_toArray, List.all_eq_true] at z
            rw [z o h1] at h2; cases h2
        cases h0 : isE d₀ with
        | false =>
          refine ⟨general', ?_, fun h2 E Q hq => ?_⟩
          · intro E x y a b Q ha hb hq
            obtain ⟨d, as, hd, ra, rfl⟩ := dataKind_inv ha
            obtain ⟨d', as', hd', rb, rfl⟩ := dataKind_inv hb
            show wpAny _ _ (oneLt' false x y) _ _ _
            obtain ⟨zs, rfl⟩ := ht d hd
            exact oneLt_alike (fun z => by cases z) ra rb (hal _ hd d' hd') (fun z => by cases z) (room hd) hq
          · obtain ⟨fs, hf, hm⟩ := firsts_tup (M := model prog w) (A := A) (E := E) e ht
            rw [keyKind'_eq, List.mapM_toArray, map_eq_pure_bind]
            refine wpAny_bind (wpAny_bind (hm _ (wpAny_pure ?_)))
            rw [if_neg (by rw [noAll hf]; exact Bool.false_ne_true)]
            cases hf with
            | @cons o d os ds' ho _ =>
              have : (((o :: os).toArray[0]?).bind id).isSome = true := by
                show (o).isSome = true
                rw [ho, h0]; rfl
              rw [if_pos this]
              exact wpAny_pure hq
        | true =>
          refine ⟨oneType', ?_, fun h2 E Q hq => ?_⟩
          · intro E x y a b Q ha hb hq
            obtain ⟨d, as, hd, ra, rfl⟩ := dataKind_inv ha
            obtain ⟨d', as', hd', rb, rfl⟩ := dataKind_inv hb
            have hdd := hal d hd d' hd'
            have hr := room (d' := d') hd
            obtain ⟨zs, rfl⟩ := ht d hd
            obtain ⟨zs', rfl⟩ := ht d' hd'
            rw [keyLt'_oneType]
            exact oneLt_tup ra rb hdd hr hq
          · obtain ⟨fs, hf, hm⟩ := firsts_tup (M := model prog w) (A := A) (E := E) e ht
            rw [keyKind'_eq, List.mapM_toArray, map_eq_pure_bind]
            refine wpAny_bind (wpAny_bind (hm _ (wpAny_pure ?_)))
            rw [if_neg (by rw [noAll hf]; exact Bool.false_ne_true)]
            have hlen := each_len e
            cases hf with
            | @cons o d os ds' ho _ =>
              have : ¬ (((o :: os).toArray[0]?).bind id).isSome = true := by
                show ¬ (o).isSome = true
                rw [ho, h0]; simp
              rw [if_neg this]
              rw [oneTypeOnly'_eq, List.mapM_toArray, map_eq_pure_bind]
              have hT : ∀ v ∈ vs, Looks (model prog w) s.heap (typeOf v) (Value.type "tuple") := fun v hv => by
                obtain ⟨d1, hd1, as1, r1⟩ := e.left v hv
                obtain ⟨z1, rfl⟩ := ht d1 hd1
                exact looks_reads r1
              refine wpAny_bind (wpAny_bind (wpAny_bind (kas_mapM (r := Value.type "tuple") _ (fun v hv Q' hq => (hT v hv).here hq) (wpAny_pure ?_))))
              have hall : ((List.map (fun _ => Value.type "tuple") vs).toArray.all fun x => x == Value.type "tuple") = true := by
                simp only [List.all_toArray, List.all_map, List.all_eq_true]
                intro _ _
                exact beq_self_eq_true _
              have hz : (List.map (fun _ => Value.type "tuple") vs).toArray[0]? = some (Value.type "tuple") := by
                cases vs with
                | nil => simp at hlen
                | cons a b => simp
              rw [hz]
              simp only [hall, if_true]
              exact wpAny_pure (wpAny_pure hq)
  · refine PySem.W.SortsAt.data e hal (.inl fun d hd => ?_) hu
    obtain ⟨xs, rfl⟩ := ht d hd
    cases xs with
    | nil => exact absurd ⟨_, hd, rfl⟩ hE
    | cons x r => exact ⟨x, r, rfl⟩
def Sortable2 (ds : List PyData) : Prop := (∀ d, d ∈ ds → ∃ xs, d = .tuple xs) ∨ ∀ d, d ∈ ds → d ≠ .none ∧ ∀ xs, d ≠ .tuple xs
theorem SortsAt.data2 {vs : List Value} {ds : List PyData} (e : EachIs (fun v d => ∃ as, Reads s.heap v d as) vs ds) (hal : AllAlike ds) (hk : Sortable2 ds) (hu : ∀ d, d ∈ ds → A.units + d.depth < cLine) : SortsAt prog w A s (dataKind s.heap ds) vs := by
  rcases hk with hk | hk
  · exact SortsAt.tups e hal hk hu
  · exact PySem.W.SortsAt.data e hal (.inr hk) hu
end
end Gd
-- part Gd2
set_option Elab.async false
set_option linter.all false
set_option maxRecDepth 100000
set_option maxHeartbeats 2000000
namespace Gd
open PySem PySem.Spec PyProof.Rows L2
open PySem.W (EachIs AllAlike dataLe)
section
variable {prog : Program} {w : World} {A : Around} {E : Value → Shared → Prop} {s : Shared}
theorem collect_seq {l : Addr} {T : String} {o : Obj} {vs : List Value} {n : Nat} {Q : List Value → Shared → Prop} (hT : T = "list" ∨ T = "tuple") (ho : s.heap.get? l = some o) (hc : o.cls = .type T) (hd : o.data = .seq vs.toArray n)
    (h : Q vs { s with heap := (s.heap.push (seqObj "list" #[] 0)).update s.heap.objs.size (Obj.mapSeq (· ++ vs.toArray)) }) (hsz : vs.length ≤ sizeLine) :
    wpAny (model prog w) A (collect (.ref l)) Q E s := by
  unfold collect
  refine wpAny_bind (wpAny_runValue (codeAny_builtin entry_proto_collect' ?_))
  show wpAny _ _ (do again (.builtin "list.__iadd__" ⟨[← newList [], .ref l], []⟩)) _ _ s
  refine wpAny_bind (wpAny_newList (wpAny_pure ⟨Code.quiet_builtin _ (by decide +kernel), codeAny_builtin entry_list_iadd' ?_⟩))
  show wpAny _ _ (Builtin.List.listExtendWith (.ref s.heap.objs.size) (.ref l) (.ref s.heap.objs.size)) _ _ { s with heap := s.heap.push (seqObj "list" #[] 0) }
  unfold Builtin.List.listExtendWith
  have ho' : (s.heap.push (seqObj "list" #[] 0)).get? l = some o := Heap.get?_push_of_some _ ho
  refine wpAny_bind (wpAny_typeOf (T := T) ⟨o, ho', hc⟩ ?_)
  have ht : (Value.type T == Value.type "list" || Value.type T == Value.type "tuple") = true := by
    rcases hT with rfl | rfl <;> rfl
  rw [if_pos (by rw [Bool.or_assoc, ht]; simp)]
  refine wpAny_bind (listItems_at ho' hd ?_)
  refine wpAny_bind (listItems_at (xs := #[]) (n := 0) (Heap.get?_push_size _ rfl) rfl ?_)
  rw [if_neg (by simp)]
  refine wpAny_bind (listUpdate_at (xs := #[]) (n := 0) (Heap.get?_push_size _ rfl) rfl ?_ (Nat.zero_le _) (by show (#[] ++ vs.toArray).size ≤ sizeLine + 1; simp only [Array.size_append, List.size_toArray, List.length_nil]; omega))
  refine wpAny_pure ?_
  show wpAny (model prog w) A (do
      let o ← load s.heap.objs.size
      match o.data with
      | .seq xs _ => pure xs.toList
      | _ => unsupported "internal:collect") Q E { s with heap := (s.heap.push (seqObj "list" #[] 0)).update s.heap.objs.size (Obj.mapSeq (· ++ vs.toArray)) }
  refine wpAny_bind (wpAny_load (get?_update_seq (Heap.get?_push_size _ rfl) _) ?_)
  show wpAny _ _ (pure ((#[] : Array Value) ++ vs.toArray).toList) Q E _
  rw [show ((#[] : Array Value) ++ vs.toArray).toList = vs by simp]
  exact wpAny_pure h
open PySem.W in
theorem sorted_of_sortS {l : Addr} {T : String} {o : Obj} {vs : List Value} {n : Nat} {Q : Value → Shared → Prop} (hT : T = "list" ∨ T = "tuple") (ho : s.heap.get? l = some o) (hc : o.cls = .type T) (hd : o.data = .seq vs.toArray n) (hL : vs.length ≤ sizeLine)
    (body : ∀ E' : Value → Shared → Prop, wpAny (model prog w) A.in1.in1 (Builtin.«list.sort» ⟨[.ref (s.heap.objs.size + 1)], []⟩) (fun f s' => f = .done (.ret .none) ∧ Q (.ref (s.heap.objs.size + 1)) s') E' { s with heap := copyHeap s.heap vs }) :
    wpAny (model prog w) A (call (.builtin "sorted") [.ref l]) Q E s := by
  refine call_function_entry_kw kind_sorted plain_sorted entry_sorted (args_sorted1 _) ?_
  unfold Builtin.«sorted»
  refine wpAny_bind (m := checkCount "sorted" 1 1 _) (wpAny_pure ?_)
  refine wpAny_bind (collect_seq hT ho hc hd ?_ hL)
  refine wpAny_bind (wpAny_newList ?_ hL)
  have hsz : ((s.heap.push (seqObj "list" #[] 0)).update s.heap.objs.size (Obj.mapSeq (· ++ vs.toArray))).objs.size = s.heap.objs.size + 1 := by
    rw [Heap.size_update, size_push']
  show wpAny _ _ _ _ _ { s with heap := copyHeap s.heap vs }
  rw [hsz]
  refine wpAny_bind (wpAny_holding (wpAny_call_entry_kw slot_list_sort ⟨_, copyHeap_at s.heap vs, rfl⟩ entry_list_sort ?body (args_list_sort _)))
  case body =>
    show wpAny (model prog w) A.in1.in1 (Builtin.«list.sort» ⟨[.ref (s.heap.objs.size + 1)], []⟩) _ _ _
    refine wpAny_mono (body _) (fun f s' hf => ?_) fun _ _ e => e
    obtain ⟨rfl, hq⟩ := hf
    exact ⟨_, rfl, wpAny_pure ⟨_, rfl, hq⟩⟩
open PySem.W in
theorem sorted_dataS {β : Type} {R : Value → β → Prop} {bs : List β} {enc : β → PyData} {l : Addr} {T : String} {o : Obj} {vs : List Value} {n : Nat} {Q : Value → Shared → Prop} (hT : T = "list" ∨ T = "tuple") (ho : s.heap.get? l = some o) (hc : o.cls = .type T) (hd : o.data = .seq vs.toArray n)
    (e : EachIs R vs bs) (er : EachIs (fun v b => ∃ as, Reads s.heap v (enc b) as) vs bs) (hal : AllAlike (bs.map enc)) (hk : Sortable2 (bs.map enc)) (hL : bs.length ≤ sizeLine)
    (hu : ∀ b, b ∈ bs → A.units + 2 + (enc b).depth < cLine) (h : ∀ out, out.length = bs.length → EachIs R out (bs.mergeSort (dataLe false enc)) → Q (.ref (s.heap.objs.size + 1)) { s with heap := sortedAll s.heap vs (List.toArray out) }) :
    wpAny (model prog w) A (call (.builtin "sorted") [.ref l]) Q E s := by
  have er' : EachIs (fun v b => ∃ as, Reads (sortingHeap (copyHeap s.heap vs) (s.heap.objs.size + 1) vs) v (enc b) as) vs bs := er.mono fun _ _ ⟨as, r⟩ => ⟨as, PyProof.Rows.Reads.keeps (fun _ _ => sorting_copy_old) r⟩
  exact sorted_of_sortS hT ho hc hd (by rw [e.length]; exact hL) fun E' => list_sort_vals (s := { s with heap := copyHeap s.heap vs }) (copyHeap_at s.heap vs)
    (SortsAt.data2 (s := { s with heap := sortingHeap (copyHeap s.heap vs) (s.heap.objs.size + 1) vs }) (each_map (R := fun v d => ∃ as, Reads (sortingHeap (copyHeap s.heap vs) (s.heap.objs.size + 1) vs) v d as) enc er') hal hk (bound_map hu)) (by rw [e.length]; exact hL)
    ⟨rfl, h _ (by rw [sortVals_length false rfl]; exact e.length) (sortVals_data false e er' hal)⟩
end
theorem each_vals {β : Type} {R : V → β → Prop} : ∀ {us : List Value} {bs : List β}, EachIs (fun u b => ∃ v, RelV v u ∧ R v b) us bs → ∃ ws, Vals ws us ∧ EachIs R ws bs
  | _, _, .nil => ⟨[], .nil, .nil⟩
  | _, _, .cons ⟨v, r, h⟩ t => by
    obtain ⟨ws, h1, h2⟩ := each_vals t
    exact ⟨v :: ws, .cons r h1, .cons h h2⟩
theorem each_up {β : Type} {R : V → β → Prop} : ∀ {xs : List V} {us : List Value} {bs : List β}, Vals xs us → EachIs R xs bs → EachIs (fun u b => ∃ v, RelV v u ∧ R v b) us bs
  | _, _, _, .nil, .nil => .nil
  | _, _, _, .cons r t, .cons h q => .cons ⟨_, r, h⟩ (each_up t q)
def rSrt (K : PySem.W.Frag) : List V → Hp → VK → Prop := fun vs H Q => ∃ (a : Addr) (xs : List V) (β : Type) (bs : List β) (enc : β → PyData) (R : V → β → Prop), vs = [.ref a] ∧ (SqL K H a xs ∨ SqT K H a xs) ∧
  EachIs R xs bs ∧ EachIs (fun v b => Dp K H v (enc b)) xs bs ∧ AllAlike (bs.map enc) ∧ Sortable2 (bs.map enc) ∧ (∀ b, b ∈ bs → (enc b).depth ≤ 60) ∧
  ∀ ws p, H p = none → EachIs R ws (bs.mergeSort (dataLe false enc)) → Q (.ref p) (upd H p (.lst ws))
section
variable {X : Cx}
theorem cr_srt (hu : X.A.units + 64 < cLine) : CallR X (.builtin "sorted") (rSrt X.K) := by
  intro pins s σ H vs us Q I r h
  obtain ⟨a, xs, β, bs, enc, R, rfl, hs, e, ed, hal, hk, hdp, q⟩ := h
  rw [Vals.ref1 r]
  have fin : ∀ (T : String) (o : Obj) (its : List Value) (n : Nat), T = "list" ∨ T = "tuple" → s.heap.get? a = some o → o.cls = .type T → o.data = .seq its.toArray n → Vals xs its → xs.length ≤ sizeLine →
      wpAny (model X.prog X.w) X.A (call (.builtin "sorted") [.ref a]) (EP X pins σ Q) X.xe s := fun T o its n hT ho hc hd rv hl => by
    have er : EachIs (fun u b => ∃ as, Reads s.heap u (enc b) as) its bs := (each_up rv ed).mono fun u b ⟨v, r, d⟩ => Dp.reads I (enc b) v u d r
    have hlen : bs.length = xs.length := by rw [e.length]
    refine sorted_dataS (R := fun u b => ∃ v, RelV v u ∧ R v b) hT ho hc hd (each_up rv e) er hal hk (by rw [hlen]; exact hl) (fun b hb => ?_) fun out hlo ho2 => ?_
    · have := hdp b hb
      omega
    · obtain ⟨ws, hv, hw⟩ := each_vals ho2
      obtain ⟨ep, he'⟩ := PyProof.Rows.sortedAll_at s.heap its out.toArray
      have hz : ws.length ≤ sizeLine := by rw [hv.length, hlo, hlen]; exact hl
      exact ⟨.ref _, upd H (s.heap.objs.size + 1) (.lst ws), I.laid (t' := s.toks) (fun _ _ => PyProof.Rows.sortedAll_old) (Nat.le_succ _) ⟨hz, out, ep, hv, by simpa using he'⟩, rfl, q ws _ (I.hok.fresh (Nat.le_succ _)) hw⟩
  rcases hs with hs | hs
  · obtain ⟨its, rv, pl, hl⟩ := I.list hs
    obtain ⟨o, ho, hc, n, hd⟩ := pl.isList
    exact fin "list" o its n (.inl rfl) ho hc hd rv hl
  · obtain ⟨its, rv, pl, hl⟩ := I.tuple hs
    obtain ⟨o, ho, hc, n, hd⟩ := pl
    exact fin "tuple" o its n (.inr rfl) ho hc hd rv hl
end
end Gd
-- part Gd3
set_option Elab.async false
set_option linter.all false
set_option maxRecDepth 100000
set_option maxHeartbeats 2000000
namespace Gd
open PySem PySem.Spec PyProof.Rows L2
theorem PI.or {X : Cx} {tg it : Expr} {w1 w2 : TI} (h1 : PI X tg it w1) (h2 : PI X tg it w2) : PI X tg it (fun σ H R => w1 σ H R ∨ w2 σ H R) :=
  ⟨fun pins s σ H R I h => h.elim (fun h => h1.run pins s σ H R I h) fun h => h2.run pins s σ H R I h⟩
theorem PG.or {X : Cx} {tg : Expr} {g1 g2 : TG} (h1 : PG X tg g1) (h2 : PG X tg g2) : PG X tg (fun v σ H Q => g1 v σ H Q ∨ g2 v σ H Q) :=
  ⟨fun pins s σ H v u Q I r h => h.elim (fun h => h1.run pins s σ H v u Q I r h) fun h => h2.run pins s σ H v u Q I r h⟩
theorem PE.or {X : Cx} {e : Expr} {t1 t2 : TE} (h1 : PE X e t1) (h2 : PE X e t2) : PE X e (fun σ H Q => t1 σ H Q ∨ t2 σ H Q) :=
  ⟨fun pins s σ H Q I h => h.elim (fun h => h1.run pins s σ H Q I h) fun h => h2.run pins s σ H Q I h⟩
open Sem (wp) in
open AutoSeq1 (wpAny_loadPart') in
theorem meets_enumT {v : Value} {o : Obj} {H : Heap → Prop} (B : Begins v o H) :
    Meets (Builtin.«enumerate.__new__» ⟨[.type "enumerate", v], []⟩) (fun _ R s => H s.heap ∧
      R (.ok (.ret (.ref (s.heap.push o).objs.size))) { s with heap := (s.heap.push o).push { cls := .type "enumerate", data := .fields #[.none, .bool false, .ref s.heap.objs.size, rawInt 0, .none, .none] } }) :=
  .of_wp fun prog w A R s h => by
    obtain ⟨hp, g, d, tk, os⟩ := s; obtain ⟨h1, h⟩ := h
    have hsub := sub_enumerate
    have q1 : ∀ {A' : Around} {E : Value → Shared → Prop} {Q : Value → Shared → Prop}, Q (.ref hp.objs.size) ⟨hp.push o, g, d, tk, os⟩ → wpAny (model prog w) A' (pyIter v) Q E ⟨hp, g, d, tk, os⟩ :=
      fun q => B.iter prog w _ _ ⟨hp, g, d, tk, os⟩ _ h1 q
    wp_walk using q1
    refine wpAny_stack_any fun st => wpAny_pure ?_
    split
    · rename_i c _ _ _ _ _
      cases (c == Value.type "enumerate")
      · wp_walk using q1
        exact ⟨_, rfl, h⟩
      · wp_walk using q1
        exact ⟨_, rfl, h⟩
    · wp_walk using q1
      exact ⟨_, rfl, h⟩
section
variable {prog : Program} {w : World} {A : Around} {E : Value → Shared → Prop} {s : Shared}
theorem enum_begins1 {v : Value} {o : Obj} {H : Heap → Prop} {Q : Value → Shared → Prop} (B : Begins v o H) (h1 : H s.heap)
    (h : ∀ h', IsEnum h' (s.heap.objs.size + 1) s.heap.objs.size 0 .none → h'.get? s.heap.objs.size = some o → h'.objs.size = s.heap.objs.size + 2 →
      (∀ b o, s.heap.get? b = some o → h'.get? b = some o) → Q (.ref (s.heap.objs.size + 1)) { s with heap := h' }) :
    wpAny (model prog w) A (call (.type "enumerate") [v]) Q E s := by
  refine callType_new F.called_enumerate (by decide) (F.typeCall_enumerate_1 _) (F.newCall_enumerate_1 _) (fun obj => F.args_object_init_2 obj _) F.entry_enumerate_new
    (meets_enumT B) ⟨h1, ?_⟩
  have hz : (s.heap.push o).objs.size = s.heap.objs.size + 1 := Heap.size_push ..
  show _ ∧ _
  rw [hz]
  have he : IsEnum ((s.heap.push o).push { cls := .type "enumerate", data := .fields #[.none, .bool false, .ref s.heap.objs.size, rawInt 0, .none, .none] }) (s.heap.objs.size + 1) s.heap.objs.size 0 .none := by
    have := Heap.get?_push_size (s.heap.push o) (o := { cls := .type "enumerate", data := .fields #[.none, .bool false, .ref s.heap.objs.size, rawInt 0, .none, .none] }) rfl
    rw [hz] at this; exact this
  refine ⟨⟨_, he, rfl⟩, h _ he (Heap.get?_push_of_some _ (Heap.get?_push_size _ B.free)) (by rw [Heap.size_push, hz]) fun b o x => Heap.get?_push_of_some _ (Heap.get?_push_of_some _ x)⟩
end
def IteT (K : PySem.W.Frag) (a : Addr) : It :=
  ⟨fun i H => ∃ (xs : List V) (x : V), SqT K H a xs ∧ xs[i]? = some x, fun i H v H' => ∃ T x, v = .ref T ∧ H T = none ∧ H' = upd H T (.tup [.int (i : Nat), x]) ∧ ∀ xs, SqT K H a xs → xs[i]? = some x, fun i H => ∃ xs : List V, SqT K H a xs ∧ xs.length ≤ i⟩
theorem turn_enumT {P : Program} {w : World} {K : PySem.W.Frag} {elts : List Expr} {kk : Nat} {tpos : Pos} (a e it : Addr) (hai : a ≠ it) :
    Turn P w K (.Tuple elts kk tpos) (IteT K a) [e, it] e (fun i h => (∃ old, IsEnum h e it ((i : Nat) : Int) old) ∧ h.IsTupleIter it a i ∧ e ≠ it) where
  mem := by simp
  obj := fun i h st b hb => by
    obtain ⟨⟨old, he⟩, ⟨o, ho, hc, hd⟩, _⟩ := st
    have e' : b = e ∨ b = it := by simpa using hb
    rcases e' with z | z
    · rw [z]; exact ⟨_, he, fun v q => nomatch q⟩
    · rw [z]; exact ⟨o, ho, fun v q => by rw [hd] at q; cases q⟩
  keep := fun i h h' st k => let ⟨⟨old, he⟩, hi, hne⟩ := st; ⟨⟨old, k e (by simp) _ he⟩, hi.at fun o q => k it (by simp) o q, hne⟩
  item := by
    intro X hP hw hK hc i pins s σ H E I hf st hg
    subst hP hw hK
    obtain ⟨⟨old, he⟩, hit, hne⟩ := st
    obtain ⟨xs, x, hq, hx⟩ := hg
    obtain ⟨its, rv, p, hz⟩ := I.tuple hq
    obtain ⟨u, hu, ru⟩ := rv.get hx
    have hel : e < s.heap.objs.size := Heap.lt_size he
    have hil : it < s.heap.objs.size := by obtain ⟨_, q, _⟩ := hit; exact Heap.lt_size q
    have pt : s.heap.IsTuple a its.toArray := p
    have hae : e ≠ a := fun z => by
      obtain ⟨o1, e1, c1, _⟩ := pt
      rw [← z, he] at e1
      cases e1
      have z2 : (Value.type "enumerate") = Value.type "tuple" := c1
      injection z2 with z3
      exact absurd z3 (by decide)
    have hil2 : i < its.toArray.size := by
      have := (List.getElem?_eq_some_iff.mp hu).1
      simpa using this
    refine wpAny_pyNext_enum_itemD (Draws.tuple (prog := X.prog) (w := X.w) (A := X.A.in1) (I.ok.hd hc) it a hai its.toArray) he ⟨hit, pt⟩ hil2 hne (by simp only [List.mem_cons, List.mem_nil_iff, or_false, not_or]; exact ⟨hne, hae⟩) fun x' h' tk hP ho st' hT hsz hk => ?_
    have ex' : x' = u := by
      have z : its.toArray[i]? = some u := by simpa using hu
      rw [z] at hP
      exact (Option.some.inj hP).symm
    subst ex'
    refine ⟨_, rfl, wpAny_letOwnedTupleGo_enum (s := { s with heap := h', toks := tk + 1 }) ho fun h'' he' sb => ?_⟩
    have hT2 : h''.get? s.heap.objs.size = some { cls := .type "tuple", data := .seq #[.int i tk, x'] } := (sb.2 _ (Nat.ne_of_gt hel)).trans hT
    have new : ObjOk X.prog X.w (upd H s.heap.objs.size (.tup [.int (i : Nat), x])) h'' s.heap.objs.size (.tup [.int (i : Nat), x]) :=
      ⟨by show 2 ≤ sizeLine; decide, [.int i tk, x'], .cons ⟨_, rfl⟩ (.cons ru .nil), ⟨_, hT2, rfl, _, rfl⟩⟩
    have I1 : Inv X pins σ (upd H s.heap.objs.size (.tup [.int (i : Nat), x])) { s with heap := h'', toks := tk + 1 } :=
      I.turnedNew (ch := [e, it]) (fun b ob hb q => (sb.2 b (fun z => hb (by simp [z]))).trans (hk b ob (fun z => hb (by simp [z])) (fun z => hb (by simp [z])) q)) hf (Nat.le_refl _) new
    refine ⟨.ref s.heap.objs.size, _, I1, rfl, ⟨_, x, rfl, I.hok.fresh (Nat.le_refl _), rfl, fun ys hy => by rw [I.tuple_inj hy hq]; exact hx⟩, ⟨⟨x', ?_⟩, st'.1.at fun o q => (sb.2 it (Ne.symm hne)).trans q, hne⟩, fun b hb => ?_⟩
    · have e1 : ((i + 1 : Nat) : Int) = (i : Int) + 1 := by omega
      rw [e1]; exact he'
    · have hb' : b < s.heap.objs.size := by
        have e' : b = e ∨ b = it := by simpa using hb
        rcases e' with z | z
        · rw [z]; exact hel
        · rw [z]; exact hil
      rw [upd_ne (Nat.ne_of_lt hb')]
      exact (hf b hb).1
  done := by
    intro X hP hw hK hc i pins s σ H E I hf st hg
    subst hP hw hK
    obtain ⟨⟨old, he⟩, hit, hne⟩ := st
    obtain ⟨xs, hq, hx⟩ := hg
    obtain ⟨its, rv, p, hz⟩ := I.tuple hq
    obtain ⟨f0, f1, f2, f3, f4, f5⟩ := hf it (by simp)
    have hl := rv.length
    have pt : s.heap.IsTuple a its.toArray := p
    refine wpAny_pyNext_enum_endD (n := i) (fp := [it, a]) (P := fun j v => True) (St := fun j h => j = i ∧ h.IsTupleIter it a i ∧ h.IsTuple a its.toArray) ?_ he ⟨rfl, hit, pt⟩ fun h' eb => ⟨rfl, I.turned (t' := s.toks) (fun b o hb q => eb b o hb q) f0 f1 f3 f4 f5⟩
    exact ⟨fun _ _ st => let ⟨o, ho, _⟩ := st.2.1; ⟨o, ho⟩, fun _ _ _ st hk => ⟨st.1, st.2.1.at fun o e => hk it (by simp) o e, st.2.2.at fun o e => hk a (by simp) o e⟩, fun j s Q E hi st hQ => absurd st.1 (Nat.ne_of_lt hi), fun s Q E st hE => wpAny_nextOf_tuple_end (I.ok.hd hc) st.2.1 st.2.2 (by simp; omega) hE⟩
  self := fun A i s Q E st h => let ⟨⟨_, he⟩, _⟩ := st; wpAny_pyIter_enum he h
end Gd
-- part Gd4
set_option Elab.async false
set_option linter.all false
set_option maxRecDepth 100000
set_option maxHeartbeats 2000000
-- part Gd5
set_option Elab.async false
set_option linter.all false
set_option maxRecDepth 100000
set_option maxHeartbeats 2000000
-- part Gd6
set_option Elab.async false
set_option linter.all false
set_option maxRecDepth 100000
set_option maxHeartbeats 2000000
-- part Gd7
set_option Elab.async false
set_option linter.all false
set_option maxRecDepth 100000
set_option maxHeartbeats 2000000
namespace Gd
open PySem L2
section
variable {K : PySem.W.Frag} {b : Bool} {σ : L2.St} {G G' H : Hp} {t ta tb te : TE} {R R' : SR} {α β γ : Type} {e : α → SR} {f : β → SR}
structure WalkR (b : Bool) (J : It) (e : α → SR) (xs : List α) (G : Hp) (Z : Hp → Prop) : Prop where
  len : xs.length ≤ sizeLine
  goes : ∀ i G3 H3, i < xs.length → Same G G3 → Rel b G3 H3 → Z H3 → J.go i H3
  stops : ∀ G3 H3, Same G G3 → Rel b G3 H3 → Z H3 → J.stop xs.length H3
  yields : ∀ i a G3 H3 x H', xs[i]? = some a → Same G G3 → Rel b G3 H3 → Z H3 → J.yld i H3 x H' → ∃ G4, Go G3 H3 G4 H' ∧ (e a).p x G4
def EvI (b : Bool) (wi : TI) (σ : L2.St) (G : Hp) (e : α → SR) (xs : List α) : Prop := ∀ G1 H1, Same G G1 → Rel b G1 H1 → ∀ Rr : It → Hp → Prop, (∀ J G2 H2, Go G1 H1 G2 H2 → WalkR b J e xs G2 (fun _ => True) → Rr J H2) → wi σ H1 Rr
def GTo (b : Bool) (g : TG) (x : V) (σ : L2.St) (G : Hp) (σ' : L2.St) : Prop := ∀ H, Rel b G H → ∀ Q : L2.St → Hp → Prop, Q σ' H → g x σ H Q
theorem gto_name {i : Nat} {x : V} : GTo b (gName i) x σ G (σ.set i (some x)) := fun _ _ _ q => q
theorem gto_tup2 {a : Addr} {v w : V} {i j : Nat} (h : SqT K G a [v, w]) : GTo b (gTup K 2 (gCons (gName i) (gCons (gName j) gNil))) (.ref a) σ G ((σ.set i (some v)).set j (some w)) :=
  fun H r Q q => ⟨a, _, rfl, r.seqT h, rfl, v, [w], rfl, w, [], rfl, rfl, q⟩
theorem walkR_list {a : Addr} {xs : List α} {vs : List V} (h : G a = some (.lst vs)) (hl : vs.length ≤ sizeLine) (al : Al e xs vs G) : WalkR b (Itl K a) e xs G (fun _ => True) where
  len := by rw [← al.len]; exact hl
  goes := fun i G3 H3 hi s r _ => by
    have hi' : i < vs.length := by rw [al.len]; exact hi
    exact ⟨vs, vs[i], r.seqL (SqL.of (s _ _ h)), by simp [hi']⟩
  stops := fun G3 H3 s r _ => ⟨vs, r.seqL (SqL.of (s _ _ h)), by rw [al.len]; exact Nat.le_refl _⟩
  yields := fun i a' G3 H3 x H' ha s r _ y => by
    obtain ⟨e1, y⟩ := y
    subst e1
    obtain ⟨v, hv, hp⟩ := al.get' ha
    have := y vs (r.seqL (SqL.of (s _ _ h)))
    rw [hv] at this
    cases this
    exact ⟨G3, Go.refl _ _, (e a').st s hp⟩
theorem walkR_tup {a : Addr} {xs : List α} {vs : List V} (h : SqT K G a vs) (hl : vs.length ≤ sizeLine) (al : Al e xs vs G) : WalkR b (Itt K a) e xs G (fun _ => True) where
  len := by rw [← al.len]; exact hl
  goes := fun i G3 H3 hi s r _ => by
    have hi' : i < vs.length := by rw [al.len]; exact hi
    exact ⟨vs, vs[i], r.seqT ((Rel.of (b := true) (fun x o q => .inl (s x o q))).seqT h), by simp [hi']⟩
  stops := fun G3 H3 s r _ => ⟨vs, r.seqT ((Rel.of (b := true) (fun x o q => .inl (s x o q))).seqT h), by rw [al.len]; exact Nat.le_refl _⟩
  yields := fun i a' G3 H3 x H' ha s r _ y => by
    obtain ⟨e1, y⟩ := y
    subst e1
    obtain ⟨v, hv, hp⟩ := al.get' ha
    have := y vs (r.seqT ((Rel.of (b := true) (fun x o q => .inl (s x o q))).seqT h))
    rw [hv] at this
    cases this
    exact ⟨G3, Go.refl _ _, (e a').st s hp⟩
def iSeq (K : PySem.W.Frag) (tl : TE) : TI := fun σ H R => tl σ H fun x H1 => ∃ a, x = .ref a ∧ (((∃ xs, SqL K H1 a xs) ∧ R (Itl K a) H1) ∨ ((∃ xs, SqT K H1 a xs) ∧ R (Itt K a) H1))
theorem ei_sq {xs : List α} (h : Ev b te σ G (Sq K e xs)) : EvI b (iSeq K te) σ G e xs := fun G1 H1 a r Rr k => h G1 H1 a r _ fun u G2 H2 g p => by
  rcases p with ⟨ad, vs, rfl, h1, h2, h3⟩ | ⟨ad, vs, rfl, h1, h2, h3⟩
  · exact ⟨ad, rfl, .inl ⟨⟨vs, (g.r _ r).seqL (SqL.of h1)⟩, k _ G2 H2 g (walkR_list h1 h2 h3)⟩⟩
  · exact ⟨ad, rfl, .inr ⟨⟨vs, (g.r _ r).seqT h1⟩, k _ G2 H2 g (walkR_tup h1 h2 h3)⟩⟩
theorem walkR_range {lo : Int} {n : Nat} (hn : n ≤ sizeLine) : WalkR b (Itr lo n) (fun i : Nat => I (lo + (i : Nat))) (List.range n) G (fun _ => True) where
  len := by rw [List.length_range]; exact hn
  goes := fun i G3 H3 hi _ _ _ => by rw [List.length_range] at hi; exact hi
  stops := fun G3 H3 _ _ _ => by rw [List.length_range]; exact Nat.le_refl n
  yields := fun i a' G3 H3 x H' ha s r _ y => by
    obtain ⟨e1, e2⟩ := y
    subst e1 e2
    have hi := (List.getElem?_eq_some_iff.mp ha)
    obtain ⟨h1, h2⟩ := hi
    rw [List.getElem_range] at h2
    subst h2
    exact ⟨G3, Go.refl _ _, rfl⟩
theorem ei_range1 {n : Int} (h : Ev b te σ G (I n)) (h0 : 0 ≤ n) (h1 : n ≤ 100000) : EvI b (iRng1 (tCons te tNil)) σ G (fun i : Nat => I (0 + (i : Nat))) (List.range n.toNat) := fun G1 H1 a r Rr k =>
  h G1 H1 a r _ fun u G2 H2 g p => ⟨n, by rw [p], by omega, by omega, k _ G2 H2 g (walkR_range (by have : sizeLine = 16777216 := sizeLine_eq; omega))⟩
theorem take_succ {xs : List α} {i : Nat} {a : α} (h : xs[i]? = some a) : xs.take (i + 1) = xs.take i ++ [a] := by
  rw [List.take_succ, h]; rfl
theorem lc_go {J : It} {xs : List α} {Z : Hp → Prop} {H1 : Hp} (W : WalkR b J e xs G Z) (rel : Rel b G H1) (z0 : Z H1) (hZ : ∀ H H', Same H H' → Z H → Z H') {g : TG} {tt : TT} {vs : List Nat} {er : β → SR} {fn : α → β} {p : α → Bool}
    (hb : ∀ a, a ∈ xs → ∀ x G', Same G G' → (e a).p x G' → ∃ σ', GTo b g x (wipe σ vs) G' σ' ∧ wipe σ' vs = wipe σ vs ∧ EvT b tt σ' G' (p a) ∧ (p a = true → Ev b te σ' G' (er (fn a))))
    {D : Addr} (hD : H1 D = none) {Qd : Hp → Prop} (hd : ∀ G2 H2 acc, Go G H1 G2 H2 → G2 D = none → H2 D = some (.lst acc) → acc.length ≤ sizeLine → Al er ((xs.filter p).map fn) acc G2 → Z H2 → Qd H2) :
    ∃ W : Nat → Nat → Hp → Prop, (∃ m, W 0 m (upd H1 D (.lst []))) ∧ ∀ i m H, W i m H →
      (J.stop i H ∧ Qd H) ∨ (J.go i H ∧ ∃ Nx : Hp → Prop, (∀ H', Nx H' → ∃ m', m' < m ∧ W (i + 1) m' H') ∧ ∀ x H', J.yld i H x H' → g x (wipe σ vs) H' fun σ2 H2 => wipe σ2 vs = wipe σ vs ∧ tt σ2 H2 fun b H3 =>
        if b = true then te σ2 H3 fun y H4 => ∃ acc, H4 D = some (.lst acc) ∧ acc.length < sizeLine ∧ Nx (upd H4 D (.lst (acc ++ [y]))) else Nx H3) := by
  have WW : Walk J xs.length (fun H => ∃ G', Same G G' ∧ Rel b G' H ∧ Z H) (fun i H x H' => ∀ a, xs[i]? = some a → ∀ G3, Same G G3 → Rel b G3 H → Z H → ∃ G4, Go G3 H G4 H' ∧ (e a).p x G4) :=
    ⟨fun i H hi ⟨G', s, r, z⟩ => W.goes i G' H hi s r z, fun H ⟨G', s, r, z⟩ => W.stops G' H s r z, fun i H x H' hi ⟨G', s, r, z⟩ y a ha G3 s3 r3 z3 => W.yields i a G3 H x H' ha s3 r3 z3 y⟩
  refine lc_it WW (fun i H => i ≤ xs.length ∧ ∃ G' acc, Go G H1 G' H ∧ G' D = none ∧ H D = some (.lst acc) ∧ acc.length ≤ i ∧ Al er (((xs.take i).filter p).map fn) acc G' ∧ Z H)
    ⟨Nat.zero_le _, G, [], Go.own rel hD, rel.free hD, upd_same, Nat.zero_le _, by simp; exact .nil, hZ _ _ (Same.new hD) z0⟩
    (fun i H hi ⟨_, G', acc, g, _, _, _, _, z⟩ => ⟨G', g.g, g.r _ rel, z⟩) ?_ ?_
  · rintro i x H H' hi ⟨_, G', acc, g, nD, hacc, hl, al, z⟩ y
    have hlt : i < xs.length := hi
    have hxi : xs[i]? = some xs[i] := List.getElem?_eq_getElem hlt
    obtain ⟨G4, g4, pa⟩ := y xs[i] hxi G' g.g (g.r _ rel) z
    have gA := g.trans g4
    obtain ⟨σ', h1, h2, h3, h4⟩ := hb xs[i] (List.getElem_mem hlt) x G4 gA.g pa
    refine h1 H' (gA.r _ rel) _ ⟨h2, ?_⟩
    refine h3.run (gA.r _ rel) fun G5 H5 g5 => ?_
    have D5 : H5 D = some (.lst acc) := g5.h _ _ (g4.h _ _ hacc)
    have n5 : G5 D = none := g5.owned (g4.h _ _ hacc) (g4.owned hacc nD)
    have gB := gA.trans g5
    have et : ((xs.take (i + 1)).filter p).map fn = ((xs.take i).filter p).map fn ++ (if p xs[i] = true then [fn xs[i]] else []) := by
      rw [take_succ hxi, List.filter_append, List.map_append]
      by_cases q : p xs[i] = true
      · simp [q]
      · simp [q]
    by_cases q : p xs[i] = true
    · rw [if_pos q]
      refine ((h4 q).mono g5.g).run (gB.r _ rel) fun y G6 H6 g6 py => ?_
      refine ⟨acc, g6.h _ _ D5, Nat.lt_of_le_of_lt hl (Nat.lt_of_lt_of_le hlt W.len), hlt, G6, acc ++ [y], (gB.trans g6).wr hD (g6.owned D5 n5), g6.owned D5 n5, upd_same, by rw [List.length_append, List.length_singleton]; omega, ?_, ?_⟩
      · rw [et, if_pos q]
        exact (al.st ((g4.g.trans g5.g).trans g6.g)).snoc py
      · refine hZ H1 _ (Same.own (gB.trans g6).h hD) z0
    · rw [if_neg q]
      refine ⟨hlt, G5, acc, gB, n5, D5, by omega, ?_, hZ _ _ g5.h (hZ _ _ g4.h z)⟩
      rw [et, if_neg q, List.append_nil]
      exact al.st (g4.g.trans g5.g)
  · rintro H ⟨_, G', acc, g, nD, hacc, hl, al, z⟩
    rw [List.take_length] at al
    exact hd G' H acc g nD hacc (Nat.le_trans hl W.len) al z
theorem en_lc {wi : TI} {xs : List α} {g : TG} {tt : TT} {vs : List Nat} {er : β → SR} {fn : α → β} {p : α → Bool} (hi : EvI b wi σ G e xs)
    (hb : ∀ a, a ∈ xs → ∀ x G', Same G G' → (e a).p x G' → ∃ σ', GTo b g x (wipe σ vs) G' σ' ∧ wipe σ' vs = wipe σ vs ∧ EvT b tt σ' G' (p a) ∧ (p a = true → Ev b te σ' G' (er (fn a)))) :
    EvN b (tLc wi g tt te vs) σ G er ((xs.filter p).map fn) := fun G1 H1 a r Q k =>
  hi G1 H1 a r _ fun J G2 H2 g2 W D hD => lc_go W (g2.r _ r) trivial (fun _ _ _ _ => trivial) (fun a' ha x G' s pa => hb a' ha x G' ((a.trans g2.g).trans s) pa) hD fun G3 H3 acc g3 n3 h3 l3 al _ =>
    k D acc G3 H3 (g2.trans g3) (g2.free hD) n3 h3 l3 al
theorem filter_true (xs : List α) : xs.filter (fun _ => true) = xs := by
  induction xs with
  | nil => rfl
  | cons a t ih => simp
theorem en_map {wi : TI} {xs : List α} {g : TG} {vs : List Nat} {er : β → SR} {fn : α → β} (hi : EvI b wi σ G e xs)
    (hb : ∀ a, a ∈ xs → ∀ x G', Same G G' → (e a).p x G' → ∃ σ', GTo b g x (wipe σ vs) G' σ' ∧ wipe σ' vs = wipe σ vs ∧ Ev b te σ' G' (er (fn a))) :
    EvN b (tLc wi g tYes te vs) σ G er (xs.map fn) := by
  have := en_lc (tt := tYes) (p := fun _ => true) hi (fun a ha x G' s pa => by
    obtain ⟨σ', h1, h2, h3⟩ := hb a ha x G' s pa
    exact ⟨σ', h1, h2, et_yes, fun _ => h3⟩)
  rw [filter_true] at this
  exact this
theorem walkR_keys {d : Addr} {o : Obj} {kvs : List (Key × V)} {ks : List Str} (hl : kvs.length ≤ sizeLine) (ho : ∀ k ∈ ks, okS k = true) (hk : kvs.map (·.1) = ks.map Sum.inr) : WalkR b (Itk d o kvs) S ks G (fun H => H d = some (.frz o (.dK kvs))) where
  len := by
    have := congrArg List.length hk
    rw [List.length_map, List.length_map] at this
    omega
  goes := fun i G3 H3 hi s r z => by
    have := congrArg List.length hk
    rw [List.length_map, List.length_map] at this
    exact ⟨z, by omega⟩
  stops := fun G3 H3 s r z => by
    have := congrArg List.length hk
    rw [List.length_map, List.length_map] at this
    exact ⟨z, by omega⟩
  yields := fun i a' G3 H3 x H' ha s r z y => by
    obtain ⟨e1, k, v, h1, h2⟩ := y
    subst e1 h2
    have h3 : (kvs.map (·.1))[i]? = some k := by rw [List.getElem?_map, h1]; rfl
    rw [hk, List.getElem?_map, ha] at h3
    have h4 : Sum.inr a' = k := Option.some.inj h3
    subst h4
    exact ⟨G3, Go.refl _ _, rfl, ho _ (List.mem_of_getElem? ha)⟩
theorem en_lcK {i : Nat} {d : Addr} {kvs : List (Key × V)} {xs : List Str} {g : TG} {tt : TT} {vs : List Nat} {er : β → SR} {fn : Str → β} {p : Str → Bool} (hv : σ[i]? = some (some (.ref d))) (hd : G d = some (.dK kvs)) (hl : kvs.length ≤ sizeLine) (ho : ∀ k ∈ xs, okS k = true) (hk : kvs.map (·.1) = xs.map Sum.inr)
    (hb : ∀ a, a ∈ xs → ∀ x G', Same G G' → (S a).p x G' → ∃ σ', GTo false g x (wipe σ vs) G' σ' ∧ wipe σ' vs = wipe σ vs ∧ EvT false tt σ' G' (p a) ∧ (p a = true → Ev false te σ' G' (er (fn a)))) :
    EvN true (tLockE (tLc (iKeys (tVar i)) g tt te vs)) σ G er ((xs.filter p).map fn) := fun G1 H1 a r Q k => by
  have hG := a _ _ hd
  have hH := r.ex hG
  refine ⟨d, .dK kvs, hH, trivial, fun od => ⟨.ref d, hv, d, od, rfl, .inl ⟨kvs, upd_same, fun D hD => ?_⟩⟩⟩
  have hDd : D ≠ d := fun z => by rw [z, upd_same] at hD; cases hD
  have hD1 : H1 D = none := by rw [upd_ne hDd] at hD; exact hD
  refine lc_go (walkR_keys hl ho hk) (r.lock hG rfl) upd_same (fun _ _ s z => s _ _ z) (fun a' ha x G' s pa => hb a' ha x G' (a.trans s) pa) hD fun G3 H3 acc g3 n3 h3 l3 al z => ⟨z, ?_⟩
  exact k D acc G3 (upd H3 d (.dK kvs)) (g3.unlock hG hH) hD1 n3 (by rw [upd_ne hDd]; exact h3) l3 al
end
end Gd
-- part Gd8
set_option Elab.async false
set_option linter.all false
set_option maxRecDepth 100000
set_option maxHeartbeats 2000000
namespace Gd
open PySem PySem.Spec PyProof.Rows L2
open PySem.W (EachIs AllAlike dataLe alike)
section
variable {K : PySem.W.Frag} {b : Bool} {σ : L2.St} {G G' H : Hp} {t ta tb te tc : TE} {R R' : SR} {α β γ : Type} {e : α → SR} {f : β → SR}
theorem Rel.sq {G G' : Hp} (s : Same G G') : Rel true G G' := fun a o q => .inl (s a o q)
theorem Sq.seq {xs : List α} {u : V} (r : Rel b G H) (h : (Sq K e xs).p u G) : ∃ a vs, u = .ref a ∧ (SqL K H a vs ∨ SqT K H a vs) ∧ vs.length ≤ sizeLine ∧ Al e xs vs G := by
  rcases h with ⟨a, vs, h1, h2, h3, h4⟩ | ⟨a, vs, h1, h2, h3, h4⟩
  · exact ⟨a, vs, h1, .inl (r.seqL (SqL.of h2)), h3, h4⟩
  · exact ⟨a, vs, h1, .inr (r.seqT h2), h3, h4⟩
theorem Lst.sq {xs : List α} {u : V} (h : (Lst e xs).p u G) : (Sq K e xs).p u G := .inl h
theorem Tpl.sq {xs : List α} {u : V} (h : (Tpl K e xs).p u G) : (Sq K e xs).p u G := .inr h
theorem inV_S {xs : List Str} : ∀ {vs : List V}, Al S xs vs G → ∀ s : Str, inV (.str s) vs = decide (s ∈ xs) ∧ vs.all flatV = true := by
  intro vs h
  induction h with
  | nil => intro s; exact ⟨rfl, rfl⟩
  | @cons G a as v vs hv ht ih =>
    intro s
    obtain ⟨e1, _⟩ := hv
    subst e1
    obtain ⟨i1, i2⟩ := ih s
    refine ⟨?_, ?_⟩
    · show (eqV (.str a) (.str s) || inV (.str s) vs) = _
      rw [i1]
      show ((a == s) || _) = _
      by_cases q : s = a
      · subst q; simp
      · have : ¬ a = s := fun z => q z.symm
        simp [q, this]
    · show (flatV (.str a) && vs.all flatV) = true
      rw [i2]; rfl
theorem ev_in {s : Str} {xs : List Str} (ha : Ev b ta σ G (S s)) (hb : Ev b tb σ G (Sq K S xs)) : Ev b (tOp (rIn K false) ta tb) σ G (B (decide (s ∈ xs))) :=
  ev_opP ha hb fun x y G1 H1 a r p q => by
    obtain ⟨ad, vs, rfl, h1, h2, h3⟩ := Sq.seq r q
    obtain ⟨rfl, _⟩ := p
    obtain ⟨i1, i2⟩ := inV_S h3 s
    exact ⟨_, congrArg V.bl i1, fun Q hQ => ⟨ad, vs, rfl, h1, rfl, i2, hQ⟩⟩
theorem ev_notin {s : Str} {xs : List Str} (ha : Ev b ta σ G (S s)) (hb : Ev b tb σ G (Sq K S xs)) : Ev b (tOp (rIn K true) ta tb) σ G (B (!decide (s ∈ xs))) :=
  ev_opP ha hb fun x y G1 H1 a r p q => by
    obtain ⟨ad, vs, rfl, h1, h2, h3⟩ := Sq.seq r q
    obtain ⟨rfl, _⟩ := p
    obtain ⟨i1, i2⟩ := inV_S h3 s
    exact ⟨_, congrArg (fun c => V.bl (!c)) i1, fun Q hQ => ⟨ad, vs, rfl, h1, rfl, i2, hQ⟩⟩
theorem valV_keys {kvs : List (Key × V)} {ks : List Str} (h : kvs.map (·.1) = ks.map Sum.inr) (s : Str) : (valV kvs (Sum.inr s : Key)).isSome = decide (s ∈ ks) := by
  rw [← valV_any]
  have e : (kvs.any fun kv => decide (kv.1 = Sum.inr s)) = (kvs.map (·.1)).any fun k => decide (k = Sum.inr s) := by
    rw [List.any_map]; rfl
  rw [e, h, List.any_map, Bool.eq_iff_iff, List.any_eq_true, decide_eq_true_eq]
  constructor
  · rintro ⟨x, hx, hp⟩
    have z : (Sum.inr x : Key) = Sum.inr s := of_decide_eq_true hp
    exact (Sum.inr.inj z) ▸ hx
  · intro hx
    exact ⟨s, hx, decide_eq_true rfl⟩
theorem ev_inK {s : Str} {ks : List Str} (ha : Ev b ta σ G (S s)) (hb : Ev b tb σ G (Ks ks)) : Ev b (tDIn ta tb) σ G (B (decide (s ∈ ks))) := fun G1 H1 a r Q k =>
  ha G1 H1 a r _ fun x G2 H2 g p => hb G2 H2 (a.trans g.g) (g.r _ r) _ fun y G3 H3 g' q => by
    obtain ⟨ad, kvs, rfl, h1, h2, h3⟩ := q
    obtain ⟨rfl, _⟩ := p
    exact ⟨ad, _, rfl, .inl ⟨kvs, Sum.inr s, (g'.r _ (g.r _ r)).rd h1, rfl, rfl⟩, k _ G3 H3 (g.trans g') (congrArg V.bl (valV_keys h3 s))⟩
theorem ev_notinK {s : Str} {ks : List Str} (ha : Ev b ta σ G (S s)) (hb : Ev b tb σ G (Ks ks)) : Ev b (tDNotIn ta tb) σ G (B (!decide (s ∈ ks))) := fun G1 H1 a r Q k =>
  ha G1 H1 a r _ fun x G2 H2 g p => hb G2 H2 (a.trans g.g) (g.r _ r) _ fun y G3 H3 g' q => by
    obtain ⟨ad, kvs, rfl, h1, h2, h3⟩ := q
    obtain ⟨rfl, _⟩ := p
    exact ⟨ad, _, rfl, .inl ⟨kvs, Sum.inr s, (g'.r _ (g.r _ r)).rd h1, rfl, rfl⟩, k _ G3 H3 (g.trans g') (congrArg (fun c => V.bl (!c)) (valV_keys h3 s))⟩
theorem AlD.keys {as : List (Str × α)} : ∀ {vs : List (Key × V)}, AlD e as vs G → vs.map (·.1) = (as.map (·.1)).map Sum.inr := by
  intro vs h
  induction h with
  | nil => rfl
  | cons _ _ ih => simp [ih]
theorem AlD.val {as : List (Str × α)} {k : Str} {a : α} : ∀ {vs : List (Key × V)}, AlD e as vs G → as.lookup k = some a → ∃ v, valV vs (Sum.inr k : Key) = some v ∧ (e a).p v G := by
  intro vs h
  induction h with
  | nil => intro q; cases q
  | @cons G k' a' as v vs hv _ ih =>
    intro q
    by_cases z : k = k'
    · subst z
      have : (k == k) = true := by simp
      simp only [List.lookup, this] at q
      cases q
      exact ⟨v, valV_pos rfl, hv⟩
    · have z2 : (k == k') = false := by simpa using z
      simp only [List.lookup, z2] at q
      obtain ⟨w, h1, h2⟩ := ih q
      exact ⟨w, by rw [valV_neg (fun y => z (Sum.inr.inj y).symm)]; exact h1, h2⟩
theorem Dct.ks {kvs : List (Str × α)} (h : Ev b te σ G (Dct e kvs)) : Ev b te σ G (Ks (kvs.map (·.1))) := h.is fun u G2 _ ⟨a, vs, h1, h2, h3, h4⟩ => ⟨a, vs, h1, h2, h3, h4.keys⟩
theorem ev_dget {kvs : List (Str × α)} {k : Str} {a : α} (ha : Ev b ta σ G (Dct e kvs)) (hb : Ev b tb σ G (S k)) (hk : kvs.lookup k = some a) : Ev b (tDGet ta tb) σ G (e a) := fun G1 H1 s r Q kk =>
  ha G1 H1 s r _ fun x G2 H2 g p => hb G2 H2 (s.trans g.g) (g.r _ r) _ fun y G3 H3 g' q => by
    obtain ⟨ad, vs, rfl, h1, h2, h3⟩ := p
    obtain ⟨rfl, _⟩ := q
    obtain ⟨v, hv, pv⟩ := h3.val hk
    exact ⟨ad, v, rfl, .inl ⟨vs, Sum.inr k, (g'.r _ (g.r _ r)).rd (g'.g _ _ h1), rfl, hv.symm⟩, kk v G3 H3 (g.trans g') ((e a).st g'.g pv)⟩
def rLen (K : PySem.W.Frag) : List V → Hp → VK → Prop := fun xs H Q => ∃ p ys, xs = [.ref p] ∧ (SqL K H p ys ∨ SqT K H p ys) ∧ Q (.int ys.length) H
theorem ev_len {xs : List α} (ha : Ev b te σ G (Sq K e xs)) : Ev b (tCB (rLen K) (tCons te tNil)) σ G (I (xs.length : Nat)) :=
  ev_cb (ea_cons ha ea_nil) fun vs G1 H1 a r al Q k => by
    obtain ⟨v, rfl, p⟩ := alr1 al
    obtain ⟨ad, ws, rfl, h1, h2, h3⟩ := Sq.seq r p
    exact ⟨ad, ws, rfl, h1, k _ G1 H1 (Go.refl _ _) (by show V.int _ = V.int _; rw [h3.len])⟩
def rLenS : List V → Hp → VK → Prop := fun xs H Q => ∃ z, xs = [.str z] ∧ z.length ≤ sizeLine ∧ Q (.int z.length) H
theorem okS_len {s : Str} (h : okS s = true) : s.length ≤ 100000 := by
  unfold okS at h
  rw [Bool.and_eq_true] at h
  exact of_decide_eq_true h.2
theorem okS_lay {s : Str} (h : okS s = true) : PyData.strOk s = true := by
  unfold okS at h
  rw [Bool.and_eq_true] at h
  exact h.1
theorem ev_lenS {s : Str} (ha : Ev b te σ G (S s)) : Ev b (tCB rLenS (tCons te tNil)) σ G (I (s.length : Nat)) :=
  ev_cb (ea_cons ha ea_nil) fun vs G1 H1 a r al Q k => by
    obtain ⟨v, rfl, rfl, p⟩ := alr1 al
    exact ⟨s, rfl, Nat.le_trans (okS_len p) (by decide), k _ G1 H1 (Go.refl _ _) rfl⟩
theorem ev_eqS {x y : Str} (ha : Ev b ta σ G (S x)) (hb : Ev b tb σ G (S y)) : Ev b (tOp rEq ta tb) σ G (B (decide (x = y))) :=
  ev_opP ha hb fun u v G1 H1 a r p q => by
    obtain ⟨rfl, _⟩ := p
    obtain ⟨rfl, _⟩ := q
    refine ⟨_, ?_, fun Q hQ => ⟨rfl, hQ⟩⟩
    show V.bl _ = V.bl _
    rw [dec_str, Bool.beq_eq_decide_eq]
theorem ev_neS {x y : Str} (ha : Ev b ta σ G (S x)) (hb : Ev b tb σ G (S y)) : Ev b (tOp rNe ta tb) σ G (B (!decide (x = y))) :=
  ev_opP ha hb fun u v G1 H1 a r p q => by
    obtain ⟨rfl, _⟩ := p
    obtain ⟨rfl, _⟩ := q
    refine ⟨_, ?_, fun Q hQ => ⟨rfl, hQ⟩⟩
    show V.bl _ = V.bl _
    rw [dec_str, Bool.beq_eq_decide_eq]
theorem ev_eqI {x y : Int} (ha : Ev b ta σ G (I x)) (hb : Ev b tb σ G (I y)) : Ev b (tOp rEq ta tb) σ G (B (decide (x = y))) :=
  ev_opP ha hb fun u v G1 H1 a r p q => by
    obtain rfl : u = _ := p
    obtain rfl : v = _ := q
    refine ⟨_, ?_, fun Q hQ => ⟨rfl, hQ⟩⟩
    show V.bl _ = V.bl _
    rw [dec_int, Bool.beq_eq_decide_eq]
theorem ev_neB {x y : Bool} (ha : Ev b ta σ G (B x)) (hb : Ev b tb σ G (B y)) : Ev b (tOp rNe ta tb) σ G (B (!decide (x = y))) :=
  ev_opP ha hb fun u v G1 H1 a r p q => by
    obtain rfl : u = _ := p
    obtain rfl : v = _ := q
    refine ⟨_, ?_, fun Q hQ => ⟨rfl, hQ⟩⟩
    show V.bl _ = V.bl _
    rw [dec_bl, Bool.beq_eq_decide_eq]
theorem ev_I0 {g : Int → Int → V} {x y : Int} (ha : Ev b ta σ G (I x)) (hb : Ev b tb σ G (I y)) : Ev b (tOp (rI0 g) ta tb) σ G (cst (g x y)) :=
  ev_opP ha hb fun u v G1 H1 a r p q => by
    obtain rfl : u = _ := p
    obtain rfl : v = _ := q
    exact ⟨_, rfl, fun Q hQ => ⟨x, y, rfl, rfl, hQ⟩⟩
theorem ev_I1 {C : Int → Int → Prop} {g : Int → Int → V} {x y : Int} (ha : Ev b ta σ G (I x)) (hb : Ev b tb σ G (I y)) (hc : C x y) : Ev b (tOp (rI C g) ta tb) σ G (cst (g x y)) :=
  ev_opP ha hb fun u v G1 H1 a r p q => by
    obtain rfl : u = _ := p
    obtain rfl : v = _ := q
    exact ⟨_, rfl, fun Q hQ => ⟨x, y, rfl, rfl, hc, hQ⟩⟩
theorem ev_ixL {xs : List α} {i : Int} {j : Nat} {a : α} (ha : Ev b ta σ G (Lst e xs)) (hb : Ev b tb σ G (I i)) (hi : i = (j : Int)) (hx : xs[j]? = some a) : Ev b (tOp (rIx K) ta tb) σ G (e a) :=
  ev_opP ha hb fun u v G1 H1 _ r p q => by
    obtain ⟨ad, vs, rfl, h1, h2, h3⟩ := p
    obtain rfl : v = _ := q
    obtain ⟨w, hw, pw⟩ := h3.get' hx
    subst hi
    exact ⟨w, pw, fun Q hQ => .inl ⟨ad, vs, _, w, rfl, rfl, r.seqL (SqL.of h1), atI_nat hw, hQ⟩⟩
theorem ev_ixT {xs : List α} {i : Int} {j : Nat} {a : α} (ha : Ev b ta σ G (Tpl K e xs)) (hb : Ev b tb σ G (I i)) (hi : i = (j : Int)) (hx : xs[j]? = some a) : Ev b (tOp (rIx K) ta tb) σ G (e a) :=
  ev_opP ha hb fun u v G1 H1 _ r p q => by
    obtain ⟨ad, vs, rfl, h1, h2, h3⟩ := p
    obtain rfl : v = _ := q
    obtain ⟨w, hw, pw⟩ := h3.get' hx
    subst hi
    exact ⟨w, pw, fun Q hQ => .inr (.inl ⟨ad, vs, _, w, rfl, rfl, r.seqT h1, atI_nat hw, hQ⟩)⟩
theorem ev_ixP1 {x : α} {y : β} (ha : Ev b ta σ G (Pr K e f (x, y))) : Ev b (tOp (rIx K) ta (tC (.int 0))) σ G (e x) :=
  ev_opP ha ev_int fun u v G1 H1 _ r p q => by
    obtain ⟨ad, v1, v2, rfl, h1, h2, h3⟩ := p
    obtain rfl : v = _ := q
    exact ⟨v1, h2, fun Q hQ => .inr (.inl ⟨ad, _, _, v1, rfl, rfl, r.seqT h1, rfl, hQ⟩)⟩
theorem ev_ixP2 {x : α} {y : β} (ha : Ev b ta σ G (Pr K e f (x, y))) : Ev b (tOp (rIx K) ta (tC (.int 1))) σ G (f y) :=
  ev_opP ha ev_int fun u v G1 H1 _ r p q => by
    obtain ⟨ad, v1, v2, rfl, h1, h2, h3⟩ := p
    obtain rfl : v = _ := q
    exact ⟨v2, h3, fun Q hQ => .inr (.inl ⟨ad, _, _, v2, rfl, rfl, r.seqT h1, rfl, hQ⟩)⟩
theorem Al.bls {bs : List Bool} : ∀ {vs : List V}, Al B bs vs G → vs = bs.map V.bl := by
  intro vs h
  induction h with
  | nil => rfl
  | cons h _ ih =>
    obtain rfl : _ = _ := h
    rw [ih]; rfl
theorem ev_all {bs : List Bool} (ha : Ev b te σ G (Lst B bs)) : Ev b (tCB (rAll K) (tCons te tNil)) σ G (B (bs.all id)) :=
  ev_cb (ea_cons ha ea_nil) fun vs G1 H1 a r al Q k => by
    obtain ⟨v, rfl, ad, ws, rfl, h1, h2, h3⟩ := alr1 al
    rw [h3.bls] at h1
    exact ⟨ad, bs, rfl, r.seqL (SqL.of h1), k _ G1 H1 (Go.refl _ _) rfl⟩
theorem ev_any {bs : List Bool} (ha : Ev b te σ G (Lst B bs)) : Ev b (tCB (rAny K) (tCons te tNil)) σ G (B (bs.any id)) :=
  ev_cb (ea_cons ha ea_nil) fun vs G1 H1 a r al Q k => by
    obtain ⟨v, rfl, ad, ws, rfl, h1, h2, h3⟩ := alr1 al
    rw [h3.bls] at h1
    exact ⟨ad, bs, rfl, r.seqL (SqL.of h1), k _ G1 H1 (Go.refl _ _) rfl⟩
theorem ev_allL {xs : List α} {p : α → Bool} (ha : EvN b te σ G B (xs.map p)) : Ev b (tCB (rAll K) (tCons te tNil)) σ G (B (xs.all p)) := (ev_all ha.ev).eq (by rw [List.all_map]; rfl)
theorem ev_anyL {xs : List α} {p : α → Bool} (ha : EvN b te σ G B (xs.map p)) : Ev b (tCB (rAny K) (tCons te tNil)) σ G (B (xs.any p)) := (ev_any ha.ev).eq (by rw [List.any_map]; rfl)
def rListOf (K : PySem.W.Frag) : List V → Hp → VK → Prop := fun xs H Q => ∃ p ys, xs = [.ref p] ∧ (SqL K H p ys ∨ SqT K H p ys) ∧ ∀ l, H l = none → Q (.ref l) (upd H l (.lst ys))
theorem en_list {xs : List α} (ha : Ev b te σ G (Sq K e xs)) : EvN b (tCB (rListOf K) (tCons te tNil)) σ G e xs :=
  en_cb (ea_cons ha ea_nil) fun vs G1 H1 a r al Q k => by
    obtain ⟨v, rfl, p⟩ := alr1 al
    obtain ⟨ad, ws, rfl, h1, h2, h3⟩ := Sq.seq r p
    exact ⟨ad, ws, rfl, h1, fun l hl => k l ws G1 _ (Go.own r hl) hl (r.free hl) upd_same h2 h3⟩
def rTupOf (K : PySem.W.Frag) : List V → Hp → VK → Prop := fun xs H Q => ∃ p ys, xs = [.ref p] ∧ ((SqL K H p ys ∧ ∀ l, H l = none → Q (.ref l) (upd H l (.tup ys))) ∨ (SqT K H p ys ∧ Q (.ref p) H))
theorem ev_tupleL {xs : List α} (ha : Ev b te σ G (Lst e xs)) : Ev b (tCB (rTupOf K) (tCons te tNil)) σ G (Tpl K e xs) :=
  ev_cb (ea_cons ha ea_nil) fun vs G1 H1 a r al Q k => by
    obtain ⟨v, rfl, ad, ws, rfl, h1, h2, h3⟩ := alr1 al
    exact ⟨ad, ws, rfl, .inl ⟨r.seqL (SqL.of h1), fun l hl => k _ _ _ (Go.new r hl) ⟨l, ws, rfl, SqT.of upd_same, h2, h3.st (Same.new (r.free hl))⟩⟩⟩
theorem en_cat {xs ys : List α} (ha : Ev b ta σ G (Lst e xs)) (hb : Ev b tb σ G (Lst e ys)) (hz : xs.length + ys.length ≤ 100000) : EvN b (tOp rCat ta tb) σ G e (xs ++ ys) :=
  en_op ha hb fun x y G1 H1 a r p q Q k => by
    obtain ⟨ad, vs, rfl, h1, h2, h3⟩ := p
    obtain ⟨ad2, ws, rfl, k1, k2, k3⟩ := q
    have hl : vs.length + ws.length ≤ sizeLine := by rw [h3.len, k3.len]; exact Nat.le_trans hz (by decide)
    exact ⟨ad, ad2, vs, ws, rfl, rfl, r.at h1 rfl, r.at k1 rfl, hl, fun p' hp => k p' (vs ++ ws) G1 _ (Go.own r hp) hp (r.free hp) upd_same (by rw [List.length_append]; exact hl) (h3.app k3)⟩
theorem Al.nil_iff {xs : List α} {vs : List V} (h : Al e xs vs G) : vs = [] ↔ xs = [] := by
  cases h with
  | nil => simp
  | cons _ _ => simp
theorem ev_catT {xs ys : List α} (ha : Ev b ta σ G (Tpl K e xs)) (hb : Ev b tb σ G (Tpl K e ys)) (hz : xs.length + ys.length ≤ 100000) : Ev b (tOp (rCatA K) ta tb) σ G (Tpl K e (xs ++ ys)) :=
  ev_op ha hb fun x y G1 H1 a r p q Q k => by
    obtain ⟨ad, vs, rfl, h1, h2, h3⟩ := p
    obtain ⟨ad2, ws, rfl, k1, k2, k3⟩ := q
    have hl : vs.length + ws.length ≤ sizeLine := by rw [h3.len, k3.len]; exact Nat.le_trans hz (by decide)
    refine ⟨ad, ad2, vs, ws, rfl, rfl, r.seqT h1, r.seqT k1, hl, fun z => ?_, fun _ z => ?_, fun _ _ p' hp => ?_⟩
    · refine k _ G1 H1 (Go.refl _ _) ?_
      rw [h3.nil_iff.mp z]
      exact ⟨ad2, ws, rfl, k1, k2, k3⟩
    · refine k _ G1 H1 (Go.refl _ _) ?_
      rw [k3.nil_iff.mp z, List.append_nil]
      exact ⟨ad, vs, rfl, h1, h2, h3⟩
    · exact k _ _ _ (Go.new r hp) ⟨p', vs ++ ws, rfl, SqT.of upd_same, by rw [List.length_append]; exact hl, (h3.app k3).st (Same.new (r.free hp))⟩
theorem eo_some {i : Int} (h : Ev b te σ G (I i)) : EvO b (tPart te) σ G (some i) := fun G1 H1 a r Q k => h G1 H1 a r _ fun u G2 H2 g p => ⟨i, p, k G2 H2 g⟩
theorem cut_to {α : Type} (xs : List α) (vs : List V) (n : Nat) : cutV vs none (some (n : Int)) = vs.take n := by
  unfold cutV
  rw [HT.sIx_none, HT.sIx_nat, List.drop_zero, Nat.sub_zero]
  by_cases h : n ≤ vs.length
  · rw [Nat.min_eq_left h]
  · rw [Nat.min_eq_right (by omega), List.take_of_length_le (Nat.le_refl _), List.take_of_length_le (by omega)]
theorem en_takeL {th : TO} {xs : List α} {n : Nat} (ha : Ev b te σ G (Lst e xs)) (hh : EvO b th σ G (some (n : Int))) : EvN b (tSl (rSlL K) te tNoPart th) σ G e (xs.take n) := fun G1 H1 a r Q k =>
  ha G1 H1 a r _ fun u G2 H2 g p => hh G2 H2 (a.trans g.g) (g.r _ r) _ fun G3 H3 g' => by
    obtain ⟨ad, vs, rfl, h1, h2, h3⟩ := p
    have r3 := (g'.r _ (g.r _ r))
    refine ⟨ad, vs, rfl, r3.seqL (SqL.of (g'.g _ _ h1)), fun p' hp => ?_⟩
    rw [cut_to xs]
    exact k p' (vs.take n) G3 _ ((g.trans g').trans (Go.own r3 hp)) (g.free (g'.free hp)) (r3.free hp) upd_same (by rw [List.length_take]; omega) ((h3.st g'.g).take n)
def rSlA2 (K : PySem.W.Frag) : V → Option Int → Option Int → Hp → VK → Prop := fun x lo hi H Q => rSlL K x lo hi H Q ∨ rSlA K x lo hi H Q
theorem ev_takeQ {th : TO} {xs : List α} {n : Nat} (ha : Ev b te σ G (Sq K e xs)) (hh : EvO b th σ G (some (n : Int))) : Ev b (tSl (rSlA2 K) te tNoPart th) σ G (Sq K e (xs.take n)) := fun G1 H1 a r Q k =>
  ha G1 H1 a r _ fun u G2 H2 g p => hh G2 H2 (a.trans g.g) (g.r _ r) _ fun G3 H3 g' => by
    have r3 := (g'.r _ (g.r _ r))
    rcases p with ⟨ad, vs, rfl, h1, h2, h3⟩ | ⟨ad, vs, rfl, h1, h2, h3⟩
    · refine .inl ⟨ad, vs, rfl, r3.seqL (SqL.of (g'.g _ _ h1)), fun p' hp => ?_⟩
      rw [cut_to xs]
      have g3 := (g.trans g').trans (Go.own r3 hp (o := .lst (vs.take n)))
      exact k _ _ _ (g3.give (g.free (g'.free hp)) (r3.free hp) upd_same) (.inl ⟨p', vs.take n, rfl, upd_same, by rw [List.length_take]; omega, ((h3.st g'.g).take n).st (Same.new (r3.free hp))⟩)
    · refine .inr ⟨ad, vs, rfl, r3.seqT ((Rel.sq g'.g).seqT h1), fun z => ?_, fun z p' hp => ?_⟩
      · have e2 : vs.length ≤ n := by
          have := z.2
          rw [HT.sIx_nat] at this
          omega
        refine k _ G3 H3 (g.trans g') ?_
        rw [List.take_of_length_le (by rw [← h3.len]; exact e2)]
        exact .inr ⟨ad, vs, rfl, (Rel.sq g'.g).seqT h1, h2, h3.st g'.g⟩
      · rw [cut_to xs]
        exact k _ _ _ ((g.trans g').trans (Go.new r3 hp)) (.inr ⟨p', vs.take n, rfl, SqT.of upd_same, by rw [List.length_take]; omega, ((h3.st g'.g).take n).st (Same.new (r3.free hp))⟩)
end
end Gd
-- part Gd9
set_option Elab.async false
set_option linter.all false
set_option maxRecDepth 100000
set_option maxHeartbeats 2000000
namespace Gd
open PySem PySem.Spec PyProof.Rows L2
open PySem.W (EachIs AllAlike dataLe alike alikeAll)
section
variable {K : PySem.W.Frag} {b : Bool} {σ : L2.St} {G G' H : Hp} {t ta tb te tc : TE} {R R' : SR} {α β γ : Type} {e : α → SR} {f : β → SR} {g : γ → SR} {c : α → PyData} {c' : β → PyData} {c'' : γ → PyData} {n m k : Nat}
structure Enc (K : PySem.W.Frag) (e : α → SR) (c : α → PyData) (n : Nat) : Prop where
  h : ∀ {x : α} {v : V} {G : Hp}, (e x).p v G → Dp K G v (c x)
  lay : ∀ {x : α} {v : V} {G : Hp}, (e x).p v G → (c x).canLay0 = true
  dep : ∀ x : α, (c x).depth ≤ n
theorem enc_S : Enc K S PyData.str 0 := ⟨fun h => by obtain ⟨rfl, _⟩ := h; exact .str _, fun h => by obtain ⟨_, h⟩ := h; exact okS_lay h, fun _ => Nat.le_refl _⟩
theorem enc_I : Enc K I PyData.int 0 := ⟨fun h => by obtain rfl : _ = _ := h; exact .int _, fun _ => rfl, fun _ => Nat.le_refl _⟩
theorem Al.dp (E : Enc K e c n) : ∀ {xs : List α} {vs : List V}, Al e xs vs G → DpAll K G vs (xs.map c)
  | _, _, .nil => .nil
  | _, _, .cons h t => .cons (E.h h) (Al.dp E t)
theorem Al.lay (E : Enc K e c n) : ∀ {xs : List α} {vs : List V}, Al e xs vs G → PyData.canLayAll0 (xs.map c) = true
  | _, _, .nil => by simp [PyData.canLayAll0]
  | _, _, .cons h t => by simp [PyData.canLayAll0, E.lay h, Al.lay E t]
theorem depthAll_map (E : ∀ x : α, (c x).depth ≤ n) : ∀ xs : List α, PyData.depthAll (xs.map c) ≤ n
  | [] => by simp [PyData.depthAll]
  | x :: xs => by
    simp only [List.map_cons, PyData.depthAll]
    exact Nat.max_le.mpr ⟨E x, depthAll_map E xs⟩
theorem enc_lst (E : Enc K e c n) : Enc K (Lst e) (fun xs => .list (xs.map c)) (n + 1) :=
  ⟨fun ⟨a, vs, h1, h2, h3, h4⟩ => by subst h1; exact .lst (SqL.of h2) (h4.dp E), fun ⟨a, vs, h1, h2, h3, h4⟩ => by simpa [PyData.canLay0] using h4.lay E, fun xs => by
    simp only [PyData.depth]; exact Nat.succ_le_succ (depthAll_map E.dep xs)⟩
theorem enc_tpl (E : Enc K e c n) : Enc K (Tpl K e) (fun xs => .tuple (xs.map c)) (n + 1) :=
  ⟨fun ⟨a, vs, h1, h2, h3, h4⟩ => by subst h1; exact .tup h2 (h4.dp E), fun ⟨a, vs, h1, h2, h3, h4⟩ => by simpa [PyData.canLay0] using h4.lay E, fun xs => by
    simp only [PyData.depth]; exact Nat.succ_le_succ (depthAll_map E.dep xs)⟩
theorem enc_pr (E : Enc K e c n) (E' : Enc K f c' m) : Enc K (Pr K e f) (fun p => .tuple [c p.1, c' p.2]) (max n m + 1) :=
  ⟨fun ⟨a, v, w, h1, h2, h3, h4⟩ => by subst h1; exact .tup h2 (.cons (E.h h3) (.cons (E'.h h4) .nil)), fun ⟨a, v, w, h1, h2, h3, h4⟩ => by simp [PyData.canLay0, PyData.canLayAll0, E.lay h3, E'.lay h4], fun p => by
    have a1 := E.dep p.1
    have a2 := E'.dep p.2
    simp only [PyData.depth, PyData.depthAll]
    omega⟩
structure EqE [DecidableEq α] (c : α → PyData) : Prop where
  eq : ∀ x y : α, PyData.eqv (c x) (c y) = decide (x = y)
theorem eqE_S : EqE PyData.str := ⟨fun x y => by simp only [PyData.eqv]; exact Bool.beq_eq_decide_eq x y⟩
theorem eqE_I : EqE PyData.int := ⟨fun x y => by simp only [PyData.eqv]; exact Bool.beq_eq_decide_eq x y⟩
theorem eqvAll_map [DecidableEq α] (E : EqE c) : ∀ xs ys : List α, PyData.eqvAll (xs.map c) (ys.map c) = decide (xs = ys)
  | [], [] => by simp [PyData.eqvAll]
  | [], y :: ys => by simp [PyData.eqvAll]
  | x :: xs, [] => by simp [PyData.eqvAll]
  | x :: xs, y :: ys => by
    simp only [List.map_cons, PyData.eqvAll, E.eq, eqvAll_map E xs ys]
    by_cases q : x = y <;> by_cases z : xs = ys <;> simp [q, z]
theorem eqE_lst [DecidableEq α] (E : EqE c) : EqE (fun xs : List α => .list (xs.map c)) := ⟨fun xs ys => by simp only [PyData.eqv]; exact eqvAll_map E xs ys⟩
theorem eqE_tpl [DecidableEq α] (E : EqE c) : EqE (fun xs : List α => .tuple (xs.map c)) := ⟨fun xs ys => by simp only [PyData.eqv]; exact eqvAll_map E xs ys⟩
theorem eqE_pr [DecidableEq α] [DecidableEq β] (E : EqE c) (E' : EqE c') : EqE (fun p : α × β => .tuple [c p.1, c' p.2]) := ⟨fun x y => by
  obtain ⟨x1, x2⟩ := x
  obtain ⟨y1, y2⟩ := y
  simp only [PyData.eqv, PyData.eqvAll, E.eq, E'.eq]
  by_cases q : x1 = y1 <;> by_cases z : x2 = y2 <;> simp [q, z]⟩
mutual
theorem Rel.dp (r : Rel b G H) : ∀ (d : PyData) (v : V), Dp K G v d → Dp K H v d
  | .none, _, .non => .non
  | .bool _, _, .bl _ => .bl _
  | .int _, _, .int _ => .int _
  | .str _, _, .str _ => .str _
  | .list ds, _, .lst h al => .lst (r.seqL h) (Rel.dps r ds _ al)
  | .tuple ds, _, .tup h al => .tup (r.seqT h) (Rel.dps r ds _ al)
theorem Rel.dps (r : Rel b G H) : ∀ (ds : List PyData) (vs : List V), DpAll K G vs ds → DpAll K H vs ds
  | [], _, .nil => .nil
  | d :: ds, _, .cons h t => .cons (Rel.dp r d _ h) (Rel.dps r ds _ t)
end
theorem shaped_of {d : PyData} (h : d.canLay0 = true) (hd : d.depth ≤ 64) : SeqAt.shaped d = true := by
  unfold SeqAt.shaped
  rw [h, decide_eq_true hd]
  rfl
theorem ev_eqD [DecidableEq α] {x y : α} (ha : Ev b ta σ G (e x)) (hb : Ev b tb σ G (e y)) (E : Enc K e c n) (Q : EqE c) (hn : n ≤ 64 := by decide) : Ev b (tOp (rEqD K) ta tb) σ G (B (decide (x = y))) :=
  ev_opP ha hb fun u v G1 H1 a r p q => ⟨_, rfl, fun Q' hQ => ⟨c x, c y, r.dp _ _ (E.h p), r.dp _ _ (E.h q), shaped_of (E.lay p) (Nat.le_trans (E.dep x) hn), shaped_of (E.lay q) (Nat.le_trans (E.dep y) hn), by rw [Q.eq]; exact hQ⟩⟩
theorem ev_neD [DecidableEq α] {x y : α} (ha : Ev b ta σ G (e x)) (hb : Ev b tb σ G (e y)) (E : Enc K e c n) (Q : EqE c) (hn : n ≤ 64 := by decide) : Ev b (tOp (rNeD K) ta tb) σ G (B (!decide (x = y))) :=
  ev_opP ha hb fun u v G1 H1 a r p q => ⟨_, rfl, fun Q' hQ => ⟨c x, c y, r.dp _ _ (E.h p), r.dp _ _ (E.h q), shaped_of (E.lay p) (Nat.le_trans (E.dep x) hn), shaped_of (E.lay q) (Nat.le_trans (E.dep y) hn), by rw [Q.eq]; exact hQ⟩⟩
theorem anyEq [DecidableEq α] (Q : EqE c) (x : α) : ∀ xs : List α, ((xs.map c).any fun z => PyData.eqv z (c x)) = decide (x ∈ xs)
  | [] => by simp
  | y :: ys => by
    simp only [List.map_cons, List.any_cons, Q.eq, anyEq Q x ys]
    by_cases q : y = x
    · subst q; simp
    · have : ¬ x = y := fun z => q z.symm
      simp [q, this]
structure Alk (c : α → PyData) : Prop where
  ak : ∀ x y : α, alike (c x) (c y) = true
theorem alk_S : Alk PyData.str := ⟨fun _ _ => by simp [alike]⟩
theorem alk_I : Alk PyData.int := ⟨fun _ _ => by simp [alike]⟩
theorem alk_pr (A : Alk c) (A' : Alk c') : Alk (fun p : α × β => .tuple [c p.1, c' p.2]) := ⟨fun x y => by simp only [alike, alikeAll, A.ak, A'.ak]; rfl⟩
theorem al_each {P : V → α → Prop} (hp : ∀ v x, (e x).p v G → P v x) : ∀ {xs : List α} {vs : List V}, Al e xs vs G → EachIs P vs xs
  | _, _, .nil => .nil
  | _, _, .cons h t => .cons (hp _ _ h) (al_each hp t)
theorem each_al : ∀ {xs : List α} {vs : List V}, EachIs (fun v x => (e x).p v G) vs xs → Al e xs vs G
  | _, _, .nil => .nil
  | _, _, .cons h t => .cons h (each_al t)
theorem en_sorted {xs : List α} (ha : Ev b te σ G (Sq K e xs)) (E : Enc K e c n) (A : Alk c) (hk : Sortable2 (xs.map c)) (hn : n ≤ 60 := by decide) : EvN b (tCB (rSrt K) (tCons te tNil)) σ G e (xs.mergeSort (dataLe false c)) :=
  en_cb (ea_cons ha ea_nil) fun vs G1 H1 a r al Q k => by
    obtain ⟨v, rfl, p⟩ := alr1 al
    obtain ⟨ad, ws, rfl, h1, h2, h3⟩ := Sq.seq r p
    refine ⟨ad, ws, α, xs, c, fun v x => (e x).p v G1, rfl, h1, al_each (e := e) (fun _ _ h => h) h3, al_each (e := e) (fun v x h => r.dp (c x) v (E.h h)) h3, ?_, hk, fun x _ => Nat.le_trans (E.dep x) hn, fun zs p hp hz => ?_⟩
    · intro d hd d' hd'
      obtain ⟨x, _, rfl⟩ := List.mem_map.mp hd
      obtain ⟨y, _, rfl⟩ := List.mem_map.mp hd'
      exact A.ak x y
    · have al2 := each_al hz
      refine k p zs G1 _ (Go.own r hp) hp (r.free hp) upd_same ?_ al2
      rw [al2.len, List.length_mergeSort, ← h3.len]
      exact h2
theorem alr_len {G : Hp} {rs : List SR} {vs : List V} (al : AlR rs vs G) : vs.length = rs.length := by
  induction al with
  | nil => rfl
  | cons _ _ ih => simp [ih]
def spF {ι : Type} (b : Bool) (pre : ι → List SR) (ok : ι → Prop) (post : ι → SR) : Sp := fun vs H Q _ => ∃ i G, Rel b G H ∧ ok i ∧ AlR (pre i) vs G ∧ ∀ u G2 H2, Go G H G2 H2 → (post i).p u G2 → Q u H2
def spN {ι : Type} (b : Bool) (pre : ι → List SR) (ok : ι → Prop) (e : α → SR) (post : ι → List α) : Sp := fun vs H Q _ => ∃ i G, Rel b G H ∧ ok i ∧ AlR (pre i) vs G ∧
  ∀ p vs G2 H2, Go G H G2 H2 → H p = none → G2 p = none → H2 p = some (.lst vs) → vs.length ≤ sizeLine → Al e (post i) vs G2 → Q (.ref p) H2
theorem Rel.le {b b' : Bool} (r : Rel b G H) (h : b' = b ∨ b' = false) : Rel b' G H := by
  rcases h with rfl | rfl
  · exact r
  · exact r.low
theorem ev_call {ι : Type} {b' : Bool} {pre : ι → List SR} {ok : ι → Prop} {post : ι → SR} {E : XK} {ta : TA} (i : ι) (ha : EvA b ta σ G (pre i)) (hok : ok i) (hb : b' = b ∨ b' = false := by first | exact .inl rfl | exact .inr rfl) : Ev b (tCall (spF b' pre ok post) [] E ta) σ G (post i) := fun G1 H1 a r Q k =>
  ha G1 H1 a r _ fun vs G2 H2 g al => ⟨i, G2, (g.r _ r).le hb, hok, by rw [List.append_nil]; exact al, fun u G3 H3 g' p => k u G3 H3 (g.trans g') p⟩
theorem spF_len {ι : Type} {b : Bool} {pre : ι → List SR} {ok : ι → Prop} {post : ι → SR} {vs : List V} {H : Hp} {Q : VK} {E : XK} {n : Nat} (h : spF b pre ok post vs H Q E) (hn : ∀ i, (pre i).length = n) : vs.length = n := by
  obtain ⟨i, G, _, _, al, _⟩ := h
  rw [alr_len al, hn]
theorem spN_len {ι : Type} {b : Bool} {pre : ι → List SR} {ok : ι → Prop} {post : ι → List α} {vs : List V} {H : Hp} {Q : VK} {E : XK} {n : Nat} (h : spN b pre ok e post vs H Q E) (hn : ∀ i, (pre i).length = n) : vs.length = n := by
  obtain ⟨i, G, _, _, al, _⟩ := h
  rw [alr_len al, hn]
theorem ev_fld {C : Addr} {fl : Str} (ha : Ev b ta σ G R) (cl : Cls K C) (na : NoAttr K C fl) (h : ∀ u G', R.p u G' → ∃ a dx fs v, u = .ref a ∧ G' a = some (.ins C dx fs) ∧ fs.lookup fl = some v ∧ R'.p v G') : Ev b (tFld K ta fl) σ G R' := fun G1 H1 a r Q k =>
  ha G1 H1 a r _ fun u G2 H2 g p => by
    obtain ⟨ad, dx, fs, v, rfl, h1, h2, h3⟩ := h u G2 p
    exact ⟨ad, C, dx, fs, v, rfl, (g.r _ r).at h1 rfl, cl, na, h2, k v G2 H2 g h3⟩
theorem valV_none {kvs : List (Key × V)} {k : Key} (h : k ∉ kvs.map (·.1)) : valV kvs k = none := by
  have := valV_any k kvs
  cases q : valV kvs k with
  | none => rfl
  | some v =>
    rw [q] at this
    simp only [Option.isSome_some, List.any_eq_true, decide_eq_true_eq] at this
    obtain ⟨x, hx, he⟩ := this
    exact absurd (List.mem_map.mpr ⟨x, hx, he⟩) h
end
end Gd
-- part Gd10
set_option Elab.async false
set_option linter.all false
set_option maxRecDepth 100000
set_option maxHeartbeats 2000000
namespace Gd
open PySem PySem.Spec PyProof.Rows L2
section
variable {K : PySem.W.Frag} {b : Bool} {σ : L2.St} {G G' H : Hp} {t ta tb te tc : TE} {R R' : SR} {α β γ : Type} {e : α → SR} {f : β → SR}
theorem EvI.run {wi : TI} {xs : List α} (h : EvI b wi σ G e xs) (r : Rel b G H) {Rr : It → Hp → Prop} (k : ∀ J G2 H2, Go G H G2 H2 → WalkR b J e xs G2 (fun _ => True) → Rr J H2) : wi σ H Rr := h G H (Same.refl G) r Rr k
theorem walkR_zip {a a2 : Addr} {xs : List α} {ys : List β} {vs ws : List V} (h : G a = some (.lst vs)) (hl : vs.length ≤ sizeLine) (al : Al e xs vs G) (h2 : G a2 = some (.lst ws)) (hl2 : ws.length ≤ sizeLine) (al2 : Al f ys ws G) : WalkR b (Itz K a a2) (Pr K e f) (xs.zip ys) G (fun _ => True) where
  len := by rw [List.length_zip, ← al.len]; omega
  goes := fun i G3 H3 hi s r _ => by
    rw [List.length_zip, ← al.len, ← al2.len] at hi
    have hi1 : i < vs.length := by omega
    have hi2 : i < ws.length := by omega
    exact ⟨vs, ws, vs[i], ws[i], r.seqL (SqL.of (s _ _ h)), r.seqL (SqL.of (s _ _ h2)), by simp [hi1], by simp [hi2]⟩
  stops := fun G3 H3 s r _ => ⟨vs, ws, r.seqL (SqL.of (s _ _ h)), r.seqL (SqL.of (s _ _ h2)), by rw [List.length_zip, ← al.len, ← al2.len]; omega⟩
  yields := fun i p G3 H3 x H' ha s r _ y => by
    obtain ⟨T, x1, x2, rfl, hT, rfl, q1, q2⟩ := y
    obtain ⟨y1, y2⟩ := p
    have hz := List.getElem?_zip_eq_some.mp ha
    obtain ⟨v, hv, pv⟩ := al.get' hz.1
    obtain ⟨w, hw, pw⟩ := al2.get' hz.2
    have e1 := q1 vs (r.seqL (SqL.of (s _ _ h)))
    have e2 := q2 ws (r.seqL (SqL.of (s _ _ h2)))
    rw [hv] at e1
    rw [hw] at e2
    obtain rfl := Option.some.inj e1
    obtain rfl := Option.some.inj e2
    have sn := Same.new (o := .tup [v, w]) (r.free hT)
    exact ⟨_, Go.new r hT, T, v, w, rfl, SqT.of upd_same, (e y1).st (s.trans sn) pv, (f y2).st (s.trans sn) pw⟩
theorem walkR_zipT {a a2 : Addr} {xs : List α} {ys : List β} {vs ws : List V} (h : SqT K G a vs) (hl : vs.length ≤ sizeLine) (al : Al e xs vs G) (h2 : SqT K G a2 ws) (hl2 : ws.length ≤ sizeLine) (al2 : Al f ys ws G) : WalkR b (RZ.ItzT K a a2) (Pr K e f) (xs.zip ys) G (fun _ => True) where
  len := by rw [List.length_zip, ← al.len]; omega
  goes := fun i G3 H3 hi s r _ => by
    rw [List.length_zip, ← al.len, ← al2.len] at hi
    have hi1 : i < vs.length := by omega
    have hi2 : i < ws.length := by omega
    exact ⟨vs, ws, vs[i], ws[i], r.seqT ((Rel.sq s).seqT h), r.seqT ((Rel.sq s).seqT h2), by simp [hi1], by simp [hi2]⟩
  stops := fun G3 H3 s r _ => ⟨vs, ws, r.seqT ((Rel.sq s).seqT h), r.seqT ((Rel.sq s).seqT h2), by rw [List.length_zip, ← al.len, ← al2.len]; omega⟩
  yields := fun i p G3 H3 x H' ha s r _ y => by
    obtain ⟨T, x1, x2, rfl, hT, rfl, q1, q2⟩ := y
    obtain ⟨y1, y2⟩ := p
    have hz := List.getElem?_zip_eq_some.mp ha
    obtain ⟨v, hv, pv⟩ := al.get' hz.1
    obtain ⟨w, hw, pw⟩ := al2.get' hz.2
    have e1 := q1 vs (r.seqT ((Rel.sq s).seqT h))
    have e2 := q2 ws (r.seqT ((Rel.sq s).seqT h2))
    rw [hv] at e1
    rw [hw] at e2
    obtain rfl := Option.some.inj e1
    obtain rfl := Option.some.inj e2
    have sn := Same.new (o := .tup [v, w]) (r.free hT)
    exact ⟨_, Go.new r hT, T, v, w, rfl, SqT.of upd_same, (e y1).st (s.trans sn) pv, (f y2).st (s.trans sn) pw⟩
theorem ei_zipL {xs : List α} {ys : List β} (ha : Ev b ta σ G (Lst e xs)) (hb : Ev b tb σ G (Lst f ys)) : EvI b (RZ.iZipA K (tCons ta (tCons tb tNil))) σ G (Pr K e f) (xs.zip ys) := fun G1 H1 a r Rr k =>
  (ea_cons ha (ea_cons hb ea_nil)) G1 H1 a r _ fun vs G2 H2 g al => by
    obtain ⟨v, w, rfl, ⟨ad, us, rfl, h1, h2, h3⟩, ⟨ad2, ws, rfl, k1, k2, k3⟩⟩ := alr2 al
    have r2 := g.r _ r
    exact ⟨ad, ad2, us, ws, rfl, .inl ⟨r2.seqL (SqL.of h1), r2.seqL (SqL.of k1), k _ G2 H2 g (walkR_zip h1 h2 h3 k1 k2 k3)⟩⟩
theorem ei_zipT {xs : List α} {ys : List β} (ha : Ev b ta σ G (Tpl K e xs)) (hb : Ev b tb σ G (Tpl K f ys)) : EvI b (RZ.iZipA K (tCons ta (tCons tb tNil))) σ G (Pr K e f) (xs.zip ys) := fun G1 H1 a r Rr k =>
  (ea_cons ha (ea_cons hb ea_nil)) G1 H1 a r _ fun vs G2 H2 g al => by
    obtain ⟨v, w, rfl, ⟨ad, us, rfl, h1, h2, h3⟩, ⟨ad2, ws, rfl, k1, k2, k3⟩⟩ := alr2 al
    have r2 := g.r _ r
    exact ⟨ad, ad2, us, ws, rfl, .inr ⟨r2.seqT h1, r2.seqT k1, k _ G2 H2 g (walkR_zipT h1 h2 h3 k1 k2 k3)⟩⟩
def enumI (xs : List α) : List (Int × α) := xs.zipIdx.map fun p => ((p.2 : Int), p.1)
theorem enumI_len (xs : List α) : (enumI xs).length = xs.length := by simp [enumI]
theorem enumI_get {xs : List α} {i : Nat} {p : Int × α} (h : (enumI xs)[i]? = some p) : p.1 = (i : Int) ∧ xs[i]? = some p.2 := by
  unfold enumI at h
  rw [List.getElem?_map] at h
  cases q : xs.zipIdx[i]? with
  | none => rw [q] at h; cases h
  | some z =>
    rw [q] at h
    cases h
    rw [List.getElem?_zipIdx] at q
    cases q2 : xs[i]? with
    | none => rw [q2] at q; cases q
    | some y =>
      rw [q2] at q
      cases q
      exact ⟨by simp, rfl⟩
def iEnumA (K : PySem.W.Frag) (ta : TA) : TI := fun σ H R => ta σ H fun vs H1 => ∃ a xs, vs = [.ref a] ∧ ((SqL K H1 a xs ∧ R (Ite K a) H1) ∨ (SqT K H1 a xs ∧ R (IteT K a) H1))
theorem walkR_enum {a : Addr} {xs : List α} {vs : List V} (h : G a = some (.lst vs)) (hl : vs.length ≤ sizeLine) (al : Al e xs vs G) : WalkR b (Ite K a) (Pr K I e) (enumI xs) G (fun _ => True) where
  len := by rw [enumI_len, ← al.len]; exact hl
  goes := fun i G3 H3 hi s r _ => by
    rw [enumI_len, ← al.len] at hi
    exact ⟨vs, vs[i], r.seqL (SqL.of (s _ _ h)), by simp [hi]⟩
  stops := fun G3 H3 s r _ => ⟨vs, r.seqL (SqL.of (s _ _ h)), by rw [enumI_len, ← al.len]; exact Nat.le_refl _⟩
  yields := fun i p G3 H3 x H' ha s r _ y => by
    obtain ⟨T, x1, rfl, hT, rfl, q1⟩ := y
    obtain ⟨z1, z2⟩ := enumI_get ha
    obtain ⟨v, hv, pv⟩ := al.get' z2
    have e1 := q1 vs (r.seqL (SqL.of (s _ _ h)))
    rw [hv] at e1
    obtain rfl := Option.some.inj e1
    have sn := Same.new (o := .tup [.int (i : Nat), v]) (r.free hT)
    refine ⟨_, Go.new r hT, T, .int (i : Nat), v, rfl, SqT.of upd_same, ?_, (e p.2).st (s.trans sn) pv⟩
    show V.int _ = V.int _
    rw [z1]
theorem walkR_enumT {a : Addr} {xs : List α} {vs : List V} (h : SqT K G a vs) (hl : vs.length ≤ sizeLine) (al : Al e xs vs G) : WalkR b (IteT K a) (Pr K I e) (enumI xs) G (fun _ => True) where
  len := by rw [enumI_len, ← al.len]; exact hl
  goes := fun i G3 H3 hi s r _ => by
    rw [enumI_len, ← al.len] at hi
    exact ⟨vs, vs[i], r.seqT ((Rel.sq s).seqT h), by simp [hi]⟩
  stops := fun G3 H3 s r _ => ⟨vs, r.seqT ((Rel.sq s).seqT h), by rw [enumI_len, ← al.len]; exact Nat.le_refl _⟩
  yields := fun i p G3 H3 x H' ha s r _ y => by
    obtain ⟨T, x1, rfl, hT, rfl, q1⟩ := y
    obtain ⟨z1, z2⟩ := enumI_get ha
    obtain ⟨v, hv, pv⟩ := al.get' z2
    have e1 := q1 vs (r.seqT ((Rel.sq s).seqT h))
    rw [hv] at e1
    obtain rfl := Option.some.inj e1
    have sn := Same.new (o := .tup [.int (i : Nat), v]) (r.free hT)
    refine ⟨_, Go.new r hT, T, .int (i : Nat), v, rfl, SqT.of upd_same, ?_, (e p.2).st (s.trans sn) pv⟩
    show V.int _ = V.int _
    rw [z1]
theorem ei_enum {xs : List α} (ha : Ev b ta σ G (Sq K e xs)) : EvI b (iEnumA K (tCons ta tNil)) σ G (Pr K I e) (enumI xs) := fun G1 H1 a r Rr k =>
  (ea_cons ha ea_nil) G1 H1 a r _ fun vs G2 H2 g al => by
    obtain ⟨v, rfl, p⟩ := alr1 al
    have r2 := g.r _ r
    rcases p with ⟨ad, us, rfl, h1, h2, h3⟩ | ⟨ad, us, rfl, h1, h2, h3⟩
    · exact ⟨ad, us, rfl, .inl ⟨r2.seqL (SqL.of h1), k _ G2 H2 g (walkR_enum h1 h2 h3)⟩⟩
    · exact ⟨ad, us, rfl, .inr ⟨r2.seqT h1, k _ G2 H2 g (walkR_enumT h1 h2 h3)⟩⟩
def Sg (c : Nat) : SR := cst (.str ⟨#[c]⟩)
theorem ei_str {s : Str} (ha : Ev b te σ G (S s)) : EvI b (iStr te) σ G Sg s.cps.toList := fun G1 H1 a r Rr k => ha G1 H1 a r _ fun u G2 H2 g p => by
  obtain ⟨rfl, ok⟩ := p
  have hl := okS_len ok
  have hl' : s.cps.size ≤ 100000 := hl
  exact ⟨s, rfl, k _ G2 H2 g
    { len := by rw [Array.length_toList]; exact Nat.le_trans hl' (by decide)
      goes := fun i G3 H3 hi _ _ _ => by rw [Array.length_toList] at hi; exact hi
      stops := fun G3 H3 _ _ _ => by rw [Array.length_toList]; exact Nat.le_refl s.cps.size
      yields := fun i c G3 H3 x H' hc _ _ _ y => by
        obtain ⟨rfl, c', h1, rfl⟩ := y
        rw [Array.getElem?_toList] at hc
        rw [hc] at h1
        cases h1
        exact ⟨G3, Go.refl _ _, rfl⟩ }⟩
def rInSign (neg : Bool) : R2 := fun x y H Q => ∃ (c : Nat) (z : Str), x = .str ⟨#[c]⟩ ∧ y = .str z ∧ Q (.bl (if neg then !decide (c ∈ z.cps.toList) else decide (c ∈ z.cps.toList))) H
theorem ev_inSign {c : Nat} {z : Str} (ha : Ev b ta σ G (Sg c)) (hb : Ev b tb σ G (S z)) : Ev b (tOp (rInSign false) ta tb) σ G (B (decide (c ∈ z.cps.toList))) :=
  ev_opP ha hb fun u v G1 H1 a r p q => by
    obtain rfl : u = _ := p
    obtain ⟨rfl, _⟩ := q
    exact ⟨_, rfl, fun Q hQ => ⟨c, z, rfl, rfl, hQ⟩⟩
theorem ev_notinSign {c : Nat} {z : Str} (ha : Ev b ta σ G (Sg c)) (hb : Ev b tb σ G (S z)) : Ev b (tOp (rInSign true) ta tb) σ G (B (!decide (c ∈ z.cps.toList))) :=
  ev_opP ha hb fun u v G1 H1 a r p q => by
    obtain rfl : u = _ := p
    obtain ⟨rfl, _⟩ := q
    exact ⟨_, rfl, fun Q hQ => ⟨c, z, rfl, rfl, hQ⟩⟩
theorem ev_ixS {s : Str} {i : Int} {j c : Nat} (ha : Ev b ta σ G (S s)) (hb : Ev b tb σ G (I i)) (hi : i = (j : Int)) (hc : s.cps.toList[j]? = some c) : Ev b (tOp (rIx K) ta tb) σ G (Sg c) :=
  ev_opP ha hb fun u v G1 H1 _ r p q => by
    obtain ⟨rfl, ok⟩ := p
    obtain rfl : v = _ := q
    subst hi
    exact ⟨_, rfl, fun Q hQ => .inr (.inr ⟨s, _, c, rfl, rfl, Nat.le_trans (okS_len ok) (by decide), atI_nat hc, hQ⟩)⟩
theorem ev_catS {x y : Str} (ha : Ev b ta σ G (S x)) (hb : Ev b tb σ G (S y)) (ho : okS (x ++ y) = true) (hl : x.length + y.length ≤ 100000) : Ev b (tOp (fun x y H Q => ∃ i j, x = V.str i ∧ y = V.str j ∧ i.length + j.length ≤ sizeLine ∧ Q (.str (i ++ j)) H) ta tb) σ G (S (x ++ y)) :=
  ev_opP ha hb fun u v G1 H1 a r p q => by
    obtain ⟨rfl, _⟩ := p
    obtain ⟨rfl, _⟩ := q
    exact ⟨_, ⟨rfl, ho⟩, fun Q hQ => ⟨x, y, rfl, rfl, Nat.le_trans hl (by decide), hQ⟩⟩
theorem ev_chain {g1 g2 : Int → Int → Bool} {x y z : Int} (ha : Ev b ta σ G (I x)) (hb : Ev b tb σ G (I y)) (hc : Ev b tc σ G (I z)) : Ev b (tChain (rI0 fun i j => .bl (g1 i j)) (rI0 fun i j => .bl (g2 i j)) ta tb tc) σ G (B (g1 x y && g2 y z)) := fun G1 H1 a r Q k =>
  ha G1 H1 a r _ fun u G2 H2 g p => hb G2 H2 (a.trans g.g) (g.r _ r) _ fun v G3 H3 g' q => by
    refine ⟨x, y, p, q, g1 x y, rfl, ?_⟩
    cases hg : g1 x y with
    | false => exact k _ G3 H3 (g.trans g') (by rw [hg]; rfl)
    | true => exact hc G3 H3 ((a.trans g.g).trans g'.g) (g'.r _ (g.r _ r)) _ fun w G4 H4 g'' p'' => ⟨y, z, q, p'', k _ G4 H4 ((g.trans g').trans g'') (by rw [hg]; rfl)⟩
def HasTy (K : PySem.W.Frag) (R : SR) (T : String) : Prop := ∀ v b G H, Rel b G H → R.p v G → TyX K H v (.type T)
theorem hty_S {s : Str} : HasTy K (S s) "str" := fun v b G H _ h => by obtain ⟨rfl, _⟩ := h; exact .base (.str _)
theorem hty_I {i : Int} : HasTy K (I i) "int" := fun v b G H _ h => by obtain rfl : v = _ := h; exact .base (.int _)
theorem hty_B {i : Bool} : HasTy K (B i) "bool" := fun v b G H _ h => by obtain rfl : v = _ := h; exact .base (.bl _)
theorem hty_N : HasTy K N "NoneType" := fun v b G H _ h => by obtain rfl : v = _ := h; exact .base .non
theorem hty_lst {xs : List α} : HasTy K (Lst e xs) "list" := fun v b G H r ⟨a, vs, h1, h2, _⟩ => by subst h1; exact .base (.lst (r.at h2 rfl))
theorem ty_seqT {a : Addr} {vs : List V} (r : Rel b G H) (h : SqT K G a vs) : TyX K H (.ref a) (.type "tuple") := by
  rcases r.seqT h with (h | ⟨o, h⟩) | ⟨o, its, n, h1, h2, _⟩
  · exact .base (.tup h)
  · exact .fTuple h
  · exact .kTuple h1 h2
theorem hty_tpl {xs : List α} : HasTy K (Tpl K e xs) "tuple" := fun v b G H r ⟨a, vs, h1, h2, _⟩ => by subst h1; exact ty_seqT r h2
theorem ev_isi {T n : String} {r : Bool} (ha : Ev b ta σ G R) (ht : HasTy K R T) (hk : kitB T n = some r := by decide +kernel) : Ev b (tCB (rIsi K) (tCons ta (tCons (tC (.ty n)) tNil))) σ G (B r) :=
  ev_cb (ea_cons ha (ea_cons (ev_c (v := .ty n)) ea_nil)) fun vs G1 H1 a rr al Q k => by
    obtain ⟨v, w, rfl, p, q⟩ := alr2 al
    obtain rfl : w = _ := q
    exact ⟨v, .ty n, .type T, .type n, r, rfl, .ty n, ht v b G1 H1 rr p, kit_ty hk, k _ G1 H1 (Go.refl _ _) rfl⟩
def LT2 : List Value := [.type "list", .type "tuple"]
theorem ev_isiLT {r : Bool} (ha : Ev b ta σ G R) (ht : ∀ v b G H, Rel b G H → R.p v G → ∃ T, TyX K H v (.type T) ∧ PySem.W.kitAny K (.type T) LT2 = some r) : Ev b (tCB (rIsiT K) (tCons ta (tCons (tTup (tCons (tC (.ty "list")) (tCons (tC (.ty "tuple")) tNil))) tNil))) σ G (B r) := fun G1 H1 a rr Q k =>
  ha G1 H1 a rr _ fun u G2 H2 g p => by
    refine ⟨(by show 2 ≤ sizeLine; decide), fun p' hp => ?_⟩
    have r2 := g.r _ rr
    have gn := Go.new r2 (o := .tup [.ty "list", .ty "tuple"]) hp
    obtain ⟨T, h1, h2⟩ := ht u b _ _ (gn.r _ r2) (R.st gn.g p)
    exact ⟨u, p', _, .type T, LT2, r, rfl, upd_same, .cons (.ty _) (.cons (.ty _) .nil), h1, h2, k _ _ _ (g.trans gn) rfl⟩
theorem lt2_list : PySem.W.kitAny K (.type "list") LT2 = some true := kitAny_cons (kit_ty (b := "list") (r := true) (by decide +kernel)) (fun h => by cases h) (fun _ => rfl)
theorem lt2_tuple : PySem.W.kitAny K (.type "tuple") LT2 = some true := kitAny_cons (kit_ty (b := "list") (r := false) (by decide +kernel)) (fun _ => kitAny_cons (kit_ty (b := "tuple") (r := true) (by decide +kernel)) (fun h => by cases h) (fun _ => rfl)) (fun h => by cases h)
theorem lt2_no {T : String} (h1 : kitB T "list" = some false := by decide +kernel) (h2 : kitB T "tuple" = some false := by decide +kernel) : PySem.W.kitAny K (.type T) LT2 = some false := kitAny_cons (kit_ty h1) (fun _ => kitAny_cons (kit_ty h2) (fun _ => kitAny_nil) (fun h => by cases h)) (fun h => by cases h)
theorem ev_isiSq {xs : List α} (ha : Ev b ta σ G (Sq K e xs)) : Ev b (tCB (rIsiT K) (tCons ta (tCons (tTup (tCons (tC (.ty "list")) (tCons (tC (.ty "tuple")) tNil))) tNil))) σ G (B true) := ev_isiLT ha fun v b G H r h => by
  rcases h with h | h
  · exact ⟨"list", hty_lst v b G H r h, lt2_list⟩
  · exact ⟨"tuple", hty_tpl v b G H r h, lt2_tuple⟩
theorem AlD.snoc {as : List (Str × α)} {vs : List (Key × V)} {k : Str} {x : α} {v : V} (h : AlD e as vs G) (q : (e x).p v G) : AlD e (as ++ [(k, x)]) (vs ++ [(Sum.inr k, v)]) G := by
  induction h with
  | nil => exact .cons q .nil
  | cons h _ ih => exact .cons h (ih q)
theorem for_go {J : It} {xs : List α} (W : WalkR b J e xs G (fun _ => True)) {g : TG} {tb : TS} {D : Ends} (Iv : Nat → L2.St → Hp → Hp → Prop) (h0 : ∃ G', Iv 0 σ G' H) (hI : ∀ i σ' G' H', Iv i σ' G' H' → Same G G' ∧ Rel b G' H')
    (hs : ∀ (i : Nat) (a : α) x σ' G' H' G2 H2, xs[i]? = some a → Iv i σ' G' H' → Go G' H' G2 H2 → (e a).p x G2 → g x σ' H2 fun σ2 H3 => tb { D with nx := fun σ H => ∃ G, Iv (i + 1) σ G H, ct := fun σ H => ∃ G, Iv (i + 1) σ G H, bk := D.nx } σ2 H3)
    (hd : ∀ σ' G' H', Iv xs.length σ' G' H' → D.nx σ' H') :
    ∃ W : Nat → Nat → L2.St → Hp → Prop, (∃ m, W 0 m σ H) ∧ ∀ i m σ H, W i m σ H →
      (J.stop i H ∧ D.nx σ H) ∨ (J.go i H ∧ ∃ N : L2.St → Hp → Prop, (∀ σ' H', N σ' H' → ∃ m', m' < m ∧ W (i + 1) m' σ' H') ∧ ∀ x H', J.yld i H x H' → g x σ H' fun σ2 H2 => tb { D with nx := N, ct := N, bk := D.nx } σ2 H2) := by
  refine ⟨fun i m σ H => m = xs.length - i ∧ i ≤ xs.length ∧ ∃ G', Iv i σ G' H, ⟨xs.length, rfl, Nat.zero_le _, h0⟩, ?_⟩
  rintro i m σ H ⟨rfl, hi, G', hv⟩
  obtain ⟨s1, r1⟩ := hI i σ G' H hv
  by_cases hlt : i < xs.length
  · refine .inr ⟨W.goes i G' H hlt s1 r1 trivial, fun σ H => ∃ G, Iv (i + 1) σ G H, fun σ' H' h' => ⟨xs.length - (i + 1), by omega, rfl, hlt, h'⟩, fun x H' y => ?_⟩
    have hxi : xs[i]? = some xs[i] := List.getElem?_eq_getElem hlt
    obtain ⟨G4, g4, pa⟩ := W.yields i xs[i] G' H x H' hxi s1 r1 trivial y
    exact hs i xs[i] x σ G' H G4 H' hxi hv g4 pa
  · have e : i = xs.length := by omega
    subst e
    exact .inl ⟨W.stops G' H s1 r1 trivial, hd σ G' H hv⟩
end
end Gd
-- part Gd11
set_option Elab.async false
set_option linter.all false
set_option maxRecDepth 100000
set_option maxHeartbeats 2000000
namespace Gd
open PySem PySem.Spec PyProof.Rows L2
section
variable {X : Cx} {tg : Expr}
theorem pi_seq {l : Expr} {tl : TE} (hl : PE X l tl) : PI X tg l (iSeq X.K tl) := by
  refine ⟨fun pins s σ H R I h => ?_⟩
  refine thn (hl.run pins s σ H _ I h) fun v s1 ⟨x, H1, I1, r1, q1⟩ => ?_
  obtain ⟨a, e, q1⟩ := q1
  subst e
  cases r1
  rcases q1 with ⟨⟨xs, hq⟩, q⟩ | ⟨⟨xs, hq⟩, q⟩
  · obtain ⟨its, rv, p, hz⟩ := I1.list hq
    refine wpAny_pyIter_list p.isList ?_
    refine ⟨s1.heap.objs.size, [s1.heap.objs.size], _, _, H1, rfl, I1.kept (t' := s1.toks) fun b o e => Heap.get?_push_of_some _ e, turn_list a _, ⟨_, Heap.get?_push_size _ rfl, rfl, rfl⟩, fun b hb => ?_, q⟩
    have e : b = s1.heap.objs.size := by simpa using hb
    subst e
    exact I1.fpOk (Nat.le_refl _) (I1.hok.fresh (Nat.le_refl _))
  · obtain ⟨its, rv, p, hz⟩ := I1.tuple hq
    refine wpAny_pyIter_tuple (show s1.heap.IsTuple a its.toArray from p) ?_
    refine ⟨s1.heap.objs.size, [s1.heap.objs.size], _, _, H1, rfl, I1.kept (t' := s1.toks) fun b o e => Heap.get?_push_of_some _ e, turn_tuple a _, ⟨_, Heap.get?_push_size _ rfl, rfl, rfl⟩, fun b hb => ?_, q⟩
    have e : b = s1.heap.objs.size := by simpa using hb
    subst e
    exact I1.fpOk (Nat.le_refl _) (I1.hok.fresh (Nat.le_refl _))
theorem pi_enumA {e : Expr} {ta : TA} {p pos tpos : Pos} {elts : List Expr} {kk : Nat} (hg : Gl X "enumerate") (hm : X.mg "enumerate" = none) (ha : PA X [e] ta) (hs : starEach [e] X.env = [(false, eval e X.env)] := by rfl) :
    PI X (.Tuple elts kk tpos) (.Call (.Name "enumerate" p) [e] [] pos) (iEnumA X.K ta) := by
  refine ⟨fun pins s σ H R I h => ?_⟩
  refine Call_ (ld_blt I hg hm boot_enumerate (PyProof.Rows.callWith_type1 (thn (ha.run pos pins s σ H _ I h) fun us s1 ⟨vs, H1, I1, r1, q1⟩ => ?_) hs rfl))
  obtain ⟨a, xs, ex, q1⟩ := q1
  subst ex
  cases r1 with
  | cons r rr =>
    cases rr
    cases r
    rcases q1 with ⟨hq, q⟩ | ⟨hq, q⟩
    · obtain ⟨its, rv, p', hz⟩ := I1.list hq
      refine call_enumerate_list p'.isList fun h' he hit hsz hk => wpAny_pyIter_enum he ?_
      have I2 : Inv X pins σ H1 { s1 with heap := h' } := I1.kept (t' := s1.toks) hk
      refine ⟨s1.heap.objs.size + 1, [s1.heap.objs.size + 1, s1.heap.objs.size], _, _, H1, rfl, I2, turn_enum a (s1.heap.objs.size + 1) s1.heap.objs.size, ⟨⟨.none, he⟩, hit, Nat.succ_ne_self _⟩, fun b hb => ?_, q⟩
      have e' : b = s1.heap.objs.size + 1 ∨ b = s1.heap.objs.size := by simpa using hb
      have hle : s1.heap.objs.size ≤ b := by
        rcases e' with z | z
        · rw [z]; exact Nat.le_add_right _ _
        · rw [z]; exact Nat.le_refl _
      exact I1.fpOk hle (I1.hok.fresh hle)
    · obtain ⟨its, rv, p', hz⟩ := I1.tuple hq
      refine enum_begins1 (begins_tuple a its.toArray) (show s1.heap.IsTuple a its.toArray from p') fun h' he hit hsz hk => wpAny_pyIter_enum he ?_
      have I2 : Inv X pins σ H1 { s1 with heap := h' } := I1.kept (t' := s1.toks) hk
      have hlt : a < s1.heap.objs.size := p'.lt
      refine ⟨s1.heap.objs.size + 1, [s1.heap.objs.size + 1, s1.heap.objs.size], _, _, H1, rfl, I2, turn_enumT a (s1.heap.objs.size + 1) s1.heap.objs.size (Nat.ne_of_lt hlt), ⟨⟨.none, he⟩, ⟨_, hit, rfl, rfl⟩, Nat.succ_ne_self _⟩, fun b hb => ?_, q⟩
      have e' : b = s1.heap.objs.size + 1 ∨ b = s1.heap.objs.size := by simpa using hb
      have hle : s1.heap.objs.size ≤ b := by
        rcases e' with z | z
        · rw [z]; exact Nat.le_add_right _ _
        · rw [z]; exact Nat.le_refl _
      exact I1.fpOk hle (I1.hok.fresh hle)
theorem sl_qA : SlR X (rSlA2 X.K) := sl_list.or sl_tupA
theorem op_inSg : OpR X (compareOp .In) (rInSign false) := op_in_sign
theorem op_notInSg : OpR X (compareOp .NotIn) (rInSign true) := op_notIn_sign
end
section
variable {K : PySem.W.Frag} {b : Bool} {σ : L2.St} {G G' H : Hp} {t ta tb te tc : TE} {R R' : SR} {α β γ : Type} {e : α → SR} {f : β → SR}
theorem unlend {G H G2 H2 : Hp} {D : Addr} {o : HO} (g : Go (upd G D o) H G2 H2) (nD : G D = none) (hD : H D = some o) : Go G H (fun a => if a = D then none else G2 a) H2 ∧ H2 D = some o := by
  refine ⟨⟨fun a u e => ?_, g.h, fun a u q e => ?_, fun a u e => ?_, fun a u q e => ?_⟩, g.h _ _ hD⟩
  · have n : a ≠ D := fun z => by rw [z, nD] at e; cases e
    show (if a = D then none else G2 a) = some u
    rw [if_neg n]
    exact g.g a u (by rw [upd_ne n]; exact e)
  · by_cases n : a = D
    · simp only [if_pos n] at e; cases e
    · simp only [if_neg n] at e
      exact g.r0 a u (by rw [upd_ne n]; exact q) e
  · show (if a = D then none else G2 a) = G a
    by_cases n : a = D
    · rw [if_pos n, n, nD]
    · rw [if_neg n, g.n a u e, upd_ne n]
  · by_cases n : a = D
    · simp only [if_pos n] at e; cases e
    · simp only [if_neg n] at e
      exact g.t a u (by rw [upd_ne n]; exact q) e
theorem EvT.lend {tt : TT} {c : Bool} {D : Addr} {o : HO} (h : EvT b tt σ (upd G D o) c) (r : Rel b G H) (nD : G D = none) (hD : H D = some o) {Q : Bool → Hp → Prop} (k : ∀ G2 H2, Go G H G2 H2 → G2 D = none → H2 D = some o → Q c H2) : tt σ H Q :=
  h.run (r.give hD) fun G2 H2 g => by
    obtain ⟨g2, hd⟩ := unlend g nD hD
    exact k _ H2 g2 (if_pos rfl) hd
theorem Ev.lend {c : V} {D : Addr} {o : HO} (h : Ev b te σ (upd G D o) (cst c)) (r : Rel b G H) (nD : G D = none) (hD : H D = some o) {Q : VK} (k : ∀ G2 H2, Go G H G2 H2 → G2 D = none → H2 D = some o → Q c H2) : te σ H Q :=
  h.run (r.give hD) fun u G2 H2 g p => by
    obtain ⟨g2, hd⟩ := unlend g nD hD
    obtain rfl : u = c := p
    exact k _ H2 g2 (if_pos rfl) hd
theorem Go.made {b : Bool} {G H : Hp} (r : Rel b G H) {x dx : Addr} {o u : HO} (nx : H x = none) (ndx : H dx = none) : Go G H G (upd (upd H dx u) x o) :=
  ⟨Same.refl G, (Same.own (Same.own (Same.refl H) ndx) nx), (fun a u q e => by rw [q] at e; cases e), fun _ _ _ => rfl, (fun a u q e => by rw [q] at e; cases e)⟩
end
end Gd
-- part Gd12
set_option Elab.async false
set_option linter.all false
set_option maxRecDepth 100000
set_option maxHeartbeats 2000000
namespace Gd
open PySem PySem.Spec PyProof.Rows L2
open PySem.W (dataLe alike keyToks sortLe sortLe_total toks_eqv TotalLe)
section
variable {α β : Type} {c : α → PyData} [DecidableEq α]
def srt (c : α → PyData) (xs : List α) : List α := xs.mergeSort (dataLe false c)
theorem dle_total (c : α → PyData) : TotalLe (dataLe false c) := sortLe_total _ _ _
theorem dle_antisymm (A : Alk c) (Q : EqE c) {x y : α} (h1 : dataLe false c x y = true) (h2 : dataLe false c y x = true) : x = y := by
  have h1' : (!PyProof.Rows.lexLt itemOrd (keyToks (c y)) (keyToks (c x))) = true := h1
  have h2' : (!PyProof.Rows.lexLt itemOrd (keyToks (c x)) (keyToks (c y))) = true := h2
  rw [Bool.not_eq_true'] at h1' h2'
  have e : keyToks (c x) = keyToks (c y) := (listOrd itemOrd).total _ _ h2' h1'
  have q := Q.eq x y
  cases z : PyData.eqv (c x) (c y) with
  | true => rw [z] at q; exact of_decide_eq_true q.symm
  | false =>
    have t := (toks_eqv (c x) (c y) (A.ak x y)).2 z
    have t1 := t [] [Sum.inl 0]
    rw [e, List.append_nil] at t1
    have i1 : PyProof.Rows.lexLt itemOrd (keyToks (c y)) (keyToks (c y)) = false := (listOrd itemOrd).irrefl _
    rw [i1] at t1
    have t2 := PySem.W.lex_pre (keyToks (c y)) [] [Sum.inl 0]
    rw [List.append_nil, t1] at t2
    exact absurd t2 (by decide)
def Sd (c : α → PyData) (xs : List α) : Prop := xs.Pairwise fun a b => dataLe false c a b = true
theorem srt_sd (c : α → PyData) (xs : List α) : Sd c (srt c xs) := List.pairwise_mergeSort (dle_total c).trans (fun a b => by
  rcases (dle_total c).total a b with h | h <;> simp [h]) xs
theorem srt_perm (c : α → PyData) (xs : List α) : (srt c xs).Perm xs := List.mergeSort_perm _ _
theorem sd_unique (A : Alk c) (Q : EqE c) {xs ys : List α} (h1 : Sd c xs) (h2 : Sd c ys) (p : xs.Perm ys) : xs = ys := List.Perm.eq_of_pairwise (le := fun a b => dataLe false c a b = true) (fun _ _ _ _ h1 h2 => dle_antisymm A Q h1 h2) h1 h2 p
theorem srt_congr (A : Alk c) (Q : EqE c) {xs ys : List α} (p : xs.Perm ys) : srt c xs = srt c ys := sd_unique A Q (srt_sd c xs) (srt_sd c ys) (((srt_perm c xs).trans p).trans (srt_perm c ys).symm)
theorem srt_eq (A : Alk c) (Q : EqE c) {xs ys : List α} (p : xs.Perm ys) (h : Sd c ys) : srt c xs = ys := sd_unique A Q (srt_sd c xs) h ((srt_perm c xs).trans p)
theorem mem_srt {xs : List α} {x : α} : x ∈ srt c xs ↔ x ∈ xs := (srt_perm c xs).mem_iff
theorem srt_len (c : α → PyData) (xs : List α) : (srt c xs).length = xs.length := (srt_perm c xs).length_eq
theorem srt_nodup {xs : List α} : (srt c xs).Nodup ↔ xs.Nodup := (srt_perm c xs).nodup_iff
theorem Sd.sub {xs ys : List α} (h : Sd c ys) (s : List.Sublist xs ys) : Sd c xs := List.Pairwise.sublist s h
end
theorem sortable_S (xs : List Str) : Sortable2 (xs.map PyData.str) := .inr fun d hd => by
  obtain ⟨x, _, rfl⟩ := List.mem_map.mp hd
  exact ⟨fun h => (by cases h), fun _ h => by cases h⟩
theorem sortable_pr {α β : Type} (c : α → PyData) (c' : β → PyData) (xs : List (α × β)) : Sortable2 (xs.map fun p => PyData.tuple [c p.1, c' p.2]) := .inl fun d hd => by
  obtain ⟨x, _, rfl⟩ := List.mem_map.mp hd
  exact ⟨_, rfl⟩
def Fn (K : PySem.W.Frag) (mg : Str → Option Value) (x : Str) (st : Stmt) (ps : List Str) : Prop := ∃ (f : Addr) (fd : FuncData), L2.Fun K x x st f fd ∧ mg x = some (.ref f) ∧ Binds K fd ps []
section
variable {P : Program} {w : World} {K : PySem.W.Frag} {mg : Str → Option Value} {base : Heap}
theorem cal_of {x : Str} {st : Stmt} {N ps : List Str} {k : Nat} {sp : Sp} (F : Fn K mg x st ps) (S : FnScope N ps (defScope st)) (len : ∀ vs H Q E, sp vs H Q E → vs.length = ps.length)
    (hbody : ∀ (f : Addr) (cdv : Value) (A : Around) (outer : List Env) (s : Shared) (H : Hp) (vs : List V) (Q : VK) (E : XK), Room k (A.deeper (envOfC x (defScope st) s.heap.objs.size f cdv)) → sp vs H Q E →
      ∃ t, PSs (cxOf CX0 P w K mg base N x (defScope st) f cdv A outer s H E).nox (defBody st) t ∧ t { nx := fun _ H' => Q .non H', rt := Q } (start N vs) H) : C8.Cal P w K mg base (k + 1) x sp [] := by
  obtain ⟨f, fd, h1, h2, h3⟩ := F
  exact ⟨f, fd, ps, [], h1.ok S len (hbody f), h2, h1.kp, h3, .nil⟩
theorem hu64_of {A : Around} {k : Nat} (hr : Room k A) : A.units + 64 < cLine := by have := hr.un; omega
theorem hu65_of {A : Around} {k : Nat} (hr : Room k A) : A.units + 65 < cLine := by have := hr.un; omega
end
section
variable {K : PySem.W.Frag} {b : Bool} {σ : L2.St} {G G' H : Hp} {t ta tb te tc : TE} {R R' : SR} {α β γ : Type} {e : α → SR} {f : β → SR}
theorem ts_append {i : Nat} {p : Addr} {vs : List V} {D : Ends} (h : Ev b te σ G R) (hv : σ[i]? = some (some (.ref p))) (nG : G p = none) (hp : H p = some (.lst vs)) (hl : vs.length ≤ 100000) (r : Rel b G H)
    (k : ∀ v G2 H2, Go G H G2 H2 → G2 p = none → R.p v G2 → D.nx σ (upd H2 p (.lst (vs ++ [v])))) : tDrop (tBM K "list" rAppend (tVar i) (tCons te tNil)) D σ H := by
  refine ⟨_, hv, .inl ⟨rfl, vs, SqL.of hp⟩, ?_⟩
  show te σ H _
  refine h.run r fun v G2 H2 g pv => ?_
  exact ⟨p, vs, v, rfl, rfl, g.h _ _ hp, Nat.lt_of_le_of_lt hl (by decide), k v G2 H2 g (g.owned hp nG) pv⟩
theorem ts_extend {i : Nat} {p : Addr} {vs : List V} {D : Ends} {xs : List α} (h : EvN b te σ G e xs) (hv : σ[i]? = some (some (.ref p))) (nG : G p = none) (hp : H p = some (.lst vs)) (hl : vs.length + xs.length ≤ 100000) (r : Rel b G H)
    (k : ∀ ws G2 H2, Go G H G2 H2 → G2 p = none → Al e xs ws G2 → D.nx σ (upd H2 p (.lst (vs ++ ws)))) : tDrop (tBM K "list" rExtend (tVar i) (tCons te tNil)) D σ H := by
  refine ⟨_, hv, .inl ⟨rfl, vs, SqL.of hp⟩, ?_⟩
  show te σ H _
  refine h.run r fun q ws G2 H2 g n1 n2 hq lq al => ?_
  exact ⟨p, q, vs, ws, rfl, rfl, g.h _ _ hp, hq, Nat.le_trans (by rw [al.len]; exact hl) (by decide), k ws G2 H2 g (g.owned hp nG) al⟩
structure OwnL (p : Addr) (e : α → SR) (acc : List α) (G H : Hp) (H0 : Hp) : Prop where
  n0 : H0 p = none
  nG : G p = none
  ex : ∃ vs, H p = some (.lst vs) ∧ Al e acc vs G
theorem OwnL.go {p : Addr} {acc : List α} {G H H0 G2 H2 : Hp} (o : OwnL p e acc G H H0) (g : Go G H G2 H2) : OwnL p e acc G2 H2 H0 := by
  obtain ⟨vs, h1, h2⟩ := o.ex
  exact ⟨o.n0, g.owned h1 o.nG, vs, g.h _ _ h1, h2.st g.g⟩
theorem OwnL.push {i : Nat} {p : Addr} {acc : List α} {D : Ends} {G0 H0 : Hp} {a : α} (o : OwnL p e acc G H H0) (h : Ev b te σ G (e a)) (hv : σ[i]? = some (some (.ref p))) (hl : acc.length ≤ 100000) (r : Rel b G H) (g0 : Go G0 H0 G H)
    (k : ∀ G2 H2, Go G0 H0 G2 H2 → Same G G2 → OwnL p e (acc ++ [a]) G2 H2 H0 → D.nx σ H2) : tDrop (tBM K "list" rAppend (tVar i) (tCons te tNil)) D σ H := by
  obtain ⟨vs, h1, h2⟩ := o.ex
  refine ts_append h hv o.nG h1 (by rw [h2.len]; exact hl) r fun v G2 H2 g n pv => ?_
  exact k G2 _ ((g0.trans g).wr o.n0 n) g.g ⟨o.n0, n, vs ++ [v], upd_same, (h2.st g.g).snoc pv⟩
theorem OwnL.ext {i : Nat} {p : Addr} {acc xs : List α} {D : Ends} {G0 H0 : Hp} (o : OwnL p e acc G H H0) (h : EvN b te σ G e xs) (hv : σ[i]? = some (some (.ref p))) (hl : acc.length + xs.length ≤ 100000) (r : Rel b G H) (g0 : Go G0 H0 G H)
    (k : ∀ G2 H2, Go G0 H0 G2 H2 → Same G G2 → OwnL p e (acc ++ xs) G2 H2 H0 → D.nx σ H2) : tDrop (tBM K "list" rExtend (tVar i) (tCons te tNil)) D σ H := by
  obtain ⟨vs, h1, h2⟩ := o.ex
  refine ts_extend h hv o.nG h1 (by rw [h2.len]; exact hl) r fun ws G2 H2 g n al => ?_
  exact k G2 _ ((g0.trans g).wr o.n0 n) g.g ⟨o.n0, n, vs ++ ws, upd_same, (h2.st g.g).app al⟩
theorem EvN.own {xs : List α} (h : EvN b t σ G e xs) (r : Rel b G H) {Q : VK} (k : ∀ p G2 H2, Go G H G2 H2 → OwnL p e xs G2 H2 H → Q (.ref p) H2) : t σ H Q :=
  h.run r fun p vs G2 H2 g n1 n2 hp hl al => k p G2 H2 g ⟨n1, n2, vs, hp, al⟩
theorem OwnL.freeze {p : Addr} {acc : List α} {G H G0 H0 : Hp} (o : OwnL p e acc G H H0) (g0 : Go G0 H0 G H) (hl : acc.length ≤ 100000) : ∃ G2, Go G0 H0 G2 H ∧ Same G G2 ∧ (Lst e acc).p (.ref p) G2 := by
  obtain ⟨vs, h1, h2⟩ := o.ex
  exact ⟨upd G p (.lst vs), g0.give o.n0 o.nG h1, Same.new o.nG, p, vs, rfl, upd_same, by rw [h2.len]; exact Nat.le_trans hl (by decide), h2.st (Same.new o.nG)⟩
theorem OwnL.evT {p : Addr} {acc : List α} {tt : TT} {H0 : Hp} {c : Bool} (o : OwnL p e acc G H H0) (hl : acc.length ≤ 100000) (r : Rel b G H) (h : ∀ G1, Same G G1 → (Lst e acc).p (.ref p) G1 → EvT b tt σ G1 c) {Q : Bool → Hp → Prop} (k : ∀ G2 H2, Go G H G2 H2 → Q c H2) : tt σ H Q := by
  obtain ⟨vs, h1, h2⟩ := o.ex
  exact (h _ (Same.new o.nG) ⟨p, vs, rfl, upd_same, by rw [h2.len]; exact Nat.le_trans hl (by decide), h2.st (Same.new o.nG)⟩).lend r o.nG h1 fun G2 H2 g _ _ => k G2 H2 g
def SqV (K : PySem.W.Frag) : SR := ⟨fun u G => ∃ a vs, u = .ref a ∧ (G a = some (.lst vs) ∨ SqT K G a vs), fun s ⟨a, vs, h1, h2⟩ => ⟨a, vs, h1, h2.elim (fun h => .inl (s _ _ h)) fun h => .inr ((Rel.sq s).seqT h)⟩⟩
theorem sqv_of {xs : List α} {u : V} (h : (Sq K e xs).p u G) : (SqV K).p u G := by
  rcases h with ⟨a, vs, h1, h2, _⟩ | ⟨a, vs, h1, h2, _⟩
  · exact ⟨a, vs, h1, .inl h2⟩
  · exact ⟨a, vs, h1, .inr h2⟩
theorem ev_isiV (ha : Ev b ta σ G (SqV K)) : Ev b (tCB (rIsiT K) (tCons ta (tCons (tTup (tCons (tC (.ty "list")) (tCons (tC (.ty "tuple")) tNil))) tNil))) σ G (B true) := ev_isiLT ha fun v b G H r h => by
  obtain ⟨a, vs, rfl, h | h⟩ := h
  · exact ⟨"list", .base (.lst (r.at h rfl)), lt2_list⟩
  · exact ⟨"tuple", ty_seqT r h, lt2_tuple⟩
end
end Gd
-- part Gd13
set_option Elab.async false
set_option linter.all false
set_option maxRecDepth 100000
set_option maxHeartbeats 2000000
namespace Gd
open PySem PySem.Spec PyProof.Rows L2
section
variable {K : PySem.W.Frag} {b : Bool} {σ : L2.St} {G G' H : Hp} {t ta tb te tc : TE} {R R' : SR} {α β γ : Type} {e : α → SR} {f : β → SR} {D : Ends}
theorem ts_ifT {c : TT} {t u : TS} (h : EvT b c σ G true) (r : Rel b G H) (k : ∀ G2 H2, Go G H G2 H2 → t D σ H2) : tIfS c t u D σ H := h.run r fun G2 H2 g => k G2 H2 g
theorem ts_if {c : TT} {v : Bool} {t u : TS} (h : EvT b c σ G v) (r : Rel b G H) (k1 : v = true → ∀ G2 H2, Go G H G2 H2 → t D σ H2) (k2 : v = false → ∀ G2 H2, Go G H G2 H2 → u D σ H2) : tIfS c t u D σ H := h.run r fun G2 H2 g => by
  cases v with
  | true => exact k1 rfl G2 H2 g
  | false => exact k2 rfl G2 H2 g
theorem ts_ret {nx bk ct : L2.St → Hp → Prop} {Q : VK} (h : Ev b te σ G R) (r : Rel b G H) (k : ∀ u G2 H2, Go G H G2 H2 → R.p u G2 → Q u H2) : tRet te ⟨nx, Q, bk, ct⟩ σ H := h.run r k
theorem ts_retN {nx bk ct : L2.St → Hp → Prop} {Q : VK} {xs : List α} (h : EvN b te σ G e xs) (r : Rel b G H) (k : ∀ p vs G2 H2, Go G H G2 H2 → H p = none → G2 p = none → H2 p = some (.lst vs) → vs.length ≤ sizeLine → Al e xs vs G2 → Q (.ref p) H2) : tRet te ⟨nx, Q, bk, ct⟩ σ H := h.run r k
theorem sp1 {ι : Type} {pre : ι → List SR} {ok : ι → Prop} {post : ι → SR} {vs : List V} {Q : VK} {E : XK} {r1 : ι → SR} (h : spF b pre ok post vs H Q E) (hp : ∀ i, pre i = [r1 i]) : ∃ i G v, vs = [v] ∧ Rel b G H ∧ ok i ∧ (r1 i).p v G ∧ ∀ u G2 H2, Go G H G2 H2 → (post i).p u G2 → Q u H2 := by
  obtain ⟨i, G, r, ok, al, k⟩ := h
  rw [hp] at al
  obtain ⟨v, rfl, p⟩ := alr1 al
  exact ⟨i, G, v, rfl, r, ok, p, k⟩
theorem sp2 {ι : Type} {pre : ι → List SR} {ok : ι → Prop} {post : ι → SR} {vs : List V} {Q : VK} {E : XK} {r1 r2 : ι → SR} (h : spF b pre ok post vs H Q E) (hp : ∀ i, pre i = [r1 i, r2 i]) : ∃ i G v w, vs = [v, w] ∧ Rel b G H ∧ ok i ∧ (r1 i).p v G ∧ (r2 i).p w G ∧ ∀ u G2 H2, Go G H G2 H2 → (post i).p u G2 → Q u H2 := by
  obtain ⟨i, G, r, ok, al, k⟩ := h
  rw [hp] at al
  obtain ⟨v, w, rfl, p, q⟩ := alr2 al
  exact ⟨i, G, v, w, rfl, r, ok, p, q, k⟩
theorem sp3 {ι : Type} {pre : ι → List SR} {ok : ι → Prop} {post : ι → SR} {vs : List V} {Q : VK} {E : XK} {r1 r2 r3 : ι → SR} (h : spF b pre ok post vs H Q E) (hp : ∀ i, pre i = [r1 i, r2 i, r3 i]) : ∃ i G v w z, vs = [v, w, z] ∧ Rel b G H ∧ ok i ∧ (r1 i).p v G ∧ (r2 i).p w G ∧ (r3 i).p z G ∧ ∀ u G2 H2, Go G H G2 H2 → (post i).p u G2 → Q u H2 := by
  obtain ⟨i, G, r, ok, al, k⟩ := h
  rw [hp] at al
  obtain ⟨v, w, z, rfl, p, q, q'⟩ := alr3 al
  exact ⟨i, G, v, w, z, rfl, r, ok, p, q, q', k⟩
end
end Gd
namespace Gd
open PySem PySem.Spec PyProof.Rows L2
section
variable {K : PySem.W.Frag} {b : Bool} {σ : L2.St} {G G' H : Hp} {t ta tb te tc : TE} {R R' : SR} {α β γ : Type} {e : α → SR} {f : β → SR} {D : Ends}
theorem ts_each {wi : TI} {xs : List α} {g : TG} {tb : TS} (P : L2.St → Prop) (hP : P σ) (hi : EvI b wi σ G e xs) (r : Rel b G H)
    (hb : ∀ (i : Nat) (a : α), xs[i]? = some a → ∀ x G' H' σ' (D' : Ends), Same G G' → Rel b G' H' → (e a).p x G' → P σ' → D'.rt = D.rt → (∀ σ2 G2 H2, Go G' H' G2 H2 → P σ2 → D'.nx σ2 H2) → g x σ' H' fun σ2 H2 => tb D' σ2 H2)
    (hd : ∀ σ' G2 H2, Go G H G2 H2 → P σ' → D.nx σ' H2) : tFor wi g tb D σ H := by
  refine hi.run r fun J G2 H2 g2 W => ?_
  refine for_go W (fun i σ' G' H' => Go G H G' H' ∧ Same G2 G' ∧ P σ') ⟨G2, g2, Same.refl _, hP⟩ (fun i σ' G' H' ⟨h1, h2, _⟩ => ⟨h2, h1.r _ r⟩) ?_ ?_
  · rintro i a x σ' G' H' G3 H3 hx ⟨q1, q2, q3⟩ g3 pa
    exact hb i a hx x G3 H3 σ' _ (q1.trans g3).g ((q1.trans g3).r _ r) pa q3 rfl fun σ2 G4 H4 g4 p4 => ⟨G4, (q1.trans g3).trans g4, q2.trans (g3.trans g4).g, p4⟩
  · rintro σ' G' H' ⟨q1, q2, q3⟩
    exact hd σ' G' H' q1 q3
theorem ts_fill {wi : TI} {xs : List α} {g : TG} {tb : TS} {p : Addr} {er : γ → SR} {acc0 : List γ} {G0 H0 : Hp} (step : List γ → α → List γ) (P : L2.St → Prop) (hP : P σ) (o : OwnL p er acc0 G H H0) (g0 : Go G0 H0 G H) (hi : EvI b wi σ G e xs) (r0 : Rel b G0 H0)
    (hb : ∀ (i : Nat) (a : α), xs[i]? = some a → ∀ x G' H' σ' (D' : Ends), Same G G' → Rel b G' H' → (e a).p x G' → P σ' → Go G0 H0 G' H' → OwnL p er ((xs.take i).foldl step acc0) G' H' H0 → D'.rt = D.rt →
      (∀ σ2 G2 H2, Go G0 H0 G2 H2 → Same G' G2 → OwnL p er (step ((xs.take i).foldl step acc0) a) G2 H2 H0 → P σ2 → D'.nx σ2 H2) → g x σ' H' fun σ2 H2 => tb D' σ2 H2)
    (hd : ∀ σ' G2 H2, Go G0 H0 G2 H2 → Same G G2 → OwnL p er (xs.foldl step acc0) G2 H2 H0 → P σ' → D.nx σ' H2) : tFor wi g tb D σ H := by
  have r := g0.r _ r0
  refine hi.run r fun J G2 H2 g2 W => ?_
  refine for_go W (fun i σ' G' H' => Go G0 H0 G' H' ∧ Same G2 G' ∧ OwnL p er ((xs.take i).foldl step acc0) G' H' H0 ∧ P σ') ⟨G2, g0.trans g2, Same.refl _, o.go g2, hP⟩ (fun i σ' G' H' ⟨h1, h2, _⟩ => ⟨h2, h1.r _ r0⟩) ?_ ?_
  · rintro i a x σ' G' H' G3 H3 hx ⟨q1, q2, q4, q3⟩ g3 pa
    refine hb i a hx x G3 H3 σ' _ (g2.g.trans (q2.trans g3.g)) ((q1.trans g3).r _ r0) pa q3 (q1.trans g3) (q4.go g3) rfl fun σ2 G4 H4 g4 s4 o4 p4 => ⟨G4, g4, q2.trans (g3.g.trans s4), ?_, p4⟩
    rw [take_succ hx, List.foldl_append]
    exact o4
  · rintro σ' G' H' ⟨q1, q2, q4, q3⟩
    rw [List.take_length] at q4
    exact hd σ' G' H' q1 (g2.g.trans q2) q4 q3
end
end Gd
namespace Gd
open PySem PySem.Spec PyProof.Rows L2
section
variable {K : PySem.W.Frag} {b : Bool} {σ : L2.St} {G G' H : Hp} {t ta tb te tc : TE} {R R' : SR} {α β γ : Type} {e : α → SR} {f : β → SR} {D : Ends} {u : TS}
theorem ts_ifFN {c : TT} {t : TS} (h : EvT b c σ G false) (r : Rel b G H) (k : ∀ G2 H2, Go G H G2 H2 → D.nx σ H2) : tIfS c t tNext D σ H := h.run r fun G2 H2 g => k G2 H2 g
theorem tq_ifF {c : TT} {t : TS} (h : EvT b c σ G false) (r : Rel b G H) (k : ∀ G2 H2, Go G H G2 H2 → u D σ H2) : tSeq (tIfS c t tNext) u D σ H := h.run r fun G2 H2 g => k G2 H2 g
theorem tq_if {c : TT} {v : Bool} {t t2 : TS} (h : EvT b c σ G v) (r : Rel b G H) (k1 : v = true → ∀ G2 H2, Go G H G2 H2 → t { D with nx := u D } σ H2) (k2 : v = false → ∀ G2 H2, Go G H G2 H2 → t2 { D with nx := u D } σ H2) : tSeq (tIfS c t t2) u D σ H := ts_if h r k1 k2
theorem tq_set {i : Nat} (h : Ev b te σ G R) (r : Rel b G H) (k : ∀ v G2 H2, Go G H G2 H2 → R.p v G2 → u D (σ.set i (some v)) H2) : tSeq (tAsg te (gName i)) u D σ H := h.run r k
theorem tq_setN {i : Nat} {xs : List α} (h : EvN b te σ G e xs) (r : Rel b G H) (k : ∀ p G2 H2, Go G H G2 H2 → OwnL p e xs G2 H2 H → u D (σ.set i (some (.ref p))) H2) : tSeq (tAsg te (gName i)) u D σ H := EvN.own h r k
theorem tq_each {wi : TI} {xs : List α} {g : TG} {tb : TS} (P : L2.St → Prop) (hP : P σ) (hi : EvI b wi σ G e xs) (r : Rel b G H)
    (hb : ∀ (i : Nat) (a : α), xs[i]? = some a → ∀ x G' H' σ' (D' : Ends), Same G G' → Rel b G' H' → (e a).p x G' → P σ' → D'.rt = D.rt → (∀ σ2 G2 H2, Go G' H' G2 H2 → P σ2 → D'.nx σ2 H2) → g x σ' H' fun σ2 H2 => tb D' σ2 H2)
    (hd : ∀ σ' G2 H2, Go G H G2 H2 → P σ' → u D σ' H2) : tSeq (tFor wi g tb) u D σ H := ts_each (D := { D with nx := u D }) P hP hi r hb hd
theorem tq_fill {wi : TI} {xs : List α} {g : TG} {tb : TS} {p : Addr} {er : γ → SR} {acc0 : List γ} {G0 H0 : Hp} (step : List γ → α → List γ) (P : L2.St → Prop) (hP : P σ) (o : OwnL p er acc0 G H H0) (g0 : Go G0 H0 G H) (hi : EvI b wi σ G e xs) (r0 : Rel b G0 H0)
    (hb : ∀ (i : Nat) (a : α), xs[i]? = some a → ∀ x G' H' σ' (D' : Ends), Same G G' → Rel b G' H' → (e a).p x G' → P σ' → Go G0 H0 G' H' → OwnL p er ((xs.take i).foldl step acc0) G' H' H0 → D'.rt = D.rt →
      (∀ σ2 G2 H2, Go G0 H0 G2 H2 → Same G' G2 → OwnL p er (step ((xs.take i).foldl step acc0) a) G2 H2 H0 → P σ2 → D'.nx σ2 H2) → g x σ' H' fun σ2 H2 => tb D' σ2 H2)
    (hd : ∀ σ' G2 H2, Go G0 H0 G2 H2 → Same G G2 → OwnL p er (xs.foldl step acc0) G2 H2 H0 → P σ' → u D σ' H2) : tSeq (tFor wi g tb) u D σ H := ts_fill (D := { D with nx := u D }) step P hP o g0 hi r0 hb hd
end
end Gd
namespace Gd
open PySem PySem.Spec PyProof.Rows L2
section
variable {K : PySem.W.Frag} {b : Bool} {σ : L2.St} {G G' H : Hp} {t ta tb te tc : TE} {R R' : SR} {α β γ : Type} {e : α → SR} {f : β → SR} {D : Ends} {u : TS}
def ExR (P : α → Prop) (e : α → SR) : SR := ⟨fun u G => ∃ a, P a ∧ (e a).p u G, fun s ⟨a, h1, h2⟩ => ⟨a, h1, (e a).st s h2⟩⟩
structure OwnK (p : Addr) (ks : List Str) (G H H0 : Hp) : Prop where
  n0 : H0 p = none
  nG : G p = none
  ex : ∃ kvs, H p = some (.dK kvs) ∧ kvs.map (·.1) = ks.map Sum.inr
theorem OwnK.go {p : Addr} {ks : List Str} {G H H0 G2 H2 : Hp} (o : OwnK p ks G H H0) (g : Go G H G2 H2) : OwnK p ks G2 H2 H0 := by
  obtain ⟨vs, h1, h2⟩ := o.ex
  exact ⟨o.n0, g.owned h1 o.nG, vs, g.h _ _ h1, h2⟩
theorem OwnK.evT {p : Addr} {ks : List Str} {tt : TT} {H0 : Hp} {c : Bool} (o : OwnK p ks G H H0) (hl : ks.length ≤ 100000) (r : Rel b G H) (h : ∀ G1, Same G G1 → (Ks ks).p (.ref p) G1 → EvT b tt σ G1 c) {Q : Bool → Hp → Prop} (k : ∀ G2 H2, Go G H G2 H2 → Q c H2) : tt σ H Q := by
  obtain ⟨vs, h1, h2⟩ := o.ex
  have hl2 : vs.length = ks.length := by
    have := congrArg List.length h2
    simpa using this
  exact (h _ (Same.new o.nG) ⟨p, vs, rfl, upd_same, by rw [hl2]; exact Nat.le_trans hl (by decide), h2⟩).lend r o.nG h1 fun G2 H2 g _ _ => k G2 H2 g
theorem OwnK.freeze {p : Addr} {ks : List Str} {G H G0 H0 : Hp} (o : OwnK p ks G H H0) (g0 : Go G0 H0 G H) (hl : ks.length ≤ 100000) : ∃ G2, Go G0 H0 G2 H ∧ Same G G2 ∧ (Ks ks).p (.ref p) G2 := by
  obtain ⟨vs, h1, h2⟩ := o.ex
  have hl2 : vs.length = ks.length := by
    have := congrArg List.length h2
    simpa using this
  exact ⟨upd G p (.dK vs), g0.give o.n0 o.nG h1, Same.new o.nG, p, vs, rfl, upd_same, by rw [hl2]; exact Nat.le_trans hl (by decide), h2⟩
theorem OwnK.put {p : Addr} {ks : List Str} {G H G0 H0 : Hp} {k : Str} {v : V} (o : OwnK p ks G H H0) (g0 : Go G0 H0 G H) (hl : ks.length ≤ 100000) (hk : k ∉ ks) : ∃ H2, DPut H p (.str k) v H2 ∧ Go G0 H0 G H2 ∧ OwnK p (ks ++ [k]) G H2 H0 := by
  obtain ⟨vs, h1, h2⟩ := o.ex
  have hl2 : vs.length = ks.length := by
    have := congrArg List.length h2
    simpa using this
  have hn : (Sum.inr k : Key) ∉ vs.map (·.1) := by
    rw [h2]
    intro q
    obtain ⟨x, hx, e⟩ := List.mem_map.mp q
    exact hk (Sum.inr.inj e ▸ hx)
  refine ⟨_, DPut.k (k := Sum.inr k) h1 (by rw [hl2]; exact Nat.lt_of_le_of_lt hl (by decide)), g0.wr o.n0 o.nG, o.n0, o.nG, _, upd_same, ?_⟩
  rw [putK_new _ (valV_none hn), List.map_append, h2, List.map_append]
  rfl
end
end Gd
-- part Gd14
set_option Elab.async false
set_option linter.all false
set_option maxRecDepth 100000
set_option maxHeartbeats 2000000
namespace Gd
open PySem PySem.Spec PyProof.Rows L2
section
variable {X : Cx} {K : PySem.W.Frag}
theorem nodup_take {α : Type} {xs : List α} (nd : xs.Nodup) {i : Nat} {x : α} (h : xs[i]? = some x) : x ∉ xs.take i := by
  intro hm
  have nd2 := nd
  rw [← List.take_append_drop i xs] at nd2
  refine (List.nodup_append.mp nd2).2.2 _ hm x ?_ rfl
  obtain ⟨hi, e⟩ := List.getElem?_eq_some_iff.mp h
  rw [List.drop_eq_getElem_cons hi, e]
  exact List.mem_cons_self ..
theorem op_inK  (hK : X.K = K := by rfl) : OpR X (compareOp .In) (rIn K false) := by
  subst hK
  exact op_in_seq
theorem op_notInK  (hK : X.K = K := by rfl) : OpR X (compareOp .NotIn) (rIn K true) := by
  subst hK
  exact op_notIn_seq
theorem op_notInDK (hu : X.A.units + 65 < cLine) (hK : X.K = K := by rfl) : OpR X (compareOp .NotIn) (rNotInD K) := by
  subst hK
  exact op_notInD hu
theorem op_eqDK (hu : X.A.units + 64 < cLine) (hK : X.K = K := by rfl) : OpR X (compareOp .Eq) (rEqD K) := by
  subst hK
  exact op_eqD hu
theorem op_neDK (hu : X.A.units + 64 < cLine) (hK : X.K = K := by rfl) : OpR X (compareOp .NotEq) (rNeD K) := by
  subst hK
  exact op_neD hu
theorem op_catK  (hK : X.K = K := by rfl) : OpR X (binaryOp .Add) (rCatA K) := by
  subst hK
  exact op_catA
theorem sl_qK (hK : X.K = K := by rfl) : SlR X (rSlA2 K) := by
  subst hK
  exact sl_qA
theorem sl_lK (hK : X.K = K := by rfl) : SlR X (rSlL K) := by
  subst hK
  exact sl_list
theorem ix_K (hK : X.K = K := by rfl) : IxR X (rIx K) := by
  subst hK
  exact ix_seq
theorem call_isiKK  (hK : X.K = K := by rfl) : CallR X (.builtin "isinstance") (rIsi K) := by
  subst hK
  exact call_isi
theorem call_isiTK  (hK : X.K = K := by rfl) : CallR X (.builtin "isinstance") (rIsiT K) := by
  subst hK
  exact call_isiT
theorem call_lenK  (hK : X.K = K := by rfl) : CallR X (.builtin "len") (rLen K) := by
  subst hK
  exact call_len_seq
theorem call_allK (hc : X.calm = true) (hK : X.K = K := by rfl) : CallR X (.builtin "all") (rAll K) := by
  subst hK
  exact cr_all hc
theorem call_anyK (hc : X.calm = true) (hK : X.K = K := by rfl) : CallR X (.builtin "any") (rAny K) := by
  subst hK
  exact cr_any hc
theorem call_srtK (hu : X.A.units + 64 < cLine) (hK : X.K = K := by rfl) : CallR X (.builtin "sorted") (rSrt K) := by
  subst hK
  exact cr_srt hu
theorem call_listK  (hK : X.K = K := by rfl) : CallR X (.type "list") (rListOf K) := by
  subst hK
  exact call_list_of
theorem call_tupK  (hK : X.K = K := by rfl) : CallR X (.type "tuple") (rTupOf K) := by
  subst hK
  exact call_tuple_of
variable {tg l e e2 o value : Expr} {tl te ta tv : TE} {t : TA} {p pos tpos apos cpos pos' p2 pos2 : Pos} {elts es : List Expr} {kk n : Nat} {tg' : TGs} {f name : Str} {T id : String} {r : V → List V → Hp → VK → Prop}
theorem pi_seqK (hl : PE X l tl) (hK : X.K = K := by rfl) : PI X tg l (iSeq K tl) := by
  subst hK
  exact pi_seq hl
theorem pi_enumK (hg : Gl X "enumerate") (hm : X.mg "enumerate" = none) (ha : PA X [e] t) (hs : starEach [e] X.env = [(false, eval e X.env)] := by rfl) (hK : X.K = K := by rfl) : PI X (.Tuple elts kk tpos) (.Call (.Name "enumerate" p) [e] [] pos) (iEnumA K t) := by
  subst hK
  exact pi_enumA hg hm ha hs
theorem pi_zipK (hg : Gl X "zip") (hm : X.mg "zip" = none) (ha : PA X [e, e2] t) (hs : starEach [e, e2] X.env = (false, eval e X.env) :: starEach [e2] X.env := by rfl) (hpl : (backTo pos (starEach [e2] X.env)).any (·.1) = false := by rfl) (hK : X.K = K := by rfl) : PI X (.Tuple elts kk tpos) (.Call (.Name "zip" p) [e, e2] [] pos) (RZ.iZipA K t) := by
  subst hK
  exact RZ.pi_zipA hg hm ha hs hpl
theorem pg_tupK (hc : X.calm = true) (h : PGs X es tg') (hn : (assignEach es X.env).length = n := by rfl) (hst : (assignEach es X.env).findIdx? (·.1) = none := by rfl) (hK : X.K = K := by rfl) : PG X (.Tuple es kk pos) (gTup K n tg') := by
  subst hK
  exact pg_tup hc h hn hst
theorem pe_fldK (he : PE X e ta) (hb : attributeBase e f X.env (eval e X.env) = eval e X.env) (hK : X.K = K := by rfl) : PE X (.Attribute e f pos) (tFld K ta f) := by
  subst hK
  exact pe_fld he hb
theorem ps_fldK (ha : PE X o ta) (hv : PE X value tv) (hs : swapsWith value (some (.Attribute o f pos')) pos.line X.env = pure false) (hK : X.K = K := by rfl) : PS X (.Assign [.Attribute o f pos'] value pos) (sFld K ta tv f) := by
  subst hK
  exact ps_fld ha hv hs
theorem pe_bmK (pa : PlainAttrs T) (slot : Slot T name id) (hty : typeOf (.builtin id) = pure (.type "method_descriptor")) (hm : MtR X id r) (ho : PE X o ta) (ha : PA X (e :: es) t)
    (hbase : attributeBase o name X.env (eval o X.env) = eval o X.env := by rfl)
    (hfew : ((backTo cpos (starEach (e :: es) X.env)).all (fun x => !x.1) && (backToKw cpos (keywordEach [] X.env)).all (fun x => x.1.isSome)
      && decide ((e :: es).length + ([] : List Keyword).length + (if ([] : List Keyword).isEmpty then 0 else 1) < 30)) = true := by rfl)
    (hline : (apos.endLine == cpos.line) = true := by rfl) (hs : starEach (e :: es) X.env = (false, eval e X.env) :: starEach es X.env := by rfl) (hplain : (backTo cpos (starEach es X.env)).any (·.1) = false := by rfl) (hK : X.K = K := by rfl) : PE X (.Call (.Attribute o name apos) (e :: es) [] cpos) (tBM K T r ta t) := by
  subst hK
  exact pe_bm pa slot hty hm ho ha hbase hfew hline hs hplain
end
end Gd
-- part Gd15
set_option Elab.async false
set_option linter.all false
set_option maxRecDepth 100000
set_option maxHeartbeats 2000000
-- part Gd16
set_option Elab.async false
set_option linter.all false
set_option maxRecDepth 100000
set_option maxHeartbeats 1000000
namespace Gd
open PySem PySem.Spec PyProof.Rows L2
universe u
structure GoS (s c : Addr) (G H G2 H2 : Hp) : Prop where
  g : Same G G2
  h : ∀ a o, a ≠ s → a ≠ c → H a = some o → H2 a = some o
  r0 : ∀ a o, G a = none → G2 a = some o → H2 a = some o
  n : ∀ a o, H a = some o → G2 a = G a
  t : ∀ a o, G a = none → G2 a = some o → isTb o = false
structure Dr (s c : Addr) (n : Nat) (G H : Hp) : Prop where
  ne : s ≠ c
  gs : G s = none
  gc : G c = none
  ex : ∃ (cells : List Int) (a m : Int) (cnt : Nat), H s = some (.lst [.ref c, .int a, .int cnt, .int m]) ∧ H c = some (.lst (cells.map V.int)) ∧ 0 ≤ a ∧ cnt ≤ n ∧ 0 ≤ m ∧ m < 2147483647 ∧ cells.length ≤ 63
section
variable {s c : Addr} {G H G2 H2 G3 H3 : Hp}
theorem Go.st (k : Go G H G2 H2) : GoS s c G H G2 H2 := ⟨k.g, fun a o _ _ e => k.h a o e, k.r0, k.n, k.t⟩
theorem Dr.hs {n : Nat} (d : Dr s c n G H) : ∃ o, H s = some o := by obtain ⟨_, _, _, _, h, _⟩ := d.ex; exact ⟨_, h⟩
theorem Dr.hc {n : Nat} (d : Dr s c n G H) : ∃ o, H c = some o := by obtain ⟨_, _, _, _, _, h, _⟩ := d.ex; exact ⟨_, h⟩
theorem Dr.le {n m : Nat} (d : Dr s c n G H) (h : n ≤ m) : Dr s c m G H := by
  obtain ⟨h1, h2, h3, cells, a, mm, cnt, e1, e2, e3, e4, e5⟩ := d
  exact ⟨h1, h2, h3, cells, a, mm, cnt, e1, e2, e3, Nat.le_trans e4 h, e5⟩
theorem Dr.go {n : Nat} (d : Dr s c n G H) (g : Go G H G2 H2) : Dr s c n G2 H2 := by
  obtain ⟨h1, h2, h3, cells, a, mm, cnt, e1, e2, e⟩ := d
  exact ⟨h1, g.owned e1 h2, g.owned e2 h3, cells, a, mm, cnt, g.h _ _ e1, g.h _ _ e2, e⟩
theorem GoS.r (k : GoS s c G H G2 H2) (hs : G s = none) (hc : G c = none) (b : Bool) (r : Rel b G H) : Rel b G2 H2 := fun a o e => by
  cases q : G a with
  | none => exact .inl (k.r0 a o q e)
  | some u =>
    have ns : a ≠ s := fun z => by rw [z, hs] at q; cases q
    have nc : a ≠ c := fun z => by rw [z, hc] at q; cases q
    have e2 := k.g a u q
    rw [e] at e2
    cases e2
    rcases r a o q with h | ⟨h1, h2, ob, h⟩
    · exact .inl (k.h _ _ ns nc h)
    · exact .inr ⟨h1, h2, ob, k.h _ _ ns nc h⟩
theorem GoS.trans (a : GoS s c G H G2 H2) (b : GoS s c G2 H2 G3 H3) (ds : ∃ o, H s = some o) (dc : ∃ o, H c = some o) (d2 : ∃ o, H2 s = some o) (d3 : ∃ o, H2 c = some o) (gs : G s = none) (gc : G c = none) : GoS s c G H G3 H3 := by
  refine ⟨a.g.trans b.g, fun x o n1 n2 e => b.h _ _ n1 n2 (a.h _ _ n1 n2 e), fun x o q e => ?_, fun x o e => ?_, fun x o q e => ?_⟩
  · cases z : G2 x with
    | none => exact b.r0 x o z e
    | some u =>
      have e2 := b.g x u z
      rw [e] at e2
      cases e2
      have n1 : x ≠ s := fun w => by
        obtain ⟨o', ho⟩ := ds
        rw [w, a.n s o' ho, gs] at z
        cases z
      have n2 : x ≠ c := fun w => by
        obtain ⟨o', ho⟩ := dc
        rw [w, a.n c o' ho, gc] at z
        cases z
      exact b.h _ _ n1 n2 (a.r0 x o q z)
  · by_cases n1 : x = s
    · subst n1
      obtain ⟨o', ho⟩ := d2
      rw [b.n _ _ ho, a.n x o e]
    · by_cases n2 : x = c
      · subst n2
        obtain ⟨o', ho⟩ := d3
        rw [b.n _ _ ho, a.n x o e]
      · rw [b.n x o (a.h _ _ n1 n2 e), a.n x o e]
  · cases z : G2 x with
    | none => exact b.t x o z e
    | some u =>
      have e2 := b.g x u z
      rw [e] at e2
      cases e2
      exact a.t x o q z
theorem GoS.refl (G H : Hp) : GoS s c G H G H := (Go.refl G H).st
theorem GoS.tr {n m : Nat} (a : GoS s c G H G2 H2) (b : GoS s c G2 H2 G3 H3) (d : Dr s c n G H) (d2 : Dr s c m G2 H2) : GoS s c G H G3 H3 := a.trans b d.hs d.hc d2.hs d2.hc d.gs d.gc
theorem GoS.putS (a : GoS s c G H G2 H2) (gs : G2 s = none) {o : HO} : GoS s c G H G2 (upd H2 s o) :=
  ⟨a.g, fun x u n1 n2 e => by rw [upd_ne n1]; exact a.h _ _ n1 n2 e, fun x u q e => by
    have n1 : x ≠ s := fun w => by rw [w, gs] at e; cases e
    rw [upd_ne n1]; exact a.r0 x u q e, a.n, a.t⟩
theorem GoS.putC (a : GoS s c G H G2 H2) (gc : G2 c = none) {o : HO} : GoS s c G H G2 (upd H2 c o) :=
  ⟨a.g, fun x u n1 n2 e => by rw [upd_ne n2]; exact a.h _ _ n1 n2 e, fun x u q e => by
    have n1 : x ≠ c := fun w => by rw [w, gc] at e; cases e
    rw [upd_ne n1]; exact a.r0 x u q e, a.n, a.t⟩
theorem GoS.own {α : Type} {e : α → SR} {acc : List α} {p : Addr} {H0 : Hp} (g : GoS s c G H G2 H2) (o : OwnL p e acc G H H0) (n1 : p ≠ s) (n2 : p ≠ c) : OwnL p e acc G2 H2 H0 := by
  obtain ⟨vs, h1, h2⟩ := o.ex
  exact ⟨o.n0, (g.n _ _ h1).trans o.nG, vs, g.h _ _ n1 n2 h1, h2.st g.g⟩
theorem GoS.wr (a : GoS s c G H G2 H2) {p : Addr} {o : HO} (n : H p = none) (n2 : G2 p = none) : GoS s c G H G2 (upd H2 p o) :=
  ⟨a.g, fun x u n1 n2 e => by rw [upd_ne (ne_of_none e n)]; exact a.h _ _ n1 n2 e, fun x u q e => by rw [upd_ne (ne_of_none e n2)]; exact a.r0 x u q e, a.n, a.t⟩
theorem GoS.give (a : GoS s c G H G2 H2) {p : Addr} {o : HO} (n : H p = none) (n2 : G2 p = none) (h : H2 p = some o) (ho : isTb o = false := by rfl) : GoS s c G H (upd G2 p o) H2 :=
  ⟨Same.own a.g (by
      cases q : G p with
      | none => rfl
      | some u => rw [a.g p u q] at n2; cases n2), a.h, fun x u q e => by
      by_cases z : x = p
      · subst z; rw [upd_same] at e; rw [h]; exact e
      · rw [upd_ne z] at e; exact a.r0 x u q e, fun x u e => by
      rw [upd_ne (ne_of_none e n)]
      exact a.n x u e, fun x u q e => by
      by_cases z : x = p
      · subst z; rw [upd_same] at e; cases e; exact ho
      · rw [upd_ne z] at e; exact a.t x u q e⟩
theorem Dr.wr {n : Nat} (d : Dr s c n G H) {p : Addr} {o : HO} (n1 : p ≠ s) (n2 : p ≠ c) : Dr s c n G (upd H p o) := by
  obtain ⟨h1, h2, h3, cells, a, mm, cnt, e1, e2, e⟩ := d
  exact ⟨h1, h2, h3, cells, a, mm, cnt, by rw [upd_ne n1.symm]; exact e1, by rw [upd_ne n2.symm]; exact e2, e⟩
theorem Dr.give {n : Nat} (d : Dr s c n G H) {p : Addr} {o : HO} (n1 : p ≠ s) (n2 : p ≠ c) : Dr s c n (upd G p o) H := by
  obtain ⟨h1, h2, h3, e⟩ := d
  exact ⟨h1, by rw [upd_ne n1.symm]; exact h2, by rw [upd_ne n2.symm]; exact h3, e⟩
end
def EvD (s c : Addr) (k : Nat) (t : TE) (σ : L2.St) (G : Hp) (R : SR) : Prop := ∀ G1 H1 n, Same G G1 → Rel true G1 H1 → Dr s c n G1 H1 → n + k ≤ 1000000 → ∀ Q : VK, (∀ v G2 H2, GoS s c G1 H1 G2 H2 → Dr s c (n + k) G2 H2 → Rel true G2 H2 → R.p v G2 → Q v H2) → t σ H1 Q
def spD {ι : Type u} (pre : ι → List SR) (ok : ι → Prop) (cost : ι → Nat) (post : ι → SR) : Sp := fun vs H Q _ => ∃ i G s c n rest, vs = .ref s :: rest ∧ Rel true G H ∧ Dr s c n G H ∧ n + cost i ≤ 1000000 ∧ ok i ∧ AlR (pre i) rest G ∧
  ∀ v G2 H2, GoS s c G H G2 H2 → Dr s c (n + cost i) G2 H2 → Rel true G2 H2 → (post i).p v G2 → Q v H2
section
variable {s c : Addr} {k m : Nat} {σ : L2.St} {G G' H : Hp} {t ta tb te : TE} {R R' : SR} {α β : Type} {e : α → SR}
theorem EvD.run {n : Nat} (h : EvD s c k t σ G R) (r : Rel true G H) (d : Dr s c n G H) (hn : n + k ≤ 1000000) {Q : VK} (q : ∀ v G2 H2, GoS s c G H G2 H2 → Dr s c (n + k) G2 H2 → Rel true G2 H2 → R.p v G2 → Q v H2) : t σ H Q := h G H n (Same.refl G) r d hn Q q
theorem EvD.mono (s1 : Same G G') (h : EvD s c k t σ G R) : EvD s c k t σ G' R := fun G1 H1 n a r d hn Q q => h G1 H1 n (s1.trans a) r d hn Q q
theorem EvD.is (h : EvD s c k t σ G R) (q : ∀ u G2, Same G G2 → R.p u G2 → R'.p u G2) : EvD s c k t σ G R' := fun G1 H1 n a r d hn Q q' => h G1 H1 n a r d hn Q fun v G2 H2 g d2 r2 p => q' v G2 H2 g d2 r2 (q v G2 (a.trans g.g) p)
theorem EvD.le (h : EvD s c k t σ G R) (hk : k ≤ m) : EvD s c m t σ G R := fun G1 H1 n a r d hn Q q => h G1 H1 n a r d (by omega) Q fun v G2 H2 g d2 r2 p => q v G2 H2 g (d2.le (by omega)) r2 p
theorem ed_call {ι : Type u} {pre : ι → List SR} {ok : ι → Prop} {cost : ι → Nat} {post : ι → SR} {E : XK} {j : Nat} {ta : TA} (i : ι) (hs : σ[j]? = some (some (.ref s))) (ha : EvA true ta σ G (pre i)) (hok : ok i) : EvD s c (cost i) (tCall (spD pre ok cost post) [] E (tCons (tVar j) ta)) σ G (post i) := fun G1 H1 n a r d hn Q q =>
  ⟨_, hs, ha G1 H1 a r _ fun vs G2 H2 g al => ⟨i, G2, s, c, n, vs, by rw [List.append_nil], g.r _ r, d.go g, hn, hok, al, fun v G3 H3 g' d3 r3 p => q v G3 H3 (g.st.tr g' d (d.go g)) d3 r3 p⟩⟩
end
end Gd
-- part Gd17
set_option Elab.async false
set_option linter.all false
set_option maxRecDepth 100000
set_option maxHeartbeats 1000000
namespace Gd
open PySem PySem.Spec PyProof.Rows L2
section
variable {K : PySem.W.Frag} {s c : Addr} {k m : Nat} {σ : L2.St} {G G' H : Hp} {t ta tb te : TE} {R R' : SR} {α β : Type} {e : α → SR}
theorem ed_map {wi : TI} {xs : List α} {g : TG} {vs : List Nat} {er : β → SR} {fn : α → β} (hi : EvI true wi σ G e xs)
    (hb : ∀ a, a ∈ xs → ∀ x G', Same G G' → (e a).p x G' → ∃ σ', GTo true g x (wipe σ vs) G' σ' ∧ wipe σ' vs = wipe σ vs ∧ EvD s c m te σ' G' (er (fn a))) :
    EvD s c (xs.length * m) (tLc wi g tYes te vs) σ G (Lst er (xs.map fn)) := fun G1 H1 n a r d hn Q q => by
  refine hi G1 H1 a r _ fun J G2 H2 g2 W D hD => ?_
  have rel := g2.r _ r
  have d2 := d.go g2
  have nDs : D ≠ s := fun z => by obtain ⟨o, h⟩ := d2.hs; rw [← z, hD] at h; cases h
  have nDc : D ≠ c := fun z => by obtain ⟨o, h⟩ := d2.hc; rw [← z, hD] at h; cases h
  have hDG : G2 D = none := rel.free hD
  have hD1 : H1 D = none := g2.free hD
  refine ⟨fun i z H => z = xs.length - i ∧ i ≤ xs.length ∧ ∃ G' acc, GoS s c G1 H1 G' H ∧ Same G2 G' ∧ Dr s c (n + i * m) G' H ∧ Rel true G' H ∧ G' D = none ∧ H D = some (.lst acc) ∧ Al er ((xs.take i).map fn) acc G',
    ⟨xs.length, rfl, Nat.zero_le _, G2, [], (g2.trans (Go.own rel hD)).st, Same.refl _, by rw [Nat.zero_mul]; exact d2.wr nDs nDc, rel.own hDG, hDG, upd_same, by simp; exact .nil⟩, ?_⟩
  rintro i z H ⟨rfl, hi2, G', acc, gq, sq, dq, rq, nD, hk, al⟩
  have hal : acc.length = i := by
    rw [al.len, List.length_map, List.length_take]; omega
  by_cases hlt : i < xs.length
  · refine .inr ⟨W.goes i G' H hlt sq rq trivial, fun H' => ∃ G' acc, GoS s c G1 H1 G' H' ∧ Same G2 G' ∧ Dr s c (n + (i + 1) * m) G' H' ∧ Rel true G' H' ∧ G' D = none ∧ H' D = some (.lst acc) ∧ Al er ((xs.take (i + 1)).map fn) acc G', fun H' h' => ⟨xs.length - (i + 1), by omega, rfl, hlt, h'⟩, fun x H' y => ?_⟩
    have hxi : xs[i]? = some xs[i] := List.getElem?_eq_getElem hlt
    obtain ⟨G4, g4, pa⟩ := W.yields i xs[i] G' H x H' hxi sq rq trivial y
    obtain ⟨σ', h1, h2, h3⟩ := hb xs[i] (List.getElem_mem hlt) x G4 (((a.trans g2.g).trans sq).trans g4.g) pa
    have r4 := g4.r _ rq
    have d4 := dq.go g4
    refine h1 H' r4 _ ⟨h2, ?_⟩
    show te σ' H' _
    have hm1 : (i + 1) * m ≤ xs.length * m := Nat.mul_le_mul_right m hlt
    have hm2 : (i + 1) * m = i * m + m := by rw [Nat.add_mul, Nat.one_mul]
    refine h3.run r4 d4 (by omega) fun u G5 H5 g5 d5 r5 pu => ?_
    have hD5 : H5 D = some (.lst acc) := g5.h _ _ nDs nDc (g4.h _ _ hk)
    have nD5 : G5 D = none := (g5.n _ _ (g4.h _ _ hk)).trans (g4.owned hk nD)
    have gA := (gq.tr g4.st d dq).tr g5 d d4
    refine ⟨acc, hD5, ?_, G5, acc ++ [u], gA.wr hD1 nD5, (sq.trans g4.g).trans g5.g, (d5.wr nDs nDc).le (by omega), r5.own nD5, nD5, upd_same, ?_⟩
    · have := W.len
      omega
    · rw [take_succ hxi, List.map_append]
      exact (al.st (g4.g.trans g5.g)).snoc pu
  · have e0 : i = xs.length := by omega
    subst e0
    rw [List.take_length] at al
    have hz := W.len
    exact .inl ⟨W.stops G' H sq rq trivial, q (.ref D) (upd G' D (.lst acc)) H (gq.give hD1 nD hk) (dq.give nDs nDc) (rq.give hk) ⟨D, acc, rfl, upd_same, by omega, al.st (Same.new nD)⟩⟩
end
end Gd
-- part Gd18
set_option Elab.async false
set_option linter.all false
set_option maxRecDepth 100000
set_option maxHeartbeats 1000000
-- part Gd20
set_option Elab.async false
set_option linter.all false
set_option maxRecDepth 100000
set_option maxHeartbeats 1000000
namespace Gd
open PySem PySem.Spec PyProof.Rows L2
universe u
def sp_exI (C : Addr) (f : Str) : Sp := fun vs H Q _ => ∃ a y, vs = [.ref a, y] ∧ OneEx C f a y H Q
where OneEx (C : Addr) (f : Str) (a : Addr) (y : V) (H : Hp) (Q : VK) : Prop := H a = some (exo a C none) ∧ ∀ dx, H dx = none → dx ≠ a → Q .non (upd (upd H dx (exd dx [(f, y)])) a (exo a C (some dx)))
structure ExC (P : Program) (w : World) (K : PySem.W.Frag) (mg : Str → Option Value) (base : Heap) (x : Str) (C : Addr) (f : Str) : Prop where
  gC : mg x = some (.ref C)
  oex : OexC K C
  xf : XfC K C
  noF : PySem.W.findIn K (.ref C) f = some none
  te : PySem.W.exmOne K (.ref C) (.ref C) = some true
  ini : ∃ fI fd, PySem.W.findIn K (.ref C) "__init__" = some (some (.ref fI)) ∧ PySem.W.typeIn K (.ref fI) = some (.type "function") ∧ FnOk P w K mg base C8.CX0 1 fI fd ["self", f] (sp_exI C f) ∧ Binds K fd ["self", f] []
section
variable {X : Cx} {x f : Str} {C : Addr} {e : Expr} {ta : TA} {p pos : Pos} {j : Nat}
theorem pmk_exc (E : ExC X.prog X.w X.K X.mg X.base x C f) (hr : Room j X.A) (hj : 2 ≤ j) (hg : Gl X x) (ha : PA X [e] ta) (hdb : (x == ("__debug__" : Str)) = false := by decide)
    (he : starEach [e] X.env = (false, eval e X.env) :: starEach [] X.env := by rfl) (hpl : (backTo pos (starEach [] X.env)).any (·.1) = false := by rfl) :
    PMk X (.Call (.Name x p) [e] [] pos) (tMkO C (sp_exI C f) [] ta) := by
  obtain ⟨fI, fd, h1, h2, h3, h4⟩ := E.ini
  exact pmk_oex E.oex h1 h2 h3 (hr.mono hj) h4 .nil C8.pass0 hg E.gC ha hdb he hpl
end
section
variable {P : Program} {w : World} {K : PySem.W.Frag} {mg : Str → Option Value} {base : Heap} {b : Bool} {σ : L2.St} {G G' H : Hp} {te : TE} {ta : TA} {R : SR} {C : Addr} {x f : Str}
theorem ts_exI {D : Ends} {a : Addr} {y : V} {H : Hp} {Q : VK} (hC : OexC K C) (hn : PySem.W.findIn K (.ref C) f = some none) (h : sp_exI.OneEx C f a y H Q) : tOst K f (tVar 0) (tVar 1) { nx := fun _ H' => Q .non H', rt := Q } [some (.ref a), some y] H :=
  ⟨y, rfl, .ref a, rfl, a, C, rfl, hC, hn, .inl ⟨h.1, fun dx h1 h2 => h.2 dx h1 h2⟩⟩
theorem mkO_run (h : Ev b te σ G R) (r : Rel b G H) {Q : XK} (k : ∀ v d G2 H2, Go G H G2 H2 → R.p v G2 → G2 d = none → H d = none → H2 d = some (.xd [(f, v)]) → Q (.ref C) (some d) H2) : tMkO C (sp_exI C f) [] (tCons te tNil) σ H Q := by
  refine (ea_cons h ea_nil).run r fun vs G2 H2 g al => ?_
  obtain ⟨v, rfl, hv⟩ : ∃ v, vs = [v] ∧ R.p v G2 := by
    cases al with
    | cons h1 h2 => cases h2; exact ⟨_, rfl, h1⟩
  refine ⟨by show 1 ≤ 1000; decide, fun a ha => ⟨a, v, rfl, upd_same, fun dx hdx hne => ⟨rfl, dx, [(f, v)], upd_same, by rw [upd_ne hne, upd_same], ?_, ?_⟩⟩⟩
  · rw [upd_ne hne] at hdx; exact hdx
  · have hdx2 : H2 dx = none := by rw [upd_ne hne] at hdx; exact hdx
    have e : upd (del (upd (upd (upd H2 a (exo a C none)) dx (exd dx [(f, v)])) a (exo a C (some dx))) a) dx (.xd [(f, v)]) = upd H2 dx (.xd [(f, v)]) := by
      funext z
      by_cases z1 : z = dx
      · subst z1; rw [upd_same, upd_same]
      · rw [upd_ne z1, upd_ne z1]
        by_cases z2 : z = a
        · subst z2; rw [del_same, ha]
        · rw [del_ne z2, upd_ne z2, upd_ne z1, upd_ne z2]
    rw [e]
    have r2 := g.r _ r
    exact k v dx G2 _ (g.trans (Go.own r2 hdx2)) hv (r2.free hdx2) (g.free hdx2) upd_same
def spX {ι : Type u} (b : Bool) (pre : ι → List SR) (ok : ι → Prop) (C : Addr) (f : Str) (val : ι → SR) : Sp := fun vs H _ E => ∃ i G, Rel b G H ∧ ok i ∧ AlR (pre i) vs G ∧
  ∀ v d G2 H2, Go G H G2 H2 → (val i).p v G2 → G2 d = none → H d = none → H2 d = some (.xd [(f, v)]) → E (.ref C) (some d) H2
theorem spX_len {ι : Type u} {pre : ι → List SR} {ok : ι → Prop} {val : ι → SR} {vs : List V} {H : Hp} {Q : VK} {E : XK} {n : Nat} (h : spX b pre ok C f val vs H Q E) (hn : ∀ i, (pre i).length = n) : vs.length = n := by
  obtain ⟨i, G, _, _, al, _⟩ := h
  rw [alr_len al, hn]
def CalX (P : Program) (w : World) (K : PySem.W.Frag) (mg : Str → Option Value) (base : Heap) (k : Nat) (x : Str) (ps : List Str) (sp : Sp) : Prop := ∃ (f : Addr) (fd : FuncData), FnOk P w K mg base (L2.CX P w) k f fd ps sp ∧ mg x = some (.ref f) ∧ PySem.W.keepIn K (.ref f) = true ∧ Binds K fd ps []
theorem calX_of {x : Str} {st : Stmt} {N ps : List Str} {k : Nat} {sp : Sp} (F : Fn K mg x st ps) (S : FnScope N ps (defScope st)) (len : ∀ vs H Q E, sp vs H Q E → vs.length = ps.length)
    (hbody : ∀ (f : Addr) (cdv : Value) (A : Around) (outer : List Env) (s : Shared) (H : Hp) (vs : List V) (Q : VK) (E : XK), Room k (A.deeper (envOfC x (defScope st) s.heap.objs.size f cdv)) → sp vs H Q E →
      ∃ t, PSs (cxOf (L2.CX P w) P w K mg base N x (defScope st) f cdv A outer s H E) (defBody st) t ∧ t { nx := fun _ H' => Q .non H', rt := Q } (start N vs) H) : CalX P w K mg base (k + 1) x ps sp := by
  obtain ⟨f, fd, h1, h2, h3⟩ := F
  exact ⟨f, fd, h1.okX S len (hbody f), h2, h1.kp, h3⟩
end
section
variable {X : Cx} {x : Str} {k j : Nat} {sp : Sp} {ps : List Str} {es : List Expr} {e : Expr} {t : TA} {p pos : Pos} {E : XK}
theorem pe_cx (c : CalX X.prog X.w X.K X.mg X.base k x ps sp) (hr : Room j X.A) (hk : k ≤ j) (hg : Gl X x) (hx : Passes (L2.CX X.prog X.w) X E) (ha : PA X (e :: es) t)
    (hdb : (x == ("__debug__" : Str)) = false := by decide) (he : starEach (e :: es) X.env = (false, eval e X.env) :: starEach es X.env := by rfl) (hpl : (backTo pos (starEach es X.env)).any (·.1) = false := by rfl) :
    PE X (.Call (.Name x p) (e :: es) [] pos) (tCall sp [] E t) := by
  obtain ⟨f, fd, F, hm, kp, b⟩ := c
  exact pe_call F (hr.mono hk) hg hm kp b .nil hx ha hdb he hpl
end
theorem pss_len {X : Cx} {b : List Stmt} {t : TS} (h : PSs X b t) : PSs X b (fun D σ H => σ.length = X.N.length → t D σ H) := ⟨fun pins s σ H D I h' => h.run pins s σ H D I (h' I.len)⟩
def exIn (C : Addr) (f word : Str) (Q : VK) : XK := fun cls d H' => cls = .ref C ∧ ∃ dd v, d = some dd ∧ H' dd = some (.xd [(f, v)]) ∧ ∀ p, H' p = none → Q (.ref p) (upd H' p (.tup [.str word, v]))
def TMet (C : Addr) (f told word : Str) : (XK → Hp → VK → Prop) → Hp → VK → Prop := fun tl H Q => tTup (tCons (tC (.str told)) (tCons (fun _ H' Q' => tl (exIn C f word Q) H' Q') tNil)) [] H Q
theorem met_gives {X : Cx} {x a xc f told word q en : Str} {sg : Scope} {g C : Addr} {cdg : Value} {j1 j2 jt jw : Nat} {p1 p2 p3 p4 p5 p6 p7 p8 p9 q1 q2 q3 q4 : Pos} (Ex : ExC X.prog X.w X.K X.mg X.base xc C f) (hge : sg.names.lookup xc = some .globalImplicit) (hde : (xc == ("__debug__" : Str)) = false)
    (hnd : ([a, en] : List Str).Nodup) (hkf : sg.names.lookup en = some .local) (hd1 : (en == ("__debug__" : Str)) = false) (hd2 : (en == ("__classdict__" : Str)) = false) (h0 : ∀ fl : Addr, (L2.start [a, en] [V.ref fl])[0]? = some (some (V.ref fl))) :
    LamX.GivesTo X [a, en] x sg g cdg [.Try [.Return (some (.Tuple [.Constant (.str told) jt p1, .Call (.Name a p2) [] [] p3] j1 p4)) p5] [.ExceptHandler (some (.Name xc p6)) (some en) [.Return (some (.Tuple [.Constant (.str word) jw p7, .Attribute (.Name en p8) f p9] j2 q1)) q2] q3] [] [] q4] a q (TMet C f told word) := by
  intro fl c' s H Q tl act hc h
  have hgl : Gl (cxOf C8.CX0 X.prog X.w X.K X.mg X.base [a, en] x sg g cdg X.A X.stack s H C8.E0).nox xc := hge
  refine ⟨_, pss_one (ps_try_as (X := (cxOf C8.CX0 X.prog X.w X.K X.mg X.base [a, en] x sg g cdg X.A X.stack s H C8.E0).nox) (i := 1) (c := .ref C)
      (tb := fun W D σ H => ∃ Ech : XK, (∀ cls d σ' H', Ech cls d H' → W cls d σ' H') ∧ σ[0]? = some (some (.ref fl)) ∧ H c' = some (LamX.CodeO c' q) ∧ tTup (tCons (tC (.str told)) (tCons (fun _ H' Q' => tl Ech H' Q') tNil)) σ H D.rt)
      (ts := fun a cls d D σ H => σ.length = 2 → tRet (tTup (tCons (tC (.str word)) (tCons (tXf a cls d C f (tVar 1)) tNil))) D σ H)
      (Wout := fun _ _ _ _ => False) rfl rfl hnd rfl hkf ⟨hgl, hde, .inl Ex.gC⟩ LamX.takes0 (fun W pn xe tk _ => ?_) (fun a oe cls d pn hz hf => ?_)), ?_⟩
  · refine ⟨fun pins s' σ H' D I h' => ?_⟩
    obtain ⟨Ech, hW, h1, h2, h3⟩ := h'
    have hp := act W pn xe Ech p2 p3 tk hW
    have hq := pss_one (ps_ret (pos := p5) (pe_tup (x1 := j1) (pos := p4) (pa_cons (pe_str (x := told) (j := jt) (pos := p1)) (pa_cons hp pa_nil))))
    exact hq.run pins s' σ H' D I ⟨h1, h2, h3⟩
  · exact pss_len (pss_one (ps_ret (pe_tup (pa_cons pe_str (pa_cons (pe_xf Ex.xf Ex.noF hz hf (pe_var (i := 1) rfl (.inl hkf) hd1 hd2)) pa_nil)))))
  · refine ⟨exIn C f word Q, fun cls d σ' H' z => ?_, h0 fl, hc, h⟩
    obtain ⟨rfl, dd, v, rfl, e3, e4⟩ := z
    refine ⟨true, Ex.te, fun _ a0 ha0 hlen => ?_, fun z => nomatch z⟩
    have hl2 : 1 < σ'.length := by
      rw [List.length_set] at hlen
      omega
    exact ⟨.ref a0, by rw [List.getElem?_set_self hl2], rfl, rfl, dd, _, v, rfl, e3, by simp [List.lookup], by show 2 ≤ sizeLine; decide, e4⟩
end Gd
-- part Gd21
set_option Elab.async false
set_option linter.all false
set_option maxRecDepth 100000
set_option maxHeartbeats 1000000
namespace Gd
open PySem PySem.Spec PyProof.Rows L2
universe u
theorem ne_tbl {o : HO} (h : isTb o = false) (ps : Array Value) : o ≠ .tbl ps := fun z => by rw [z] at h; cases h
section
variable {s c : Addr} {n m : Nat} {G H G2 H2 : Hp} {T : List (Addr × Str)}
theorem tabs_go (t : LamX.Tabs T H) (g : Go G H G2 H2) : LamX.Tabs T H2 := t.ext g.h
theorem tabs_gos (t : LamX.Tabs T H) (d : Dr s c n G H) (g : GoS s c G H G2 H2) : LamX.Tabs T H2 := fun p hp => by
  obtain ⟨ps, h1, h2, h3⟩ := t p hp
  obtain ⟨cells, a, mm, cnt, e1, e2, _⟩ := d.ex
  have keep : ∀ b o, H b = some o → (∀ xs, o ≠ .lst xs) → H2 b = some o := fun b o e n => g.h b o (fun z => by rw [z, e1] at e; exact n _ (Option.some.inj e).symm) (fun z => by rw [z, e2] at e; exact n _ (Option.some.inj e).symm) e
  refine ⟨ps, keep _ _ h1 (fun xs z => by cases z), h2, fun pos cv hc => ?_⟩
  obtain ⟨c', r1, r2⟩ := h3 pos cv hc
  exact ⟨c', r1, keep _ _ r2 (fun xs z => by unfold LamX.CodeO at z; cases z)⟩
end
section
variable {X : Cx}
theorem lam_pass {A : Around} {outer : List Env} {s : Shared} {H : Hp} {E : XK} {scope : Scope} {f c' : Addr} : Passes (L2.CX X.prog X.w) (LamX.lamCx X A outer s H E scope f c') E :=
  passes_call (X := LamX.lamCx X A outer s H E scope f c') (W := fun cls d _ H => E cls d H) (takes_of rfl rfl rfl rfl) (fun _ _ _ _ h => h)
end
def FnL (K : PySem.W.Frag) (mg : Str → Option Value) (x : Str) (st : Stmt) (ps : List Str) (c : Addr) : Prop := ∃ (f : Addr) (oc : Value) (od : Option Addr) (kV doc pm : Value) (an : Option Addr) (ct : Value) (osl : Array (Option Value)),
  K.lookup f = some ⟨oc, od, .func (PySem.W.fnOf x x (defArgs st) (defBody st) (defScope st) .none kV doc pm an (.ref c) ct), osl⟩ ∧ PySem.W.codeIn K (.ref c) x = true ∧ mg x = some (.ref f) ∧ PySem.W.keepIn K (.ref f) = true ∧
    Binds K (PySem.W.fnOf x x (defArgs st) (defBody st) (defScope st) .none kV doc pm an (.ref c) ct) ps []
end Gd
-- part Gd22
set_option Elab.async false
set_option linter.all false
set_option maxRecDepth 100000
set_option maxHeartbeats 1000000
namespace PySem
open Sem (wp)
namespace FnT
open PySem.F
theorem sFn : Slot "function" "__getattribute__" "object.__getattribute__" := .of (owner := "object") (n := "__getattribute__") (by rw [typeLookup_type, builtinLookup_eq_fast]; kernel_rfl) (by decide +kernel) (by decide +kernel) (by decide +kernel) (by first | exact .inl (by decide +kernel) | exact .inr (by decide +kernel)) (by rw [isSubtype_type]; kernel_rfl)
theorem eFn : entryFor table "object.__getattribute__" = some Builtin.«object.__getattribute__» := entryFor_of_tree (by kernel_rfl)
theorem lFn : typeLookup (.type "function") "__class__" = pure (some (.builtin "object.__class__")) := by rw [typeLookup_type, builtinLookup_eq_fast]; kernel_rfl
theorem oFn : isSubtype (.type "function") (.type (".".intercalate ("object.__class__".cutAt '.').dropLast)) = pure true := by rw [F.owner_object_class, isSubtype_type]; kernel_rfl
theorem aFn (a b : Value) : argsOk "object.__getattribute__" ⟨[a, b], []⟩ := by unfold argsOk; kernel_rfl
section
variable {prog : Program} {w : World} {A : Around} {E : Value → Shared → Prop} {h : Heap} {g : Array GenState} {d : Drawn} {t : Nat} {os : OsState} {a : Addr} {o : Obj}
theorem clsGet {R : Result → Shared → Prop} (hx : h.get? a = some o) (hc : o.cls = .type "function") (hq : R (.ok (.ret (.type "function"))) ⟨h, g, d, t, os⟩) :
    codeAny (model prog w) A (.call (.builtin "getset_descriptor.__get__") ⟨[.builtin "object.__class__", .ref a, .type "function"], []⟩) R ⟨h, g, d, t, os⟩ := by
  have hT : (⟨h, g, d, t, os⟩ : Shared).TypeIs (.ref a) "function" := ⟨_, hx, hc⟩
  have f9 : (⟨h, g, d, t, os⟩ : Shared).TypeIs (.builtin "object.__class__") "getset_descriptor" := F.typeOf_object_class
  have f8 := oFn
  refine codeAny_call_builtin slot_gs_get.plain entry_gs_get (slot_gs_get.check _ _ _ _ _ _ _ _ f9 (args_gs_get _ _ _) ?_)
  repeat (any_goals (first | assumption | wp_step))
  refine ⟨Code.quiet_builtin _ (by decide +kernel), codeAny_builtin entry_object_class ?_⟩
  repeat (any_goals (first | assumption | wp_step))
theorem clsEntry {tk : Tok} {Q : Fin → Shared → Prop} (hx : h.get? a = some o) (hc : o.cls = .type "function") (hq : Q (.done (.ret (.type "function"))) ⟨h, g, d, t, os⟩) : wpAny (model prog w) A (Builtin.«object.__getattribute__» ⟨[.ref a, .str "__class__" tk], []⟩) Q E ⟨h, g, d, t, os⟩ := by
  have hT : (⟨h, g, d, t, os⟩ : Shared).TypeIs (.ref a) "function" := ⟨_, hx, hc⟩
  have f9 : (⟨h, g, d, t, os⟩ : Shared).TypeIs (.builtin "object.__class__") "getset_descriptor" := F.typeOf_object_class
  have f4 := lFn
  have f5 := typeOf_object_class
  have f6 := slot_gs_get.lookup
  have f7 := slot_gs_set.lookup
  repeat (any_goals (first | assumption | wp_step))
  refine clsGet hx hc ?_
  repeat (any_goals (first | assumption | wp_step))
theorem clsCall {tk : Tok} {R : Result → Shared → Prop} (hx : h.get? a = some o) (hc : o.cls = .type "function") (hq : R (.ok (.ret (.type "function"))) ⟨h, g, d, t, os⟩) : codeAny (model prog w) A (.call (.builtin "object.__getattribute__") ⟨[.ref a, .str "__class__" tk], []⟩) R ⟨h, g, d, t, os⟩ :=
  codeAny_call_builtin sFn.plain eFn (sFn.check _ _ _ _ _ _ _ _ (show (⟨h, g, d, t, os⟩ : Shared).TypeIs (.ref a) "function" from ⟨_, hx, hc⟩) (aFn _ _) (clsEntry hx hc hq))
theorem clsBy {tk : Tok} {Q : Value → Shared → Prop} (hx : h.get? a = some o) (hc : o.cls = .type "function") (hq : Q (.type "function") ⟨h, g, d, t, os⟩) : wpAny (model prog w) A (getAttrBy (.ref a) (.str "__class__" tk) false) Q E ⟨h, g, d, t, os⟩ := by
  have hT : (⟨h, g, d, t, os⟩ : Shared).TypeIs (.ref a) "function" := ⟨_, hx, hc⟩
  have f2 := sFn.lookup
  have f3 := sFn.bind (.ref a)
  repeat (any_goals (first | assumption | wp_step))
  refine clsCall hx hc ?_
  repeat (any_goals (first | assumption | wp_step))
theorem clsAttr {Q : Option Value → Shared → Prop} (hx : h.get? a = some o) (hc : o.cls = .type "function") (hq : Q (some (.type "function")) ⟨h, g, d, t + 1, os⟩) : wpAny (model prog w) A (getAttr? (.ref a) "__class__") Q E ⟨h, g, d, t, os⟩ := by
  unfold getAttr? getAttrBy?
  repeat (any_goals (first | assumption | with_reducible apply clsBy hx hc | wp_step))
end
theorem kitx_fn {K : W.Frag} {a : Addr} : W.KitX K (.ref a) (.type "function") (W.KitAt a "function") := W.kitx_of W.kitAt_ty (fun {_ _ _ _ _ s} p k => by obtain ⟨h, g, d, t, os⟩ := s; obtain ⟨o, h1, h2⟩ := p; exact clsAttr h1 h2 k)
end FnT
end PySem
namespace Gd
open PySem PySem.Spec PyProof.Rows L2
section
variable {X : Cx}
theorem CallR.or {f : Value} {r1 r2 : List V → Hp → VK → Prop} (h1 : CallR X f r1) (h2 : CallR X f r2) : CallR X f (fun xs H Q => r1 xs H Q ∨ r2 xs H Q) := by
  intro pins s σ H xs us Q I r h
  rcases h with h | h
  · exact h1 pins s σ H xs us Q I r h
  · exact h2 pins s σ H xs us Q I r h
theorem OpR.or {f : Value → Value → Sem Value} {r1 r2 : R2} (h1 : OpR X f r1) (h2 : OpR X f r2) : OpR X f (fun x y H Q => r1 x y H Q ∨ r2 x y H Q) := by
  intro pins s σ H x y v u Q I rx ry h
  rcases h with h | h
  · exact h1 pins s σ H x y v u Q I rx ry h
  · exact h2 pins s σ H x y v u Q I rx ry h
end
end Gd
-- part Gd23
set_option Elab.async false
set_option linter.all false
set_option maxRecDepth 100000
set_option maxHeartbeats 1000000
namespace PySem
namespace InO
open PySem.SeqAt
open AutoSeq1 (wpAny_loadPart')
open MeetsSeq MeetsSeq2 MeetsSeq3 SeqRoads2
section
variable {prog : Program} {w : World} {A : Around} {E : Value → Shared → Prop} {s : Shared} {K : W.Frag} {x C f : Addr} {od : Obj} {dx : Addr} {t : Str} {tk : Tok}
theorem loopF {l : Addr} {x : Value} {N : Nat} {J : Shared → Prop} (hj : ∀ s, J s → ∃ (items : Array Value) (n : Nat) (dd : Option Addr) (sl : Array (Option Value)), s.heap.get? l = some { cls := .type "list", dict := dd, data := .seq items n, slots := sl } ∧ items.size = N ∧
      ∀ (i : Nat) (hi : i < items.size) (E : Value → Shared → Prop), wpAny (model prog w) A.in1 (eqBool items[i] x) (fun r s' => r = false ∧ J s') E s) {R : Result → Shared → Prop} (fin : ∀ s, J s → R (.ok (.ret (.bool false))) s) (k : Nat) :
    ∀ i : Nat, N - i = k → ∀ s, J s → wpAny (model prog w) A.in1 (Builtin.«list.__contains__.loop» ⟨[.ref l, x, rawInt i], []⟩) (GQ.FinOf prog w A R) (fun e s' => R (.error e) s') s := by
  induction k with
  | zero =>
    intro i hk s h
    obtain ⟨items, n, dd, sl, hl, hN, _⟩ := hj s h
    have hR := fin s h
    obtain ⟨hp, g, d, tk, os⟩ := s
    wp_walk using wpAny_loadPart' hl
    have hi : items[((i : Nat) : Int).toNat]? = none := by simp; omega
    rw [hi]
    wp_walk
    exact hR
  | succ k ih =>
    intro i hk s h
    obtain ⟨items, n, dd, sl, hl, hN, he⟩ := hj s h
    have hlt : i < items.size := by omega
    have ht := he i hlt (fun e s' => R (.error e) s')
    obtain ⟨hp, g, d, tk, os⟩ := s
    wp_walk using wpAny_loadPart' hl
    have hi : items[((i : Nat) : Int).toNat]? = some items[i] := by simp [hlt]
    rw [hi]
    refine wpAny_bind (wpAny_mono ht (fun r s2 h2 => ?_) fun _ _ x => x)
    obtain ⟨rfl, h2⟩ := h2
    have hc : ((i : Int) + 1) = ((i + 1 : Nat) : Int) := by omega
    have hrec := ih (i + 1) (by omega) s2 h2
    obtain ⟨hp2, g2, d2, tk2, os2⟩ := s2
    wp_walk
    rw [hc]
    refine ⟨plainId_quiet plain_contains_loop _, codeAny_builtin entry_contains_loop ?_⟩
    rw [Around.under_plainId plain_contains_loop _]
    exact hrec
theorem inF {l : Addr} {x : Value} {N : Nat} {J : Shared → Prop} {Q : Value → Shared → Prop} (hj : ∀ s, J s → ∃ (items : Array Value) (n : Nat) (dd : Option Addr) (sl : Array (Option Value)), s.heap.get? l = some { cls := .type "list", dict := dd, data := .seq items n, slots := sl } ∧ items.size = N ∧
      ∀ (i : Nat) (hi : i < items.size) (E : Value → Shared → Prop), wpAny (model prog w) A.in1 (eqBool items[i] x) (fun r s' => r = false ∧ J s') E s) (fin : ∀ s, J s → Q (.bool false) s) (h : J s) : wpAny (model prog w) A (compareOp .In x (.ref l)) Q E s := by
  obtain ⟨items, n, dd, sl, hl, hN, _⟩ := hj s h
  show wpAny _ A (do return .bool (← contains (.ref l) x)) Q E s
  have slot := F.slot_list_contains
  refine wpAny_bind (wpAny_contains_slot ⟨_, hl, rfl⟩ slot (wpAny_mono (Q := fun v s' => v = .bool false ∧ J s') (GQ.call_here slot ⟨_, hl, rfl⟩ F.entry_list_contains (F.args_list_contains_2 _ _) ?_) (fun v s' hv => ?_) fun _ _ e => e))
  · have hrec := loopF (A := A) (R := wants (fun v s' => v = .bool false ∧ J s') E) hj (fun s h => ⟨rfl, h⟩) _ 0 rfl s h
    obtain ⟨hp, g, d, tk, os⟩ := s
    wp_walk using wpAny_loadPart' hl
    refine ⟨plainId_quiet plain_contains_loop _, codeAny_builtin entry_contains_loop ?_⟩
    rw [Around.under_plainId plain_contains_loop _]
    exact hrec
  · obtain ⟨rfl, hq⟩ := hv
    exact wpAny_truthy_bool (wpAny_pure (fin s' hq))
end
end InO
end PySem
-- part Gd24
set_option Elab.async false
set_option linter.all false
set_option maxRecDepth 100000
set_option maxHeartbeats 1000000
-- part Gd25
set_option Elab.async false
set_option linter.all false
set_option maxRecDepth 100000
set_option maxHeartbeats 1000000
-- part Gd26
set_option Elab.async false
set_option linter.all false
set_option maxRecDepth 100000
set_option maxHeartbeats 1000000
-- part Gd27
set_option Elab.async false
set_option linter.all false
set_option maxRecDepth 100000
set_option maxHeartbeats 1000000
namespace PySem
namespace RpG
open Sem PyProof.Rows
section
variable {M : Model} {prog : Program} {w : World} {A : Around} {E : Value → Shared → Prop} {s : Shared} {a : Addr} {o : Obj} {g : List Code}
def lstOn (g : List Code) (a : Addr) : Prop := ∃ v rest kw, Code.builtin "list.__repr__.loop" ⟨v :: rest, kw⟩ ∈ g ∧ Builtin.List.listSameRef v (.ref a) = true
theorem rep_l {Q : Value → Shared → Prop} {t : Str} (hTy : s.TypeIs (.ref a) "list") (hu : A.units + 1 < cLine) (hc : wpAny (model prog w) A.in1 (call (.builtin "list.__repr__") [.ref a]) (fun v s' => ∃ u, v = .str t u ∧ Q (.str t u) s') E s) : wpAny (model prog w) A (call (.builtin "repr") [.ref a]) Q E s := by
  refine Calls.call_function_entry F.kind_repr F.plain_repr F.entry_repr (F.args_repr1 _) ?_
  unfold Builtin.«repr»
  refine wpAny_bind (m := oneArg "repr" _) (wpAny_pure (wpAny_bind (wpAny_cRoomFor hu ?_)))
  refine wpAny_bind (wpAny_specialOf (name := Str.ofString "__repr__") hTy F.slot_list_repr.lookup ?_)
  refine wpAny_bind (m := callSpecialIfBound? (.ref a) (Str.ofString "__repr__")) (wpAny_callSpecialIfBound?_slot (name := Str.ofString "__repr__") hTy F.slot_list_repr (wpAny_mono hc (fun v s' hv => ?_) fun _ _ e => e))
  obtain ⟨u, rfl, hq⟩ := hv
  exact wpAny_bind (wpAny_isInstance (T := "str") (b := true) rfl isSubtype_str_str (wpAny_pure ⟨_, rfl, hq⟩))
theorem rep_t {Q : Value → Shared → Prop} {t : Str} (hTy : s.TypeIs (.ref a) "tuple") (hu : A.units + 1 < cLine) (hc : wpAny (model prog w) A.in1 (call (.builtin "tuple.__repr__") [.ref a]) (fun v s' => ∃ u, v = .str t u ∧ Q (.str t u) s') E s) : wpAny (model prog w) A (call (.builtin "repr") [.ref a]) Q E s := by
  refine Calls.call_function_entry F.kind_repr F.plain_repr F.entry_repr (F.args_repr1 _) ?_
  unfold Builtin.«repr»
  refine wpAny_bind (m := oneArg "repr" _) (wpAny_pure (wpAny_bind (wpAny_cRoomFor hu ?_)))
  refine wpAny_bind (wpAny_specialOf (name := Str.ofString "__repr__") hTy F.slot_tuple_repr.lookup ?_)
  refine wpAny_bind (m := callSpecialIfBound? (.ref a) (Str.ofString "__repr__")) (wpAny_callSpecialIfBound?_slotG (name := Str.ofString "__repr__") hTy F.slot_tuple_repr (wpAny_mono hc (fun v s' hv => ?_) fun _ _ e => e))
  obtain ⟨u, rfl, hq⟩ := hv
  exact wpAny_bind (wpAny_isInstance (T := "str") (b := true) rfl isSubtype_str_str (wpAny_pure ⟨_, rfl, hq⟩))
end
end RpG
end PySem
-- part Gd28
set_option Elab.async false
set_option linter.all false
set_option maxRecDepth 100000
set_option maxHeartbeats 1000000
namespace Gd
open PySem PySem.Spec PyProof.Rows L2
open Classical in
noncomputable def repL (g : List Code) (a : Addr) (ss : List Str) : Str := if ss = [] then "[]" else if PySem.RpG.lstOn g a then "[...]" else listText (ss.map reprText)
def repT (g : List Code) (a : Addr) (ss : List Str) : Str := if (g.any fun c => tupGuardF (.ref a) (c, default)) = true then "(...)" else tupleText (ss.map reprText)
structure RepS (ss : List Str) : Prop where
  sg : ∀ y ∈ ss, ∀ c ∈ y.cps.toList, c < 16 ^ 8
  ct : fmtCost ss + 10 ≤ sizeLine
def rRep (K : PySem.W.Frag) (g : List Code) : List V → Hp → VK → Prop := fun xs H Q => ∃ (a : Addr) (ss : List Str), xs = [.ref a] ∧ RepS ss ∧ ((SqL K H a (ss.map V.str) ∧ Q (.str (repL g a ss)) H) ∨ (SqT K H a (ss.map V.str) ∧ Q (.str (repT g a ss)) H))
end Gd
-- part Gd29
set_option Elab.async false
set_option linter.all false
set_option maxRecDepth 100000
set_option maxHeartbeats 1000000
namespace Gd
open PySem PySem.Spec PyProof.Rows L2
section
variable {K : PySem.W.Frag} {b : Bool} {σ : L2.St} {G H : Hp} {ta tb te : TE}
def Tx (t : Str) : SR := ⟨fun v _ => v = .str t, fun _ h => h⟩
end
end Gd
-- part Gd30
set_option Elab.async false
set_option linter.all false
set_option maxRecDepth 100000
set_option maxHeartbeats 1000000
-- part Gc1
set_option Elab.async false
set_option linter.all false
set_option maxRecDepth 100000
set_option maxHeartbeats 2000000
namespace Clo
open PySem PySem.Spec PyProof.Rows L2 LamX NdefX
def CellO (c : Addr) (v : V) : HO := .ext fun h => ∃ u, RelV v u ∧ h.IsCell c (some u)
structure LF where
  qual : Str
  params : Arguments
  body : Expr
  scope : Scope
  cl : List (Str × Addr)
  c : Addr
def LF.nf (F : LF) : NF := ⟨"<lambda>", F.qual, F.params, [], F.scope, F.cl, F.c⟩
def LamO (f : Addr) (F : LF) : HO := .ext fun h => ∃ (od : Option Addr) (sl : Array (Option Value)) (pm ctv : Value), h.get? f = some (⟨.type "function", od, .func (PySem.W.kla_fn "<lambda>" F.qual F.params F.body F.scope F.cl pm (.ref F.c) ctv), sl⟩ : Obj)
theorem lamO_at {P : Program} {w : World} {H : Hp} {h : Heap} {f : Addr} {F : LF} (hok : HOk P w H h) (e : H f = some (LamO f F)) : ∃ (od : Option Addr) (sl : Array (Option Value)) (pm ctv : Value), h.get? f = some (⟨.type "function", od, .func (PySem.W.kla_fn "<lambda>" F.qual F.params F.body F.scope F.cl pm (.ref F.c) ctv), sl⟩ : Obj) := by
  obtain ⟨z, _, _⟩ := hok f _ e
  exact z
theorem cellO_at {P : Program} {w : World} {H : Hp} {h : Heap} {c : Addr} {v : V} (hok : HOk P w H h) (e : H c = some (CellO c v)) : ∃ u, RelV v u ∧ h.IsCell c (some u) := by
  obtain ⟨z, _, _⟩ := hok c _ e
  exact z
def untell (H : Hp) (cs : List Addr) : Hp := fun a => if a ∈ cs then none else H a
def retell (H H' : Hp) (cs : List Addr) : Hp := fun a => if a ∈ cs then H a else H' a
section
variable {P : Program} {w : World} {K : PySem.W.Frag} {mg : Str → Option Value} {base : Heap} {A : Around} {outer : List Env} {s s' : Shared} {H H' : Hp} {h h' : Heap} {cs : List Addr} {Q : VK} {u : Value}
theorem untell_some {a : Addr} {o : HO} (e : untell H cs a = some o) : H a = some o ∧ a ∉ cs := by
  unfold untell at e
  split at e
  · cases e
  · exact ⟨e, by assumption⟩
theorem untell_at {a : Addr} (n : a ∉ cs) : untell H cs a = H a := by
  unfold untell
  rw [if_neg n]
theorem untell_in {a : Addr} (n : a ∈ cs) : untell H cs a = none := by
  unfold untell
  rw [if_pos n]
theorem retell_at {a : Addr} (n : a ∉ cs) : retell H H' cs a = H' a := by
  unfold retell
  rw [if_neg n]
theorem retell_in {a : Addr} (n : a ∈ cs) : retell H H' cs a = H a := by
  unfold retell
  rw [if_pos n]
def AllExt (H : Hp) (cs : List Addr) : Prop := ∀ c ∈ cs, ∃ φ, H c = some (.ext φ)
theorem AllExt.ne {a : Addr} {o : HO} (ex : AllExt H cs) (e : H a = some o) (n : ∀ φ, o ≠ .ext φ) : a ∉ cs := fun hm => by
  obtain ⟨φ, h⟩ := ex a hm
  rw [e] at h
  exact n φ (Option.some.inj h)
theorem hok_untell (ok : HOk P w H h) (ex : AllExt H cs) : HOk P w (untell H cs) h := fun b o e => by
  obtain ⟨e1, n1⟩ := untell_some e
  exact (ok b o e1).stay (fun _ _ _ q => q) (fun c q => (untell_at (ex.ne q fun φ z => by cases z)).trans q) fun c xs q => (untell_at (ex.ne q fun φ z => by cases z)).trans q
theorem env0_untell (e : Env0 P w K mg base A outer s H) (ex : AllExt H cs) : Env0 P w K mg base A outer s (untell H cs) := by
  have no : ∀ b, H b = none → untell H cs b = none := fun b n => by
    by_cases hb : b ∈ cs
    · exact untell_in hb
    · rw [untell_at hb, n]
  exact ⟨e.frames, e.mod, fun b o q => ⟨(e.bs b o q).1, no b (e.bs b o q).2⟩, e.bsz, e.funs, fun b hb => no b (e.frf b hb), hok_untell e.hok ex, e.bare⟩
theorem ce_retell (told : ∀ c ∈ cs, ∃ v, H c = some (CellO c v)) (ok : HOk P w H s.heap) (frf : ∀ b ∈ frs outer, H b = none) (ce : CE outer P w (untell H cs) s (fun v H' => (∀ c ∈ cs, H' c = none) → Q v (retell H H' cs)) u s') : CE outer P w H s Q u s' := by
  obtain ⟨v, H', os, bare, un, hok, r, q⟩ := ce
  have ex : AllExt H cs := fun c hc => let ⟨v, e⟩ := told c hc; ⟨_, e⟩
  have cell : ∀ c ∈ cs, ∃ o, s.heap.get? c = some o := fun c hc => by
    obtain ⟨v, e⟩ := told c hc
    obtain ⟨_, _, o, ho, _⟩ := cellO_at ok e
    exact ⟨o, ho⟩
  have nH' : ∀ c ∈ cs, H' c = none := fun c hc => by
    obtain ⟨o, ho⟩ := cell c hc
    exact un.free c o ho (untell_in hc) (by simp)
  have nfr : ∀ c ∈ cs, c ∉ frs outer := fun c hc z => by
    obtain ⟨v, e⟩ := told c hc
    rw [frf c z] at e
    cases e
  refine ⟨v, retell H H' cs, os, bare, ⟨fun b o e n hb hx => ?_, fun b o e n hb hx => ?_, fun b o e n hx => ?_, fun b o e hx => un.there b o e hx, fun b xs e => ?_, fun b o u e => ?_, fun b ps e => ?_⟩, fun b o e => ?_, r, q nH'⟩
  · have hc : b ∉ cs := fun z => by obtain ⟨φ, h⟩ := ex b z; rw [n] at h; cases h
    exact un.keep b o e ((untell_at hc).trans n) hb hx
  · have hc : b ∉ cs := fun z => by obtain ⟨φ, h⟩ := ex b z; rw [n] at h; cases h
    exact un.slot b o e ((untell_at hc).trans n) hb hx
  · have hc : b ∉ cs := fun z => by obtain ⟨φ, h⟩ := ex b z; rw [n] at h; cases h
    rw [retell_at hc]
    exact un.free b o e ((untell_at hc).trans n) hx
  · have hc := ex.ne e fun φ z => by cases z
    rw [retell_at hc]
    exact un.tups b xs ((untell_at hc).trans e)
  · have hc := ex.ne e fun φ z => by cases z
    rw [retell_at hc]
    exact un.frzs b o u ((untell_at hc).trans e)
  · have hc := ex.ne e fun φ z => by cases z
    rw [retell_at hc]
    exact un.tbls b ps ((untell_at hc).trans e)
  · by_cases hb : b ∈ cs
    · rw [retell_in hb] at e
      obtain ⟨v', e'⟩ := told b hb
      rw [e'] at e
      cases e
      obtain ⟨u', ru, o', ho, hd⟩ := cellO_at ok e'
      have ho2 := un.keep b o' ho (untell_in hb) (nfr b hb) (by simp)
      exact ⟨⟨u', ru, o', ho2, hd⟩, ⟨o', ho2⟩, fun h1 h2 ⟨x, rx, y, hy, hz⟩ st => ⟨x, rx, y, st _ hy, hz⟩⟩
    · rw [retell_at hb] at e
      refine (hok b o e).stay (fun _ _ _ q => q) (fun c q => ?_) fun c xs q => ?_
      · rw [retell_at (fun z => by rw [nH' c z] at q; cases q)]
        exact q
      · rw [retell_at (fun z => by rw [nH' c z] at q; cases q)]
        exact q
end
structure LOk (P : Program) (w : World) (K : PySem.W.Frag) (mg : Str → Option Value) (base : Heap) (CX : CXT) (k : Nat) (f : Addr) (F : LF) (ps fr : List Str) (sp : List (Option V) → Sp) : Prop where
  len : ∀ ws vs H Q E, sp ws vs H Q E → vs.length = ps.length
  run : ∀ (A : Around) (outer : List Env) (s : Shared) (H : Hp) (us : List Value) (vs : List V) (ws : List (Option V)) (Q : VK) (E : XK), Room k A → Env0 P w K mg base A outer s H → H f = some (LamO f F) → H F.c = some (CodeO F.c F.qual) →
    CellsAt F.cl fr ws s.heap H → Vals vs us → sp ws vs H Q E → codeAny (model P w) A (.call (.ref f) ⟨us, []⟩) (CR CX outer P w H s Q E) s
section
variable {CX : CXT} {P : Program} {w : World} {K : PySem.W.Frag} {mg : Str → Option Value} {base : Heap} {N ps fr : List Str} {F : LF} {f : Addr} {k j : Nat} {sp sp' : List (Option V) → Sp}
theorem LOk.mono (o : LOk P w K mg base CX j f F ps fr sp) (h : j ≤ k) : LOk P w K mg base CX k f F ps fr sp := ⟨o.len, fun A outer s H us vs ws Q E hr => o.run A outer s H us vs ws Q E (hr.mono h)⟩
theorem LOk.imp (o : LOk P w K mg base CX k f F ps fr sp) (h : ∀ ws vs H Q E, sp' ws vs H Q E → sp ws vs H Q E) : LOk P w K mg base CX k f F ps fr sp' :=
  ⟨fun ws vs H Q E q => o.len ws vs H Q E (h _ _ _ _ _ q), fun A outer s H us vs ws Q E hr e0 hf hc C r q => o.run A outer s H us vs ws Q E hr e0 hf hc C r (h _ _ _ _ _ q)⟩
end
structure Told (cl : List (Str × Addr)) (fr : List Str) (ws : List (Option V)) (H : Hp) : Prop where
  len : ws.length = fr.length
  all : ∀ y c, cl.lookup y = some c → ∃ v, H c = some (CellO c v)
  mem : ∀ c ∈ cl.map (·.2), ∃ v, H c = some (CellO c v)
  inj : ∀ x y c, cl.lookup x = some c → cl.lookup y = some c → x = y
  has : ∀ (i : Nat) (y : Str), fr[i]? = some y → ∃ c, cl.lookup y = some c ∧ ∀ v, ws[i]? = some (some v) → H c = some (CellO c v)
theorem mem_look {cl : List (Str × Addr)} {y : Str} {c : Addr} (e : cl.lookup y = some c) : c ∈ cl.map (·.2) := List.mem_map.mpr ⟨(y, c), PySem.mem_of_lookup e, rfl⟩
theorem Told.cells {P : Program} {w : World} {cl : List (Str × Addr)} {fr : List Str} {ws : List (Option V)} {H : Hp} {h : Heap} (T : Told cl fr ws H) (ok : HOk P w H h) : CellsAt cl fr ws h (untell H (cl.map (·.2))) := by
  refine ⟨T.len, fun y c e => ?_, T.inj, fun i y e => ?_⟩
  · obtain ⟨v, hv⟩ := T.all y c e
    obtain ⟨u, _, z⟩ := cellO_at ok hv
    exact ⟨untell_in (mem_look e), _, z⟩
  · obtain ⟨c, hc, hv⟩ := T.has i y e
    refine ⟨c, hc, fun v ev => ?_⟩
    obtain ⟨u, r, z⟩ := cellO_at ok (hv v ev)
    exact ⟨u, r, z⟩
section
variable {X : Cx} {k j i : Nat} {x : Str} {t : TA} {e : Expr} {es : List Expr} {p pos : Pos}
theorem fnAtL_of {pins : List (Addr × Obj)} {σ : L2.St} {H : Hp} {s : Shared} {f : Addr} {F : LF} (I : Inv X pins σ H s) (e : H f = some (LamO f F)) : PySem.W.FnAt f s.heap := by
  obtain ⟨od, sl, pm, ctv, ho⟩ := lamO_at I.hok e
  exact ⟨_, od, _, sl, ho⟩
end
section
variable {X : Cx} {pins : List (Addr × Obj)} {σ : L2.St} {H : Hp} {s : Shared}
theorem inv_lam {F : LF} {t' : Nat} {pm ctv : Value} (I : Inv X pins σ H s) : Inv X pins σ (upd H s.heap.objs.size (LamO s.heap.objs.size F)) { s with heap := s.heap.push (PySem.W.kla_obj "<lambda>" F.qual F.params F.body F.scope F.cl pm F.c ctv), toks := t' } := by
  refine I.laid (a := s.heap.objs.size) (fun b u e => Heap.get?_push_of_some _ e) (Nat.le_refl _) ?_
  have e : (s.heap.push (PySem.W.kla_obj "<lambda>" F.qual F.params F.body F.scope F.cl pm F.c ctv)).get? s.heap.objs.size = some (PySem.W.kla_obj "<lambda>" F.qual F.params F.body F.scope F.cl pm F.c ctv) := Heap.get?_push_size _ rfl
  exact ⟨⟨_, _, pm, ctv, e⟩, ⟨_, e⟩, fun h1 h2 ⟨od, sl, p, t, z⟩ st => ⟨od, sl, p, t, st _ z⟩⟩
theorem lam_make3 {T : List (Addr × Str)} {c P : Addr} {params : Arguments} {body : Expr} {scope : Scope} {pos : Pos} {E : Value → Shared → Prop} {Q : Value → Shared → Prop} (I : Inv X pins σ H s) (TB : TabB X.base X.mg c P) (hcode : X.env.code = .ref c)
    (hm : (P, X.env.qual ++ "<lambda>") ∈ T) (hu : ∀ p ∈ T, p.1 = P → p.2 = X.env.qual ++ "<lambda>") (hT : Tabs T H) (hdef : defaultsOf params X.env = ([], [])) (hfree : ∀ y ∈ scope.names, y.2 = .free → ∃ c, X.env.cells.lookup y.1 = some c)
    (h : ∀ (f c' : Addr) (H1 : Hp) (s' : Shared), Inv X pins σ H1 s' → ExtN H H1 → (∀ b, H1 b = Option.none → H b = Option.none) → Tabs T H1 → H f = none → H1 f = some (LamO f ⟨X.env.qual ++ "<lambda>", params, body, scope, cloFrom X.env.cells scope.names [], c'⟩) → H1 c' = some (CodeO c' (X.env.qual ++ "<lambda>")) → Q (.ref f) s') :
    wpAny (model X.prog X.w) X.A (eval (.Lambda params body scope pos) X.env) Q E s := by
  obtain ⟨ps, hP, ht, ha⟩ := hT _ hm
  refine PySem.W.kla_eval hdef ?_
  have bP : s.heap.BuiltinsAt X.mg P := TB.bm.keeps I.bk
  have hP' : s.heap.get? P = some { cls := .none, data := .fields ps } := I.hok P _ hP
  cases hc : codeAmong pos ps.toList with
  | none =>
    refine PySem.W.kla_makeFunction (mg := X.mg) (c := c) (P := P) (ps := ps) (closure_ok hfree) I.ok.glob (I.mod.glob.keeps I.bk) hcode (TB.code.keeps I.bk) hP' ht hc TB.gP bP fun c' ctv h' tk hx hge hlt hrec htb => ?_
    obtain ⟨c2, oc, vs, t, e2, hoc, hd, hv⟩ := hrec
    cases e2
    have nC : H c' = none := I.hok.fresh hge
    have I1 := inv_table (t' := tk) (more := #[rawInt pos.line, rawInt pos.col, .ref c']) (h' := h') I hP (fun b o hb e => hx b o hb e) htb hge ⟨oc, vs, t, hoc, hd, hv⟩
    have hE : ExtN H (upd (upd H P (.tbl (ps ++ #[rawInt pos.line, rawInt pos.col, .ref c']))) c' (CodeO c' (X.env.qual ++ "<lambda>"))) := fun b o e n => by
      rw [upd_ne (ne_of_none e nC), upd_ne (fun z => n ps (Option.some.inj (e.symm.trans (by rw [z]; exact hP))))]
      exact e
    have eL : (ps ++ #[rawInt pos.line, rawInt pos.col, .ref c']).toList = ps.toList ++ [rawInt pos.line, rawInt pos.col, .ref c'] := by simp
    have T1 : Tabs T (upd (upd H P (.tbl (ps ++ #[rawInt pos.line, rawInt pos.col, .ref c']))) c' (CodeO c' (X.env.qual ++ "<lambda>"))) := fun p hp => by
      by_cases hb : p.1 = P
      · rw [hu p hp hb, hb]
        refine ⟨_, by rw [upd_ne (ne_of_none hP nC), upd_same], by rw [eL]; exact PySem.TriplesOk_snoc _ _ _ _ ht, fun p' cv hcv => ?_⟩
        rw [eL] at hcv
        rcases among_app _ ht hcv with z | z
        · obtain ⟨c0, e1, e2⟩ := ha p' cv z
          exact ⟨c0, e1, hE _ _ e2 codeO_ne⟩
        · exact ⟨c', z, upd_same⟩
      · obtain ⟨ps', a1, a2, a3⟩ := hT p hp
        refine ⟨ps', by rw [upd_ne (ne_of_none a1 nC), upd_ne hb]; exact a1, a2, fun p' cv hcv => ?_⟩
        obtain ⟨c0, e1, e2⟩ := a3 p' cv hcv
        exact ⟨c0, e1, hE _ _ e2 codeO_ne⟩
    have nF := I1.hok.fresh (Nat.le_refl _)
    have I2 := inv_lam (F := ⟨X.env.qual ++ "<lambda>", params, body, scope, cloFrom X.env.cells scope.names [], c'⟩) (t' := tk) (pm := (X.mg "__name__").getD .none) (ctv := ctv) I1
    refine h h'.objs.size c' _ _ I2 (fun b o e n => ?_) (fun b e => upd_none (upd_none (upd_none e))) (T1.ext fun b o e => ?_) (I.hok.fresh (Nat.le_trans hge (Nat.le_of_lt hlt))) upd_same ?_
    · have e1 := hE b o e n
      exact (upd_ne (ne_of_none e1 nF)).trans e1
    · exact (upd_ne (ne_of_none e nF)).trans e
    · exact (upd_ne (Nat.ne_of_lt hlt)).trans upd_same
  | some cv =>
    obtain ⟨c', e, hco⟩ := ha pos cv hc
    subst e
    refine PySem.W.kla_makeFunctionHit (mg := X.mg) (c := c) (P := P) (ps := ps) (closure_ok hfree) I.ok.glob (I.mod.glob.keeps I.bk) hcode (TB.code.keeps I.bk) hP' ht hc bP fun ctv h' tk hx hsz => ?_
    have I1 : Inv X pins σ H { s with heap := h', toks := tk } := I.kept fun b o e => hx b o e
    have nF := I1.hok.fresh (Nat.le_refl _)
    have I2 := inv_lam (F := ⟨X.env.qual ++ "<lambda>", params, body, scope, cloFrom X.env.cells scope.names [], c'⟩) (t' := tk) (pm := (X.mg "__name__").getD .none) (ctv := ctv) I1
    refine h h'.objs.size c' _ _ I2 (fun b o e n => (upd_ne (ne_of_none e nF)).trans e) (fun b e => upd_none e) (hT.ext fun b o e => (upd_ne (ne_of_none e nF)).trans e) nF upd_same ((upd_ne (ne_of_none hco nF)).trans hco)
def tLamV (T : List (Addr × Str)) (mk : Addr → LF) : TE := fun σ H Q => Tabs T H ∧ ∀ (f c' : Addr) (H1 : Hp), ExtN H H1 → (∀ b, H1 b = Option.none → H b = Option.none) → Tabs T H1 → H f = none → H1 f = some (LamO f (mk c')) → H1 c' = some (CodeO c' (mk c').qual) → Q (.ref f) H1
theorem pe_lamV {T : List (Addr × Str)} {c P : Addr} {params : Arguments} {body : Expr} {scope : Scope} {pos : Pos} (TB : TabB X.base X.mg c P) (hcode : X.env.code = .ref c) (hm : (P, X.env.qual ++ "<lambda>") ∈ T) (hu : ∀ p ∈ T, p.1 = P → p.2 = X.env.qual ++ "<lambda>") (hdef : defaultsOf params X.env = ([], []))
    (hfree : ∀ y ∈ scope.names, y.2 = .free → X.env.scope.names.lookup y.1 = some .cell ∨ X.env.scope.names.lookup y.1 = some .free) :
    PE X (.Lambda params body scope pos) (tLamV T fun c' => ⟨X.env.qual ++ "<lambda>", params, body, scope, cloFrom X.env.cells scope.names [], c'⟩) := by
  refine ⟨fun pins s σ H Q I h => ?_⟩
  obtain ⟨hT, h⟩ := h
  exact lam_make3 I TB hcode hm hu hT hdef (fun y hy e => (hfree y hy e).elim (fun z => I.ok.has _ (.inl z)) fun z => I.ok.has _ (.inr z)) fun f c' H1 s' I1 e1 e2 T1 hf hfo hc => ⟨.ref f, H1, I1, rfl, h f c' H1 e1 e2 T1 hf hfo hc⟩
end
structure EndsR where
  nx : L2.St → Hp → Prop
  r0 : VK
  r1 : V → L2.St → Hp → Prop
def SPR (X : Cx) (pins : List (Addr × Obj)) (D : EndsR) (f : Flow) (s' : Shared) : Prop :=
  match f with
  | .next => ∃ σ' H', Inv X pins σ' H' s' ∧ D.nx σ' H'
  | .ret u => ∃ v σ' H', Inv X pins σ' H' s' ∧ RelV v u ∧ (D.r0 v H' ∨ D.r1 v σ' H')
  | _ => False
abbrev TSR := EndsR → L2.St → Hp → Prop
structure PSR (X : Cx) (b : List Stmt) (t : TSR) : Prop where
  run : ∀ (pins : List (Addr × Obj)) (s : Shared) (σ : L2.St) (H : Hp) (D : EndsR), Inv X pins σ H s → t D σ H → wpAny (model X.prog X.w) X.A (execs b X.env) (SPR X pins D) X.xe s
section
variable {X : Cx} {st : Stmt} {rest : List Stmt} {t : TS} {u : TSR} {e : Expr} {te : TE} {pos : Pos}
def rSeq (t : TS) (u : TSR) : TSR := fun D σ H => t { nx := u D, rt := D.r0 } σ H
theorem psr_cons (h1 : PS X st t) (h2 : PSR X rest u) : PSR X (st :: rest) (rSeq t u) := by
  refine ⟨fun pins s σ H D I h => ?_⟩
  refine wpAny_execs_cons (thn (h1.run pins s σ H _ I h) fun f s1 q => ?_)
  cases f with
  | next =>
    obtain ⟨σ', H', I', q⟩ := q
    exact h2.run pins s1 σ' H' D I' q
  | ret v => obtain ⟨v, σ', H', I', r, q⟩ := q; exact ⟨v, σ', H', I', r, .inl q⟩
  | brk => obtain ⟨_, _, _, q⟩ := q; exact False.elim q
  | cont => obtain ⟨_, _, _, q⟩ := q; exact False.elim q
def rRet (te : TE) : TSR := fun D σ H => te σ H fun v H' => D.r1 v σ H'
theorem psr_ret (he : PE X e te) : PSR X [.Return (some e) pos] (rRet te) := by
  refine ⟨fun pins s σ H D I h => ?_⟩
  refine wpAny_execs_cons (wpAny_Return_some (thn (he.run pins s σ H _ I h) fun v s1 ⟨x, H1, I1, r1, q1⟩ => ?_))
  exact ⟨x, σ, H1, I1, r1, .inr q1⟩
end
theorem look_mem {α β : Type} [BEq α] [LawfulBEq α] {a : α} {v : β} : ∀ {l : List (α × β)}, l.lookup a = some v → (a, v) ∈ l
  | [], e => by cases e
  | (b, w) :: l, e => by
    rw [List.lookup_cons] at e
    cases h : a == b with
    | true =>
      rw [h] at e
      simp at e
      rw [LawfulBEq.eq_of_beq h, e]
      exact List.mem_cons_self ..
    | false =>
      rw [h] at e
      exact List.mem_cons_of_mem _ (look_mem e)
def tellL (l : List (Addr × V)) (H : Hp) : Hp := fun a => match l.lookup a with
  | some v => some (CellO a v)
  | none => H a
def cellsL (cells : List (Str × Addr)) (fr : List Str) (js : List Nat) (σ : L2.St) : List (Addr × V) := (fr.zip js).filterMap fun p => (cells.lookup p.1).bind fun a => (slotAt σ p.2).map fun v => (a, v)
theorem tellL_none {l : List (Addr × V)} {H : Hp} {a : Addr} (e : l.lookup a = none) : tellL l H a = H a := by
  unfold tellL
  rw [e]
theorem tellL_some {l : List (Addr × V)} {H : Hp} {a : Addr} {v : V} (e : l.lookup a = some v) : tellL l H a = some (CellO a v) := by
  unfold tellL
  rw [e]
theorem mem_cellsL {cells : List (Str × Addr)} {fr : List Str} {js : List Nat} {σ : L2.St} {a : Addr} {v : V} (h : (a, v) ∈ cellsL cells fr js σ) : ∃ y j, (y, j) ∈ fr.zip js ∧ cells.lookup y = some a ∧ σ[j]? = some (some v) := by
  obtain ⟨⟨y, j⟩, h1, h2⟩ := List.mem_filterMap.mp h
  cases e1 : cells.lookup y with
  | none => rw [e1] at h2; cases h2
  | some c =>
    rw [e1] at h2
    cases e2 : slotAt σ j with
    | none => simp [e2] at h2
    | some z =>
      simp [e2] at h2
      obtain ⟨rfl, rfl⟩ := h2
      exact ⟨y, j, h1, e1, slotAt_some e2⟩
section
variable {CX : CXT} {P : Program} {w : World} {K : PySem.W.Frag} {mg : Str → Option Value} {base : Heap}
theorem fnR_of {k : Nat} {f : Addr} {name qual : Str} {params : Arguments} {body : List Stmt} {scope : Scope} {dV kV doc pm cdv ct oc : Value} {an od : Option Addr}
    {osl : Array (Option Value)} {N ps fr : List Str} {js : List Nat} {sp : Sp} (lk : K.lookup f = some ⟨oc, od, .func (PySem.W.fnOf name qual params body scope dV kV doc pm an cdv ct), osl⟩) (hcd : PySem.W.codeIn K cdv qual = true) (S : FnScope N ps scope)
    (hfr : ∀ p ∈ fr.zip js, N[p.2]? = some p.1 ∧ scope.names.lookup p.1 = some .cell) (len : ∀ vs H Q E, sp vs H Q E → vs.length = ps.length)
    (hbody : ∀ (A : Around) (outer : List Env) (s : Shared) (H : Hp) (vs : List V) (Q : VK) (E : XK), Room k (A.deeper (envOfC qual scope s.heap.objs.size f cdv)) → sp vs H Q E →
      ∃ t, PSR (cxOf CX P w K mg base N qual scope f cdv A outer s H E) body t ∧ t { nx := fun _ H' => Q .non H', r0 := Q, r1 := fun v σ H' => (∀ p ∈ cellsL (cellsFrom (s.heap.objs.size + 1) scope.names []) fr js σ, H' p.1 = none ∧ H p.1 = none) → Q v (tellL (cellsL (cellsFrom (s.heap.objs.size + 1) scope.names []) fr js σ) H') } (L2.start N vs) H) :
    FnOk P w K mg base CX (k + 1) f (PySem.W.fnOf name qual params body scope dV kV doc pm an cdv ct) ps sp := by
  refine ⟨len, fun A outer s H args us vs Q E hr e0 hb r hsp => ?_⟩
  have hl := len _ _ _ _ hsp
  have KX : K.In s.heap := e0.mod.kin.keeps fun b o e => (e0.bs b o e).1
  have lim : s.heap.NoLimit := e0.mod.nolimit.keeps fun b o e => (e0.bs b o e).1
  have hkind : ∀ y ∈ ps.zip us, scope.names.lookup y.1 = some .local ∨ (scope.names.lookup y.1 = some .cell ∧ ((cellsFrom (s.heap.objs.size + 1) scope.names []).lookup y.1).isSome = true) := fun ⟨n, v⟩ hy => by
    rcases S.par n (List.of_mem_zip hy).1 with q | q
    · exact .inl q
    · exact .inr ⟨q, PySem.W.cellsFrom_some _ _ _ (.inl q)⟩
  refine codeAny_call_function hr.depth (KX _ _ lk) rfl S.co S.gen rfl (PySem.W.codeRec_of KX hcd) (hb _ _ _ _ ?_)
  refine wpAny_newFunctionEnv_cells S.kind hkind fun env he s1 x => ?_
  subst he
  refine ⟨lim.keeps x.toInCall.keep, codeAny_func ?_⟩
  obtain ⟨t, ht, hq⟩ := hbody A outer s H vs Q E (hr.deeper _) hsp
  have I : Inv (cxOf CX P w K mg base N qual scope f cdv A outer s H E) [] (L2.start N vs) H s1 := inv_start S hr.hd e0 hl r x
  refine wpAny_mono (ht.run [] s1 (L2.start N vs) H _ I hq) (fun fl s' hs => ?_) fun e s' hs => hs
  have fin : ∀ {σ' : L2.St} {H' : Hp} {v : V} {u : Value}, Inv (cxOf CX P w K mg base N qual scope f cdv A outer s H E) [] σ' H' s' → L2.RelV v u → Q v H' → CE outer P w H s Q u s' :=
    fun {σ' H' v u} J rv q => ⟨v, H', J.os, J.bare, J.base, J.hok, rv, q⟩
  cases fl with
  | ret u =>
    obtain ⟨v, σ', H', J, rv, q⟩ := hs
    rcases q with q | q
    · exact fin J rv q
    · have q : (∀ p ∈ cellsL (cellsFrom (s.heap.objs.size + 1) scope.names []) fr js σ', H' p.1 = none ∧ H p.1 = none) → Q v (tellL (cellsL (cellsFrom (s.heap.objs.size + 1) scope.names []) fr js σ') H') := q
      obtain ⟨l, hL⟩ : ∃ l, cellsL (cellsFrom (s.heap.objs.size + 1) scope.names []) fr js σ' = l := ⟨_, rfl⟩
      rw [hL] at q
      have key : ∀ p ∈ l, ∃ y j, (y, j) ∈ fr.zip js ∧ (cellsFrom (s.heap.objs.size + 1) scope.names []).lookup y = some p.1 ∧ σ'[j]? = some (some p.2) := fun p hp => by
        rw [← hL] at hp
        exact mem_cellsL hp
      have nH' : ∀ p ∈ l, H' p.1 = none := fun p hp => by
        obtain ⟨y, j, _, h2, _⟩ := key p hp
        exact J.freeC y p.1 h2
      have new : ∀ p ∈ l, s.heap.objs.size ≤ p.1 := fun p hp => by
        obtain ⟨y, j, _, h2, _⟩ := key p hp
        exact J.ok.cab y p.1 rfl h2
      have hold : ∀ p ∈ l, ∃ u, RelV p.2 u ∧ s'.heap.IsCell p.1 (some u) := fun p hp => by
        obtain ⟨y, j, h1, h2, h3⟩ := key p hp
        obtain ⟨n1, n2⟩ := hfr (y, j) h1
        obtain ⟨m, hn, hl⟩ := J.loc
        obtain ⟨u, ru, lk⟩ := hl j y p.2 n1 h3 (.inr (.inl n2))
        rcases lk with ⟨z, _⟩ | ⟨_, c, hc, hcell⟩
        · have z : scope.names.lookup y = some .local := z
          rw [n2] at z
          cases z
        · have hc : (cellsFrom (s.heap.objs.size + 1) scope.names []).lookup y = some c := hc
          rw [h2] at hc
          cases hc
          exact ⟨u, ru, hcell⟩
      have look : ∀ a v, l.lookup a = some v → (a, v) ∈ l := fun a v e => look_mem e
      have old : ∀ b o, H' b = some o → l.lookup b = none := fun b o e => by
        cases e2 : l.lookup b with
        | none => rfl
        | some v => rw [nH' _ (look b v e2)] at e; cases e
      have below : ∀ b o, s.heap.get? b = some o → l.lookup b = none := fun b o e => by
        cases e2 : l.lookup b with
        | none => rfl
        | some v => exact absurd (Nat.lt_of_lt_of_le (Heap.lt_size e) (new _ (look b v e2))) (Nat.lt_irrefl _)
      have J0 : Un (frs outer) [] H H' s.heap s'.heap := J.base
      refine ⟨v, tellL l H', J.os, J.bare, ⟨J0.keep, J0.slot, fun b o e n hx => ?_, J0.there, fun b xs e => ?_, fun b o u e => ?_, fun b ps e => ?_⟩, fun b o e => ?_, rv, q fun p hp => ⟨nH' p hp, e0.hok.fresh (new p hp)⟩⟩
      · rw [tellL_none (below b o e)]
        exact J0.free b o e n hx
      · have h := J0.tups b xs e
        rw [tellL_none (old b _ h)]
        exact h
      · have h := J0.frzs b o u e
        rw [tellL_none (old b _ h)]
        exact h
      · obtain ⟨more, h⟩ := J0.tbls b ps e
        exact ⟨more, by rw [tellL_none (old b _ h)]; exact h⟩
      · cases e2 : l.lookup b with
        | some v' =>
          rw [tellL_some e2] at e
          cases e
          obtain ⟨u', ru, o', ho, hd⟩ := hold _ (look b v' e2)
          exact ⟨⟨u', ru, o', ho, hd⟩, ⟨o', ho⟩, fun h1 h2 ⟨x, rx, y, hy, hz⟩ st => ⟨x, rx, y, st _ hy, hz⟩⟩
        | none =>
          rw [tellL_none e2] at e
          exact (J.hok b o e).stay (fun _ _ _ q => q) (fun c q => by rw [tellL_none (old c _ q)]; exact q) fun c xs q => by rw [tellL_none (old c _ q)]; exact q
  | next =>
    obtain ⟨σ', H', J, q⟩ := hs
    exact fin (v := V.non) (u := Value.none) J rfl q
  | brk => exact False.elim hs
  | cont => exact False.elim hs
end
end Clo
-- part Gd31
set_option Elab.async false
set_option linter.all false
set_option maxRecDepth 100000
set_option maxHeartbeats 1000000
-- part Gd32
set_option Elab.async false
set_option linter.all false
set_option maxRecDepth 100000
set_option maxHeartbeats 1000000
namespace Gd
open PySem PySem.Spec PyProof.Rows L2
universe u
def NoTb (G : Hp) : Prop := ∀ a o, G a = some o → isTb o = false
structure GoX (G H G2 H2 : Hp) : Prop where
  g : Same G G2
  h : ∀ a o, isTb o = false → H a = some o → H2 a = some o
  r0 : ∀ a o, G a = none → G2 a = some o → H2 a = some o
  n : ∀ a o, isTb o = false → H a = some o → G2 a = G a
  t : ∀ a o, G a = none → G2 a = some o → isTb o = false
def Nw (H : Hp) (p : Addr) : Prop := ∀ o, H p = some o → isTb o = true
section
variable {G H G2 H2 G3 H3 : Hp} {s c : Addr} {n : Nat} {Tb : List (Addr × Str)}
theorem Nw.of {p : Addr} (h : H p = none) : Nw H p := fun o e => by rw [h] at e; cases e
theorem Nw.ne {p a : Addr} {o : HO} (h : Nw H p) (e : H a = some o) (ho : isTb o = false := by rfl) : a ≠ p := fun z => by
  rw [z] at e
  rw [h o e] at ho
  cases ho
theorem NoTb.none : NoTb (fun _ => none) := fun _ _ h => by cases h
theorem NoTb.go (t : NoTb G) (g : Go G H G2 H2) : NoTb G2 := fun a o e => by
  cases z : G a with
  | none => exact g.t a o z e
  | some u =>
    have e2 := g.g a u z
    rw [e] at e2
    cases e2
    exact t a o z
theorem NoTb.gs (t : NoTb G) (g : GoS s c G H G2 H2) : NoTb G2 := fun a o e => by
  cases z : G a with
  | none => exact g.t a o z e
  | some u =>
    have e2 := g.g a u z
    rw [e] at e2
    cases e2
    exact t a o z
theorem NoTb.gx (t : NoTb G) (g : GoX G H G2 H2) : NoTb G2 := fun a o e => by
  cases z : G a with
  | none => exact g.t a o z e
  | some u =>
    have e2 := g.g a u z
    rw [e] at e2
    cases e2
    exact t a o z
theorem NoTb.up (t : NoTb G) {p : Addr} {o : HO} (ho : isTb o = false := by rfl) : NoTb (upd G p o) := fun a u e => by
  by_cases z : a = p
  · subst z; rw [upd_same] at e; cases e; exact ho
  · rw [upd_ne z] at e; exact t a u e
theorem Go.x (g : Go G H G2 H2) : GoX G H G2 H2 := ⟨g.g, fun a o _ e => g.h a o e, g.r0, fun a o _ e => g.n a o e, g.t⟩
theorem GoX.refl (G H : Hp) : GoX G H G H := (Go.refl G H).x
theorem GoX.ext (e : LamX.ExtN H H2) : GoX G H G H2 := ⟨Same.refl G, fun a o h q => e a o q fun ps => ne_tbl h ps, fun a o h q => (by rw [h] at q; cases q), fun _ _ _ _ => rfl, fun a o h q => (by rw [h] at q; cases q)⟩
theorem GoX.trans (a : GoX G H G2 H2) (b : GoX G2 H2 G3 H3) : GoX G H G3 H3 :=
  ⟨a.g.trans b.g, fun x o ho e => b.h x o ho (a.h x o ho e), fun x o q e => by
    cases z : G2 x with
    | none => exact b.r0 x o z e
    | some u =>
      have e2 := b.g x u z
      rw [e] at e2
      cases e2
      exact b.h _ _ (a.t x o q z) (a.r0 x o q z), fun x o ho e => (b.n x o ho (a.h x o ho e)).trans (a.n x o ho e), fun x o q e => by
    cases z : G2 x with
    | none => exact b.t x o z e
    | some u =>
      have e2 := b.g x u z
      rw [e] at e2
      cases e2
      exact a.t x o q z⟩
theorem GoX.r (k : GoX G H G2 H2) (t : NoTb G) (r : Rel true G H) : Rel true G2 H2 := fun a o e => by
  cases q : G a with
  | none => exact .inl (k.r0 a o q e)
  | some u =>
    have e2 := k.g a u q
    rw [e] at e2
    cases e2
    exact .inl (k.h _ _ (t a o q) (r.ex q))
theorem GoX.nw {p : Addr} (g : GoX G H G2 H2) (h : Nw H2 p) : Nw H p := fun o e => by
  cases z : isTb o with
  | true => rfl
  | false =>
    have := h o (g.h _ _ z e)
    rw [z] at this
    cases this
theorem GoX.free {p : Addr} (g : GoX G H G2 H2) (h : H2 p = none) : Nw H p := g.nw (Nw.of h)
theorem GoX.wr (g : GoX G H G2 H2) {p : Addr} {o : HO} (n : Nw H p) (n2 : G2 p = none) : GoX G H G2 (upd H2 p o) :=
  ⟨g.g, fun a u hu e => by rw [upd_ne (n.ne e hu)]; exact g.h a u hu e, fun a u q e => by rw [upd_ne (ne_of_none e n2)]; exact g.r0 a u q e, g.n, g.t⟩
theorem GoX.give (g : GoX G H G2 H2) {p : Addr} {o : HO} (n : Nw H p) (n2 : G2 p = none) (h : H2 p = some o) (ho : isTb o = false := by rfl) : GoX G H (upd G2 p o) H2 :=
  ⟨Same.own g.g (by
      cases q : G p with
      | none => rfl
      | some u => rw [g.g p u q] at n2; cases n2), g.h, fun a u q e => by
      by_cases z : a = p
      · subst z; rw [upd_same] at e; rw [h]; exact e
      · rw [upd_ne z] at e; exact g.r0 a u q e, fun a u hu e => by
      rw [upd_ne (n.ne e hu)]
      exact g.n a u hu e, fun a u q e => by
      by_cases z : a = p
      · subst z; rw [upd_same] at e; cases e; exact ho
      · rw [upd_ne z] at e; exact g.t a u q e⟩
theorem Dr.gx (d : Dr s c n G H) (g : GoX G H G2 H2) : Dr s c n G2 H2 := by
  obtain ⟨h1, h2, h3, cells, a, mm, cnt, e1, e2, e⟩ := d
  exact ⟨h1, (g.n _ _ rfl e1).trans h2, (g.n _ _ rfl e2).trans h3, cells, a, mm, cnt, g.h _ _ rfl e1, g.h _ _ rfl e2, e⟩
end
def EvX (Tb : List (Addr × Str)) (t : TE) (σ : L2.St) (G : Hp) (R : SR) : Prop := ∀ G1 H1, Same G G1 → Rel true G1 H1 → NoTb G1 → LamX.Tabs Tb H1 → ∀ Q : VK, (∀ u G2 H2, GoX G1 H1 G2 H2 → LamX.Tabs Tb H2 → R.p u G2 → Q u H2) → t σ H1 Q
def EvXN (Tb : List (Addr × Str)) (t : TE) (σ : L2.St) (G : Hp) {α : Type} (e : α → SR) (xs : List α) : Prop := ∀ G1 H1, Same G G1 → Rel true G1 H1 → NoTb G1 → LamX.Tabs Tb H1 → ∀ Q : VK,
  (∀ p vs G2 H2, GoX G1 H1 G2 H2 → LamX.Tabs Tb H2 → Nw H1 p → G2 p = none → H2 p = some (.lst vs) → vs.length ≤ sizeLine → Al e xs vs G2 → Q (.ref p) H2) → t σ H1 Q
section
variable {Tb : List (Addr × Str)} {σ : L2.St} {G G' H : Hp} {t ta tb te : TE} {R R' : SR} {α β : Type} {e : α → SR} {xs : List α}
theorem EvX.run (h : EvX Tb t σ G R) (r : Rel true G H) (nt : NoTb G) (tb : LamX.Tabs Tb H) {Q : VK} (k : ∀ v G2 H2, GoX G H G2 H2 → Rel true G2 H2 → NoTb G2 → LamX.Tabs Tb H2 → R.p v G2 → Q v H2) : t σ H Q :=
  h G H (Same.refl G) r nt tb Q fun v G2 H2 g t2 p => k v G2 H2 g (g.r nt r) (nt.gx g) t2 p
theorem EvXN.run (h : EvXN Tb t σ G e xs) (r : Rel true G H) (nt : NoTb G) (tb : LamX.Tabs Tb H) {Q : VK} (k : ∀ p vs G2 H2, GoX G H G2 H2 → Rel true G2 H2 → NoTb G2 → LamX.Tabs Tb H2 → Nw H p → G2 p = none → H2 p = some (.lst vs) → vs.length ≤ sizeLine → Al e xs vs G2 → Q (.ref p) H2) : t σ H Q :=
  h G H (Same.refl G) r nt tb Q fun p vs G2 H2 g t2 n1 n2 n3 n4 n5 => k p vs G2 H2 g (g.r nt r) (nt.gx g) t2 n1 n2 n3 n4 n5
theorem EvX.mono (s : Same G G') (h : EvX Tb t σ G R) : EvX Tb t σ G' R := fun G1 H1 a r nt tb Q k => h G1 H1 (s.trans a) r nt tb Q k
theorem EvX.is (h : EvX Tb t σ G R) (q : ∀ u G2, Same G G2 → R.p u G2 → R'.p u G2) : EvX Tb t σ G R' := fun G1 H1 a r nt tb Q k => h G1 H1 a r nt tb Q fun u G2 H2 g t2 p => k u G2 H2 g t2 (q u G2 (a.trans g.g) p)
theorem EvX.eq (h : EvX Tb t σ G R) (q : R = R') : EvX Tb t σ G R' := q ▸ h
theorem EvXN.eq {ys : List α} (h : EvXN Tb t σ G e xs) (q : xs = ys) : EvXN Tb t σ G e ys := q ▸ h
theorem EvXN.ev (h : EvXN Tb t σ G e xs) : EvX Tb t σ G (Lst e xs) := fun G1 H1 a r nt tb Q k => h G1 H1 a r nt tb Q fun p vs G2 H2 g t2 n1 n2 n3 n4 n5 =>
  k (.ref p) _ H2 (g.give n1 n2 n3) t2 ⟨p, vs, rfl, upd_same, n4, n5.st (Same.new n2)⟩
variable {D : Ends} {u : TS}
end
end Gd
-- part Gd33
set_option Elab.async false
set_option linter.all false
set_option maxRecDepth 100000
set_option maxHeartbeats 2000000
namespace Gd
open PySem PySem.Spec PyProof.Rows L2 PySem.W
def clauseM (place : Pos) (tg : Expr) (ifs : List Expr) (it : Value) (env : Env) (yes no : Sem PySem.Fin) : Sem PySem.Fin := do
  standAt place
  match ← pyNext it with
  | none => pure (.done .next)
  | some v => do
    letOwnedTupleGo tg it v
    assign tg env v
    let ok ← forIn ifs true fun c r => (if r = true then do let q ← isTrue c env (eval c env); pure (ForInStep.yield q) else pure (ForInStep.yield r))
    if ok = true then yes else no
def Kn (a b : L2.St) : Prop := a.length = b.length ∧ ∀ (j : Nat) (v : V), a[j]? = some (some v) → b[j]? = some (some v)
theorem Kn.refl (a : L2.St) : Kn a a := ⟨rfl, fun _ _ e => e⟩
theorem Kn.trans {a b c : L2.St} (x : Kn a b) (y : Kn b c) : Kn a c := ⟨x.1.trans y.1, fun j v e => y.2 j v (x.2 j v e)⟩
theorem Kn.of {a b : L2.St} {vs : List Nat} (h : wipe b vs = a) : Kn a b := by
  subst h
  exact ⟨wipe_length _ _, fun j v e => (wipe_some e).1⟩
section
variable {X : Cx} {kx vx : Expr} {gens : List Comprehension} {scope : Scope} {pos : Pos} {kk : Nat} {it : Addr} {acc : Value} {place : Pos} {tg : Expr} {ifs : List Expr} {yes : Sem PySem.Fin} {fp : List Addr} {tn : Nat → Heap → Prop} {J : It} {pins : List (Addr × Obj)} {σ : L2.St} {g : TG} {tt : TT} {R : Result → Shared → Prop}
theorem clause_ok {Ok : L2.St → Prop} {End : Hp → Prop} {Body : L2.St → Hp → (Hp → Prop) → Prop} {W : Nat → Nat → Hp → Prop} (hx : X.xe = fun _ _ => False) (hc : X.calm = true) (heq : compTurn (.DictComp kx vx gens scope pos) kk (.ref it) acc X.env = clauseM place tg ifs (.ref it) X.env yes (again (.compLoop (.DictComp kx vx gens scope pos) kk (.ref it) acc X.env)))
    (T : Turn X.prog X.w X.K tg J fp it tn) (pg : PG X tg g) (pt : PTs X ifs tt) (stat : ∀ H' : Hp, (∀ b ∈ fp, H' b = none) → ∀ b ∈ fp, FpOk X pins H' b) (hok : ∀ σ2, Ok σ2 → Kn σ σ2)
    (turn : ∀ i m H, W i m H → (J.stop i H ∧ End H) ∨ (J.go i H ∧ ∃ Nx : Hp → Prop, (∀ H', Nx H' → ∃ m', m' < m ∧ W (i + 1) m' H') ∧ ∀ x H', J.yld i H x H' → g x σ H' fun σ2 H2 => Ok σ2 ∧ tt σ2 H2 fun b H3 => if b = true then Body σ2 H3 Nx else Nx H3))
    (body : ∀ (pl : List (Addr × Obj)) (σ2 : L2.St) (H3 : Hp) (Nx : Hp → Prop) (s : Shared), Ok σ2 → Inv X (pins ++ pl) σ2 H3 s → Body σ2 H3 Nx → wpAny (model X.prog X.w) X.A yes (fun f s' => f = .again (.compLoop (.DictComp kx vx gens scope pos) kk (.ref it) acc X.env) ∧ ∃ σ' H', Inv X (pins ++ pl) σ' H' s' ∧ Kn σ σ' ∧ Nx H') (fun _ _ => False) s)
    (fine : ∀ s H, Inv X pins σ H s → End H → R (.ok .next) s) {s : Shared} {m : Nat} {H : Hp} (I : Inv X pins σ H s) (t0 : tn 0 s.heap) (nf : ∀ b ∈ fp, H b = none) (w0 : W 0 m H) : codeAny (model X.prog X.w) X.A (.compLoop (.DictComp kx vx gens scope pos) kk (.ref it) acc X.env) R s := by
  refine codeAny_loop rfl (fun m s => ∃ i H, Inv X pins σ H s ∧ tn i s.heap ∧ (∀ b ∈ fp, H b = none) ∧ W i m H) (fun m s ⟨i, H, I, ti, nf, w⟩ => ?_) m ⟨0, H, I, t0, nf, w0⟩
  show wpAny _ X.A ((compTurn (.DictComp kx vx gens scope pos) kk (.ref it) acc X.env).onRaise fun x => do noteFrame x X.env; theTreesLotGoes x) _ _ s
  refine wpAny_noted ?_
  rw [heq]
  refine wpAny_bind (wpAny_standAt (wpAny_bind ?_))
  rcases turn i m H w with ⟨stop, z⟩ | ⟨go, Nx, next, step⟩
  · refine thnF (T.done X rfl rfl rfl hc i pins s σ H (fun _ _ => False) I (stat H nf) ti stop) fun r s1 ⟨hr, I1⟩ => ?_
    subst hr
    exact wpAny_pure (fine s1 H I1 z)
  refine thnF (T.item X rfl rfl rfl hc i pins s σ H (fun _ _ => False) I (stat H nf) ti go) fun r s1 ⟨u, hr, h1⟩ => ?_
  subst hr
  refine wpAny_bind (thnF h1 fun _ s2 ⟨x, H2, I2, ru, y2, t2, n2⟩ => ?_)
  have P2 := I2.pinned (stat H2 n2) (T.obj _ _ t2)
  have a1 := pg.run _ s2 σ H2 x u _ P2 ru (step x H2 y2)
  rw [hx] at a1
  refine wpAny_bind (thnF a1 fun _ s3 ⟨σ3, H3, I3, ok3, q3⟩ => ?_)
  have a2 := pt.run _ s3 σ3 H3 _ I3 q3
  rw [hx] at a2
  refine wpAny_bind (thnF a2 fun b s4 ⟨H4, I4, q4⟩ => ?_)
  -- the state behind a turn
  have turned : ∀ {σ' : L2.St} {s' : Shared} {H' : Hp}, Inv X (pins ++ pinsAt fp s2.heap) σ' H' s' → Kn σ σ' → Nx H' → ∃ m', m' < m ∧ ∃ i H, Inv X pins σ H s' ∧ tn i s'.heap ∧ (∀ b ∈ fp, H b = none) ∧ W i m' H := fun {σ' s' H'} J' kn nx => by
    obtain ⟨m', hm, w'⟩ := next H' nx
    have keep : ∀ b ∈ fp, ∀ o, s2.heap.get? b = some o → s'.heap.get? b = some o ∧ H' b = none := fun b hb o eo => by
      have z := J'.pin (b, o) (List.mem_append_right _ (List.mem_append_right _ (mem_pinsAt hb eo)))
      exact ⟨z.1, z.2.1⟩
    exact ⟨m', hm, i + 1, H', J'.unpinned.weak kn.1 kn.2, T.keep _ _ _ t2 fun b hb o eo => (keep b hb o eo).1, fun b hb => let ⟨o, eo, _⟩ := T.obj _ _ t2 b hb; (keep b hb o eo).2, w'⟩
  cases b with
  | false =>
    rw [if_neg (by decide)] at q4 ⊢
    exact wpAny_pure ⟨rfl, turned I4 (hok _ ok3) q4⟩
  | true =>
    rw [if_pos rfl] at q4 ⊢
    refine thnF (body _ σ3 H4 Nx s4 ok3 I4 q4) fun f s5 ⟨hf, σ5, H5, I5, kn, nx⟩ => ?_
    subst hf
    exact ⟨rfl, turned I5 kn nx⟩
end
section
variable {kx vx t0 i0 t1 i1 : Expr} {c0 c1 : List Expr} {scope : Scope} {pos : Pos} {it : Value} {D : Addr} {env : Env}
theorem dturn_in : compTurn (.DictComp kx vx [⟨t0, i0, c0, 0⟩, ⟨t1, i1, c1, 0⟩] scope pos) 1 it (.ref D) env = clauseM i1.pos t1 c1 it env ((do
    let a ← eval kx env
    let b ← holding [a] (eval vx env)
    standAt { kx.pos with endLine := vx.pos.endLine, endCol := vx.pos.endCol }
    holding [a, b] (dictSet D a b)) >>= fun _ => again (.compLoop (.DictComp kx vx [⟨t0, i0, c0, 0⟩, ⟨t1, i1, c1, 0⟩] scope pos) 1 it (.ref D) env)) (again (.compLoop (.DictComp kx vx [⟨t0, i0, c0, 0⟩, ⟨t1, i1, c1, 0⟩] scope pos) 1 it (.ref D) env)) := by rfl
theorem dturn_out : compTurn (.DictComp kx vx [⟨t0, i0, c0, 0⟩, ⟨t1, i1, c1, 0⟩] scope pos) 0 it (.ref D) env = clauseM i0.pos t0 c0 it env (do
    let x ← eval i1 env
    standAt i1.pos
    let y ← foldedSetIterable i1 env x
    let _ ← runOwn (.compStart (.DictComp kx vx [⟨t0, i0, c0, 0⟩, ⟨t1, i1, c1, 0⟩] scope pos) 1 (← holding [y] (pyIter y)) (.ref D) env) env
    again (.compLoop (.DictComp kx vx [⟨t0, i0, c0, 0⟩, ⟨t1, i1, c1, 0⟩] scope pos) 0 it (.ref D) env)) (again (.compLoop (.DictComp kx vx [⟨t0, i0, c0, 0⟩, ⟨t1, i1, c1, 0⟩] scope pos) 0 it (.ref D) env)) := by rfl
theorem dstart_in {P : Program} {w : World} {A : Around} {R : Result → Shared → Prop} {s : Shared} {a : Addr} (l : codeAny (model P w) A (.compLoop (.DictComp kx vx [⟨t0, i0, c0, 0⟩, ⟨t1, i1, c1, 0⟩] scope pos) 1 (.ref a) (.ref D) env) R s) (hs : ∀ (Q : Value → Shared → Prop) (E : Value → Shared → Prop), Q (.ref a) s → wpAny (model P w) A (pyIter (.ref a)) Q E s) :
    codeAny (model P w) A (.compStart (.DictComp kx vx [⟨t0, i0, c0, 0⟩, ⟨t1, i1, c1, 0⟩] scope pos) 1 (.ref a) (.ref D) env) R s := by
  refine codeAny_of_tree ?_
  show wpAny _ A ((compStart (.DictComp kx vx [⟨t0, i0, c0, 0⟩, ⟨t1, i1, c1, 0⟩] scope pos) 1 (.ref a) (.ref D) env).onRaise fun x => do noteFrame x env; standAt theWindowsPlace) _ _ s
  refine wpAny_notedAt ?_
  unfold compStart
  show wpAny _ A (ask >>= _) _ _ s
  refine wpAny_bind (wpAny_askSetting (wpAny_ite ?_))
  split
  · first
      | exact wpAny_pure ⟨rfl, l⟩
      | exact wpAny_bind (wpAny_pure (wpAny_pure ⟨rfl, l⟩))
  · refine wpAny_bind (wpAny_rule ?_)
    show wpAny _ A (standAt i1.pos >>= _) _ _ s
    exact wpAny_bind (wpAny_standAt (wpAny_bind (hs _ _ (wpAny_pure ⟨rfl, l⟩))))
end
def tDc2 (wi : TI) (g : TG) (tt : TT) (wi1 : TI) (g1 : TG) (tt1 : TT) (tk tv : TE) (vs vs1 : List Nat) : TE := fun σ H Q => wi σ H fun J H0 => ∀ D, H0 D = none → ∃ W : Nat → Nat → Hp → Prop, (∃ m, W 0 m (upd H0 D (.dK []))) ∧
  ∀ i m H, W i m H → (J.stop i H ∧ Q (.ref D) H) ∨ (J.go i H ∧ ∃ Nx : Hp → Prop, (∀ H', Nx H' → ∃ m', m' < m ∧ W (i + 1) m' H') ∧ ∀ x H', J.yld i H x H' → g x (wipe σ vs) H' fun σ2 H2 => wipe σ2 vs = wipe σ vs ∧ tt σ2 H2 fun b H3 =>
    if b = true then (wi1 σ2 H3 fun J1 H4 => ∃ W1 : Nat → Nat → Hp → Prop, (∃ m, W1 0 m H4) ∧
      ∀ j k H, W1 j k H → (J1.stop j H ∧ Nx H) ∨ (J1.go j H ∧ ∃ Nx1 : Hp → Prop, (∀ H', Nx1 H' → ∃ k', k' < k ∧ W1 (j + 1) k' H') ∧ ∀ x H', J1.yld j H x H' → g1 x (wipe σ2 vs1) H' fun σ3 H5 => wipe σ3 vs1 = wipe σ2 vs1 ∧ tt1 σ3 H5 fun b H6 =>
        if b = true then (tk σ3 H6 fun y H7 => tv σ3 H7 fun z H8 => ∃ kvs k, y = kV k ∧ H8 D = some (.dK kvs) ∧ kvs.length < sizeLine ∧ Nx1 (upd H8 D (.dK (putK kvs k z)))) else Nx1 H6))
    else Nx H3)
theorem kn_wipe {a b : L2.St} {vs vs1 : List Nat} (h : wipe b vs = wipe a vs) (hv : ∀ i ∈ vs1, i ∈ vs) : Kn (wipe a vs) (wipe b vs1) := by
  refine ⟨?_, fun j v e => ?_⟩
  · rw [← h, wipe_length, wipe_length]
  · rw [← h] at e
    obtain ⟨e1, e2⟩ := wipe_some e
    rw [wipe_out fun z => e2 (hv j z)]
    exact e1
section
variable {X : Cx} {kx vx tg iter tg1 iter1 : Expr} {ifs ifs1 : List Expr} {scope : Scope} {own : List (Str × Nat)} {vs1 : List Nat} {pos : Pos} {wi wi1 : TI} {g g1 : TG} {tt tt1 : TT} {tk tv : TE}
theorem dc2_loops {Y : Cx} {fp : List Addr} {it D : Addr} {tn : Nat → Heap → Prop} {J : It} {R : Result → Shared → Prop} {End : Hp → Prop} {σ : L2.St} {vs : List Nat} {W : Nat → Nat → Hp → Prop} (hx : Y.xe = fun _ _ => False) (hc : Y.calm = true) (T : Turn Y.prog Y.w Y.K tg J fp it tn) (pg : PG Y tg g) (pt : PTs Y ifs tt) (pi : PI Y tg1 iter1 wi1) (pg1 : PG Y tg1 g1) (pt1 : PTs Y ifs1 tt1) (pk : PE Y kx tk) (pv : PE Y vx tv)
    (hs1 : ∀ x, foldedSetIterable iter1 Y.env x = pure x) (hv : ∀ i ∈ vs1, i ∈ vs) (stat : ∀ H' : Hp, (∀ b ∈ fp, H' b = none) → ∀ b ∈ fp, FpOk Y [] H' b)
    (turn : ∀ i m H, W i m H → (J.stop i H ∧ End H) ∨ (J.go i H ∧ ∃ Nx : Hp → Prop, (∀ H', Nx H' → ∃ m', m' < m ∧ W (i + 1) m' H') ∧ ∀ x H', J.yld i H x H' → g x (wipe σ vs) H' fun σ2 H2 => wipe σ2 vs = wipe σ vs ∧ tt σ2 H2 fun b H3 =>
      if b = true then (wi1 σ2 H3 fun J1 H4 => ∃ W1 : Nat → Nat → Hp → Prop, (∃ m, W1 0 m H4) ∧
        ∀ j k H, W1 j k H → (J1.stop j H ∧ Nx H) ∨ (J1.go j H ∧ ∃ Nx1 : Hp → Prop, (∀ H', Nx1 H' → ∃ k', k' < k ∧ W1 (j + 1) k' H') ∧ ∀ x H', J1.yld j H x H' → g1 x (wipe σ2 vs1) H' fun σ3 H5 => wipe σ3 vs1 = wipe σ2 vs1 ∧ tt1 σ3 H5 fun b H6 =>
          if b = true then (tk σ3 H6 fun y H7 => tv σ3 H7 fun z H8 => ∃ kvs k, y = kV k ∧ H8 D = some (.dK kvs) ∧ kvs.length < sizeLine ∧ Nx1 (upd H8 D (.dK (putK kvs k z)))) else Nx1 H6))
      else Nx H3))
    (fine : ∀ s H, Inv Y [] (wipe σ vs) H s → End H → R (.ok .next) s) {s : Shared} {m : Nat} {H : Hp} (I : Inv Y [] (wipe σ vs) H s) (t0 : tn 0 s.heap) (nf : ∀ b ∈ fp, H b = none) (w0 : W 0 m H) :
    codeAny (model Y.prog Y.w) Y.A (.compLoop (.DictComp kx vx [⟨tg, iter, ifs, 0⟩, ⟨tg1, iter1, ifs1, 0⟩] scope pos) 0 (.ref it) (.ref D) Y.env) R s := by
  refine clause_ok (pins := []) (Ok := fun σ2 => wipe σ2 vs = wipe σ vs) (End := End) (W := W) hx hc dturn_out T pg pt stat (fun σ2 h => Kn.of h) turn (fun pl σ2 H3 Nx s ok2 I3 q3 => ?_) fine I t0 nf w0
  have a1 := pi.run _ s σ2 H3 _ I3 q3
  rw [hx] at a1
  refine wpAny_bind (thnF a1 fun x s1 h1 => wpAny_bind (wpAny_standAt (wpAny_bind (wpAny_of_eq (hs1 x) ?_))))
  refine wpAny_bind (wpAny_holding (thnF h1 fun itv s2 h2 => ?_))
  obtain ⟨it1, fp1, tn1, J1, H4, e1, I4, T1, t4, f4, W1, ⟨m1, w1⟩, turn1⟩ := h2
  subst e1
  refine wpAny_bind (wpAny_runOwn ?_)
  rw [Around.mark_none]
  have loop : codeAny (model Y.prog Y.w) Y.A (.compLoop (.DictComp kx vx [⟨tg, iter, ifs, 0⟩, ⟨tg1, iter1, ifs1, 0⟩] scope pos) 1 (.ref it1) (.ref D) Y.env) (fun r s' => ∃ fl, r = .ok fl ∧ ∃ H', Inv Y ([] ++ pl) (wipe σ2 vs1) H' s' ∧ Nx H') s2 := by
    refine clause_ok (pins := [] ++ pl) (Ok := fun σ3 => wipe σ3 vs1 = wipe σ2 vs1) (End := Nx) (W := W1) hx hc dturn_in T1 pg1 pt1 (fun H' hn b hb => ⟨hn b hb, (f4 b hb).2⟩) (fun σ3 h => Kn.of h) turn1 (fun pl2 σ3 H6 Nx1 s6 ok3 I6 q6 => ?_) (fun s7 H7 I7 nx => ⟨_, rfl, H7, I7, nx⟩) (I4.weak (wipe_length _ _) fun j v e => (wipe_some e).1) t4 (fun b hb => (f4 b hb).1) w1
    have b1 := pk.run _ s6 σ3 H6 _ I6 q6
    rw [hx] at b1
    refine wpAny_bind (wpAny_bind (thnF b1 fun u7 s7 ⟨y, H7, I7, r7, q7⟩ => ?_))
    have b2 := pv.run _ s7 σ3 H7 _ I7 q7
    rw [hx] at b2
    refine wpAny_bind (wpAny_holding (thnF b2 fun u8 s8 ⟨z, H8, I8, r8, kvs, k, ek, hD, hz, nx⟩ => ?_))
    subst ek
    exact wpAny_bind (wpAny_standAt (wpAny_holding (d_dictSet I8 hD hz r7 r8 fun s9 I9 => wpAny_pure ⟨rfl, σ3, _, I9, Kn.of ok3, nx⟩)))
  refine codeAny_mono (dstart_in loop fun Q E q => T1.self _ 0 _ _ _ t4 q) fun r s' ⟨fl, er, H', I', nx⟩ => ?_
  subst er
  exact wpAny_pure ⟨rfl, _, H', I', kn_wipe ok2 hv, nx⟩
theorem pe_dc2 (hc : X.calm = true) (hN : X.N.Nodup) (hi : PI X tg iter wi) (ok : BlkOk X.N X.env.scope scope own) (hv : ∀ i ∈ vs1, i ∈ own.map (·.2)) (hg : ∀ s H C cl fp, PG (X.blk s H scope (compEnvC scope cl C X.env) fp) tg g) (ht : ∀ s H C cl fp, PTs (X.blk s H scope (compEnvC scope cl C X.env) fp) ifs tt)
    (hi1 : ∀ s H C cl fp, PI (X.blk s H scope (compEnvC scope cl C X.env) fp) tg1 iter1 wi1) (hg1 : ∀ s H C cl fp, PG (X.blk s H scope (compEnvC scope cl C X.env) fp) tg1 g1) (ht1 : ∀ s H C cl fp, PTs (X.blk s H scope (compEnvC scope cl C X.env) fp) ifs1 tt1)
    (hk : ∀ s H C cl fp, PE (X.blk s H scope (compEnvC scope cl C X.env) fp) kx tk) (he : ∀ s H C cl fp, PE (X.blk s H scope (compEnvC scope cl C X.env) fp) vx tv) (hs : ∀ x, foldedSetIterable iter X.env x = pure x := by intro _; rfl) (hs1 : ∀ env x, foldedSetIterable iter1 env x = pure x := by intro _ _; rfl) :
    PE X (.DictComp kx vx [⟨tg, iter, ifs, 0⟩, ⟨tg1, iter1, ifs1, 0⟩] scope pos) (tDc2 wi g tt wi1 g1 tt1 tk tv (own.map (·.2)) vs1) := by
  refine ⟨fun pins s σ H Q I h => ?_⟩
  rw [arm_eval_DictComp]
  refine wpAny_comprehension_free (use := none) rfl hs (closure_ok fun y hy e => (ok.free y hy e).elim (fun k => I.ok.has _ (.inl k)) fun k => I.ok.has _ (.inr k)) ok.kind (fun y hy e => by rw [ok.uniq y hy]; exact congrArg some e) (thn (hi.run pins s σ H _ I h) fun v1 s1 h1 => thn h1 fun v2 s2 h2 => ?_)
  obtain ⟨it, fp, tn, J, H2, e2, I2, T, t2, f2, q⟩ := h2
  subst e2
  refine wpAny_newObj_type (newEnv_comp ?_)
  have fr := I2.hok.fresh (Nat.le_refl s2.heap.objs.size)
  obtain ⟨W, ⟨m0, w0⟩, turn⟩ := q s2.heap.objs.size fr
  have I3 : Inv X pins σ (upd H2 s2.heap.objs.size (.dK [])) { s2 with heap := s2.heap.push { cls := .type "dict", data := .dict #[] } } := I2.laid (t' := s2.toks) (fun b o e => Heap.get?_push_of_some _ e) (Nat.le_refl _) (dk_empty s2.heap I2.big)
  have old : ∀ b ∈ fp, b < s2.heap.objs.size := fun b hb => let ⟨_, e, _⟩ := T.obj _ _ t2 b hb; Heap.lt_size e
  have f3 : ∀ b ∈ fp, FpOk X pins (upd H2 s2.heap.objs.size (.dK [])) b ∧ b < (s2.heap.push { cls := .type "dict", data := .dict #[] }).objs.size := fun b hb => by
    refine ⟨⟨?_, (f2 b hb).2⟩, by rw [Heap.size_push]; exact Nat.lt_succ_of_lt (old b hb)⟩
    rw [upd_ne (Nat.ne_of_lt (old b hb))]
    exact (f2 b hb).1
  have I4 := block_start I3 ok hN f3
  have kept : ∀ b o, s2.heap.get? b = some o → (pushCells ((s2.heap.push { cls := .type "dict", data := .dict #[] }).push { cls := .type "dict", data := .dict #[] }) scope.names).get? b = some o := fun b o e => pushCells_keeps _ _ _ _ (Heap.get?_push_of_some _ (Heap.get?_push_of_some _ e))
  have t4 := T.keep _ _ _ t2 fun b _ o e => kept b o e
  have fine : ∀ s6 H6, Inv (X.blk { s2 with heap := s2.heap.push { cls := .type "dict", data := .dict #[] } } (upd H2 s2.heap.objs.size (.dK [])) scope (compEnvC scope (cellsFrom ((s2.heap.push { cls := .type "dict", data := .dict #[] }).objs.size + 1) scope.names (cloFrom X.env.cells scope.names [])) (s2.heap.push { cls := .type "dict", data := .dict #[] }).objs.size X.env) fp) [] (wipe σ (own.map (·.2))) H6 s6 → Q (.ref s2.heap.objs.size) H6 → (compPost (model X.prog X.w) X.A X.xe none (EP X pins σ Q) (.ref s2.heap.objs.size) (s2.heap.push { cls := .type "dict", data := .dict #[] }).objs.size) (.ok .next) s6 := fun s6 H6 I6 q6 => by
    have I7 : Inv X pins σ H6 s6 := I3.call' (ch := fp) I6.os I6.base I6.hok I6.bare fun b hb => ⟨(f3 b hb).1.2.2.2.1, (f3 b hb).1.2.1, (f3 b hb).1.2.2.2.2.1, (f3 b hb).1.2.2.2.2.2⟩
    obtain ⟨m, hn, _⟩ := I6.loc
    obtain ⟨e0, e1, _, e3, e4, e5⟩ := I3.fpOk (H' := H6) (Nat.le_refl _) I6.free
    exact ⟨m, hn, fun h' sb => ⟨.ref s2.heap.objs.size, H6, I7.turned (t' := s6.toks) (fun b o hb e => (sb.2 b hb).trans e) e0 e1 e3 e4 e5, rfl, q6⟩⟩
  have L := dc2_loops (iter := iter) (Y := X.blk { s2 with heap := s2.heap.push { cls := .type "dict", data := .dict #[] } } (upd H2 s2.heap.objs.size (.dK [])) scope (compEnvC scope (cellsFrom ((s2.heap.push { cls := .type "dict", data := .dict #[] }).objs.size + 1) scope.names (cloFrom X.env.cells scope.names [])) (s2.heap.push { cls := .type "dict", data := .dict #[] }).objs.size X.env) fp) (kx := kx) (vx := vx) (scope := scope) (pos := pos) (D := s2.heap.objs.size) (R := compPost (model X.prog X.w) X.A X.xe none (EP X pins σ Q) (.ref s2.heap.objs.size) (s2.heap.push { cls := .type "dict", data := .dict #[] }).objs.size) rfl hc T (hg _ _ _ _ _) (ht _ _ _ _ _) (hi1 _ _ _ _ _) (hg1 _ _ _ _ _) (ht1 _ _ _ _ _) (hk _ _ _ _ _) (he _ _ _ _ _) (hs1 _) hv
    (fun H' hn b hb => ⟨hn b hb, (I4.ok.exf b hb).1, I4.ok.exfs b hb, .inl hb, fun x c e => (I4.ok.exf b hb).2 x c e, fun p hp => absurd (show p ∈ ([] : List (Addr × Obj)) ++ [] from hp) (by simp)⟩) turn fine I4 t4 (fun b hb => (f3 b hb).1.1) w0
  exact codeAny_compStart_dict L (T.self X.A 0 _ _ _ t4 L)
end
end Gd
-- part Gd34
set_option Elab.async false
set_option linter.all false
set_option maxRecDepth 100000
set_option maxHeartbeats 1000000
namespace Gd
open PySem PySem.Spec PyProof.Rows L2
def addS (ks : List Str) (s : Str) : List Str := if s ∈ ks then ks else ks ++ [s]
theorem mem_addS {ks : List Str} {s x : Str} : x ∈ addS ks s ↔ x ∈ ks ∨ x = s := by
  unfold addS
  split
  · rename_i h
    exact ⟨.inl, fun z => z.elim id fun e => e ▸ h⟩
  · rw [List.mem_append, List.mem_singleton]
theorem mem_adds {x : Str} : ∀ (xs ks : List Str), x ∈ xs.foldl addS ks ↔ x ∈ ks ∨ x ∈ xs
  | [], ks => by simp
  | y :: xs, ks => by
    rw [List.foldl_cons, mem_adds xs, mem_addS, List.mem_cons, or_assoc]
theorem addS_len (ks : List Str) (s : Str) : (addS ks s).length ≤ ks.length + 1 := by
  unfold addS
  split
  · omega
  · rw [List.length_append]
    simp
theorem adds_len : ∀ (xs ks : List Str), (xs.foldl addS ks).length ≤ ks.length + xs.length
  | [], _ => Nat.le_refl _
  | x :: xs, ks => by
    have h1 := adds_len xs (addS ks x)
    have h2 := addS_len ks x
    rw [List.foldl_cons, List.length_cons]
    omega
theorem keys_put {kvs : List (Key × V)} {ks : List Str} {s : Str} {v : V} (h : kvs.map (·.1) = ks.map Sum.inr) : (putK kvs (Sum.inr s : Key) v).map (·.1) = (addS ks s).map Sum.inr := by
  have any_iff : (kvs.any fun kv => decide (kv.1 = (Sum.inr s : Key))) = true ↔ s ∈ ks := by
    rw [List.any_eq_true]
    constructor
    · rintro ⟨kv, hm, e⟩
      have h1 : kv.1 ∈ kvs.map (·.1) := List.mem_map.mpr ⟨kv, hm, rfl⟩
      rw [h, of_decide_eq_true e] at h1
      obtain ⟨y, hy, e2⟩ := List.mem_map.mp h1
      rw [← Sum.inr.inj e2]
      exact hy
    · intro hs
      have h1 : (Sum.inr s : Key) ∈ kvs.map (·.1) := by rw [h]; exact List.mem_map.mpr ⟨s, hs, rfl⟩
      obtain ⟨kv, hm, e⟩ := List.mem_map.mp h1
      exact ⟨kv, hm, decide_eq_true e⟩
  unfold putK addS
  by_cases hs : s ∈ ks
  · rw [if_pos (any_iff.mpr hs), if_pos hs, ← h, List.map_map]
    refine List.map_congr_left fun kv _ => ?_
    show (if kv.1 = Sum.inr s then (kv.1, v) else kv).1 = kv.1
    split <;> rfl
  · rw [if_neg (fun z => hs (any_iff.mp z)), if_neg hs, List.map_append, h, List.map_append]
    rfl
section
variable {b : Bool} {σ : L2.St} {G : Hp} {α : Type} {e : α → SR}
theorem ev_dc2 {wi wi1 : TI} {xs : List α} {g g1 : TG} {tk tv : TE} {vs vs1 : List Nat} {f : α → List Str} {Rv : SR} (hi : EvI b wi σ G e xs) (hl : (xs.flatMap f).length ≤ 100000)
    (hb : ∀ a, a ∈ xs → ∀ x G', Same G G' → (e a).p x G' → ∃ σ', GTo b g x (wipe σ vs) G' σ' ∧ wipe σ' vs = wipe σ vs ∧ EvI b wi1 σ' G' S (f a) ∧
      ∀ s, s ∈ f a → ∀ y G'', Same G' G'' → (S s).p y G'' → ∃ σ'', GTo b g1 y (wipe σ' vs1) G'' σ'' ∧ wipe σ'' vs1 = wipe σ' vs1 ∧ Ev b tk σ'' G'' (S s) ∧ Ev b tv σ'' G'' Rv) :
    Ev b (tDc2 wi g tYes wi1 g1 tYes tk tv vs vs1) σ G (Ks ((xs.flatMap f).foldl addS [])) := fun G1 H1 a r Q k => by
  refine hi G1 H1 a r _ fun J G2 H2 g2 W D hD => ?_
  have rel := g2.r _ r
  have bound : ∀ (i j : Nat) (x : α), xs[i]? = some x → (((f x).take j).foldl addS (((xs.take i).flatMap f).foldl addS [])).length ≤ 100000 := fun i j x hx => by
    have h1 := adds_len ((f x).take j) (((xs.take i).flatMap f).foldl addS [])
    have h2 := adds_len ((xs.take i).flatMap f) []
    have h3 : ((xs.take i).flatMap f).length + (f x).length ≤ (xs.flatMap f).length := by
      have e1 : xs.take (i + 1) = xs.take i ++ [x] := take_succ hx
      have e2 : xs = xs.take (i + 1) ++ xs.drop (i + 1) := (List.take_append_drop _ _).symm
      have e3 : xs.flatMap f = (xs.take (i + 1)).flatMap f ++ (xs.drop (i + 1)).flatMap f := by rw [← List.flatMap_append, ← e2]
      rw [e3, e1, List.flatMap_append, List.length_append, List.length_append]
      simp only [List.flatMap_cons, List.flatMap_nil, List.append_nil]
      omega
    rw [List.length_take] at h1
    simp only [List.length_nil, Nat.zero_add] at h2
    omega
  refine ⟨fun i m H => m = xs.length - i ∧ i ≤ xs.length ∧ ∃ G' kvs, Go G2 H2 G' H ∧ G' D = none ∧ H D = some (.dK kvs) ∧ kvs.map (·.1) = (((xs.take i).flatMap f).foldl addS []).map Sum.inr, ⟨xs.length, rfl, Nat.zero_le _, G2, [], Go.own rel hD, rel.free hD, upd_same, rfl⟩, ?_⟩
  rintro i m H ⟨rfl, hi2, G', kvs, g3, nD, hk, al⟩
  by_cases hlt : i < xs.length
  · refine .inr ⟨W.goes i G' H hlt g3.g (g3.r _ rel) trivial, fun H' => ∃ G' kvs, Go G2 H2 G' H' ∧ G' D = none ∧ H' D = some (.dK kvs) ∧ kvs.map (·.1) = (((xs.take (i + 1)).flatMap f).foldl addS []).map Sum.inr, fun H' h' => ⟨xs.length - (i + 1), by omega, rfl, hlt, h'⟩, fun x H' y => ?_⟩
    have hxi : xs[i]? = some xs[i] := List.getElem?_eq_getElem hlt
    obtain ⟨G4, g4, pa⟩ := W.yields i xs[i] G' H x H' hxi g3.g (g3.r _ rel) trivial y
    have gA := g3.trans g4
    obtain ⟨σ', h1, h2, h3, h4⟩ := hb xs[i] (List.getElem_mem hlt) x G4 ((a.trans g2.g).trans gA.g) pa
    refine h1 H' (gA.r _ rel) _ ⟨h2, ?_⟩
    show wi1 σ' H' _
    refine h3 G4 H' (Same.refl _) (gA.r _ rel) _ fun J1 G5 H5 g5 W1 => ?_
    have gB := gA.trans g5
    have D5 : H5 D = some (.dK kvs) := g5.h _ _ (g4.h _ _ hk)
    have n5 : G5 D = none := g5.owned (g4.h _ _ hk) (g4.owned hk nD)
    refine ⟨fun j k H => k = (f xs[i]).length - j ∧ j ≤ (f xs[i]).length ∧ ∃ G' kvs, Go G2 H2 G' H ∧ Same G5 G' ∧ G' D = none ∧ H D = some (.dK kvs) ∧ kvs.map (·.1) = (((f xs[i]).take j).foldl addS (((xs.take i).flatMap f).foldl addS [])).map Sum.inr,
      ⟨(f xs[i]).length, rfl, Nat.zero_le _, G5, kvs, gB, Same.refl _, n5, D5, al⟩, ?_⟩
    rintro j k2 H6 ⟨rfl, hj, G6, kvs6, g6, s6, n6, D6, al6⟩
    by_cases hjl : j < (f xs[i]).length
    · refine .inr ⟨W1.goes j G6 H6 hjl s6 (g6.r _ rel) trivial, fun H' => ∃ G' kvs, Go G2 H2 G' H' ∧ Same G5 G' ∧ G' D = none ∧ H' D = some (.dK kvs) ∧ kvs.map (·.1) = (((f xs[i]).take (j + 1)).foldl addS (((xs.take i).flatMap f).foldl addS [])).map Sum.inr, fun H' h' => ⟨(f xs[i]).length - (j + 1), by omega, rfl, hjl, h'⟩, fun z H7 y7 => ?_⟩
      have hzj : (f xs[i])[j]? = some (f xs[i])[j] := List.getElem?_eq_getElem hjl
      obtain ⟨G7, g7, pz⟩ := W1.yields j (f xs[i])[j] G6 H6 z H7 hzj s6 (g6.r _ rel) trivial y7
      have gC := g6.trans g7
      obtain ⟨σ'', q1, q2, q3, q4⟩ := h4 _ (List.getElem_mem hjl) z G7 ((g5.g.trans s6).trans g7.g) pz
      refine q1 H7 (gC.r _ rel) _ ⟨q2, ?_⟩
      show tk σ'' H7 _
      refine q3.run (gC.r _ rel) fun u G8 H8 g8 pu => ?_
      obtain ⟨rfl, _⟩ := pu
      refine (q4.mono g8.g).run ((gC.trans g8).r _ rel) fun v G9 H9 g9 pv => ?_
      have g79 := (g7.trans g8).trans g9
      have D9 : H9 D = some (.dK kvs6) := g79.h _ _ D6
      have n9 : G9 D = none := g79.owned D6 n6
      have hz : kvs6.length < sizeLine := by
        have := bound i j xs[i] hxi
        have e := congrArg List.length al6
        rw [List.length_map, List.length_map] at e
        have := sizeLine_eq
        omega
      refine ⟨kvs6, Sum.inr (f xs[i])[j], rfl, D9, hz, G9, putK kvs6 (Sum.inr (f xs[i])[j]) v, (g6.trans g79).wr hD n9, s6.trans g79.g, n9, upd_same, ?_⟩
      rw [keys_put al6, take_succ hzj, List.foldl_append]
      rfl
    · have ej : j = (f xs[i]).length := by omega
      subst ej
      refine .inl ⟨W1.stops G6 H6 s6 (g6.r _ rel) trivial, G6, kvs6, g6, n6, D6, ?_⟩
      rw [al6, List.take_length, take_succ hxi, List.flatMap_append, List.foldl_append]
      simp only [List.flatMap_cons, List.flatMap_nil, List.append_nil]
  · have e : i = xs.length := by omega
    subst e
    rw [List.take_length] at al
    refine .inl ⟨W.stops G' H g3.g (g3.r _ rel) trivial, k _ _ H ((g2.trans g3).give (g2.free hD) nD hk) ⟨D, kvs, rfl, upd_same, ?_, al⟩⟩
    have e := congrArg List.length al
    rw [List.length_map, List.length_map] at e
    have h2 := adds_len (xs.flatMap f) []
    simp only [List.length_nil, Nat.zero_add] at h2
    have := sizeLine_eq
    omega
end
end Gd
-- part Gd35
set_option Elab.async false
set_option linter.all false
set_option maxRecDepth 100000
set_option maxHeartbeats 1000000
namespace Gd
open PySem PySem.Spec PyProof.Rows L2
structure OwnM (K : PySem.W.Frag) (D : Addr) (cs : List Str) (acc : Str → List (List Str)) (pl : Str → Addr) (G H H0 : Hp) : Prop where
  n0 : H0 D = none
  nG : G D = none
  hD : H D = some (.dK (cs.map fun c => (Sum.inr c, V.ref (pl c))))
  ne : ∀ c ∈ cs, pl c ≠ D
  inj : ∀ c ∈ cs, ∀ c' ∈ cs, pl c = pl c' → c = c'
  l0 : ∀ c ∈ cs, H0 (pl c) = none
  lG : ∀ c ∈ cs, G (pl c) = none
  ex : ∀ c ∈ cs, ∃ us, H (pl c) = some (.lst us) ∧ Al (Tpl K S) (acc c) us G
section
variable {K : PySem.W.Frag} {D : Addr} {cs : List Str} {acc : Str → List (List Str)} {pl : Str → Addr} {G H H0 G2 H2 : Hp}
theorem OwnM.go (o : OwnM K D cs acc pl G H H0) (g : Go G H G2 H2) : OwnM K D cs acc pl G2 H2 H0 :=
  ⟨o.n0, g.owned o.hD o.nG, g.h _ _ o.hD, o.ne, o.inj, o.l0, fun c hc => let ⟨us, h1, _⟩ := o.ex c hc; g.owned h1 (o.lG c hc), fun c hc => let ⟨us, h1, h2⟩ := o.ex c hc; ⟨us, g.h _ _ h1, h2.st g.g⟩⟩
theorem OwnM.put (o : OwnM K D cs acc pl G H H0) {c : Str} (hc : c ∈ cs) {us : List V} {l : List Str} {v : V} (hp : H (pl c) = some (.lst us)) (al : Al (Tpl K S) (acc c) us G) (pv : (Tpl K S l).p v G) : OwnM K D cs (fun x => if x = c then acc c ++ [l] else acc x) pl G (upd H (pl c) (.lst (us ++ [v]))) H0 := by
  refine ⟨o.n0, o.nG, by rw [upd_ne (o.ne c hc).symm]; exact o.hD, o.ne, o.inj, o.l0, o.lG, fun x hx => ?_⟩
  by_cases e : x = c
  · subst e
    exact ⟨us ++ [v], upd_same, by rw [if_pos rfl]; exact al.snoc pv⟩
  · obtain ⟨ws, h1, h2⟩ := o.ex x hx
    exact ⟨ws, by rw [upd_ne fun z => e (o.inj x hx c hc z)]; exact h1, by rw [if_neg e]; exact h2⟩
theorem OwnM.val (o : OwnM K D cs acc pl G H H0) {c : Str} (hc : c ∈ cs) : valV (cs.map fun c => ((Sum.inr c : Key), V.ref (pl c))) (Sum.inr c : Key) = some (V.ref (pl c)) := by
  clear o
  induction cs with
  | nil => cases hc
  | cons x xs ih =>
    rw [List.map_cons]
    by_cases e : x = c
    · subst e
      exact valV_pos rfl
    · rw [valV_neg fun z => e (Sum.inr.inj z)]
      exact ih ((List.mem_cons.mp hc).resolve_left fun z => e z.symm)
end
end Gd
-- part Gd36
set_option Elab.async false
set_option linter.all false
set_option maxRecDepth 100000
set_option maxHeartbeats 1000000
namespace Gd
open PySem PySem.Spec PyProof.Rows L2
section
variable {K : PySem.W.Frag} {σ : L2.St} {G H : Hp}
theorem om_new {wi : TI} {xs : List Str} {g : TG} {tk : TE} {vs : List Nat} (hi : EvI true wi σ G S xs) (nd : xs.Nodup) (hb : ∀ a, a ∈ xs → ∀ x G', Same G G' → (S a).p x G' → ∃ σ', GTo true g x (wipe σ vs) G' σ' ∧ wipe σ' vs = wipe σ vs ∧ Ev true tk σ' G' (S a)) (r : Rel true G H) {Q : VK}
    (k : ∀ D pl G2 H2, Go G H G2 H2 → OwnM K D xs (fun _ => []) pl G2 H2 H → Q (.ref D) H2) : tDc wi g tYes tk (tLst tNil) vs σ H Q := by
  refine hi G H (Same.refl G) r _ fun J G2 H2 g2 W D hD => ?_
  have rel := g2.r _ r
  have hD0 := g2.free hD
  refine ⟨fun i m H' => m = xs.length - i ∧ i ≤ xs.length ∧ ∃ G' pl, Go G H G' H' ∧ Same G2 G' ∧ OwnM K D (xs.take i) (fun _ => []) pl G' H' H, ⟨xs.length, rfl, Nat.zero_le _, G2, fun _ => 0, g2.trans (Go.own rel hD), Same.refl _, ?_⟩, ?_⟩
  · have no : ∀ c ∈ xs.take 0, False := fun c h => by cases h
    exact ⟨hD0, rel.free hD, upd_same, fun c h => (no c h).elim, fun c h => (no c h).elim, fun c h => (no c h).elim, fun c h => (no c h).elim, fun c h => (no c h).elim⟩
  rintro i m H1 ⟨rfl, hi2, G1, pl, g3, s3, o⟩
  by_cases hlt : i < xs.length
  · refine .inr ⟨W.goes i G1 H1 hlt s3 (g3.r _ r) trivial, fun H' => ∃ G' pl, Go G H G' H' ∧ Same G2 G' ∧ OwnM K D (xs.take (i + 1)) (fun _ => []) pl G' H' H, fun H' h' => ⟨xs.length - (i + 1), by omega, rfl, hlt, h'⟩, fun x H' y => ?_⟩
    have hxi : xs[i]? = some xs[i] := List.getElem?_eq_getElem hlt
    obtain ⟨G4, g4, pa⟩ := W.yields i xs[i] G1 H1 x H' hxi s3 (g3.r _ r) trivial y
    have gA := g3.trans g4
    obtain ⟨σ', h1, h2, h3⟩ := hb xs[i] (List.getElem_mem hlt) x G4 gA.g pa
    refine h1 H' (gA.r _ r) _ ⟨h2, ?_⟩
    show tk σ' H' _
    refine h3.run (gA.r _ r) fun u G5 H5 g5 pu => ?_
    obtain ⟨rfl, _⟩ := pu
    have gB := gA.trans g5
    have o5 := o.go (g4.trans g5)
    refine ⟨Nat.zero_le _, fun p hp => ?_⟩
    have hpD : p ≠ D := fun z => by rw [z, o5.hD] at hp; cases hp
    have hpl : ∀ c ∈ xs.take i, pl c ≠ p := fun c hc z => by
      obtain ⟨us, q, _⟩ := o5.ex c hc
      rw [z, hp] at q
      cases q
    have hn : xs[i] ∉ xs.take i := nodup_take nd hxi
    have hz : (xs.take i).length < sizeLine := by
      rw [List.length_take]
      have := W.len
      omega
    refine ⟨(xs.take i).map fun c => (Sum.inr c, V.ref (pl c)), Sum.inr xs[i], rfl, by rw [upd_ne hpD.symm]; exact o5.hD, by rw [List.length_map]; exact hz, G5, fun c => if c = xs[i] then p else pl c, ?_, s3.trans (g4.g.trans g5.g), ?_⟩
    · exact (gB.trans (Go.own (gB.r _ r) hp)).wr hD0 o5.nG
    have hnk : (Sum.inr xs[i] : Key) ∉ ((xs.take i).map fun c => ((Sum.inr c : Key), V.ref (pl c))).map (·.1) := fun q => by
      rw [List.map_map] at q
      obtain ⟨c, hc, e⟩ := List.mem_map.mp q
      exact hn (Sum.inr.inj e ▸ hc)
    have tk1 : xs.take (i + 1) = xs.take i ++ [xs[i]] := take_succ hxi
    have memS : ∀ c, c ∈ xs.take (i + 1) → (c ∈ xs.take i ∧ c ≠ xs[i]) ∨ c = xs[i] := fun c hc => by
      rw [tk1] at hc
      rcases List.mem_append.mp hc with h | h
      · exact .inl ⟨h, fun e => hn (e ▸ h)⟩
      · exact .inr (List.mem_singleton.mp h)
    refine ⟨hD0, o5.nG, ?_, fun c hc => ?_, fun c hc c' hc' e => ?_, fun c hc => ?_, fun c hc => ?_, fun c hc => ?_⟩
    · rw [upd_same, putK_new _ (valV_none hnk), tk1, List.map_append]
      have e1 : (xs.take i).map (fun c => ((Sum.inr c : Key), V.ref (if c = xs[i] then p else pl c))) = (xs.take i).map fun c => (Sum.inr c, V.ref (pl c)) := List.map_congr_left fun c hc => by
        show ((Sum.inr c : Key), V.ref (if c = xs[i] then p else pl c)) = _
        have ne : ¬ c = xs[i] := fun e => hn (by rw [← e]; exact hc)
        rw [if_neg ne]
      rw [e1, List.map_cons, List.map_nil, if_pos rfl]
    · rcases memS c hc with ⟨h, n⟩ | rfl
      · rw [if_neg n]; exact o5.ne c h
      · rw [if_pos rfl]; exact hpD
    · rcases memS c hc with ⟨h, n⟩ | h <;> rcases memS c' hc' with ⟨h', n'⟩ | h'
      · rw [if_neg n, if_neg n'] at e
        exact o5.inj c h c' h' e
      · rw [if_neg n, if_pos h'] at e
        exact absurd e (hpl c h)
      · rw [if_pos h, if_neg n'] at e
        exact absurd e.symm (hpl c' h')
      · rw [h, h']
    · rcases memS c hc with ⟨h, n⟩ | h
      · rw [if_neg n]; exact o5.l0 c h
      · rw [if_pos h]; exact gB.free hp
    · rcases memS c hc with ⟨h, n⟩ | h
      · rw [if_neg n]; exact o5.lG c h
      · rw [if_pos h]; exact (gB.r _ r).free hp
    · rcases memS c hc with ⟨h, n⟩ | h
      · obtain ⟨us, q1, q2⟩ := o5.ex c h
        exact ⟨us, by rw [if_neg n, upd_ne (o5.ne c h), upd_ne (hpl c h)]; exact q1, q2⟩
      · exact ⟨[], by rw [if_pos h, upd_ne hpD, upd_same], .nil⟩
  · have e : i = xs.length := by omega
    subst e
    rw [List.take_length] at o
    exact .inl ⟨W.stops G1 H1 s3 (g3.r _ r) trivial, k D pl G1 H1 g3 o⟩
end
section
variable {K : PySem.W.Frag} {D : Addr} {pl : Str → Addr} {acc : Str → List (List Str)} {H H0 G0 : Hp}
theorem OwnM.freeze : ∀ {cs : List Str} {G : Hp}, OwnM K D cs acc pl G H H0 → cs.Nodup → (∀ c ∈ cs, (acc c).length ≤ 100000) → cs.length ≤ 100000 → Go G0 H0 G H → ∃ G2, Go G0 H0 G2 H ∧ Same G G2 ∧ G2 D = some (.dK (cs.map fun c => (Sum.inr c, V.ref (pl c)))) ∧ ∀ c ∈ cs, (Lst (Tpl K S) (acc c)).p (.ref (pl c)) G2 := by
  intro cs G o nd hl hcs g0
  -- the lists, one by one
  have lists : ∀ (done : List Str), (∀ c ∈ done, c ∈ cs) → done.Nodup → ∃ G2, Go G0 H0 G2 H ∧ Same G G2 ∧ G2 D = none ∧ (∀ c ∈ cs, c ∉ done → G2 (pl c) = none) ∧ ∀ c ∈ done, (Lst (Tpl K S) (acc c)).p (.ref (pl c)) G2 := by
    intro done
    induction done with
    | nil => intro _ _; exact ⟨G, g0, Same.refl G, o.nG, fun c hc _ => o.lG c hc, fun c h => by cases h⟩
    | cons c done ih =>
      intro hd hnd
      obtain ⟨G2, g2, s2, n2, f2, l2⟩ := ih (fun c h => hd c (List.mem_cons_of_mem _ h)) (List.nodup_cons.mp hnd).2
      have hc := hd c (List.mem_cons_self ..)
      obtain ⟨us, h1, h2⟩ := o.ex c hc
      have nc := f2 c hc (List.nodup_cons.mp hnd).1
      refine ⟨upd G2 (pl c) (.lst us), g2.give (o.l0 c hc) nc h1, s2.trans (Same.new nc), by rw [upd_ne (o.ne c hc).symm]; exact n2, fun x hx hn => ?_, fun x hx => ?_⟩
      · rw [upd_ne fun z => hn (by rw [o.inj x hx c hc z]; exact List.mem_cons_self ..)]
        exact f2 x hx fun z => hn (List.mem_cons_of_mem _ z)
      · rcases List.mem_cons.mp hx with rfl | hx
        · refine ⟨pl x, us, rfl, upd_same, ?_, h2.st (s2.trans (Same.new nc))⟩
          rw [h2.len]
          exact Nat.le_trans (hl x hc) (by decide)
        · exact (Lst (Tpl K S) (acc x)).st (Same.new nc) (l2 x hx)
  obtain ⟨G2, g2, s2, n2, _, l2⟩ := lists cs (fun _ h => h) nd
  exact ⟨upd G2 D _, g2.give o.n0 n2 o.hD, s2.trans (Same.new n2), upd_same, fun c hc => (Lst (Tpl K S) (acc c)).st (Same.new n2) (l2 c hc)⟩
end
end Gd
-- part Gd37
set_option Elab.async false
set_option linter.all false
set_option maxRecDepth 100000
set_option maxHeartbeats 1000000
namespace Gd
open PySem PySem.Spec PyProof.Rows L2
def FI (g : TG) (tb : TS) (D : Ends) (σ : L2.St) (J : It) (H1 : Hp) : Prop := ∃ W : Nat → Nat → L2.St → Hp → Prop, (∃ m, W 0 m σ H1) ∧ ∀ i m σ H, W i m σ H → (J.stop i H ∧ D.nx σ H) ∨ (J.go i H ∧ ∃ N : L2.St → Hp → Prop, (∀ σ' H', N σ' H' → ∃ m', m' < m ∧ W (i + 1) m' σ' H') ∧ ∀ x H', J.yld i H x H' → g x σ H' fun σ2 H2 => tb { D with nx := N, ct := N, bk := D.nx } σ2 H2)
section
variable {K : PySem.W.Frag} {σ : L2.St} {G H H0 : Hp} {D : Ends} {u : TS} {g : TG} {tb : TS} {te : TE}
variable {M : Addr} {cs : List Str} {acc : Str → List (List Str)} {pl : Str → Addr} {G2 H2 G0 : Hp}
theorem OwnM.gx (o : OwnM K M cs acc pl G H H0) (g : GoX G H G2 H2) : OwnM K M cs acc pl G2 H2 H0 :=
  ⟨o.n0, (g.n _ _ rfl o.hD).trans o.nG, g.h _ _ rfl o.hD, o.ne, o.inj, o.l0, fun c hc => let ⟨us, h1, _⟩ := o.ex c hc; (g.n _ _ rfl h1).trans (o.lG c hc), fun c hc => let ⟨us, h1, h2⟩ := o.ex c hc; ⟨us, g.h _ _ rfl h1, h2.st g.g⟩⟩
theorem OwnM.evT (o : OwnM K M cs acc pl G H H0) {b : Bool} (r : Rel b G H) {c : Str} (hc : c ∈ cs) (hl : (acc c).length ≤ 100000) {tt : TT} {v : Bool} (h : ∀ G1, Same G G1 → G1 M = some (.dK (cs.map fun c => (Sum.inr c, V.ref (pl c)))) → (Lst (Tpl K S) (acc c)).p (.ref (pl c)) G1 → EvT b tt σ G1 v) {Q : Bool → Hp → Prop} (k : ∀ G2 H2, Go G H G2 H2 → Q v H2) : tt σ H Q := by
  obtain ⟨us, h1, h2⟩ := o.ex c hc
  have nD : upd G M (.dK (cs.map fun c => (Sum.inr c, V.ref (pl c)))) (pl c) = none := by rw [upd_ne (o.ne c hc)]; exact o.lG c hc
  have s2 := (Same.new (o := .dK (cs.map fun c => (Sum.inr c, V.ref (pl c)))) o.nG).trans (Same.new (o := .lst us) nD)
  refine (h _ s2 (by rw [upd_ne (o.ne c hc).symm]; exact upd_same) ⟨pl c, us, rfl, upd_same, by rw [h2.len]; exact Nat.le_trans hl (by decide), h2.st s2⟩).lend (r.give o.hD) nD h1 fun G2 H2 g _ _ => k _ H2 (unlend g o.nG o.hD).1
end
end Gd
-- part Gd40
set_option Elab.async false
set_option linter.all false
set_option maxRecDepth 100000
set_option maxHeartbeats 1000000
namespace Gd
open PySem PySem.Spec PyProof.Rows L2
universe u
structure OR where
  p : HO → Hp → Prop
  st : ∀ {o : HO} {G G' : Hp}, Same G G' → p o G → p o G'
def OL {α : Type} (e : α → SR) (xs : List α) : OR := ⟨fun o G => ∃ vs, o = .lst vs ∧ vs.length ≤ sizeLine ∧ Al e xs vs G, fun s ⟨vs, h1, h2, h3⟩ => ⟨vs, h1, h2, h3.st s⟩⟩
def ODct {α : Type} (e : α → SR) (xs : List (Str × α)) : OR := ⟨fun o G => ∃ kvs, o = .dK kvs ∧ kvs.length ≤ sizeLine ∧ AlD e xs kvs G, fun s ⟨vs, h1, h2, h3⟩ => ⟨vs, h1, h2, h3.st s⟩⟩
noncomputable def isTT : HO → Bool
  | .tbl _ => true
  | .tup _ => true
  | .ext φ => @decide (∃ a q, HO.ext φ = LamX.CodeO a q) (Classical.propDecidable _)
  | _ => false
theorem tt_tb {o : HO} (h : isTT o = false) : isTb o = false := by cases o <;> first | rfl | cases h
structure SC where
  s : Addr
  c : Addr
  tb : List (Addr × Str)
def isLD : HO → Bool
  | .lst _ => true
  | .dK _ => true
  | .dT _ => true
  | .ins _ _ _ => true
  | _ => false
abbrev Own := List (Addr × OR)
structure Wd (W : SC) (n : Nat) (O : Own) (G H : Hp) : Prop where
  r : Rel true G H
  nt : NoTb G
  tb : LamX.Tabs W.tb H
  d : Dr W.s W.c n G H
  nd : (O.map (·.1)).Nodup
  o : ∀ q ∈ O, q.1 ≠ W.s ∧ q.1 ≠ W.c ∧ G q.1 = none ∧ ∃ ho, H q.1 = some ho ∧ isTT ho = false ∧ q.2.p ho G
section
variable {W : SC} {n m k : Nat} {O O' : Own} {G H G2 H2 : Hp} {p : Addr} {o : HO} {R R' : OR}
theorem Wd.go (w : Wd W n O G H) (g : Go G H G2 H2) : Wd W n O G2 H2 :=
  ⟨g.r _ w.r, w.nt.go g, tabs_go w.tb g, w.d.go g, w.nd, fun q hq => by
    obtain ⟨h1, h2, h3, ho, h4, h5, h6⟩ := w.o q hq
    exact ⟨h1, h2, (g.n _ _ h4).trans h3, ho, g.h _ _ h4, h5, q.2.st g.g h6⟩⟩
theorem Wd.gx (w : Wd W n O G H) (g : GoX G H G2 H2) (tb : LamX.Tabs W.tb H2) : Wd W n O G2 H2 :=
  ⟨g.r w.nt w.r, w.nt.gx g, tb, w.d.gx g, w.nd, fun q hq => by
    obtain ⟨h1, h2, h3, ho, h4, h5, h6⟩ := w.o q hq
    exact ⟨h1, h2, (g.n _ _ (tt_tb h5) h4).trans h3, ho, g.h _ _ (tt_tb h5) h4, h5, q.2.st g.g h6⟩⟩
theorem Wd.gs (w : Wd W n O G H) (g : GoS W.s W.c G H G2 H2) (d2 : Dr W.s W.c m G2 H2) (r2 : Rel true G2 H2) : Wd W m O G2 H2 :=
  ⟨r2, w.nt.gs g, tabs_gos w.tb w.d g, d2, w.nd, fun q hq => by
    obtain ⟨h1, h2, h3, ho, h4, h5, h6⟩ := w.o q hq
    exact ⟨h1, h2, (g.n _ _ h4).trans h3, ho, g.h _ _ h1 h2 h4, h5, q.2.st g.g h6⟩⟩
theorem Wd.le (w : Wd W n O G H) (h : n ≤ m) : Wd W m O G H := ⟨w.r, w.nt, w.tb, w.d.le h, w.nd, w.o⟩
theorem Wd.eq (w : Wd W n O G H) (h : n = m) : Wd W m O G H := h ▸ w
theorem Wd.drop (w : Wd W n O G H) (h : O'.Sublist O) : Wd W n O' G H := ⟨w.r, w.nt, w.tb, w.d, w.nd.sublist (h.map _), fun q hq => w.o q (h.subset hq)⟩
theorem Wd.perm (w : Wd W n O G H) (h : O'.Perm O) : Wd W n O' G H := ⟨w.r, w.nt, w.tb, w.d, ((h.map _).nodup_iff).mpr w.nd, fun q hq => w.o q (h.mem_iff.mp hq)⟩
theorem Wd.weak (w : Wd W n ((p, R) :: O) G H) (h : ∀ o, R.p o G → R'.p o G) : Wd W n ((p, R') :: O) G H := ⟨w.r, w.nt, w.tb, w.d, w.nd, fun q hq => by
  rcases List.mem_cons.mp hq with rfl | hq
  · obtain ⟨h1, h2, h3, ho, h4, h5, h6⟩ := w.o _ (List.mem_cons_self ..)
    exact ⟨h1, h2, h3, ho, h4, h5, h _ h6⟩
  · exact w.o q (List.mem_cons_of_mem _ hq)⟩
theorem Wd.fresh (w : Wd W n O G H) (w2 : Wd W m O G2 H2) (h1 : Nw H p) (h2 : G2 p = none) (h3 : H2 p = some o) (ho : isTT o = false) (hR : R.p o G2) : Wd W m ((p, R) :: O) G2 H2 := by
  obtain ⟨_, _, _, _, _, _, _, es, ec, _⟩ := w.d
  refine ⟨w2.r, w2.nt, w2.tb, w2.d, List.nodup_cons.mpr ⟨fun hm => ?_, w2.nd⟩, fun q hq => ?_⟩
  · obtain ⟨q, hq, e⟩ := List.mem_map.mp hm
    obtain ⟨_, _, _, u, h4, h5, _⟩ := w.o q hq
    exact h1.ne h4 (tt_tb h5) e
  · rcases List.mem_cons.mp hq with rfl | hq
    · exact ⟨fun z => h1.ne es rfl z.symm, fun z => h1.ne ec rfl z.symm, h2, o, h3, ho, hR⟩
    · exact w2.o q hq
theorem Wd.own (w : Wd W n O G H) (hp : H p = none) (ho : isTT o = false) (hR : R.p o G) : Wd W n ((p, R) :: O) G (upd H p o) := by
  exact w.fresh (w.go (Go.own (o := o) w.r hp)) (Nw.of hp) (w.r.free hp) upd_same ho hR
theorem Wd.new (w : Wd W n O G H) (hp : H p = none) (ho : isTb o = false) : Wd W n O (upd G p o) (upd H p o) := w.go (Go.new w.r hp ho)
theorem Wd.freeze (w : Wd W n ((p, R) :: O) G H) : ∃ o, H p = some o ∧ R.p o G ∧ Same G (upd G p o) ∧ Wd W n O (upd G p o) H := by
  obtain ⟨h1, h2, h3, o, h4, h5, h6⟩ := w.o _ (List.mem_cons_self ..)
  refine ⟨o, h4, h6, Same.new h3, w.r.give h4, w.nt.up (tt_tb h5), w.tb, w.d.give h1 h2, (List.nodup_cons.mp w.nd).2, fun q hq => ?_⟩
  obtain ⟨q1, q2, q3, ho, q4, q5, q6⟩ := w.o q (List.mem_cons_of_mem _ hq)
  have ne : q.1 ≠ p := fun z => (List.nodup_cons.mp w.nd).1 (List.mem_map.mpr ⟨q, hq, z⟩)
  exact ⟨q1, q2, by rw [upd_ne ne]; exact q3, ho, q4, q5, q.2.st (Same.new h3) q6⟩
theorem Wd.put (w : Wd W n ((p, R) :: O) G H) (hl : ∀ u, R.p u G → isLD u = true) (ho : isTT o = false) (hR : R'.p o G) : Wd W n ((p, R') :: O) G (upd H p o) := by
  obtain ⟨h1, h2, h3, u, h4, h5, h6⟩ := w.o _ (List.mem_cons_self ..)
  refine ⟨w.r.own h3, w.nt, fun q hq => ?_, w.d.wr h1 h2, w.nd, fun q hq => ?_⟩
  · obtain ⟨ps, e1, e2, e3⟩ := w.tb q hq
    have ne : q.1 ≠ p := fun z => by
      have e4 : H p = some (.tbl ps) := by rw [← z]; exact e1
      rw [h4] at e4
      cases e4
      cases h5
    refine ⟨ps, by rw [upd_ne ne]; exact e1, e2, fun pos cv hc => ?_⟩
    obtain ⟨c, e5, e6⟩ := e3 pos cv hc
    have ne2 : c ≠ p := fun z => by
      rw [z, h4] at e6
      have := hl u h6
      rw [Option.some.inj e6] at this
      cases this
    exact ⟨c, e5, by rw [upd_ne ne2]; exact e6⟩
  · rcases List.mem_cons.mp hq with rfl | hq
    · exact ⟨h1, h2, h3, o, upd_same, ho, hR⟩
    · obtain ⟨q1, q2, q3, ho', q4, q5, q6⟩ := w.o q (List.mem_cons_of_mem _ hq)
      have ne : q.1 ≠ p := fun z => (List.nodup_cons.mp w.nd).1 (List.mem_map.mpr ⟨q, hq, z⟩)
      exact ⟨q1, q2, q3, ho', by rw [upd_ne ne]; exact q4, q5, q6⟩
end
abbrev RL := List (Option SR)
structure Slots (G : Hp) (σ : L2.St) (Rs : RL) : Prop where
  len : σ.length = Rs.length
  get : ∀ (i : Nat) (R : SR), Rs[i]? = some (some R) → ∃ v, σ[i]? = some (some v) ∧ R.p v G
section
variable {G G2 : Hp} {σ : L2.St} {Rs Rs' : RL} {R : SR} {v : V} {i : Nat}
theorem Slots.st (h : Slots G σ Rs) (s : Same G G2) : Slots G2 σ Rs := ⟨h.len, fun i R e => let ⟨v, h1, h2⟩ := h.get i R e; ⟨v, h1, R.st s h2⟩⟩
theorem Slots.set (h : Slots G σ Rs) (p : R.p v G) : Slots G (σ.set i (some v)) (Rs.set i (some R)) :=
  ⟨by rw [List.length_set, List.length_set]; exact h.len, fun j R' e => by
    by_cases q : i = j
    · subst q
      have hl : i < Rs.length := by
        have := (List.getElem?_eq_some_iff.mp e).1
        rwa [List.length_set] at this
      rw [List.getElem?_set_self hl] at e
      cases e
      exact ⟨v, List.getElem?_set_self (by rw [h.len]; exact hl), p⟩
    · rw [List.getElem?_set_ne q] at e ⊢
      exact h.get j R' e⟩
theorem Slots.conv (h : Slots G σ Rs) {R' : SR} (e : Rs[i]? = some (some R)) (q : ∀ v, R.p v G → R'.p v G) : Slots G σ (Rs.set i (some R')) :=
  ⟨by rw [List.length_set]; exact h.len, fun j R2 e2 => by
    by_cases z : i = j
    · subst z
      have hl : i < Rs.length := (List.getElem?_eq_some_iff.mp e).1
      rw [List.getElem?_set_self hl] at e2
      cases e2
      obtain ⟨v, h1, h2⟩ := h.get i R e
      exact ⟨v, h1, q v h2⟩
    · rw [List.getElem?_set_ne z] at e2
      exact h.get j R2 e2⟩
def wipeR (Rs : RL) : List Nat → RL
  | [] => Rs
  | v :: vs => (wipeR Rs vs).set v none
theorem Slots.wset (h : Slots G σ Rs) : Slots G (σ.set i none) (Rs.set i none) :=
  ⟨by rw [List.length_set, List.length_set]; exact h.len, fun j R' e => by
    by_cases q : i = j
    · subst q
      have hl : i < Rs.length := by
        have := (List.getElem?_eq_some_iff.mp e).1
        rwa [List.length_set] at this
      rw [List.getElem?_set_self hl] at e
      cases e
    · rw [List.getElem?_set_ne q] at e ⊢
      exact h.get j R' e⟩
theorem Slots.wipe (h : Slots G σ Rs) : ∀ vs : List Nat, Slots G (L2.wipe σ vs) (wipeR Rs vs)
  | [] => h
  | v :: vs => (Slots.wipe h vs).wset
inductive Slk (G : Hp) : RL → RL → Prop
  | nil : Slk G [] []
  | no {r : Option SR} {as bs : RL} : Slk G as bs → Slk G (r :: as) (none :: bs)
  | eq {R : SR} {as bs : RL} : Slk G as bs → Slk G (some R :: as) (some R :: bs)
  | cv {R R' : SR} {as bs : RL} : (∀ v, R.p v G → R'.p v G) → Slk G as bs → Slk G (some R :: as) (some R' :: bs)
theorem Slk.len {as bs : RL} (k : Slk G as bs) : as.length = bs.length := by
  induction k with
  | nil => rfl
  | no _ ih => rw [List.length_cons, List.length_cons, ih]
  | eq _ ih => rw [List.length_cons, List.length_cons, ih]
  | cv _ _ ih => rw [List.length_cons, List.length_cons, ih]
theorem Slk.get {as bs : RL} (k : Slk G as bs) : ∀ (i : Nat) (R' : SR), bs[i]? = some (some R') → ∃ R, as[i]? = some (some R) ∧ ∀ v, R.p v G → R'.p v G := by
  induction k with
  | nil => intro i R' e; cases e
  | no _ ih =>
    intro i R' e
    cases i with
    | zero => cases e
    | succ i => exact ih i R' e
  | eq _ ih =>
    intro i R' e
    cases i with
    | zero => cases e; exact ⟨_, rfl, fun _ h => h⟩
    | succ i => exact ih i R' e
  | cv h _ ih =>
    intro i R' e
    cases i with
    | zero => cases e; exact ⟨_, rfl, h⟩
    | succ i => exact ih i R' e
theorem Slots.weak (h : Slots G σ Rs) (k : Slk G Rs Rs') : Slots G σ Rs' := ⟨h.len.trans k.len, fun i R' e => by
  obtain ⟨R, e1, e2⟩ := k.get i R' e
  obtain ⟨v, h1, h2⟩ := h.get i R e1
  exact ⟨v, h1, e2 v h2⟩⟩
end
def EG (W : SC) (O : Own) (k : Nat) {ρ : Type} (t : L2.St → Hp → (ρ → Hp → Prop) → Prop) (Rs : RL) (P : ρ → Hp → Prop) : Prop := ∀ (σ : L2.St) (G H : Hp) (n : Nat) (Q : ρ → Hp → Prop), Slots G σ Rs → Wd W n O G H → n + k ≤ 1000000 → (∀ v G2 H2, Same G G2 → Wd W (n + k) O G2 H2 → P v G2 → Q v H2) → t σ H Q
abbrev EL (W : SC) (O : Own) (k : Nat) (t : TE) (Rs : RL) (R : SR) : Prop := EG W O k t Rs R.p
abbrev ETL (W : SC) (O : Own) (k : Nat) (t : TT) (Rs : RL) (b : Bool) : Prop := EG W O k t Rs (fun c _ => c = b)
abbrev EAL (W : SC) (O : Own) (k : Nat) (t : TA) (Rs : RL) (Ls : List SR) : Prop := EG W O k t Rs (fun vs G => AlR Ls vs G)
abbrev EIL (W : SC) (O : Own) (k : Nat) (t : TI) (Rs : RL) {α : Type} (e : α → SR) (xs : List α) : Prop := EG W O k t Rs (fun J G => WalkR true J e xs G (fun _ => True))
def ELO (W : SC) (O : Own) (k : Nat) (t : TE) (Rs : RL) (R : OR) : Prop := ∀ (σ : L2.St) (G H : Hp) (n : Nat) (Q : VK), Slots G σ Rs → Wd W n O G H → n + k ≤ 1000000 → (∀ p G2 H2, Same G G2 → Wd W (n + k) ((p, R) :: O) G2 H2 → Q (.ref p) H2) → t σ H Q
abbrev ELN (W : SC) (O : Own) (k : Nat) (t : TE) (Rs : RL) {α : Type} (e : α → SR) (xs : List α) : Prop := ELO W O k t Rs (OL e xs)
section
variable {W : SC} {O : Own} {k m n : Nat} {ρ : Type} {Rs : RL} {R R1 R2 R' : SR} {te ta tb : TE} {α β : Type} {e : α → SR} {xs : List α}
theorem EG.le {t : L2.St → Hp → (ρ → Hp → Prop) → Prop} {P : ρ → Hp → Prop} (h : EG W O k t Rs P) (q : k ≤ m) : EG W O m t Rs P := fun σ G H n Q sl w hn kk => h σ G H n Q sl w (by omega) fun v G2 H2 s2 w2 p => kk v G2 H2 s2 (w2.le (by omega)) p
theorem EG.is {t : L2.St → Hp → (ρ → Hp → Prop) → Prop} {P P' : ρ → Hp → Prop} (h : EG W O k t Rs P) (q : ∀ v G, P v G → P' v G) : EG W O k t Rs P' := fun σ G H n Q sl w hn kk => h σ G H n Q sl w hn fun v G2 H2 s2 w2 p => kk v G2 H2 s2 w2 (q v G2 p)
theorem ELO.le {R : OR} (h : ELO W O k te Rs R) (q : k ≤ m) : ELO W O m te Rs R := fun σ G H n Q sl w hn kk => h σ G H n Q sl w (by omega) fun p G2 H2 s2 w2 => kk p G2 H2 s2 (w2.le (by omega))
theorem ELN.eq {ys : List α} (h : ELN W O k te Rs e xs) (q : xs = ys) : ELN W O k te Rs e ys := q ▸ h
theorem ELO.is {xs ys : List α} (h : ELO W O k te Rs (OL e xs)) (q : xs = ys) : ELO W O k te Rs (OL e ys) := q ▸ h
theorem EL.eq (h : EL W O k te Rs R) (q : R = R') : EL W O k te Rs R' := q ▸ h
theorem ETL.eq {tt : TT} {b b' : Bool} (h : ETL W O k tt Rs b) (q : b = b') : ETL W O k tt Rs b' := q ▸ h
theorem etl_ev {tt : TT} {b : Bool} (h : ∀ (σ : L2.St) (G : Hp), Slots G σ Rs → EvT true tt σ G b) : ETL W O 0 tt Rs b := fun σ G H n Q sl w hn kk => (h σ G sl).run w.r fun G2 H2 g => kk b G2 H2 g.g (w.go g) rfl
theorem el_var {i : Nat} (h : Rs[i]? = some (some R)) : EL W O 0 (tVar i) Rs R := fun σ G H n Q sl w hn kk => by
  obtain ⟨v, h1, h2⟩ := sl.get i R h
  exact ⟨v, h1, kk v G H (Same.refl G) w h2⟩
theorem el_cR {v : V} (q : ∀ G, R.p v G) : EL W O 0 (tC v) Rs R := fun σ G H n Q sl w hn kk => kk v G H (Same.refl G) w (q G)
theorem el_int {i : Int} : EL W O 0 (tC (.int i)) Rs (I i) := el_cR fun _ => rfl
theorem el_bl {i : Bool} : EL W O 0 (tC (.bl i)) Rs (B i) := el_cR fun _ => rfl
theorem el_str {i : Str} (h : okS i = true := by decide +kernel) : EL W O 0 (tC (.str i)) Rs (S i) := el_cR fun _ => ⟨rfl, h⟩
theorem el_non : EL W O 0 (tC .non) Rs N := el_cR fun _ => rfl
theorem eal_nil : EAL W O 0 tNil Rs [] := fun σ G H n Q sl w hn kk => kk [] G H (Same.refl G) w .nil
theorem eal_cons {tr : TA} {Ls : List SR} (h : EL W O k ta Rs R) (hr : EAL W O m tr Rs Ls) : EAL W O (k + m) (tCons ta tr) Rs (R :: Ls) := fun σ G H n Q sl w hn kk =>
  h σ G H n _ sl w (by omega) fun v G2 H2 s2 w2 p => hr σ G2 H2 (n + k) _ (sl.st s2) w2 (by omega) fun vs G3 H3 s3 w3 al => kk _ G3 H3 (s2.trans s3) (w3.eq (by omega)) (.cons (R.st s3 p) al)
theorem el_f1 (F : TE → TE) (h : EL W O k te Rs R1) (hr : ∀ (v : V) (σ : L2.St) (G : Hp), R1.p v G → Ev true (F (tC v)) σ G R) (hF : ∀ (σ : L2.St) (H : Hp) (Q : VK), (te σ H fun v H1 => F (tC v) σ H1 Q) → F te σ H Q := by exact fun _ _ _ h => h) : EL W O k (F te) Rs R := fun σ G H n Q sl w hn kk =>
  hF _ _ _ (h σ G H n _ sl w hn fun v G2 H2 s2 w2 p => (hr v σ G2 p).run w2.r fun u G3 H3 g3 pu => kk u G3 H3 (s2.trans g3.g) (w2.go g3) pu)
theorem eln_f1 (F : TE → TE) (h : EL W O k te Rs R1) (hr : ∀ (v : V) (σ : L2.St) (G : Hp), R1.p v G → EvN true (F (tC v)) σ G e xs) (hF : ∀ (σ : L2.St) (H : Hp) (Q : VK), (te σ H fun v H1 => F (tC v) σ H1 Q) → F te σ H Q := by exact fun _ _ _ h => h) : ELN W O k (F te) Rs e xs := fun σ G H n Q sl w hn kk =>
  hF _ _ _ (h σ G H n _ sl w hn fun v G2 H2 s2 w2 p => (hr v σ G2 p).run w2.r fun q vs G3 H3 g3 h1 h2 h3 h4 h5 => kk q G3 H3 (s2.trans g3.g) (w2.fresh (w2.go g3) (Nw.of h1) h2 h3 rfl ⟨vs, rfl, h4, h5⟩))
theorem el_f2 (F : TE → TE → TE) (ha : EL W O k ta Rs R1) (hb : EL W O m tb Rs R2) (hr : ∀ (x y : V) (σ : L2.St) (G : Hp), R1.p x G → R2.p y G → Ev true (F (tC x) (tC y)) σ G R) (hF : ∀ (σ : L2.St) (H : Hp) (Q : VK), (ta σ H fun x H1 => tb σ H1 fun y H2 => F (tC x) (tC y) σ H2 Q) → F ta tb σ H Q := by exact fun _ _ _ h => h) : EL W O (k + m) (F ta tb) Rs R := fun σ G H n Q sl w hn kk =>
  hF _ _ _ (ha σ G H n _ sl w (by omega) fun x G2 H2 s2 w2 px => hb σ G2 H2 (n + k) _ (sl.st s2) w2 (by omega) fun y G3 H3 s3 w3 py => (hr x y σ G3 (R1.st s3 px) py).run w3.r fun u G4 H4 g4 pu => kk u G4 H4 ((s2.trans s3).trans g4.g) ((w3.go g4).eq (by omega)) pu)
theorem eln_f2 (F : TE → TE → TE) (ha : EL W O k ta Rs R1) (hb : EL W O m tb Rs R2) (hr : ∀ (x y : V) (σ : L2.St) (G : Hp), R1.p x G → R2.p y G → EvN true (F (tC x) (tC y)) σ G e xs) (hF : ∀ (σ : L2.St) (H : Hp) (Q : VK), (ta σ H fun x H1 => tb σ H1 fun y H2 => F (tC x) (tC y) σ H2 Q) → F ta tb σ H Q := by exact fun _ _ _ h => h) : ELN W O (k + m) (F ta tb) Rs e xs := fun σ G H n Q sl w hn kk =>
  hF _ _ _ (ha σ G H n _ sl w (by omega) fun x G2 H2 s2 w2 px => hb σ G2 H2 (n + k) _ (sl.st s2) w2 (by omega) fun y G3 H3 s3 w3 py => (hr x y σ G3 (R1.st s3 px) py).run w3.r fun q vs G4 H4 g4 h1 h2 h3 h4 h5 => kk q G4 H4 ((s2.trans s3).trans g4.g) ((w3.fresh (R := OL e xs) (w3.go g4) (Nw.of h1) h2 h3 rfl ⟨vs, rfl, h4, h5⟩).eq (by omega)))
theorem ELN.el (h : ELN W O k te Rs e xs) : EL W O k te Rs (Lst e xs) := fun σ G H n Q sl w hn kk => h σ G H n _ sl w hn fun p G2 H2 s2 w2 => by
  obtain ⟨o, h1, ⟨vs, rfl, h2, h3⟩, s3, w3⟩ := w2.freeze
  exact kk (.ref p) _ H2 (s2.trans s3) w3 ⟨p, vs, rfl, upd_same, h2, h3.st s3⟩
theorem el_sqL {K : PySem.W.Frag} (h : EL W O k te Rs (Lst e xs)) : EL W O k te Rs (Sq K e xs) := h.is fun _ _ p => .inl p
theorem el_sqT {K : PySem.W.Frag} (h : EL W O k te Rs (Tpl K e xs)) : EL W O k te Rs (Sq K e xs) := h.is fun _ _ p => .inr p
theorem el_ks {xs : List (Str × α)} (h : EL W O k te Rs (Dct e xs)) : EL W O k te Rs (Ks (xs.map (·.1))) := h.is fun _ _ ⟨a, kvs, h1, h2, h3, h4⟩ => ⟨a, kvs, h1, h2, h3, h4.keys⟩
theorem etl_test {c : Bool} (h : EL W O k te Rs (B c)) : ETL W O k (tTest te) Rs c := fun σ G H n Q sl w hn kk => h σ G H n _ sl w hn fun v G2 H2 s2 w2 p => ⟨c, p, kk c G2 H2 s2 w2 rfl⟩
theorem etl_B {c : Bool} (h : EL W O k te Rs (B c)) : ETL W O k (tB te) Rs c := fun σ G H n Q sl w hn kk => h σ G H n _ sl w hn fun v G2 H2 s2 w2 p => ⟨c, p, kk c G2 H2 s2 w2 rfl⟩
theorem etl_not {t : TT} {c : Bool} (h : ETL W O k t Rs c) : ETL W O k (tNot t) Rs (!c) := fun σ G H n Q sl w hn kk => h σ G H n _ sl w hn fun v G2 H2 s2 w2 e => by
  subst e
  exact kk (!v) G2 H2 s2 w2 rfl
theorem etl_and {t u : TT} {c d : Bool} (h1 : ETL W O k t Rs c) (h2 : c = true → ETL W O m u Rs d) : ETL W O (k + m) (tAnd t u) Rs (c && d) := fun σ G H n Q sl w hn kk => h1 σ G H n _ sl w (by omega) fun v G2 H2 s2 w2 e => by
  subst e
  cases v with
  | true => exact h2 rfl σ G2 H2 (n + k) Q (sl.st s2) w2 (by omega) fun b G3 H3 s3 w3 e => kk b G3 H3 (s2.trans s3) (w3.le (by omega)) (by rw [e]; rfl)
  | false => exact kk false G2 H2 s2 (w2.le (by omega)) rfl
theorem etl_or {t u : TT} {c d : Bool} (h1 : ETL W O k t Rs c) (h2 : c = false → ETL W O m u Rs d) : ETL W O (k + m) (tOr t u) Rs (c || d) := fun σ G H n Q sl w hn kk => h1 σ G H n _ sl w (by omega) fun v G2 H2 s2 w2 e => by
  subst e
  cases v with
  | false => exact h2 rfl σ G2 H2 (n + k) Q (sl.st s2) w2 (by omega) fun b G3 H3 s3 w3 e => kk b G3 H3 (s2.trans s3) (w3.le (by omega)) (by rw [e]; rfl)
  | true => exact kk true G2 H2 s2 (w2.le (by omega)) rfl
theorem etl_orF {t u : TT} (h1 : ETL W O k t Rs false) (h2 : ETL W O m u Rs false) : ETL W O (k + m) (tOr t u) Rs false := etl_or h1 fun _ => h2
theorem etl_notT {t : TT} (h : ETL W O k t Rs true) : ETL W O k (tNot t) Rs false := etl_not h
theorem etl_yes : ETL W O 0 tYes Rs true := etl_ev fun _ _ _ => et_yes
theorem el_and {c d : Bool} (h1 : EL W O k ta Rs (B c)) (h2 : c = true → EL W O m tb Rs (B d)) : EL W O (k + m) (tAndV ta tb) Rs (B (c && d)) := fun σ G H n Q sl w hn kk => h1 σ G H n _ sl w (by omega) fun v G2 H2 s2 w2 p => by
  obtain rfl : v = .bl c := p
  refine ⟨c, rfl, ?_⟩
  cases c with
  | true => exact h2 rfl σ G2 H2 (n + k) Q (sl.st s2) w2 (by omega) fun b G3 H3 s3 w3 e => kk b G3 H3 (s2.trans s3) (w3.le (by omega)) e
  | false => exact kk (.bl false) G2 H2 s2 (w2.le (by omega)) rfl
theorem el_not {c : Bool} (h : EL W O k te Rs (B c)) : EL W O k (tNotV te) Rs (B (!c)) := fun σ G H n Q sl w hn kk => h σ G H n _ sl w hn fun v G2 H2 s2 w2 p => ⟨c, p, kk _ G2 H2 s2 w2 rfl⟩
theorem el_if {t : TT} {c : Bool} (h : ETL W O k t Rs c) (h1 : c = true → EL W O m ta Rs R) (h2 : c = false → EL W O m tb Rs R) : EL W O (k + m) (tIf t ta tb) Rs R := fun σ G H n Q sl w hn kk => h σ G H n _ sl w (by omega) fun b G2 H2 s2 w2 e => by
  subst e
  cases b with
  | true => exact h1 rfl σ G2 H2 (n + k) Q (sl.st s2) w2 (by omega) fun v G3 H3 s3 w3 p => kk v G3 H3 (s2.trans s3) (w3.eq (by omega)) p
  | false => exact h2 rfl σ G2 H2 (n + k) Q (sl.st s2) w2 (by omega) fun v G3 H3 s3 w3 p => kk v G3 H3 (s2.trans s3) (w3.eq (by omega)) p
end
end Gd
-- part Gd41
set_option Elab.async false
set_option linter.all false
set_option maxRecDepth 100000
set_option maxHeartbeats 1000000
namespace Gd
open PySem PySem.Spec PyProof.Rows L2
universe u
def spL {ι : Type u} (Tb : List (Addr × Str)) (pre : ι → List SR) (ok : ι → Prop) (cost : ι → Nat) (post : ι → SR) : Sp := fun vs H Q _ => ∃ (i : ι) (s c : Addr) (n : Nat) (O : Own) (G : Hp) (rest : List V), vs = .ref s :: rest ∧ Wd ⟨s, c, Tb⟩ n O G H ∧ n + cost i ≤ 1000000 ∧ ok i ∧ AlR (pre i) rest G ∧ ∀ v G2 H2, Same G G2 → Wd ⟨s, c, Tb⟩ (n + cost i) O G2 H2 → (post i).p v G2 → Q v H2
def spM {ι : Type u} (Tb : List (Addr × Str)) (pre : ι → List SR) (ok : ι → Prop) (post : ι → SR) : Sp := fun vs H Q _ => ∃ (i : ι) (s c : Addr) (n : Nat) (O : Own) (G : Hp), Wd ⟨s, c, Tb⟩ n O G H ∧ n ≤ 1000000 ∧ ok i ∧ AlR (pre i) vs G ∧ ∀ v G2 H2, Same G G2 → Wd ⟨s, c, Tb⟩ n O G2 H2 → (post i).p v G2 → Q v H2
def spMO {ι : Type u} (Tb : List (Addr × Str)) (pre : ι → List SR) (ok : ι → Prop) (post : ι → OR) : Sp := fun vs H Q _ => ∃ (i : ι) (s c : Addr) (n : Nat) (O : Own) (G : Hp), Wd ⟨s, c, Tb⟩ n O G H ∧ n ≤ 1000000 ∧ ok i ∧ AlR (pre i) vs G ∧ ∀ p G2 H2, Same G G2 → Wd ⟨s, c, Tb⟩ n ((p, post i) :: O) G2 H2 → Q (.ref p) H2
section
variable {W : SC} {O : Own} {k m n : Nat} {Rs : RL} {R R1 R2 R' : SR} {te ta tb : TE} {tr : TA} {α β : Type} {e : α → SR} {xs : List α} {ι : Type u} {pre : ι → List SR} {ok : ι → Prop} {post : ι → SR} {E : XK}
theorem spL_len {Tb : List (Addr × Str)} {cost : ι → Nat} {vs : List V} {H : Hp} {Q : VK} {l : Nat} (h : spL Tb pre ok cost post vs H Q E) (hn : ∀ i, (pre i).length = l) : vs.length = l + 1 := by
  obtain ⟨i, s, c, n, O, G, rest, rfl, _, _, _, al, _⟩ := h
  rw [List.length_cons, alr_len al, hn]
theorem spM_len {Tb : List (Addr × Str)} {vs : List V} {H : Hp} {Q : VK} {l : Nat} (h : spM Tb pre ok post vs H Q E) (hn : ∀ i, (pre i).length = l) : vs.length = l := by
  obtain ⟨i, s, c, n, O, G, _, _, _, al, _⟩ := h
  rw [alr_len al, hn]
theorem spMO_len {Tb : List (Addr × Str)} {post : ι → OR} {vs : List V} {H : Hp} {Q : VK} {l : Nat} (h : spMO Tb pre ok post vs H Q E) (hn : ∀ i, (pre i).length = l) : vs.length = l := by
  obtain ⟨i, s, c, n, O, G, _, _, _, al, _⟩ := h
  rw [alr_len al, hn]
theorem rel_any {b : Bool} {G H : Hp} (r : Rel true G H) : Rel b G H := fun a o h => .inl (r.ex h)
theorem el_call {ι : Type} {pre : ι → List SR} {ok : ι → Prop} {post : ι → SR} {b' : Bool} (i : ι) (ha : EAL W O k tr Rs (pre i)) (hok : ok i) : EL W O k (tCall (spF b' pre ok post) [] E tr) Rs (post i) := fun σ G H n Q sl w hn kk => ha σ G H n _ sl w hn fun vs G2 H2 s2 w2 al =>
  ⟨i, G2, rel_any w2.r, hok, by rw [List.append_nil]; exact al, fun u G3 H3 g p => kk u G3 H3 (s2.trans g.g) (w2.go g) p⟩
theorem eln_call {ι : Type} {pre : ι → List SR} {ok : ι → Prop} {b' : Bool} {post : ι → List α} (i : ι) (ha : EAL W O k tr Rs (pre i)) (hok : ok i) : ELN W O k (tCall (spN b' pre ok e post) [] E tr) Rs e (post i) := fun σ G H n Q sl w hn kk => ha σ G H n _ sl w hn fun vs G2 H2 s2 w2 al =>
  ⟨i, G2, rel_any w2.r, hok, by rw [List.append_nil]; exact al, fun p vs G3 H3 g h1 h2 h3 h4 h5 => kk p G3 H3 (s2.trans g.g) (w2.fresh (w2.go g) (Nw.of h1) h2 h3 rfl ⟨vs, rfl, h4, h5⟩)⟩
theorem el_calld {cost : ι → Nat} {j : Nat} (i : ι) (hs : Rs[j]? = some (some (cst (.ref W.s)))) (ha : EAL W O k tr Rs (pre i)) (hok : ok i) : EL W O (k + cost i) (tCall (spD pre ok cost post) [] E (tCons (tVar j) tr)) Rs (post i) := fun σ G H n Q sl w hn kk => by
  obtain ⟨v, h1, h2⟩ := sl.get j _ hs
  obtain rfl : v = .ref W.s := h2
  exact ⟨_, h1, ha σ G H n _ sl w (by omega) fun vs G2 H2 s2 w2 al => ⟨i, G2, W.s, W.c, n + k, vs, by rw [List.append_nil], w2.r, w2.d, by omega, hok, al, fun v G3 H3 g d3 r3 p => kk v G3 H3 (s2.trans g.g) ((w2.gs g d3 r3).eq (by omega)) p⟩⟩
theorem el_calll {cost : ι → Nat} {j : Nat} (i : ι) (hs : Rs[j]? = some (some (cst (.ref W.s)))) (ha : EAL W O k tr Rs (pre i)) (hok : ok i) : EL W O (k + cost i) (tCall (spL W.tb pre ok cost post) [] E (tCons (tVar j) tr)) Rs (post i) := fun σ G H n Q sl w hn kk => by
  obtain ⟨v, h1, h2⟩ := sl.get j _ hs
  obtain rfl : v = .ref W.s := h2
  exact ⟨_, h1, ha σ G H n _ sl w (by omega) fun vs G2 H2 s2 w2 al => ⟨i, W.s, W.c, n + k, O, G2, vs, by rw [List.append_nil], w2, by omega, hok, al, fun v G3 H3 s3 w3 p => kk v G3 H3 (s2.trans s3) (w3.eq (by omega)) p⟩⟩
theorem el_callm (i : ι) (ha : EAL W O k tr Rs (pre i)) (hok : ok i) : EL W O k (tCall (spM W.tb pre ok post) [] E tr) Rs (post i) := fun σ G H n Q sl w hn kk => ha σ G H n _ sl w hn fun vs G2 H2 s2 w2 al =>
  ⟨i, W.s, W.c, n + k, O, G2, w2, by omega, hok, by rw [List.append_nil]; exact al, fun v G3 H3 s3 w3 p => kk v G3 H3 (s2.trans s3) w3 p⟩
theorem elo_callm {post : ι → OR} (i : ι) (ha : EAL W O k tr Rs (pre i)) (hok : ok i) : ELO W O k (tCall (spMO W.tb pre ok post) [] E tr) Rs (post i) := fun σ G H n Q sl w hn kk => ha σ G H n _ sl w hn fun vs G2 H2 s2 w2 al =>
  ⟨i, W.s, W.c, n + k, O, G2, w2, by omega, hok, by rw [List.append_nil]; exact al, fun p G3 H3 s3 w3 => kk p G3 H3 (s2.trans s3) w3⟩
end
theorem wipe_get (σ : L2.St) : ∀ (vs : List Nat) (j : Nat), (L2.wipe σ vs)[j]? = if j ∈ vs then (if j < σ.length then some none else none) else σ[j]?
  | [], j => by simp [L2.wipe]
  | v :: vs, j => by
    show ((L2.wipe σ vs).set v none)[j]? = _
    by_cases h : v = j
    · subst h
      rw [if_pos (List.mem_cons_self ..)]
      by_cases hl : v < σ.length
      · rw [if_pos hl, List.getElem?_set_self (by rw [wipe_length]; exact hl)]
      · rw [if_neg hl, List.getElem?_eq_none (by rw [List.length_set, wipe_length]; omega)]
    · rw [List.getElem?_set_ne h, wipe_get σ vs j]
      have : (j ∈ v :: vs) = (j ∈ vs) := by
        rw [List.mem_cons]
        exact propext ⟨fun z => z.elim (fun q => absurd q.symm h) id, .inr⟩
      simp only [this]
theorem wipe_set {σ : L2.St} {vs : List Nat} {i : Nat} {x : V} (h : i ∈ vs) : L2.wipe (σ.set i (some x)) vs = L2.wipe σ vs := by
  apply List.ext_getElem?
  intro j
  rw [wipe_get, wipe_get, List.length_set]
  by_cases hj : j ∈ vs
  · rw [if_pos hj, if_pos hj]
  · rw [if_neg hj, if_neg hj, List.getElem?_set_ne fun z => hj (by rw [← z]; exact h)]
structure GL (g : TG) (R : SR) (Rs Rs' : RL) (is : List Nat) : Prop where
  h : ∀ (x : V) (σ : L2.St) (G : Hp), Slots G σ Rs → R.p x G → ∃ σ', (∀ (H : Hp) (Q : L2.St → Hp → Prop), Rel true G H → Q σ' H → g x σ H Q) ∧ Slots G σ' Rs' ∧ ∀ vs : List Nat, (∀ i ∈ is, i ∈ vs) → L2.wipe σ' vs = L2.wipe σ vs
theorem gl_name {i : Nat} {R : SR} {Rs : RL} : GL (gName i) R Rs (Rs.set i (some R)) [i] := ⟨fun x σ G sl p => ⟨σ.set i (some x), fun H Q _ q => q, sl.set p, fun vs hv => wipe_set (hv i (List.mem_singleton.mpr rfl))⟩⟩
theorem gl_pr {K : PySem.W.Frag} {α β : Type} {e : α → SR} {f : β → SR} {x : α × β} {g1 g2 : TG} {Rs R1 R2 : RL} {is js : List Nat} (h1 : GL g1 (e x.1) Rs R1 is) (h2 : GL g2 (f x.2) R1 R2 js) : GL (gTup K 2 (gCons g1 (gCons g2 gNil))) (Pr K e f x) Rs R2 (is ++ js) := ⟨fun u σ G sl ⟨a, v, w, e1, e2, e3, e4⟩ => by
  obtain ⟨σ1, q1, s1, w1⟩ := h1.h v σ G sl e3
  obtain ⟨σ2, q2, s2, w2⟩ := h2.h w σ1 G s1 e4
  subst e1
  exact ⟨σ2, fun H Q r q => ⟨a, [v, w], rfl, r.seqT e2, rfl, v, [w], rfl, q1 H _ r ⟨w, [], rfl, q2 H _ r ⟨rfl, q⟩⟩⟩, s2, fun vs hv => (w2 vs fun i hi => hv i (List.mem_append_right _ hi)).trans (w1 vs fun i hi => hv i (List.mem_append_left _ hi))⟩⟩
section
variable {W : SC} {O : Own} {k m m2 n : Nat} {Rs : RL} {R R1 R2 R' : SR} {te ta tb : TE} {tr : TA} {α β : Type} {e : α → SR} {xs : List α}
theorem eln_lc {wi : TI} {g : TG} {tt : TT} {vs is : List Nat} {er : β → SR} {fn : α → β} {p : α → Bool} {Ra : α → RL} (hi : EIL W O k wi Rs e xs) (hg : ∀ a, a ∈ xs → GL g (e a) (wipeR Rs vs) (Ra a) is) (ht : ∀ a, a ∈ xs → ∀ O', ETL W O' m tt (Ra a) (p a)) (hb : ∀ a, a ∈ xs → p a = true → ∀ O', EL W O' m2 te (Ra a) (er (fn a))) (his : ∀ i ∈ is, i ∈ vs := by decide) :
    ELN W O (k + xs.length * (m + m2)) (tLc wi g tt te vs) Rs er ((xs.filter p).map fn) := fun σ G H n Q sl w hn kk => by
  refine hi σ G H n _ sl w (by omega) fun J G2 H2 s2 w2 WR D hD => ?_
  have sl2 := (sl.st s2).wipe vs
  refine ⟨fun i z H => z = xs.length - i ∧ i ≤ xs.length ∧ ∃ G', Same G2 G' ∧ Wd W (n + k + i * (m + m2)) ((D, OL er (((xs.take i).filter p).map fn)) :: O) G' H, ⟨xs.length, rfl, Nat.zero_le _, G2, Same.refl _, (w2.own (R := OL er []) hD rfl ⟨[], rfl, Nat.zero_le _, .nil⟩).eq (by omega)⟩, ?_⟩
  rintro i z H ⟨rfl, hi2, G', s', w'⟩
  by_cases hlt : i < xs.length
  · refine .inr ⟨WR.goes i G' H hlt s' w'.r trivial, fun H' => ∃ G', Same G2 G' ∧ Wd W (n + k + (i + 1) * (m + m2)) ((D, OL er (((xs.take (i + 1)).filter p).map fn)) :: O) G' H', fun H' h' => ⟨xs.length - (i + 1), by omega, rfl, hlt, h'⟩, fun x H' y => ?_⟩
    have hxi : xs[i]? = some xs[i] := List.getElem?_eq_getElem hlt
    obtain ⟨G4, g4, pa⟩ := WR.yields i xs[i] G' H x H' hxi s' w'.r trivial y
    have w4 := w'.go g4
    have hm1 : (i + 1) * (m + m2) ≤ xs.length * (m + m2) := Nat.mul_le_mul_right (m + m2) hlt
    have hm2 : (i + 1) * (m + m2) = i * (m + m2) + (m + m2) := by rw [Nat.add_mul, Nat.one_mul]
    obtain ⟨σ', q1, q2, q3⟩ := (hg xs[i] (List.getElem_mem hlt)).h x (L2.wipe σ vs) G4 (sl2.st (s'.trans g4.g)) pa
    refine q1 H' _ w4.r ⟨?_, ?_⟩
    · have : L2.wipe (L2.wipe σ vs) vs = L2.wipe σ vs := by
        apply List.ext_getElem?
        intro j
        rw [wipe_get, wipe_get, wipe_length]
        split <;> rfl
      rw [q3 vs his, this]
    refine ht xs[i] (List.getElem_mem hlt) _ σ' G4 H' _ _ q2 w4 (by omega) fun b G5 H5 s5 w5 eb => ?_
    subst eb
    by_cases hp : p xs[i] = true
    · rw [if_pos hp]
      refine hb xs[i] (List.getElem_mem hlt) hp _ σ' G5 H5 _ _ (q2.st s5) w5 (by omega) fun u G6 H6 s6 w6 pu => ?_
      obtain ⟨_, _, _, ho, h4, _, acc, rfl, h7, h8⟩ := w6.o _ (List.mem_cons_self ..)
      have hl := h8.len
      have hx := WR.len
      have hft : (((xs.take i).filter p).map fn).length ≤ i := by
        rw [List.length_map]
        exact Nat.le_trans (List.length_filter_le _ _) (by rw [List.length_take]; omega)
      have e6 : ((xs.take (i + 1)).filter p).map fn = ((xs.take i).filter p).map fn ++ [fn xs[i]] := by
        rw [take_succ hxi, List.filter_append, List.map_append, List.filter_cons_of_pos hp]
        rfl
      refine ⟨acc, h4, by omega, G6, ((s'.trans g4.g).trans s5).trans s6, ?_⟩
      rw [e6]
      exact (w6.put (R' := OL er (((xs.take i).filter p).map fn ++ [fn xs[i]])) (o := .lst (acc ++ [u])) (fun u ⟨_, e, _⟩ => by rw [e]; rfl) rfl ⟨_, rfl, by rw [List.length_append, List.length_singleton]; omega, h8.snoc pu⟩).eq (by omega)
    · rw [if_neg hp]
      have e6 : ((xs.take (i + 1)).filter p).map fn = ((xs.take i).filter p).map fn := by
        rw [take_succ hxi, List.filter_append, List.filter_cons_of_neg hp, List.filter_nil, List.append_nil]
      refine ⟨G5, (s'.trans g4.g).trans s5, ?_⟩
      rw [e6]
      exact w5.le (by omega)
  · have e0 : i = xs.length := by omega
    subst e0
    rw [List.take_length] at w'
    exact .inl ⟨WR.stops G' H s' w'.r trivial, kk D G' H (s2.trans s') (w'.eq (by omega))⟩
theorem eln_map {wi : TI} {g : TG} {vs is : List Nat} {er : β → SR} {fn : α → β} {Ra : α → RL} (hi : EIL W O k wi Rs e xs) (hg : ∀ a, a ∈ xs → GL g (e a) (wipeR Rs vs) (Ra a) is) (hb : ∀ a, a ∈ xs → ∀ O', EL W O' m2 te (Ra a) (er (fn a))) (his : ∀ i ∈ is, i ∈ vs := by decide) :
    ELN W O (k + xs.length * (0 + m2)) (tLc wi g tYes te vs) Rs er (xs.map fn) := by
  have h := eln_lc (m := 0) (p := fun _ => true) hi hg (fun _ _ _ => etl_yes) (fun a ha _ => hb a ha) his
  rwa [filter_true] at h
theorem eln_lc0 {wi : TI} {g : TG} {tt : TT} {vs is : List Nat} {er : β → SR} {fn : α → β} {p : α → Bool} {Ra : α → RL} (hi : EIL W O k wi Rs e xs) (hg : ∀ a, a ∈ xs → GL g (e a) (wipeR Rs vs) (Ra a) is) (ht : ∀ a, a ∈ xs → ∀ O', ETL W O' 0 tt (Ra a) (p a)) (hb : ∀ a, a ∈ xs → p a = true → ∀ O', EL W O' 0 te (Ra a) (er (fn a))) (his : ∀ i ∈ is, i ∈ vs := by decide) :
    ELN W O k (tLc wi g tt te vs) Rs er ((xs.filter p).map fn) := ELO.le (eln_lc hi hg ht hb his) (by rw [Nat.add_zero, Nat.mul_zero]; exact Nat.le_refl _)
theorem eln_map0 {wi : TI} {g : TG} {vs is : List Nat} {er : β → SR} {fn : α → β} {Ra : α → RL} (hi : EIL W O k wi Rs e xs) (hg : ∀ a, a ∈ xs → GL g (e a) (wipeR Rs vs) (Ra a) is) (hb : ∀ a, a ∈ xs → ∀ O', EL W O' 0 te (Ra a) (er (fn a))) (his : ∀ i ∈ is, i ∈ vs := by decide) :
    ELN W O k (tLc wi g tYes te vs) Rs er (xs.map fn) := ELO.le (eln_map hi hg hb his) (by rw [Nat.add_zero, Nat.mul_zero]; exact Nat.le_refl _)
end
end Gd
-- part Gd42
set_option Elab.async false
set_option linter.all false
set_option maxRecDepth 100000
set_option maxHeartbeats 1000000
namespace Gd
open PySem PySem.Spec PyProof.Rows L2
universe u
def At (W : SC) (G0 : Hp) (n : Nat) (O : Own) (Rs : RL) (σ : L2.St) (H : Hp) : Prop := ∃ G, Same G0 G ∧ Slots G σ Rs ∧ Wd W n O G H
def HL (W : SC) (G0 : Hp) (n : Nat) (O : Own) (Rs : RL) (t : TS) (D : Ends) : Prop := ∀ σ H, At W G0 n O Rs σ H → t D σ H
section
variable {W : SC} {G0 : Hp} {n k m : Nat} {O O' : Own} {Rs Rs' : RL} {R R1 R2 : SR} {te ta tb : TE} {t u : TS} {D : Ends} {α β : Type} {e : α → SR} {xs : List α} {p : Addr} {i j : Nat}
theorem At.le (a : At W G0 n O Rs σ H) (h : n ≤ m) : At W G0 m O Rs σ H := let ⟨G, h1, h2, h3⟩ := a; ⟨G, h1, h2, h3.le h⟩
theorem At.weak {σ : L2.St} {H : Hp} (a : At W G0 n O Rs σ H) (h : ∀ G, Slk G Rs Rs') : At W G0 n O Rs' σ H := let ⟨G, h1, h2, h3⟩ := a; ⟨G, h1, h2.weak (h G), h3⟩
theorem At.drop {σ : L2.St} {H : Hp} (a : At W G0 n O Rs σ H) (h : O'.Sublist O) : At W G0 n O' Rs σ H := let ⟨G, h1, h2, h3⟩ := a; ⟨G, h1, h2, h3.drop h⟩
theorem HL.le (h : HL W G0 m O Rs t D) (q : n ≤ m) : HL W G0 n O Rs t D := fun σ H a => h σ H (a.le q)
theorem HL.weak (h : HL W G0 n O Rs' t D) (q : ∀ G, Slk G Rs Rs') : HL W G0 n O Rs t D := fun σ H a => h σ H (a.weak q)
theorem HL.drop (h : HL W G0 n O' Rs t D) (q : O'.Sublist O) : HL W G0 n O Rs t D := fun σ H a => h σ H (a.drop q)
theorem HL.perm (h : HL W G0 n O' Rs t D) (q : O'.Perm O) : HL W G0 n O Rs t D := fun σ H ⟨G, h1, h2, h3⟩ => h σ H ⟨G, h1, h2, h3.perm q⟩
theorem hl_nx (h : ∀ σ H, At W G0 n O Rs σ H → D.nx σ H) : HL W G0 n O Rs tNext D := h
theorem hl_last (h : HL W G0 n O Rs (tSeq t tNext) D) : HL W G0 n O Rs t D := h
theorem hl_set (h : EL W O k te Rs R) (q : HL W G0 (n + k) O (Rs.set i (some R)) u D) (hn : n + k ≤ 1000000 := by omega) : HL W G0 n O Rs (tSeq (tAsg te (gName i)) u) D := fun σ H ⟨G, s, sl, w⟩ =>
  h σ G H n _ sl w hn fun v G2 H2 s2 w2 p => q _ _ ⟨G2, s.trans s2, (sl.st s2).set p, w2⟩
theorem hl_setX {P : α → Prop} (h : EL W O k te Rs (ExR P e)) (q : ∀ a, P a → HL W G0 (n + k) O (Rs.set i (some (e a))) u D) (hn : n + k ≤ 1000000 := by omega) : HL W G0 n O Rs (tSeq (tAsg te (gName i)) u) D := fun σ H ⟨G, s, sl, w⟩ =>
  h σ G H n _ sl w hn fun v G2 H2 s2 w2 ⟨a, ha, p⟩ => q a ha _ _ ⟨G2, s.trans s2, (sl.st s2).set p, w2⟩
theorem hl_setN {R : OR} (h : ELO W O k te Rs R) (q : ∀ p, HL W G0 (n + k) ((p, R) :: O) (Rs.set i (some (cst (.ref p)))) u D) (hn : n + k ≤ 1000000 := by omega) : HL W G0 n O Rs (tSeq (tAsg te (gName i)) u) D := fun σ H ⟨G, s, sl, w⟩ =>
  h σ G H n _ sl w hn fun p G2 H2 s2 w2 => q p _ _ ⟨G2, s.trans s2, (sl.st s2).set (R := cst (.ref p)) rfl, w2⟩
theorem hl_asg {g : TG} {is : List Nat} (h : EL W O k te Rs R) (hg : GL g R Rs Rs' is) (q : HL W G0 (n + k) O Rs' u D) (hn : n + k ≤ 1000000 := by omega) : HL W G0 n O Rs (tSeq (tAsg te g) u) D := fun σ H ⟨G, s, sl, w⟩ =>
  h σ G H n _ sl w hn fun v G2 H2 s2 w2 p => by
    obtain ⟨σ', h1, h2, _⟩ := hg.h v σ G2 (sl.st s2) p
    exact h1 H2 _ w2.r (q _ _ ⟨G2, s.trans s2, h2, w2⟩)
theorem hl_asgX {P : α → Prop} {g : TG} {is : List Nat} {Rf : α → RL} (h : EL W O k te Rs (ExR P e)) (hg : ∀ a, GL g (e a) Rs (Rf a) is) (q : ∀ a, P a → HL W G0 (n + k) O (Rf a) u D) (hn : n + k ≤ 1000000 := by omega) : HL W G0 n O Rs (tSeq (tAsg te g) u) D := fun σ H ⟨G, s, sl, w⟩ =>
  h σ G H n _ sl w hn fun v G2 H2 s2 w2 ⟨a, ha, p⟩ => by
    obtain ⟨σ', h1, h2, _⟩ := (hg a).h v σ G2 (sl.st s2) p
    exact h1 H2 _ w2.r (q a ha _ _ ⟨G2, s.trans s2, h2, w2⟩)
theorem hl_par (h1 : EL W O k ta Rs R1) (h2 : EL W O m tb Rs R2) (q : HL W G0 (n + (k + m)) O ((Rs.set i (some R1)).set j (some R2)) u D) (hn : n + (k + m) ≤ 1000000 := by omega) : HL W G0 n O Rs (tSeq (tPar i j (tCons ta (tCons tb tNil))) u) D := fun σ H ⟨G, s, sl, w⟩ =>
  h1 σ G H n _ sl w (by omega) fun v G2 H2 s2 w2 p1 => h2 σ G2 H2 (n + k) _ (sl.st s2) w2 (by omega) fun z G3 H3 s3 w3 p2 => ⟨v, z, rfl, q _ _ ⟨G3, (s.trans s2).trans s3, ((sl.st (s2.trans s3)).set (R1.st s3 p1)).set p2, w3.eq (by omega)⟩⟩
theorem hl_if {tt : TT} {c : Bool} {t2 : TS} (h : ETL W O k tt Rs c) (q1 : c = true → HL W G0 (n + k) O Rs t { D with nx := u D }) (q2 : c = false → HL W G0 (n + k) O Rs t2 { D with nx := u D }) (hn : n + k ≤ 1000000 := by omega) : HL W G0 n O Rs (tSeq (tIfS tt t t2) u) D := fun σ H ⟨G, s, sl, w⟩ =>
  h σ G H n _ sl w hn fun b G2 H2 s2 w2 eb => by
    subst eb
    cases b with
    | true => exact q1 rfl _ _ ⟨G2, s.trans s2, sl.st s2, w2⟩
    | false => exact q2 rfl _ _ ⟨G2, s.trans s2, sl.st s2, w2⟩
theorem hl_ifF {tt : TT} (h : ETL W O k tt Rs false) (q : HL W G0 (n + k) O Rs u D) (hn : n + k ≤ 1000000 := by omega) : HL W G0 n O Rs (tSeq (tIfS tt t tNext) u) D := hl_if h (fun h => by cases h) (fun _ => q) hn
theorem hl_ifT {tt : TT} {t2 : TS} (h : ETL W O k tt Rs true) (q : HL W G0 (n + k) O Rs t { D with nx := u D }) (hn : n + k ≤ 1000000 := by omega) : HL W G0 n O Rs (tSeq (tIfS tt t t2) u) D := hl_if h (fun _ => q) (fun h => by cases h) hn
theorem hl_ret {nx bk ct : L2.St → Hp → Prop} {Q : VK} (h : EL W O k te Rs R) (q : ∀ v G H, Same G0 G → Wd W (n + k) O G H → R.p v G → Q v H) (hn : n + k ≤ 1000000 := by omega) : HL W G0 n O Rs (tRet te) ⟨nx, Q, bk, ct⟩ := fun σ H ⟨G, s, sl, w⟩ =>
  h σ G H n _ sl w hn fun v G2 H2 s2 w2 p => q v G2 H2 (s.trans s2) w2 p
theorem hl_retD (h : EL W O k te Rs R) (q : ∀ v G H, Same G0 G → Wd W (n + k) O G H → R.p v G → D.rt v H) (hn : n + k ≤ 1000000 := by omega) : HL W G0 n O Rs (tRet te) D := fun σ H ⟨G, s, sl, w⟩ =>
  h σ G H n _ sl w hn fun v G2 H2 s2 w2 p => q v G2 H2 (s.trans s2) w2 p
theorem hl_retN {R : OR} {nx bk ct : L2.St → Hp → Prop} {Q : VK} (h : ELO W O k te Rs R) (q : ∀ p G H, Same G0 G → Wd W (n + k) ((p, R) :: O) G H → Q (.ref p) H) (hn : n + k ≤ 1000000 := by omega) : HL W G0 n O Rs (tRet te) ⟨nx, Q, bk, ct⟩ := fun σ H ⟨G, s, sl, w⟩ =>
  h σ G H n _ sl w hn fun p G2 H2 s2 w2 => q p G2 H2 (s.trans s2) w2
theorem hl_retO {R : OR} {nx bk ct : L2.St → Hp → Prop} {Q : VK} (hi : Rs[i]? = some (some (cst (.ref p)))) (q : ∀ G H, Same G0 G → Wd W n ((p, R) :: O) G H → Q (.ref p) H) : HL W G0 n ((p, R) :: O) Rs (tRet (tVar i)) ⟨nx, Q, bk, ct⟩ := fun σ H ⟨G, s, sl, w⟩ => by
  obtain ⟨v, h1, h2⟩ := sl.get i _ hi
  obtain rfl : v = .ref p := h2
  exact ⟨_, h1, q G H s w⟩
theorem hl_drop (h : EL W O k te Rs R) (q : HL W G0 (n + k) O Rs u D) (hn : n + k ≤ 1000000 := by omega) : HL W G0 n O Rs (tSeq (tDrop te) u) D := fun σ H ⟨G, s, sl, w⟩ =>
  h σ G H n _ sl w hn fun v G2 H2 s2 w2 p => q _ _ ⟨G2, s.trans s2, sl.st s2, w2⟩
theorem hl_freeze {Ro : OR} {R : SR} (hc : ∀ o G, Ro.p o G → G p = some o → R.p (.ref p) G) (hi : Rs[i]? = some (some (cst (.ref p)))) (q : HL W G0 n O (Rs.set i (some R)) t D) : HL W G0 n ((p, Ro) :: O) Rs t D := fun σ H ⟨G, s, sl, w⟩ => by
  obtain ⟨o, h1, h2, s3, w3⟩ := w.freeze
  refine q _ _ ⟨_, s.trans s3, (sl.st s3).conv hi fun v hv => ?_, w3⟩
  obtain rfl : v = .ref p := hv
  exact hc o _ (Ro.st s3 h2) upd_same
theorem ol_lst {xs : List α} : ∀ o G, (OL e xs).p o G → G p = some o → (Lst e xs).p (.ref p) G := fun o G ⟨vs, e1, h2, h3⟩ h => ⟨p, vs, rfl, by rw [h, e1], h2, h3⟩
theorem od_dct {xs : List (Str × α)} : ∀ o G, (ODct e xs).p o G → G p = some o → (Dct e xs).p (.ref p) G := fun o G ⟨kvs, e1, h2, h3⟩ h => ⟨p, kvs, rfl, by rw [h, e1], h2, h3⟩
theorem hl_frzL (hi : Rs[i]? = some (some (cst (.ref p)))) (q : HL W G0 n O (Rs.set i (some (Lst e xs))) t D) : HL W G0 n ((p, OL e xs) :: O) Rs t D := hl_freeze ol_lst hi q
theorem hl_frzD {kvs : List (Str × α)} (hi : Rs[i]? = some (some (cst (.ref p)))) (q : HL W G0 n O (Rs.set i (some (Dct e kvs))) t D) : HL W G0 n ((p, ODct e kvs) :: O) Rs t D := hl_freeze od_dct hi q
def exO (o : HO) (R : OR) : OR := ⟨fun u G => u = o ∧ R.p u G, fun s ⟨h1, h2⟩ => ⟨h1, R.st s h2⟩⟩
def exAll (F : Addr → HO) (O : Own) : Own := O.map fun q => (q.1, exO (F q.1) q.2)
theorem Wd.exact {G H : Hp} (w : Wd W n O G H) : Wd W n (exAll (fun a => (H a).getD (.lst [])) O) G H :=
  ⟨w.r, w.nt, w.tb, w.d, by
    have : (exAll (fun a => (H a).getD (.lst [])) O).map (·.1) = O.map (·.1) := by
      unfold exAll
      rw [List.map_map]
      rfl
    rw [this]
    exact w.nd, fun q hq => by
    obtain ⟨q0, h0, rfl⟩ := List.mem_map.mp hq
    obtain ⟨h1, h2, h3, ho, h4, h5, h6⟩ := w.o q0 h0
    exact ⟨h1, h2, h3, ho, h4, h5, by show ho = (H q0.1).getD (.lst []); rw [h4]; rfl, h6⟩⟩
theorem eg_lend {ρ : Type} {tt : L2.St → Hp → (ρ → Hp → Prop) → Prop} {P : ρ → Hp → Prop} {Ro : OR} {R : SR} (hc : ∀ o G, Ro.p o G → G p = some o → R.p (.ref p) G) (hi : Rs[i]? = some (some (cst (.ref p)))) (hP : ∀ v G G', P v G → P v G') (h : ∀ F, EG W (exAll F O) k tt (Rs.set i (some R)) P) : EG W ((p, Ro) :: O) k tt Rs P := fun σ G H n Q sl w hn kk => by
  have w0 := w.exact
  obtain ⟨o, h1, ⟨h2a, h2⟩, s3, w3⟩ := w0.freeze
  refine h (fun a => (H a).getD (.lst [])) σ _ H n _ ((sl.st s3).conv hi fun v hv => ?_) w3 hn fun v G2 H2 s2 w2 pv => ?_
  · obtain rfl : v = .ref p := hv
    exact hc o _ (Ro.st s3 h2) upd_same
  · obtain ⟨_, _, n3, _⟩ := w.o _ (List.mem_cons_self ..)
    have sG : Same G G2 := s3.trans s2
    refine kk v G H2 (Same.refl G) ⟨fun a u e => .inl (w2.r.ex (sG a u e)), w.nt, w2.tb, ?_, w.nd, fun q hq => ?_⟩ (hP _ _ _ pv)
    · obtain ⟨d1, d2, d3, d4⟩ := w2.d
      exact ⟨d1, w.d.gs, w.d.gc, d4⟩
    · obtain ⟨q1, q2, q3, ho, q4, q5, q6⟩ := w.o q hq
      refine ⟨q1, q2, q3, ho, ?_, q5, q6⟩
      rcases List.mem_cons.mp hq with rfl | hq
      · rw [h1] at q4
        cases q4
        exact w2.r.ex (s2 _ _ upd_same)
      · obtain ⟨_, _, _, ho', z4, _, z6, _⟩ := w2.o (q.1, exO ((H q.1).getD (.lst [])) q.2) (List.mem_map.mpr ⟨q, hq, rfl⟩)
        rw [z4, z6, q4]
        rfl
theorem etl_lendL {tt : TT} {b : Bool} (hi : Rs[i]? = some (some (cst (.ref p)))) (h : ∀ F, ETL W (exAll F O) k tt (Rs.set i (some (Lst e xs))) b) : ETL W ((p, OL e xs) :: O) k tt Rs b := eg_lend ol_lst hi (fun _ _ _ h => h) h
theorem hl_push {K : PySem.W.Frag} {a : α} (hi : Rs[i]? = some (some (cst (.ref p)))) (h : EL W ((p, OL e xs) :: O) k te Rs (e a)) (hl : xs.length ≤ 100000) (q : HL W G0 (n + k) ((p, OL e (xs ++ [a])) :: O) Rs u D) (hn : n + k ≤ 1000000 := by omega) : HL W G0 n ((p, OL e xs) :: O) Rs (tSeq (tDrop (tBM K "list" rAppend (tVar i) (tCons te tNil))) u) D := fun σ H ⟨G, s, sl, w⟩ => by
  obtain ⟨v, h1, h2⟩ := sl.get i _ hi
  obtain rfl : v = .ref p := h2
  obtain ⟨_, _, _, o, w4, _, vs, rfl, _⟩ := w.o _ (List.mem_cons_self ..)
  refine ⟨_, h1, .inl ⟨rfl, vs, SqL.of w4⟩, ?_⟩
  show te σ H _
  refine h σ G H n _ sl w hn fun v G2 H2 s2 w2 pv => ?_
  obtain ⟨_, _, _, o, z4, _, ws, rfl, _, al⟩ := w2.o _ (List.mem_cons_self ..)
  have := al.len
  have : sizeLine = 16777216 := sizeLine_eq
  exact ⟨p, ws, v, rfl, rfl, z4, by omega, q _ _ ⟨G2, s.trans s2, sl.st s2, w2.put (fun u ⟨_, e, _⟩ => by rw [e]; rfl) rfl ⟨_, rfl, by rw [List.length_append, List.length_singleton]; omega, al.snoc pv⟩⟩⟩
theorem hl_ext {K : PySem.W.Frag} {ys : List α} (hi : Rs[i]? = some (some (cst (.ref p)))) (h : ELN W ((p, OL e xs) :: O) k te Rs e ys) (hl : xs.length + ys.length ≤ 100000) (q : HL W G0 (n + k) ((p, OL e (xs ++ ys)) :: O) Rs u D) (hn : n + k ≤ 1000000 := by omega) : HL W G0 n ((p, OL e xs) :: O) Rs (tSeq (tDrop (tBM K "list" rExtend (tVar i) (tCons te tNil))) u) D := fun σ H ⟨G, s, sl, w⟩ => by
  obtain ⟨v, h1, h2⟩ := sl.get i _ hi
  obtain rfl : v = .ref p := h2
  obtain ⟨_, _, _, o, w4, _, vs, rfl, _⟩ := w.o _ (List.mem_cons_self ..)
  refine ⟨_, h1, .inl ⟨rfl, vs, SqL.of w4⟩, ?_⟩
  show te σ H _
  refine h σ G H n _ sl w hn fun b G2 H2 s2 w2 => ?_
  obtain ⟨_, _, _, o, z4, _, ws, rfl, _, al⟩ := w2.o _ (List.mem_cons_of_mem _ (List.mem_cons_self ..))
  obtain ⟨_, _, _, o, y4, _, zs, rfl, _, al2⟩ := w2.o _ (List.mem_cons_self ..)
  have := al.len
  have := al2.len
  have : sizeLine = 16777216 := sizeLine_eq
  exact ⟨p, b, ws, zs, rfl, rfl, z4, y4, by omega, q _ _ ⟨G2, s.trans s2, sl.st s2, (w2.drop (List.sublist_cons_self ..)).put (fun u ⟨_, e, _⟩ => by rw [e]; rfl) rfl ⟨_, rfl, by rw [List.length_append]; omega, al.app al2⟩⟩⟩
theorem hl_for {wi : TI} {g : TG} {tb : TS} {δ : Type} (P : Nat → δ → Prop) (Of : δ → Own) (Rf : δ → RL) (m : Nat) (hi : EIL W O k wi Rs e xs) (d0 : δ) (h0 : P 0 d0) (hO : Of d0 = O) (hR : ∀ G, Slk G Rs (Rf d0))
    (hb : ∀ (i : Nat) (a : α) (d : δ) (D' : Ends) (G1 : Hp), xs[i]? = some a → P i d → D'.rt = D.rt → Same G0 G1 → (∀ d' σ H, P (i + 1) d' → At W G1 (n + k + (i + 1) * m) (Of d') (Rf d') σ H → D'.nx σ H) → n + k + (i + 1) * m ≤ 1000000 → ∃ Rs1 is, GL g (e a) (Rf d) Rs1 is ∧ HL W G1 (n + k + i * m) (Of d) Rs1 tb D')
    (hd : ∀ d, P xs.length d → HL W G0 (n + k + xs.length * m) (Of d) (Rf d) u D) (hn : n + k + xs.length * m ≤ 1000000 := by omega) : HL W G0 n O Rs (tSeq (tFor wi g tb) u) D := fun σ H ⟨G, s, sl, w⟩ => by
  refine hi σ G H n _ sl w (by omega) fun J G2 H2 s2 w2 WR => ?_
  refine ⟨fun i z σ H => z = xs.length - i ∧ i ≤ xs.length ∧ ∃ d, P i d ∧ ∃ G', Same G0 G' ∧ Same G2 G' ∧ Slots G' σ (Rf d) ∧ Wd W (n + k + i * m) (Of d) G' H, ⟨xs.length, rfl, Nat.zero_le _, d0, h0, G2, s.trans s2, Same.refl _, (sl.st s2).weak (hR G2), by rw [hO, Nat.zero_mul]; exact w2⟩, ?_⟩
  rintro i z σ' H' ⟨rfl, hi2, d, hP, G', s0, s', sl', w'⟩
  by_cases hlt : i < xs.length
  · refine .inr ⟨WR.goes i G' H' hlt s' w'.r trivial, fun σ H => ∃ d, P (i + 1) d ∧ ∃ G', Same G0 G' ∧ Same G2 G' ∧ Slots G' σ (Rf d) ∧ Wd W (n + k + (i + 1) * m) (Of d) G' H, fun σ H h' => ⟨xs.length - (i + 1), by omega, rfl, hlt, h'⟩, fun x H'' y => ?_⟩
    have hxi : xs[i]? = some xs[i] := List.getElem?_eq_getElem hlt
    obtain ⟨G4, g4, pa⟩ := WR.yields i xs[i] G' H' x H'' hxi s' w'.r trivial y
    have hm1 : (i + 1) * m ≤ xs.length * m := Nat.mul_le_mul_right m hlt
    obtain ⟨Rs1, is, hg, hh⟩ := hb i xs[i] d { D with nx := fun σ H => ∃ d, P (i + 1) d ∧ ∃ G', Same G0 G' ∧ Same G2 G' ∧ Slots G' σ (Rf d) ∧ Wd W (n + k + (i + 1) * m) (Of d) G' H, ct := fun σ H => ∃ d, P (i + 1) d ∧ ∃ G', Same G0 G' ∧ Same G2 G' ∧ Slots G' σ (Rf d) ∧ Wd W (n + k + (i + 1) * m) (Of d) G' H, bk := u D } G2 hxi hP rfl (s.trans s2) (fun d' σ H hP' ⟨G, z1, z2, z3⟩ => ⟨d', hP', G, (s.trans s2).trans z1, z1, z2, z3⟩) (by omega)
    obtain ⟨σ1, q1, q2, _⟩ := hg.h x σ' G4 (sl'.st g4.g) pa
    exact q1 H'' _ (w'.go g4).r (hh _ _ ⟨G4, s'.trans g4.g, q2, w'.go g4⟩)
  · have e0 : i = xs.length := by omega
    subst e0
    exact .inl ⟨WR.stops G' H' s' w'.r trivial, hd d hP _ _ ⟨G', s0, sl', w'⟩⟩
end
end Gd
-- part Gd43
set_option Elab.async false
set_option linter.all false
set_option maxRecDepth 100000
set_option maxHeartbeats 1000000
namespace Gd
open PySem PySem.Spec PyProof.Rows L2
universe u
section
variable {K : PySem.W.Frag} {W : SC} {O : Own} {k m l n : Nat} {Rs : RL} {R R1 R3 R4 : SR} {te ta tb tc : TE} {tr : TA} {ti : TI} {α β γ : Type} {e : α → SR} {f : β → SR} {g : γ → SR} {xs ys : List α}
theorem ev_cR' {b : Bool} {σ : L2.St} {G : Hp} {v : V} (q : R.p v G) : Ev b (tC v) σ G R := ev_cR q
theorem eln_lst (xs : List α) (h : EAL W O k tr Rs (xs.map e)) (hl : xs.length ≤ 100000) : ELN W O k (tLst tr) Rs e xs := fun σ G H n Q sl w hn kk => h σ G H n _ sl w hn fun vs G2 H2 s2 w2 al => by
  have al' := AlR.of al
  have hz : vs.length ≤ sizeLine := by rw [al'.len]; exact Nat.le_trans hl (by decide)
  exact ⟨hz, fun p hp => kk p G2 _ s2 (w2.own hp rfl ⟨vs, rfl, hz, al'⟩)⟩
theorem el_tpl (xs : List α) (h : EAL W O k tr Rs (xs.map e)) (hl : xs.length ≤ 100000) : EL W O k (tTup tr) Rs (Tpl K e xs) := fun σ G H n Q sl w hn kk => h σ G H n _ sl w hn fun vs G2 H2 s2 w2 al => by
  have al' := AlR.of al
  have hz : vs.length ≤ sizeLine := by rw [al'.len]; exact Nat.le_trans hl (by decide)
  exact ⟨hz, fun p hp => kk (.ref p) (upd G2 p (.tup vs)) _ (s2.trans (Same.new (w2.r.free hp))) (w2.new hp rfl) ⟨p, vs, rfl, SqT.of upd_same, hz, al'.st (Same.new (w2.r.free hp))⟩⟩
theorem el_pr {x : α} {y : β} (h1 : EL W O k ta Rs (e x)) (h2 : EL W O m tb Rs (f y)) : EL W O (k + m) (tTup (tCons ta (tCons tb tNil))) Rs (Pr K e f (x, y)) := fun σ G H n Q sl w hn kk =>
  h1 σ G H n _ sl w (by omega) fun v G2 H2 s2 w2 p1 => h2 σ G2 H2 (n + k) _ (sl.st s2) w2 (by omega) fun z G3 H3 s3 w3 p2 => ⟨(by show 2 ≤ sizeLine; decide), fun p hp => by
    have s := Same.new (o := .tup [v, z]) (w3.r.free hp)
    exact kk (.ref p) _ _ ((s2.trans s3).trans s) ((w3.new (o := .tup [v, z]) hp rfl).eq (by omega)) ⟨p, v, z, rfl, SqT.of upd_same, (e x).st s ((e x).st s3 p1), (f y).st s p2⟩⟩
theorem el_o2 {r2 : R2} (ha : EL W O k ta Rs R1) (hb : EL W O m tb Rs R3) (hr : ∀ (x y : V) (σ : L2.St) (G : Hp), R1.p x G → R3.p y G → Ev true (tOp r2 (tC x) (tC y)) σ G R) : EL W O (k + m) (tOp r2 ta tb) Rs R := el_f2 (fun a b => tOp r2 a b) ha hb hr
theorem eln_o2 {r2 : R2} (ha : EL W O k ta Rs R1) (hb : EL W O m tb Rs R3) (hr : ∀ (x y : V) (σ : L2.St) (G : Hp), R1.p x G → R3.p y G → EvN true (tOp r2 (tC x) (tC y)) σ G e xs) : ELN W O (k + m) (tOp r2 ta tb) Rs e xs := eln_f2 (fun a b => tOp r2 a b) ha hb hr
theorem el_in {s : Str} {xs : List Str} (ha : EL W O k ta Rs (S s)) (hb : EL W O m tb Rs (Sq K S xs)) : EL W O (k + m) (tOp (rIn K false) ta tb) Rs (B (decide (s ∈ xs))) := el_o2 ha hb fun _ _ _ _ p q => ev_in (ev_cR' p) (ev_cR' q)
theorem el_notin {s : Str} {xs : List Str} (ha : EL W O k ta Rs (S s)) (hb : EL W O m tb Rs (Sq K S xs)) : EL W O (k + m) (tOp (rIn K true) ta tb) Rs (B (!decide (s ∈ xs))) := el_o2 ha hb fun _ _ _ _ p q => ev_notin (ev_cR' p) (ev_cR' q)
theorem el_neS {x y : Str} (ha : EL W O k ta Rs (S x)) (hb : EL W O m tb Rs (S y)) : EL W O (k + m) (tOp rNe ta tb) Rs (B (!decide (x = y))) := el_o2 ha hb fun _ _ _ _ p q => ev_neS (ev_cR' p) (ev_cR' q)
theorem el_eqI {x y : Int} (ha : EL W O k ta Rs (I x)) (hb : EL W O m tb Rs (I y)) : EL W O (k + m) (tOp rEq ta tb) Rs (B (decide (x = y))) := el_o2 ha hb fun _ _ _ _ p q => ev_eqI (ev_cR' p) (ev_cR' q)
theorem el_neB {x y : Bool} (ha : EL W O k ta Rs (B x)) (hb : EL W O m tb Rs (B y)) : EL W O (k + m) (tOp rNe ta tb) Rs (B (!decide (x = y))) := el_o2 ha hb fun _ _ _ _ p q => ev_neB (ev_cR' p) (ev_cR' q)
theorem el_I0 {h : Int → Int → V} {x y : Int} (ha : EL W O k ta Rs (I x)) (hb : EL W O m tb Rs (I y)) : EL W O (k + m) (tOp (rI0 h) ta tb) Rs (cst (h x y)) := el_o2 ha hb fun _ _ _ _ p q => ev_I0 (ev_cR' p) (ev_cR' q)
theorem el_addI {x y : Int} (ha : EL W O k ta Rs (I x)) (hb : EL W O m tb Rs (I y)) : EL W O (k + m) (tOp (rI0 fun i j => .int (i + j)) ta tb) Rs (I (x + y)) := el_I0 ha hb
theorem el_subI {x y : Int} (ha : EL W O k ta Rs (I x)) (hb : EL W O m tb Rs (I y)) : EL W O (k + m) (tOp (rI0 fun i j => .int (i - j)) ta tb) Rs (I (x - y)) := el_I0 ha hb
theorem el_ltI {x y : Int} (ha : EL W O k ta Rs (I x)) (hb : EL W O m tb Rs (I y)) : EL W O (k + m) (tOp (rI0 fun i j => .bl (decide (i < j))) ta tb) Rs (B (decide (x < y))) := el_I0 ha hb
theorem el_eqD [DecidableEq α] {x y : α} {c : α → PyData} {n : Nat} (E : Enc K e c n) (Q : EqE c) (ha : EL W O k ta Rs (e x)) (hb : EL W O m tb Rs (e y)) (hn : n ≤ 64 := by decide) : EL W O (k + m) (tOp (rEqD K) ta tb) Rs (B (decide (x = y))) := el_o2 ha hb fun _ _ _ _ p q => ev_eqD (ev_cR' p) (ev_cR' q) E Q hn
theorem el_neD [DecidableEq α] {x y : α} {c : α → PyData} {n : Nat} (E : Enc K e c n) (Q : EqE c) (ha : EL W O k ta Rs (e x)) (hb : EL W O m tb Rs (e y)) (hn : n ≤ 64 := by decide) : EL W O (k + m) (tOp (rNeD K) ta tb) Rs (B (!decide (x = y))) := el_o2 ha hb fun _ _ _ _ p q => ev_neD (ev_cR' p) (ev_cR' q) E Q hn
theorem el_inK {s : Str} {ks : List Str} (ha : EL W O k ta Rs (S s)) (hb : EL W O m tb Rs (Ks ks)) : EL W O (k + m) (tDIn ta tb) Rs (B (decide (s ∈ ks))) := el_f2 (fun a b => tDIn a b) ha hb fun _ _ _ _ p q => ev_inK (ev_cR' p) (ev_cR' q)
theorem el_notinK {s : Str} {ks : List Str} (ha : EL W O k ta Rs (S s)) (hb : EL W O m tb Rs (Ks ks)) : EL W O (k + m) (tDNotIn ta tb) Rs (B (!decide (s ∈ ks))) := el_f2 (fun a b => tDNotIn a b) ha hb fun _ _ _ _ p q => ev_notinK (ev_cR' p) (ev_cR' q)
theorem el_dget {kvs : List (Str × α)} {s : Str} {a : α} (ha : EL W O k ta Rs (Dct e kvs)) (hb : EL W O m tb Rs (S s)) (hk : kvs.lookup s = some a) : EL W O (k + m) (tDGet ta tb) Rs (e a) := el_f2 (fun a b => tDGet a b) ha hb fun _ _ _ _ p q => ev_dget (ev_cR' p) (ev_cR' q) hk
theorem eln_cat (ha : EL W O k ta Rs (Lst e xs)) (hb : EL W O m tb Rs (Lst e ys)) (hz : xs.length + ys.length ≤ 100000) : ELN W O (k + m) (tOp rCat ta tb) Rs e (xs ++ ys) := eln_o2 ha hb fun _ _ _ _ p q => en_cat (ev_cR' p) (ev_cR' q) hz
theorem el_catT (ha : EL W O k ta Rs (Tpl K e xs)) (hb : EL W O m tb Rs (Tpl K e ys)) (hz : xs.length + ys.length ≤ 100000) : EL W O (k + m) (tOp (rCatA K) ta tb) Rs (Tpl K e (xs ++ ys)) := el_o2 ha hb fun _ _ _ _ p q => ev_catT (ev_cR' p) (ev_cR' q) hz
theorem el_ixL {i : Int} {j : Nat} {a : α} (ha : EL W O k ta Rs (Lst e xs)) (hb : EL W O m tb Rs (I i)) (hi : i = (j : Int)) (hx : xs[j]? = some a) : EL W O (k + m) (tOp (rIx K) ta tb) Rs (e a) := el_o2 ha hb fun _ _ _ _ p q => ev_ixL (ev_cR' p) (ev_cR' q) hi hx
theorem el_ixT {i : Int} {j : Nat} {a : α} (ha : EL W O k ta Rs (Tpl K e xs)) (hb : EL W O m tb Rs (I i)) (hi : i = (j : Int)) (hx : xs[j]? = some a) : EL W O (k + m) (tOp (rIx K) ta tb) Rs (e a) := el_o2 ha hb fun _ _ _ _ p q => ev_ixT (ev_cR' p) (ev_cR' q) hi hx
theorem el_ixP1 {x : α} {y : β} (ha : EL W O k ta Rs (Pr K e f (x, y))) : EL W O k (tOp (rIx K) ta (tC (.int 0))) Rs (e x) := el_f1 (fun a => tOp (rIx K) a (tC (.int 0))) ha fun _ _ _ p => ev_ixP1 (ev_cR' p)
theorem el_ixP2 {x : α} {y : β} (ha : EL W O k ta Rs (Pr K e f (x, y))) : EL W O k (tOp (rIx K) ta (tC (.int 1))) Rs (f y) := el_f1 (fun a => tOp (rIx K) a (tC (.int 1))) ha fun _ _ _ p => ev_ixP2 (ev_cR' p)
theorem el_len (ha : EL W O k te Rs (Sq K e xs)) : EL W O k (tCB (rLen K) (tCons te tNil)) Rs (I (xs.length : Nat)) := el_f1 (fun a => tCB (rLen K) (tCons a tNil)) ha fun _ _ _ p => ev_len (ev_cR' p)
theorem el_all {bs : List Bool} (ha : EL W O k te Rs (Lst B bs)) : EL W O k (tCB (rAll K) (tCons te tNil)) Rs (B (bs.all id)) := el_f1 (fun a => tCB (rAll K) (tCons a tNil)) ha fun _ _ _ p => ev_all (ev_cR' p)
theorem el_allL {p : α → Bool} (ha : ELN W O k te Rs B (xs.map p)) : EL W O k (tCB (rAll K) (tCons te tNil)) Rs (B (xs.all p)) := EL.eq (el_all ha.el) (by rw [List.all_map]; rfl)
theorem eln_list (ha : EL W O k te Rs (Sq K e xs)) : ELN W O k (tCB (rListOf K) (tCons te tNil)) Rs e xs := eln_f1 (fun a => tCB (rListOf K) (tCons a tNil)) ha fun _ _ _ p => en_list (ev_cR' p)
theorem eln_sorted {c : α → PyData} {n : Nat} (E : Enc K e c n) (A : Alk c) (hk : Sortable2 (xs.map c)) (ha : EL W O k te Rs (Sq K e xs)) (hn : n ≤ 60 := by decide) : ELN W O k (tCB (rSrt K) (tCons te tNil)) Rs e (xs.mergeSort (PySem.W.dataLe false c)) := eln_f1 (fun a => tCB (rSrt K) (tCons a tNil)) ha fun _ _ _ p => en_sorted (ev_cR' p) E A hk hn
theorem eln_sortedS {xs : List Str} (ha : EL W O k te Rs (Sq K S xs)) : ELN W O k (tCB (rSrt K) (tCons te tNil)) Rs S (srt PyData.str xs) := eln_sorted enc_S alk_S (sortable_S xs) ha
theorem eil_f1 (F : TE → TI) (h : EL W O k te Rs R1) (hr : ∀ (v : V) (σ : L2.St) (G : Hp), R1.p v G → EvI true (F (tC v)) σ G e xs) (hF : ∀ (σ : L2.St) (H : Hp) (Q : It → Hp → Prop), (te σ H fun v H1 => F (tC v) σ H1 Q) → F te σ H Q := by exact fun _ _ _ h => h) : EIL W O k (F te) Rs e xs := fun σ G H n Q sl w hn kk =>
  hF _ _ _ (h σ G H n _ sl w hn fun v G2 H2 s2 w2 p => (hr v σ G2 p).run w2.r fun J G3 H3 g3 pu => kk J G3 H3 (s2.trans g3.g) (w2.go g3) pu)
theorem eil_sq (h : EL W O k te Rs (Sq K e xs)) : EIL W O k (iSeq K te) Rs e xs := eil_f1 (fun a => iSeq K a) h fun _ _ _ p => ei_sq (ev_cR' p)
theorem eil_range1 {i : Int} (h : EL W O k te Rs (I i)) (h0 : 0 ≤ i) (h1 : i ≤ 100000) : EIL W O k (iRng1 (tCons te tNil)) Rs (fun i : Nat => I (0 + (i : Nat))) (List.range i.toNat) := eil_f1 (fun a => iRng1 (tCons a tNil)) h fun _ _ _ p => ei_range1 (ev_cR' p) h0 h1
theorem eil_enum (h : EL W O k te Rs (Sq K e xs)) : EIL W O k (iEnumA K (tCons te tNil)) Rs (Pr K I e) (enumI xs) := eil_f1 (fun a => iEnumA K (tCons a tNil)) h fun _ _ _ p => ei_enum (ev_cR' p)
end
end Gd
-- part Gd44
set_option Elab.async false
set_option linter.all false
set_option maxRecDepth 100000
set_option maxHeartbeats 1000000
namespace Gd
open PySem PySem.Spec PyProof.Rows L2
universe u
section
variable {W : SC} {n m k : Nat} {O O' L : Own} {G H G2 H2 G0 : Hp} {p : Addr} {o : HO} {R R' : OR}
theorem Wd.freshAll (w : Wd W n O G H) (w2 : Wd W m O G2 H2) (nd : (L.map (·.1)).Nodup) (h : ∀ q ∈ L, Nw H q.1 ∧ G2 q.1 = none ∧ ∃ o, H2 q.1 = some o ∧ isTT o = false ∧ q.2.p o G2) : Wd W m (L ++ O) G2 H2 := by
  obtain ⟨_, _, _, _, _, _, _, es, ec, _⟩ := w.d
  refine ⟨w2.r, w2.nt, w2.tb, w2.d, ?_, fun q hq => ?_⟩
  · rw [List.map_append, List.nodup_append]
    refine ⟨nd, w2.nd, fun a ha b hb e => ?_⟩
    obtain ⟨q, hq, rfl⟩ := List.mem_map.mp ha
    obtain ⟨q', hq', rfl⟩ := List.mem_map.mp hb
    obtain ⟨h1, _⟩ := h q hq
    obtain ⟨_, _, _, u, h4, h5, _⟩ := w.o q' hq'
    exact h1.ne h4 (tt_tb h5) e.symm
  · rcases List.mem_append.mp hq with hq | hq
    · obtain ⟨h1, h2, o, h3, h4, h5⟩ := h q hq
      exact ⟨fun z => h1.ne es rfl z.symm, fun z => h1.ne ec rfl z.symm, h2, o, h3, h4, h5⟩
    · exact w2.o q hq
theorem Wd.freezeAll : ∀ {L : Own} {G : Hp}, Wd W n (L ++ O) G H → ∃ G2, Same G G2 ∧ Wd W n O G2 H ∧ ∀ q ∈ L, ∃ o, H q.1 = some o ∧ G2 q.1 = some o ∧ q.2.p o G2
  | [], G, w => ⟨G, Same.refl G, w, fun q h => by cases h⟩
  | (p, R) :: L, G, w => by
    obtain ⟨o, h1, h2, s2, w2⟩ := Wd.freeze (O := L ++ O) w
    obtain ⟨G2, s3, w3, h3⟩ := Wd.freezeAll w2
    refine ⟨G2, s2.trans s3, w3, fun q hq => ?_⟩
    rcases List.mem_cons.mp hq with rfl | hq
    · exact ⟨o, h1, s3 _ _ upd_same, R.st (s2.trans s3) h2⟩
    · exact h3 q hq
end
section
variable {K : PySem.W.Frag} {W : SC} {G0 : Hp} {n k m : Nat} {O O' L : Own} {Rs Rs' : RL} {R : SR} {te ta tb to : TE} {t u : TS} {D : Ends} {α β : Type} {e : α → SR} {xs : List α} {p : Addr} {i j : Nat}
theorem exAll_app (F : Addr → HO) (L O : Own) : exAll F (L ++ O) = exAll F L ++ exAll F O := List.map_append
def OEx (o : HO) : OR := ⟨fun u _ => u = o, fun _ h => h⟩
theorem hl_pushE {a : α} (ho : EL W ((p, OL e xs) :: O) k to Rs (cst (.ref p))) (h : EL W ((p, OL e xs) :: O) m te Rs (e a)) (hl : xs.length ≤ 100000) (q : HL W G0 (n + (k + m)) ((p, OL e (xs ++ [a])) :: O) Rs u D) (hn : n + (k + m) ≤ 1000000 := by omega) : HL W G0 n ((p, OL e xs) :: O) Rs (tSeq (tDrop (tBM K "list" rAppend to (tCons te tNil))) u) D := fun σ H ⟨G, s, sl, w⟩ => by
  refine ho σ G H n _ sl w (by omega) fun v G1 H1 s1 w1 hv => ?_
  obtain rfl : v = .ref p := hv
  obtain ⟨_, _, _, o, w4, _, vs, rfl, _⟩ := w1.o _ (List.mem_cons_self ..)
  refine ⟨.inl ⟨rfl, vs, SqL.of w4⟩, ?_⟩
  show te σ H1 _
  refine h σ G1 H1 (n + k) _ (sl.st s1) w1 (by omega) fun v G2 H2 s2 w2 pv => ?_
  obtain ⟨_, _, _, o, z4, _, ws, rfl, _, al⟩ := w2.o _ (List.mem_cons_self ..)
  have := al.len
  have : sizeLine = 16777216 := sizeLine_eq
  exact ⟨p, ws, v, rfl, rfl, z4, by omega, q _ _ ⟨G2, (s.trans s1).trans s2, sl.st (s1.trans s2), (w2.put (R' := OL e (xs ++ [a])) (o := .lst (ws ++ [v])) (fun u ⟨_, e, _⟩ => by rw [e]; rfl) rfl ⟨_, rfl, by rw [List.length_append, List.length_singleton]; omega, al.snoc pv⟩).eq (by omega)⟩⟩
abbrev EIX (W : SC) (O : Own) (k : Nat) (t : TI) (Rs : RL) {α : Type} (Px : List α → Prop) (e : α → SR) : Prop := EG W O k t Rs (fun J G => ∃ xs, Px xs ∧ WalkR true J e xs G (fun _ => True))
theorem hl_forX {wi : TI} {g : TG} {tb : TS} {δ : Type} {Px : List α → Prop} (P : List α → Nat → δ → Prop) (Of : δ → Own) (Rf : δ → RL) (m : Nat) (z : Nat) (hi : EIX W O k wi Rs Px e) (d0 : δ) (h0 : ∀ xs, Px xs → xs.length ≤ z ∧ P xs 0 d0) (hO : Of d0 = O) (hR : ∀ G, Slk G Rs (Rf d0))
    (hb : ∀ (xs : List α), Px xs → ∀ (i : Nat) (a : α) (d : δ) (D' : Ends) (G1 : Hp), xs[i]? = some a → P xs i d → D'.rt = D.rt → Same G0 G1 → (∀ d' σ H, P xs (i + 1) d' → At W G1 (n + k + (i + 1) * m) (Of d') (Rf d') σ H → D'.nx σ H) → n + k + (i + 1) * m ≤ 1000000 → ∃ Rs1 is, GL g (e a) (Rf d) Rs1 is ∧ HL W G1 (n + k + i * m) (Of d) Rs1 tb D')
    (hd : ∀ xs, Px xs → ∀ d, P xs xs.length d → HL W G0 (n + k + z * m) (Of d) (Rf d) u D) (hn : n + k + z * m ≤ 1000000 := by omega) : HL W G0 n O Rs (tSeq (tFor wi g tb) u) D := fun σ H ⟨G, s, sl, w⟩ => by
  refine hi σ G H n _ sl w (by omega) fun J G2 H2 s2 w2 ⟨xs, hx, WR⟩ => ?_
  obtain ⟨hz, h0⟩ := h0 xs hx
  have hzm : xs.length * m ≤ z * m := Nat.mul_le_mul_right m hz
  refine ⟨fun i z σ H => z = xs.length - i ∧ i ≤ xs.length ∧ ∃ d, P xs i d ∧ ∃ G', Same G0 G' ∧ Same G2 G' ∧ Slots G' σ (Rf d) ∧ Wd W (n + k + i * m) (Of d) G' H, ⟨xs.length, rfl, Nat.zero_le _, d0, h0, G2, s.trans s2, Same.refl _, (sl.st s2).weak (hR G2), by rw [hO, Nat.zero_mul]; exact w2⟩, ?_⟩
  rintro i z' σ' H' ⟨rfl, hi2, d, hP, G', s0, s', sl', w'⟩
  by_cases hlt : i < xs.length
  · refine .inr ⟨WR.goes i G' H' hlt s' w'.r trivial, fun σ H => ∃ d, P xs (i + 1) d ∧ ∃ G', Same G0 G' ∧ Same G2 G' ∧ Slots G' σ (Rf d) ∧ Wd W (n + k + (i + 1) * m) (Of d) G' H, fun σ H h' => ⟨xs.length - (i + 1), by omega, rfl, hlt, h'⟩, fun x H'' y => ?_⟩
    have hxi : xs[i]? = some xs[i] := List.getElem?_eq_getElem hlt
    obtain ⟨G4, g4, pa⟩ := WR.yields i xs[i] G' H' x H'' hxi s' w'.r trivial y
    have hm1 : (i + 1) * m ≤ xs.length * m := Nat.mul_le_mul_right m hlt
    obtain ⟨Rs1, is, hg, hh⟩ := hb xs hx i xs[i] d { D with nx := fun σ H => ∃ d, P xs (i + 1) d ∧ ∃ G', Same G0 G' ∧ Same G2 G' ∧ Slots G' σ (Rf d) ∧ Wd W (n + k + (i + 1) * m) (Of d) G' H, ct := fun σ H => ∃ d, P xs (i + 1) d ∧ ∃ G', Same G0 G' ∧ Same G2 G' ∧ Slots G' σ (Rf d) ∧ Wd W (n + k + (i + 1) * m) (Of d) G' H, bk := u D } G2 hxi hP rfl (s.trans s2) (fun d' σ H hP' ⟨G, z1, z2, z3⟩ => ⟨d', hP', G, (s.trans s2).trans z1, z1, z2, z3⟩) (by omega)
    obtain ⟨σ1, q1, q2, _⟩ := hg.h x σ' G4 (sl'.st g4.g) pa
    exact q1 H'' _ (w'.go g4).r (hh _ _ ⟨G4, s'.trans g4.g, q2, w'.go g4⟩)
  · have e0 : i = xs.length := by omega
    subst e0
    exact .inl ⟨WR.stops G' H' s' w'.r trivial, hd xs hx d hP _ _ ⟨G', s0, sl', w'.le (by omega)⟩⟩
end
end Gd
-- part Gd45
set_option Elab.async false
set_option linter.all false
set_option maxRecDepth 100000
set_option maxHeartbeats 1000000
namespace Gd
open PySem PySem.Spec PyProof.Rows L2
universe u
section
variable {K : PySem.W.Frag} {W : SC} {G0 : Hp} {n k m : Nat} {O O' L : Own} {Rs Rs' : RL} {R : SR} {te ta tb to : TE} {t u : TS} {E : Ends} {α β : Type} {e : α → SR} {xs : List α} {p D : Addr} {i j : Nat} {pl : Str → Addr} {acc acc' : Str → List α} {cs : List Str}
def omO (e : α → SR) (D : Addr) (pl : Str → Addr) (acc : Str → List α) (cs : List Str) : Own := (D, OEx (.dK (cs.map fun c => (Sum.inr c, V.ref (pl c))))) :: cs.map fun c => (pl c, OL e (acc c))
theorem omO_congr (h : ∀ c ∈ cs, acc c = acc' c) : omO e D pl acc cs = omO e D pl acc' cs := by
  unfold omO
  congr 1
  exact List.map_congr_left fun c hc => by rw [h c hc]
theorem om_dct {G : Hp} (hl : cs.length ≤ 100000) (h : ∀ q ∈ omO e D pl acc cs, ∃ o, G q.1 = some o ∧ q.2.p o G) : (Dct (Lst e) (cs.map fun c => (c, acc c))).p (.ref D) G := by
  obtain ⟨o, h1, h2⟩ := h _ (List.mem_cons_self ..)
  obtain rfl : o = .dK (cs.map fun c => (Sum.inr c, V.ref (pl c))) := h2
  refine ⟨D, _, rfl, h1, by rw [List.length_map]; exact Nat.le_trans hl (by decide), ?_⟩
  have h3 : ∀ c ∈ cs, (Lst e (acc c)).p (.ref (pl c)) G := fun c hc => by
    obtain ⟨o, h4, vs, rfl, h5, h6⟩ := h (pl c, OL e (acc c)) (List.mem_cons_of_mem _ (List.mem_map.mpr ⟨c, hc, rfl⟩))
    exact ⟨pl c, vs, rfl, h4, h5, h6⟩
  clear h h1 hl
  induction cs with
  | nil => exact .nil
  | cons c cs ih => exact .cons (h3 c (List.mem_cons_self ..)) (ih fun x hx => h3 x (List.mem_cons_of_mem _ hx))
theorem om_own {G H G2 H2 : Hp} (w : Wd W n O G H) (g : Go G H G2 H2) (o : OwnM K D cs (fun _ => []) pl G2 H2 H) (nd : cs.Nodup) : Wd W n (omO e D pl (fun _ => []) cs ++ O) G2 H2 := by
  refine w.freshAll (w.go g) ?_ fun q hq => ?_
  · show (D :: (cs.map fun c => (pl c, OL e [])).map (·.1)).Nodup
    rw [List.map_map, List.nodup_cons]
    refine ⟨fun h => ?_, ?_⟩
    · obtain ⟨c, hc, e1⟩ := List.mem_map.mp h
      exact o.ne c hc e1
    · refine List.pairwise_map.mpr ?_
      have h2 := nd
      have : ∀ ys : List Str, (∀ c ∈ ys, c ∈ cs) → ys.Nodup → ys.Pairwise fun a b => pl a ≠ pl b := by
        intro ys
        induction ys with
        | nil => intro _ _; exact .nil
        | cons y ys ih =>
          intro hy hn
          obtain ⟨h3, h4⟩ := List.nodup_cons.mp hn
          refine List.pairwise_cons.mpr ⟨fun z hz e1 => ?_, ih (fun c hc => hy c (List.mem_cons_of_mem _ hc)) h4⟩
          have e2 := o.inj y (hy y (List.mem_cons_self ..)) z (hy z (List.mem_cons_of_mem _ hz)) e1
          exact h3 (e2 ▸ hz)
      exact this cs (fun _ h => h) nd
  · rcases List.mem_cons.mp hq with rfl | hq
    · exact ⟨Nw.of o.n0, o.nG, _, o.hD, rfl, rfl⟩
    · obtain ⟨c, hc, rfl⟩ := List.mem_map.mp hq
      obtain ⟨us, h1, h2⟩ := o.ex c hc
      cases h2
      exact ⟨Nw.of (o.l0 c hc), o.lG c hc, _, h1, rfl, [], rfl, Nat.zero_le _, .nil⟩
theorem om_perm {c : Str} (nd : cs.Nodup) (hc : c ∈ cs) : ∃ rest : Own, (omO e D pl acc cs ++ O).Perm ((pl c, OL e (acc c)) :: rest) ∧ ∀ (a : List α), ((pl c, OL e a) :: rest).Perm (omO e D pl (fun x => if x = c then a else acc x) cs ++ O) := by
  obtain ⟨as, bs, rfl⟩ := List.append_of_mem hc
  have nc : c ∉ as ∧ c ∉ bs := by
    have h := List.nodup_append.mp nd
    refine ⟨fun h2 => h.2.2 c h2 c (List.mem_cons_self ..) rfl, (List.nodup_cons.mp h.2.1).1⟩
  refine ⟨(D, OEx (.dK ((as ++ c :: bs).map fun c => (Sum.inr c, V.ref (pl c))))) :: ((as.map fun c => (pl c, OL e (acc c))) ++ (bs.map fun c => (pl c, OL e (acc c)))) ++ O, ?_, fun a => ?_⟩
  · show ((D, _) :: (as ++ c :: bs).map _ ++ O).Perm _
    rw [List.map_append (f := fun c => (pl c, OL e (acc c))), List.map_cons (f := fun c => (pl c, OL e (acc c)))]
    refine List.Perm.trans ?_ (List.Perm.swap ..)
    show (_ :: _).Perm (_ :: _)
    refine List.Perm.cons _ ?_
    exact List.Perm.append_right O List.perm_middle
  · show List.Perm _ ((D, _) :: (as ++ c :: bs).map (fun x => (pl x, OL e (if x = c then a else acc x))) ++ O)
    have e1 : (as.map fun x => (pl x, OL e (if x = c then a else acc x))) = as.map fun x => (pl x, OL e (acc x)) := List.map_congr_left fun x hx => by rw [if_neg fun z : x = c => nc.1 (by rw [← z]; exact hx)]
    have e2 : (bs.map fun x => (pl x, OL e (if x = c then a else acc x))) = bs.map fun x => (pl x, OL e (acc x)) := List.map_congr_left fun x hx => by rw [if_neg fun z : x = c => nc.2 (by rw [← z]; exact hx)]
    rw [List.map_append (f := fun x => (pl x, OL e (if x = c then a else acc x))), List.map_cons (f := fun x => (pl x, OL e (if x = c then a else acc x))), e1, e2, if_pos rfl]
    refine List.Perm.trans (List.Perm.swap ..) ?_
    refine List.Perm.cons _ ?_
    exact (List.Perm.append_right O List.perm_middle).symm
end
theorem lookup_map {α : Type} {f : Str → α} {x : Str} : ∀ {cs : List Str}, x ∈ cs → (cs.map fun c => (c, f c)).lookup x = some (f x)
  | [], h => by cases h
  | c :: cs, h => by
    rw [List.map_cons, List.lookup_cons]
    by_cases e : x = c
    · subst e; simp
    · have e2 : (x == c) = false := by simpa using e
      rw [e2]
      exact lookup_map ((List.mem_cons.mp h).resolve_left e)
theorem slots_start {G : Hp} {N : List Str} {vs : List V} {Ls : List SR} (al : AlR Ls vs G) : Slots G (L2.start N vs) (Ls.map some ++ List.replicate (N.length - vs.length) none) := by
  unfold L2.start
  generalize N.length - vs.length = r
  induction al with
  | nil => exact ⟨by simp, fun i R e => by
      have : (List.replicate r (none : Option SR))[i]? = some (some R) := e
      rw [List.getElem?_replicate] at this
      split at this
      · cases this
      · cases this⟩
  | cons h al ih => exact ⟨by simpa using ih.len, fun i R e => by
      cases i with
      | zero =>
        obtain rfl : _ = R := Option.some.inj (Option.some.inj e)
        exact ⟨_, rfl, h⟩
      | succ i => exact ih.get i R e⟩
theorem valV_pl {pl : Str → Addr} {x : Str} : ∀ {cs : List Str}, x ∈ cs → valV (cs.map fun c => ((Sum.inr c : Key), V.ref (pl c))) (Sum.inr x : Key) = some (V.ref (pl x))
  | [], h => by cases h
  | c :: cs, h => by
    rw [List.map_cons]
    unfold valV
    by_cases e : c = x
    · subst e; simp
    · have := valV_pl (pl := pl) ((List.mem_cons.mp h).resolve_left fun z => e z.symm)
      unfold valV at this
      simp only [List.find?_cons, Sum.inr.injEq, e, decide_false, this]
end Gd
-- part Gd46
set_option Elab.async false
set_option linter.all false
set_option maxRecDepth 100000
set_option maxHeartbeats 1000000
namespace Gd
open PySem PySem.Spec PyProof.Rows L2
universe u
def deepO {α : Type} (e : α → SR) (p : Addr) (ps : List Addr) (xs : List (List α)) : Own := (p, OEx (.lst (ps.map V.ref))) :: (ps.zip xs).map fun q => (q.1, OL e q.2)
def ELD (W : SC) (O : Own) (k : Nat) (t : TE) (Rs : RL) {α : Type} (e : α → SR) (xs : List (List α)) : Prop := ∀ (σ : L2.St) (G H : Hp) (n : Nat) (Q : VK), Slots G σ Rs → Wd W n O G H → n + k ≤ 1000000 → (∀ p ps G2 H2, Same G G2 → ps.length = xs.length → Wd W (n + k) (deepO e p ps xs ++ O) G2 H2 → Q (.ref p) H2) → t σ H Q
def spMD {ι : Type u} {α : Type} (Tb : List (Addr × Str)) (pre : ι → List SR) (ok : ι → Prop) (e : α → SR) (post : ι → List (List α)) : Sp := fun vs H Q _ => ∃ (i : ι) (s c : Addr) (n : Nat) (O : Own) (G : Hp), Wd ⟨s, c, Tb⟩ n O G H ∧ n ≤ 1000000 ∧ ok i ∧ AlR (pre i) vs G ∧ ∀ p ps G2 H2, Same G G2 → ps.length = (post i).length → Wd ⟨s, c, Tb⟩ n (deepO e p ps (post i) ++ O) G2 H2 → Q (.ref p) H2
def spXM {ι : Type u} (Tb : List (Addr × Str)) (pre : ι → List SR) (ok : ι → Prop) (C : Addr) (f : Str) (val : ι → SR) : Sp := fun vs H _ E => ∃ (i : ι) (s c : Addr) (n : Nat) (O : Own) (G : Hp), Wd ⟨s, c, Tb⟩ n O G H ∧ n ≤ 1000000 ∧ ok i ∧ AlR (pre i) vs G ∧ ∀ v d G2 H2, Same G G2 → Wd ⟨s, c, Tb⟩ n O G2 H2 → (val i).p v G2 → H2 d = some (.xd [(f, v)]) → E (.ref C) (some d) H2
section
variable {K : PySem.W.Frag} {W : SC} {G0 : Hp} {n k m : Nat} {O O' L : Own} {Rs Rs' : RL} {R : SR} {te ta tb to : TE} {tr : TA} {t u : TS} {D : Ends} {α β : Type} {e : α → SR} {xs : List (List α)} {p : Addr} {i j : Nat} {ι : Type u} {pre : ι → List SR} {ok : ι → Prop} {E : XK}
theorem spMD_len {Tb : List (Addr × Str)} {post : ι → List (List α)} {vs : List V} {H : Hp} {Q : VK} {l : Nat} (h : spMD Tb pre ok e post vs H Q E) (hn : ∀ i, (pre i).length = l) : vs.length = l := by
  obtain ⟨i, s, c, n, O, G, _, _, _, al, _⟩ := h
  rw [alr_len al, hn]
theorem spXM_len {Tb : List (Addr × Str)} {C : Addr} {f : Str} {val : ι → SR} {vs : List V} {H : Hp} {Q : VK} {l : Nat} (h : spXM Tb pre ok C f val vs H Q E) (hn : ∀ i, (pre i).length = l) : vs.length = l := by
  obtain ⟨i, s, c, n, O, G, _, _, _, al, _⟩ := h
  rw [alr_len al, hn]
theorem eld_callm {post : ι → List (List α)} (i : ι) (ha : EAL W O k tr Rs (pre i)) (hok : ok i) : ELD W O k (tCall (spMD W.tb pre ok e post) [] E tr) Rs e (post i) := fun σ G H n Q sl w hn kk => ha σ G H n _ sl w hn fun vs G2 H2 s2 w2 al =>
  ⟨i, W.s, W.c, n + k, O, G2, w2, by omega, hok, by rw [List.append_nil]; exact al, fun p ps G3 H3 s3 hp w3 => kk p ps G3 H3 (s2.trans s3) hp w3⟩
theorem deep_lst {ps : List Addr} {G : Hp} (hl : ps.length = xs.length) (hz : xs.length ≤ 100000) (h : ∀ q ∈ deepO e p ps xs, ∃ o, G q.1 = some o ∧ q.2.p o G) : (Lst (Lst e) xs).p (.ref p) G := by
  obtain ⟨o, h1, rfl⟩ := h _ (List.mem_cons_self ..)
  refine ⟨p, _, rfl, h1, by rw [List.length_map, hl]; exact Nat.le_trans hz (by decide), ?_⟩
  have h3 : ∀ q ∈ ps.zip xs, (Lst e q.2).p (.ref q.1) G := fun q hq => by
    obtain ⟨o, h4, vs, rfl, h5, h6⟩ := h (q.1, OL e q.2) (List.mem_cons_of_mem _ (List.mem_map.mpr ⟨q, hq, rfl⟩))
    exact ⟨q.1, vs, rfl, h4, h5, h6⟩
  clear h h1 hz
  induction ps generalizing xs with
  | nil =>
    cases xs with
    | nil => exact .nil
    | cons x xs => cases hl
  | cons a ps ih =>
    cases xs with
    | nil => cases hl
    | cons x xs => exact .cons (h3 (a, x) (List.mem_cons_self ..)) (ih (by simpa using hl) fun q hq => h3 q (List.mem_cons_of_mem _ hq))
theorem ELD.el (h : ELD W O k te Rs e xs) (hz : xs.length ≤ 100000) : EL W O k te Rs (Lst (Lst e) xs) := fun σ G H n Q sl w hn kk => h σ G H n _ sl w hn fun p ps G2 H2 s2 hl w2 => by
  obtain ⟨G3, s3, w3, h3⟩ := w2.freezeAll
  exact kk (.ref p) G3 H2 (s2.trans s3) w3 (deep_lst hl hz fun q hq => let ⟨o, _, h2, h4⟩ := h3 q hq; ⟨o, h2, h4⟩)
theorem ELD.eq {ys : List (List α)} (h : ELD W O k te Rs e xs) (q : xs = ys) : ELD W O k te Rs e ys := q ▸ h
theorem xr_callM {C : Addr} {f : Str} {val : ι → SR} {E : XK} {Q : VK} (i : ι) (ha : EAL W O k tr Rs (pre i)) (hok : ok i) {σ : L2.St} {H : Hp} (a : At W G0 n O Rs σ H) (hn : n + k ≤ 1000000) (q : ∀ v d G2 H2, Same G0 G2 → Wd W (n + k) O G2 H2 → (val i).p v G2 → H2 d = some (.xd [(f, v)]) → E (.ref C) (some d) H2) : tCall (spXM W.tb pre ok C f val) [] E tr σ H Q := by
  obtain ⟨G, s, sl, w⟩ := a
  exact ha σ G H n _ sl w hn fun vs G2 H2 s2 w2 al => ⟨i, W.s, W.c, n + k, O, G2, w2, by omega, hok, by rw [List.append_nil]; exact al, fun v d G3 H3 s3 w3 pv hd => q v d G3 H3 ((s.trans s2).trans s3) w3 pv hd⟩
theorem xr_callF {ι : Type} {pre : ι → List SR} {ok : ι → Prop} {C : Addr} {f : Str} {val : ι → SR} {b' : Bool} {E : XK} {Q : VK} (i : ι) (ha : EAL W O k tr Rs (pre i)) (hok : ok i) {σ : L2.St} {H : Hp} (a : At W G0 n O Rs σ H) (hn : n + k ≤ 1000000) (q : ∀ v d G2 H2, Same G0 G2 → Wd W (n + k) O G2 H2 → (val i).p v G2 → H2 d = some (.xd [(f, v)]) → E (.ref C) (some d) H2) : tCall (spX b' pre ok C f val) [] E tr σ H Q := by
  obtain ⟨G, s, sl, w⟩ := a
  exact ha σ G H n _ sl w hn fun vs G2 H2 s2 w2 al => ⟨i, G2, rel_any w2.r, hok, by rw [List.append_nil]; exact al, fun v d G3 H3 g hv n1 n2 hd => q v d G3 H3 ((s.trans s2).trans g.g) (w2.go g) hv hd⟩
end
end Gd
-- part P1
set_option Elab.async false
set_option linter.all false
set_option maxRecDepth 100000
set_option maxHeartbeats 2000000
namespace Gd
open PySem PySem.Spec PyProof.Rows L2
def topS (i : Nat) : Stmt := PySem.Challenge.pw_objections_k11_whole_who_defends_wins.main.body.getD i (.Pass ⟨0, 0, 0, 0⟩)
structure Txt (K : PySem.W.Frag) (mg : Str → Option Value) (aL : Addr) : Prop where
  len : mg "len" = none
  all : mg "all" = none
  any : mg "any" = none
  sorted : mg "sorted" = none
  isinstance : mg "isinstance" = none
  list : mg "list" = none
  tuple : mg "tuple" = none
  dict : mg "dict" = none
  int : mg "int" = none
  bool : mg "bool" = none
  str : mg "str" = none
  zip : mg "zip" = none
  range : mg "range" = none
  enumerate : mg "enumerate" = none
  min : mg "min" = none
  repr : mg "repr" = none
  ord : mg "ord" = none
  SMALL : ∃ u, mg "SMALL" = some u ∧ RelV (.str "abcdefghijklmnopqrstuvwxyz") u
  FIGURES : ∃ u, mg "FIGURES" = some u ∧ RelV (.str "0123456789") u
abbrev s_is_list : Stmt := topS 11
theorem sc_is_list : FnScope ["thing"] ["thing"] (defScope s_is_list) := ⟨rfl, rfl, rfl, by decide +kernel, rfl, by decide +kernel, by decide +kernel⟩
abbrev s_is_name : Stmt := topS 12
theorem sc_is_name : FnScope ["thing", "sign"] ["thing"] (defScope s_is_name) := ⟨rfl, rfl, rfl, by decide +kernel, rfl, by decide +kernel, by decide +kernel⟩
def small : Str := "abcdefghijklmnopqrstuvwxyz"
def figs : Str := "0123456789"
def isName (s : Str) : Bool := decide (0 < s.length) && decide (s.length ≤ 12) && (match s.cps.toList[0]? with | some c => decide (c ∈ small.cps.toList) | none => false) && s.cps.toList.all fun c => decide (c ∈ (small ++ figs).cps.toList)
section
variable {P : Program} {w : World} {K : PySem.W.Frag} {mg : Str → Option Value} {base : Heap} {aL : Addr}
def sp_is_list (K : PySem.W.Frag) : Sp := spF false (fun _ : Unit => [SqV K]) (fun _ => True) (fun _ => B true)
theorem ok_is_list (F : Fn K mg "is_list" s_is_list ["thing"]) (T : Txt K mg aL) : C8.Cal P w K mg base 1 "is_list" (sp_is_list K) [] := by
  refine cal_of F sc_is_list (fun vs H Q E h => spF_len h fun _ => rfl) (fun f cdv A outer s H vs Q E hr h => ?_)
  obtain ⟨_, G, v, rfl, r, _, hv, k⟩ := sp1 h fun _ => rfl
  refine ⟨_, (pss_one (ps_ret (pe_callB (call_isiTK (K := K)) rfl T.isinstance boot_isinstance (pa_cons (pv 0) (pa_cons (pe_tup (pa_cons (pe_bltn (v := .ty "list") rfl T.list boot_list rfl) (pa_cons (pe_bltn (v := .ty "tuple") rfl T.tuple boot_tuple rfl) pa_nil))) pa_nil))))), ?_⟩
  exact ts_ret (ev_isiV (ev_var rfl hv)) r k
def sp_is_name : Sp := spF false (fun s : Str => [S s]) (fun s => isName s = true) (fun _ => B true)
theorem ok_is_name (F : Fn K mg "is_name" s_is_name ["thing"]) (T : Txt K mg aL) : C8.Cal P w K mg base 1 "is_name" sp_is_name [] := by
  refine cal_of F sc_is_name (fun vs H Q E h => spF_len h fun _ => rfl) (fun f cdv A outer s H vs Q E hr h => ?_)
  obtain ⟨x, G, v, rfl, r, hx, hv, k⟩ := sp1 h fun _ => rfl
  refine ⟨_, (pss_cons (ps_if (PW.pt (pw_or (pt_not (pt_val (pe_callB (call_isiKK (K := K)) rfl T.isinstance boot_isinstance (pa_cons (pv 0) (pa_cons (pe_bltn (v := .ty "str") rfl T.str boot_str rfl) pa_nil))))) (pw_or (pt_not (pt_chain op_lt op_le pe_int (pe_callB call_len_str rfl T.len PySem.boot_len (pa_cons (pv 0) pa_nil)) pe_int)) (pw_or1 (pt_cmpR op_notInSg (pe_ix (ix_K (K := K)) (pv 0) pe_int (fun _ _ => rfl)) (C8.pe_gc rfl T.SMALL) (by with_unfolding_all rfl)))))) (pss_one (ps_ret pe_bl)) pss_nil)
      (pss_one (ps_ret (pe_callB (call_allK (K := K) rfl) rfl T.all boot_all (pa_cons (pe_lc (own := [("sign", 1)]) rfl sc_is_name.nd (pi_str (pv 0)) (blkOk_by (by kernel_rfl)) (fun _ _ _ _ _ => (pg_name (i := 1) sc_is_name.nd rfl (by first | exact Or.inl rfl | exact Or.inr rfl))) (fun _ _ _ _ _ => pts_nil) (fun _ _ _ _ _ => (pe_cmpR op_inSg (pv 1) (pe_op op_add_str (C8.pe_gc rfl T.SMALL) (C8.pe_gc rfl T.FIGURES)) (by with_unfolding_all rfl)))) pa_nil))))), ?_⟩
  unfold isName at hx
  simp only [Bool.and_eq_true, decide_eq_true_eq] at hx
  obtain ⟨⟨⟨h1, h2⟩, h3⟩, h4⟩ := hx
  obtain ⟨c, hc, h3⟩ : ∃ c, x.cps.toList[0]? = some c ∧ c ∈ small.cps.toList := by
    cases q : x.cps.toList[0]? with
    | none => rw [q] at h3; cases h3
    | some c => rw [q] at h3; exact ⟨c, rfl, of_decide_eq_true h3⟩
  refine tq_ifF (EvT.eq (et_or (et_not (et_B (ev_isi (r := true) (ev_var rfl hv) hty_S))) fun _ => et_or (et_not (et_test (ev_chain ev_int (ev_lenS (ev_var rfl hv)) ev_int))) fun _ => et_test (ev_notinSign (ev_ixS (ev_var rfl hv) ev_int rfl hc) ev_str)) ?_) r fun G2 H2 g => ?_
  · have e1 : decide ((0 : Int) < ((x.length : Nat) : Int)) = true := by simpa using h1
    have e2 : decide (((x.length : Nat) : Int) ≤ (12 : Int)) = true := by
      rw [decide_eq_true_eq]; omega
    have e3 : decide (c ∈ (Str.ofString "abcdefghijklmnopqrstuvwxyz").cps.toList) = true := decide_eq_true h3
    rw [e1, e2, e3]
    rfl
  · refine ts_ret (Ev.eq (ev_allL (en_map (ei_str (ev_var rfl ((S x).st g.g hv))) fun c hc y G' _ hy => ⟨_, gto_name, rfl, ev_inSign (ev_var rfl hy) (ev_catS ev_str ev_str (by decide +kernel) (by decide +kernel))⟩)) ?_) (g.r _ r) fun u G3 H3 g3 p => k u G3 H3 (g.trans g3) p
    exact congrArg B h4
def Ru (K : PySem.W.Frag) (p : Str × List Str × List Str) : SR := ⟨fun u G => ∃ a v w z, u = .ref a ∧ (G a = some (.lst [v, w, z]) ∨ SqT K G a [v, w, z]) ∧ (S p.1).p v G ∧ (Sq K S p.2.1).p w G ∧ (Sq K S p.2.2).p z G,
  fun s ⟨a, v, w, z, h1, h2, h3, h4, h5⟩ => ⟨a, v, w, z, h1, h2.elim (fun h => .inl (s _ _ h)) fun h => .inr ((Rel.sq s).seqT h), (S _).st s h3, (Sq K S _).st s h4, (Sq K S _).st s h5⟩⟩
section
variable {b : Bool} {σ : L2.St} {G H : Hp} {te : TE} {p : Str × List Str × List Str}
theorem Ru.seq {u : V} (r : Rel b G H) (h : (Ru K p).p u G) : ∃ a v w z, u = .ref a ∧ (SqL K H a [v, w, z] ∨ SqT K H a [v, w, z]) ∧ (S p.1).p v G ∧ (Sq K S p.2.1).p w G ∧ (Sq K S p.2.2).p z G := by
  obtain ⟨a, v, w, z, h1, h2, h3⟩ := h
  exact ⟨a, v, w, z, h1, h2.elim (fun h => .inl (r.seqL (SqL.of h))) fun h => .inr (r.seqT h), h3⟩
end
end
end Gd
-- part P2
set_option Elab.async false
set_option linter.all false
set_option maxRecDepth 100000
set_option maxHeartbeats 2000000
namespace Gd
open PySem PySem.Spec PyProof.Rows L2
section
variable {P : Program} {w : World} {K : PySem.W.Frag} {mg : Str → Option Value} {base : Heap} {aL : Addr}
abbrev Rule := Str × List Str × List Str
theorem kc : ¬ (("own_claims" : Str) = "own_triples") := by decide +kernel
def viol (h t : List Str) (p : Rule) : Bool := !decide (p.1 ∈ h) && (p.2.1.all (fun x => decide (x ∈ h)) && !(p.2.2.any fun x => decide (x ∈ t)))
def lots (cs : List Str) : List (List Str) := cs.foldl (fun acc c => acc ++ acc.map fun l => l ++ [c]) [[]]
abbrev cT : List Str → PyData := fun xs => .tuple (xs.map PyData.str)
end
end Gd
-- part P3
set_option Elab.async false
set_option linter.all false
set_option maxRecDepth 100000
set_option maxHeartbeats 2000000
namespace Gd
open PySem PySem.Spec PyProof.Rows L2
section
variable {P : Program} {w : World} {K : PySem.W.Frag} {mg : Str → Option Value} {base : Heap} {aL : Addr}
def kp (ts : List Rule) (h t : List Str) : Bool := !ts.any (viol h t)
end
end Gd
-- part P4
set_option Elab.async false
set_option linter.all false
set_option maxRecDepth 100000
set_option maxHeartbeats 2000000
namespace Gd
open PySem PySem.Spec PyProof.Rows L2
section
variable {P : Program} {w : World} {K : PySem.W.Frag} {mg : Str → Option Value} {base : Heap} {aL : Addr}
abbrev Kept := List (Str × List Str)
def cnt (kept : Kept) (ks : List Str) : Nat := kept.countP fun p => !decide (p.1 ∈ ks)
theorem OwnK.tif {b : Bool} {σ : L2.St} {G H H0 : Hp} {p : Addr} {ks : List Str} {c : TT} {t u : TS} {v : Bool} {D : Ends} (o : OwnK p ks G H H0) (hl : ks.length ≤ 100000) (r : Rel b G H) (h : ∀ G1, Same G G1 → (Ks ks).p (.ref p) G1 → EvT b c σ G1 v)
    (k1 : v = true → ∀ G2 H2, Go G H G2 H2 → t D σ H2) (k2 : v = false → ∀ G2 H2, Go G H G2 H2 → u D σ H2) : tIfS c t u D σ H := o.evT hl r h fun G2 H2 g => by
  cases v with
  | true => exact k1 rfl G2 H2 g
  | false => exact k2 rfl G2 H2 g
theorem Cal.weak {k : Nat} {x : Str} {sp sp' : Sp} {dvs : List V} (c : C8.Cal P w K mg base k x sp dvs) (h : ∀ vs H Q E, sp' vs H Q E → sp vs H Q E) : C8.Cal P w K mg base k x sp' dvs := by
  obtain ⟨f, fd, ps, ds, F, r⟩ := c.ex
  exact ⟨f, fd, ps, ds, F.imp h, r⟩
abbrev Rdg := List (Str × Str)
def rd (kvs : Rdg) (k : Str) : Str := (kvs.lookup k).getD Str.empty
open Classical in
open Classical in
end
end Gd
-- part P5
set_option Elab.async false
set_option linter.all false
set_option maxRecDepth 100000
set_option maxHeartbeats 2000000
namespace Gd
open PySem PySem.Spec PyProof.Rows L2
abbrev s_each_once : Stmt := topS 53
theorem sc_each_once : FnScope ["_law_things", "_law_found", "_law_thing"] ["_law_things"] (defScope s_each_once) := ⟨rfl, rfl, rfl, by decide +kernel, rfl, by decide +kernel, by decide +kernel⟩
section
variable {K : PySem.W.Frag} {b : Bool} {σ : L2.St} {G G' H : Hp} {t ta tb te tc : TE} {R R' : SR} {α β γ : Type} {e : α → SR} {f : β → SR}
theorem OwnL.tif {p : Addr} {acc : List α} {H0 : Hp} {c : TT} {t u : TS} {v : Bool} {D : Ends} (o : OwnL p e acc G H H0) (hl : acc.length ≤ 100000) (r : Rel b G H) (h : ∀ G1, Same G G1 → (Lst e acc).p (.ref p) G1 → EvT b c σ G1 v)
    (k1 : v = true → ∀ G2 H2, Go G H G2 H2 → t D σ H2) (k2 : v = false → ∀ G2 H2, Go G H G2 H2 → u D σ H2) : tIfS c t u D σ H := o.evT hl r h fun G2 H2 g => by
  cases v with
  | true => exact k1 rfl G2 H2 g
  | false => exact k2 rfl G2 H2 g
end
section
variable {P : Program} {w : World} {K : PySem.W.Frag} {mg : Str → Option Value} {base : Heap} {aL : Addr}
def within (l o : List Str) : Bool := l.all fun x => decide (x ∈ o)
end
end Gd
-- part P6
set_option Elab.async false
set_option linter.all false
set_option maxRecDepth 100000
set_option maxHeartbeats 2000000
namespace Gd
open PySem PySem.Spec PyProof.Rows L2
abbrev s_same : Stmt := topS 52
theorem sc_same : FnScope ["_law_found", "_law_due", "_law_x", "_law_y"] ["_law_found", "_law_due"] (defScope s_same) := ⟨rfl, rfl, rfl, by decide +kernel, rfl, by decide +kernel, by decide +kernel⟩
section
variable {P : Program} {w : World} {K : PySem.W.Frag} {mg : Str → Option Value} {base : Heap} {aL : Addr}
def ostep (acc : List Str) (x : Str) : List Str := if decide (x ∈ acc) = true then acc else acc ++ [x]
def once (xs : List Str) : List Str := xs.foldl ostep []
abbrev PL := List (List Str × List Str)
def written1 : PL := [([], ["a", "b"]), ([], ["b"]), (["a"], ["a"]), (["a"], ["a", "b"])]
def written2 : PL := [(["a", "b"], ["a", "b"]), (["b"], ["a", "b"]), (["b"], ["b"])]
def written : PL := written1 ++ written2
theorem zip_self {α : Type} (xs : List α) : xs.zip xs = xs.map fun x => (x, x) := by induction xs with
  | nil => rfl
  | cons x xs ih => simp [ih]
section
variable {b : Bool} {σ : L2.St} {G H : Hp} {ta tb : TE} {α β : Type} {e : α → SR} {f : β → SR}
theorem ev_eqB {x y : Bool} (ha : Ev b ta σ G (B x)) (hb : Ev b tb σ G (B y)) : Ev b (tOp rEq ta tb) σ G (B (decide (x = y))) :=
  ev_opP ha hb fun u v G1 H1 a r p q => by
    obtain rfl : u = _ := p
    obtain rfl : v = _ := q
    refine ⟨_, ?_, fun Q hQ => ⟨rfl, hQ⟩⟩
    show V.bl _ = V.bl _
    rw [dec_bl, Bool.beq_eq_decide_eq]
theorem ev_isiLT0 {R : SR} {T : String} (ha : Ev b ta σ G R) (ht : HasTy K R T) (h1 : kitB T "list" = some false := by decide +kernel) (h2 : kitB T "tuple" = some false := by decide +kernel) : Ev b (tCB (rIsiT K) (tCons ta (tCons (tTup (tCons (tC (.ty "list")) (tCons (tC (.ty "tuple")) tNil))) tNil))) σ G (B false) := ev_isiLT ha fun v b G H r h => ⟨T, ht v b G H r h, lt2_no h1 h2⟩
end
theorem zip_all {α : Type} (xs : List α) : (xs.zip xs).all (fun _ => true) = true := List.all_eq_true.mpr fun _ _ => rfl
theorem zip_mem {α : Type} {xs : List α} {p : α × α} (h : p ∈ xs.zip xs) : p.1 = p.2 ∧ p.1 ∈ xs := by
  rw [zip_self] at h
  obtain ⟨x, hx, rfl⟩ := List.mem_map.mp h
  exact ⟨rfl, hx⟩
def prE {α β : Type} (e : α → SR) (f : β → SR) (x : α × β) : Bool → SR := fun i => if i = true then f x.2 else e x.1
theorem pr_tpl {α β : Type} {e : α → SR} {f : β → SR} {x : α × β} {u : V} {G : Hp} (h : (Pr K e f x).p u G) : (Tpl K (prE e f x) [false, true]).p u G := by
  obtain ⟨a, v, w, rfl, h1, h2, h3⟩ := h
  exact ⟨a, _, rfl, h1, by show 2 ≤ sizeLine; decide, .cons h2 (.cons h3 .nil)⟩
end
end Gd
-- part P7
set_option Elab.async false
set_option linter.all false
set_option maxRecDepth 100000
set_option maxHeartbeats 1000000
namespace Gd
open PySem PySem.Spec PyProof.Rows L2
abbrev s_start : Stmt := topS 48
theorem sc_start : FnScope ["_law_script"] ["_law_script"] (defScope s_start) := ⟨rfl, rfl, rfl, by decide +kernel, rfl, by decide +kernel, by decide +kernel⟩
abbrev s_draw : Stmt := topS 49
theorem sc_draw : FnScope ["_law_stream", "_law_many", "_law_cell", "_law_digit", "_law_mixed_here"] ["_law_stream", "_law_many"] (defScope s_draw) := ⟨rfl, rfl, rfl, by decide +kernel, rfl, by decide +kernel, by decide +kernel⟩
section
variable {P : Program} {w : World} {K : PySem.W.Frag} {mg : Str → Option Value} {base : Heap} {aL : Addr}
section
variable {b : Bool} {σ : L2.St} {G H : Hp} {te : TE} {D : Ends} {u : TS}
theorem ts_put {i : Nat} {p : Addr} {xs : List V} {kk : Int} {j : Nat} {v : V} (h : Ev b te σ (upd G p (.lst xs)) (cst v)) (hv : σ[i]? = some (some (.ref p))) (r : Rel b G H) (nG : G p = none) (hp : H p = some (.lst xs)) (hk : ixN xs.length kk = some j)
    (k : ∀ G2 H2, Go G H G2 H2 → G2 p = none → D.nx σ (upd H2 p (.lst (xs.set j v)))) : tAsg te (gSub (tVar i) (tC (.int kk)) rSetL) D σ H :=
  h.lend r nG hp fun G2 H2 g n2 h2 => ⟨_, hv, p, xs, kk, j, rfl, rfl, h2, hk, k G2 H2 g n2⟩
theorem tq_put {i : Nat} {p : Addr} {xs : List V} {kk : Int} {j : Nat} {v : V} (h : Ev b te σ (upd G p (.lst xs)) (cst v)) (hv : σ[i]? = some (some (.ref p))) (r : Rel b G H) (nG : G p = none) (hp : H p = some (.lst xs)) (hk : ixN xs.length kk = some j)
    (k : ∀ G2 H2, Go G H G2 H2 → G2 p = none → u D σ (upd H2 p (.lst (xs.set j v)))) : tSeq (tAsg te (gSub (tVar i) (tC (.int kk)) rSetL)) u D σ H := ts_put (D := { D with nx := u D }) h hv r nG hp hk k
theorem tq_setL {i : Nat} {p : Addr} {xs : List V} {v : V} (h : Ev b te σ (upd G p (.lst xs)) (cst v)) (r : Rel b G H) (nG : G p = none) (hp : H p = some (.lst xs))
    (k : ∀ G2 H2, Go G H G2 H2 → G2 p = none → H2 p = some (.lst xs) → u D (σ.set i (some v)) H2) : tSeq (tAsg te (gName i)) u D σ H := h.lend r nG hp k
theorem ts_retL {nx bk ct : L2.St → Hp → Prop} {Q : VK} {p : Addr} {xs : List V} {v : V} (h : Ev b te σ (upd G p (.lst xs)) (cst v)) (r : Rel b G H) (nG : G p = none) (hp : H p = some (.lst xs))
    (k : ∀ G2 H2, Go G H G2 H2 → G2 p = none → H2 p = some (.lst xs) → Q v H2) : tRet te ⟨nx, Q, bk, ct⟩ σ H := h.lend r nG hp k
theorem ev_it {i : Nat} {p : Addr} {xs : List V} {kk : Int} {j : Nat} {v : V} (hv : σ[i]? = some (some (.ref p))) (hp : G p = some (.lst xs)) (hl : xs.length ≤ 1000) (hk : kk = (j : Int)) (hx : xs[j]? = some v) : Ev b (tOp (rIx K) (tVar i) (tC (.int kk))) σ G (cst v) :=
  ev_ixL (e := cst) (xs := xs) (ev_var hv ⟨p, xs, rfl, hp, Nat.le_trans hl (by decide), by
    have : ∀ ys : List V, Al cst ys ys G := fun ys => by
      induction ys with
      | nil => exact .nil
      | cons y ys ih => exact .cons rfl ih
    exact this xs⟩) ev_int hk hx
theorem ev_mulI {x y : Int} {ta tb : TE} (ha : Ev b ta σ G (I x)) (hb : Ev b tb σ G (I y)) (h : CMul x y) : Ev b (tOp (rI CMul fun i j => .int (i * j)) ta tb) σ G (I (x * y)) := ev_I1 (C := CMul) ha hb h
theorem ev_addI {x y : Int} {ta tb : TE} (ha : Ev b ta σ G (I x)) (hb : Ev b tb σ G (I y)) : Ev b (tOp (rI0 fun i j => .int (i + j)) ta tb) σ G (I (x + y)) := ev_I0 ha hb
theorem ev_modI {x y : Int} {ta tb : TE} (ha : Ev b ta σ G (I x)) (hb : Ev b tb σ G (I y)) (h : y ≠ 0) : Ev b (tOp (rI (fun _ j => j ≠ 0) fun i j => .int (i.fmod j)) ta tb) σ G (I (x.fmod y)) := ev_I1 (C := fun _ j => j ≠ 0) ha hb h
theorem ev_divI {x y : Int} {ta tb : TE} (ha : Ev b ta σ G (I x)) (hb : Ev b tb σ G (I y)) (h : CDivN x y) : Ev b (tOp (rI CDivN fun i j => .int (i.fdiv j)) ta tb) σ G (I (x.fdiv y)) := ev_I1 (C := CDivN) ha hb h
theorem ev_powI {x y : Int} {ta tb : TE} (ha : Ev b ta σ G (I x)) (hb : Ev b tb σ G (I y)) (h : CPow x y) : Ev b (tOp (rI CPow fun i j => .int (i ^ j.toNat)) ta tb) σ G (I (x ^ y.toNat)) := ev_I1 (C := CPow) ha hb h
theorem ev_intI {x : Int} (ha : Ev b te σ G (I x)) : Ev b (tCB (fun xs H Q => (∃ i, xs = [.int i] ∧ Q (.int i) H) ∨ ∃ k, xs = [.bl k] ∧ Q (.int (if k then 1 else 0)) H) (tCons te tNil)) σ G (I x) :=
  ev_cb (ea_cons ha ea_nil) fun vs G1 H1 a r al Q k => by
    obtain ⟨v, rfl, p⟩ := alr1 al
    obtain rfl : v = _ := p
    exact .inl ⟨x, rfl, k _ G1 H1 (Go.refl _ _) rfl⟩
theorem ev_leI {x y : Int} {ta tb : TE} (ha : Ev b ta σ G (I x)) (hb : Ev b tb σ G (I y)) : Ev b (tOp (rI0 fun i j => .bl (decide (j ≤ i))) ta tb) σ G (B (decide (y ≤ x))) := ev_I0 ha hb
theorem ev_gtI {x y : Int} {ta tb : TE} (ha : Ev b ta σ G (I x)) (hb : Ev b tb σ G (I y)) : Ev b (tOp (rI0 fun i j => .bl (decide (j < i))) ta tb) σ G (B (decide (y < x))) := ev_I0 ha hb
end
def Dw (m : Nat) : SR := ExR (fun d : Nat => d < m) fun d => I d
def sp_draw : Sp := spD (fun m : Nat => [I m]) (fun m => 0 < m ∧ m ≤ 1000000) (fun _ => 1) Dw
theorem dw_of {m : Nat} {i : Int} {G : Hp} (h0 : 0 ≤ i) (h : i < (m : Int)) : (Dw m).p (.int i) G := ⟨i.toNat, by omega, by show V.int i = V.int _; congr 1; omega⟩
theorem EvT.lend2 {b : Bool} {σ : L2.St} {G H : Hp} {tt : TT} {c : Bool} {D D2 : Addr} {o o2 : HO} (h : EvT b tt σ (upd (upd G D o) D2 o2) c) (r : Rel b G H) (nD : G D = none) (nD2 : G D2 = none) (ne : D2 ≠ D) (hD : H D = some o) (hD2 : H D2 = some o2) {Q : Bool → Hp → Prop} (k : ∀ G2 H2, Go G H G2 H2 → Q c H2) : tt σ H Q :=
  h.lend (r.give hD) (by rw [upd_ne ne]; exact nD2) hD2 fun G2 H2 g _ _ => k _ H2 (unlend g nD hD).1
theorem al_I (xs : List Int) (G : Hp) : Al I xs (xs.map V.int) G := by
  induction xs with
  | nil => exact .nil
  | cons x xs ih => exact .cons rfl ih
structure DrI (st c : Addr) (m cnt : Nat) (G H : Hp) (z : Nat) (σ : L2.St) (H' : Hp) : Prop where
  ex : ∃ (cells : List Int) (a mm : Int) (y2 y3 y4 : Option V) (G' : Hp), σ = [some (.ref st), some (.int m), y2, y3, y4] ∧ GoS st c G H G' H' ∧ G' st = none ∧ G' c = none ∧ H' st = some (.lst [.ref c, .int a, .int ((cnt : Int) + 1), .int mm]) ∧ H' c = some (.lst (cells.map V.int)) ∧ 0 ≤ a ∧ 0 ≤ mm ∧ mm < 2147483647 ∧ cells.length ≤ 63 ∧ z = cells.length
theorem ok_draw (F : Fn K mg "_law_draw" s_draw ["_law_stream", "_law_many"]) (T : Txt K mg aL) : C8.Cal P w K mg base 1 "_law_draw" sp_draw [] := by
  refine cal_of F sc_draw (fun vs H Q E h => ?_) (fun f cdv A outer s H vs Q E hr h => ?_)
  · obtain ⟨i, G, s, c, n, rest, rfl, _, _, _, _, al, _⟩ := h
    obtain ⟨v, rfl, _⟩ := alr1 al
    rfl
  obtain ⟨m, G, st, c, n, rest, rfl, r, d, hn, ⟨hm0, hm1⟩, al, k⟩ := h
  obtain ⟨v, rfl, hv⟩ := alr1 al
  obtain rfl : v = _ := hv
  have hu64 := hu64_of hr
  obtain ⟨ne, gs, gc, cells, a, mm, cnt, hs, hc, ha0, hcnt, hm2, hm3, hcl⟩ := d
  refine ⟨_, (pss_cons (ps_asg (pe_op op_add (pe_ix (ix_K (K := K)) (pv 0) pe_int (fun _ _ => rfl)) pe_int) (pg_sub (pv 0) pe_int set_list))
      (pss_cons (ps_while PassesOwn.never (PW.pt (pw_and (pt_cmpR op_eq (pe_ix (ix_K (K := K)) (pv 0) pe_int (fun _ _ => rfl)) pe_int (nomark _)) (pw_and1 (pt_cmpR (op_neDK (K := K) hu64) (pe_ix (ix_K (K := K)) (pv 0) pe_int (fun _ _ => rfl)) (pe_lst pa_nil) (nomark _))))) (pss_cons (ps_set (i := 2) sc_draw.nd rfl (by first | exact Or.inl rfl | exact Or.inr rfl) (pe_bmK (K := K) PySem.F.plainAttrs_list PySem.F.slot_list_pop PySem.F.type_list_pop mt_popAt (pe_ix (ix_K (K := K)) (pv 0) pe_int (fun _ _ => rfl)) (pa_cons pe_int pa_nil)))
      (pss_cons (ps_asg (pe_op op_modN (pe_callTy call_int1 rfl T.int boot_int (pa_cons (pe_op op_add (pe_op op_add (pe_op op_mul (pe_ix (ix_K (K := K)) (pv 0) pe_int (fun _ _ => rfl)) pe_int) (pv 2)) pe_int) pa_nil)) pe_int) (pg_sub (pv 0) pe_int set_list))
      (pss_one (ps_asg (pe_ifExp (pt_cmpR op_ge (pv 2) (pe_op op_pow pe_int pe_int) (nomark _)) (pv 2) pe_int) (pg_sub (pv 0) pe_int set_list))))))
      (pss_cons (ps_if (pt_cmpR op_gt (pe_ix (ix_K (K := K)) (pv 0) pe_int (fun _ _ => rfl)) pe_int (nomark _)) (pss_cons (ps_set (i := 3) sc_draw.nd rfl (by first | exact Or.inl rfl | exact Or.inr rfl) (pe_op op_modN (pe_callTy call_int1 rfl T.int boot_int (pa_cons (pe_ix (ix_K (K := K)) (pv 0) pe_int (fun _ _ => rfl)) pa_nil)) (pv 1)))
      (pss_cons (ps_asg (pe_op op_fdivN (pe_ix (ix_K (K := K)) (pv 0) pe_int (fun _ _ => rfl)) (pv 1)) (pg_sub (pv 0) pe_int set_list))
      (pss_one (ps_ret (pv 3))))) pss_nil)
      (pss_cons (ps_set (i := 4) sc_draw.nd rfl (by first | exact Or.inl rfl | exact Or.inr rfl) (pe_op op_modN (pe_callTy call_int1 rfl T.int boot_int (pa_cons (pe_op op_pow (pe_op op_add (pe_op op_add (pe_ix (ix_K (K := K)) (pv 0) pe_int (fun _ _ => rfl)) (pe_op op_mul pe_int (pe_ix (ix_K (K := K)) (pv 0) pe_int (fun _ _ => rfl)))) pe_int) pe_int) pa_nil)) pe_int))
      (pss_one (ps_ret (pe_op op_modN (pe_op op_modN (pe_callTy call_int1 rfl T.int boot_int (pa_cons (pe_op op_pow (pe_op op_add (pe_op op_add (pe_op op_mul (pv 4) pe_int) (pe_op op_mul pe_int (pe_ix (ix_K (K := K)) (pv 0) pe_int (fun _ _ => rfl)))) pe_int) pe_int) pa_nil)) pe_int) (pv 1)))))))), ?_⟩
  have hcnt2 : cnt ≤ 1000000 := by omega
  -- the count
  refine tq_put (b := true) (v := .int ((cnt : Int) + 1)) (ev_addI (ev_it rfl upd_same (by simp) (j := 2) rfl rfl) ev_int) rfl r gs hs (j := 2) rfl fun G1 H1 g1 n1 => ?_
  have k1 : GoS st c G H G1 (upd H1 st (.lst [.ref c, .int a, .int ((cnt : Int) + 1), .int mm])) := g1.st.putS n1
  have c1 : G1 c = none := g1.owned hc gc
  have hc1 : (upd H1 st (.lst [.ref c, .int a, .int ((cnt : Int) + 1), .int mm])) c = some (.lst (cells.map V.int)) := by rw [upd_ne ne.symm]; exact g1.h _ _ hc
  -- the loop
  refine ⟨DrI st c m cnt G H, ⟨cells.length, ⟨cells, a, mm, _, _, _, G1, rfl, k1, n1, c1, upd_same, hc1, ha0, hm2, hm3, hcl, rfl⟩⟩, ?_⟩
  clear k1 hc1 c1 n1 g1 ha0 hm2 hm3 hcl
  have hs0 := hs
  have hc0 := hc
  clear hs hc
  rintro z σ H' ⟨cells, a, mm, y2, y3, y4, G', rfl, gq, s1, c1, hs, hc, ha0, hm2, hm3, hcl, rfl⟩
  have r' : Rel true G' H' := gq.r gs gc _ r
  refine EvT.lend2 (b := true) (c := decide (a = 0) && !decide (cells = [])) (et_and (et_test (ev_eqI (ev_it rfl (by rw [upd_ne ne]; exact upd_same) (by simp) (j := 1) rfl rfl) ev_int)) fun _ => et_test (ev_neD (e := Lst I) (x := cells) (y := []) ((ev_it (v := .ref c) rfl (by rw [upd_ne ne]; exact upd_same) (by simp) (j := 0) rfl rfl).is fun u G2 s2 q => ?_) (EvN.ev (en_lst (xs := []) ea_nil (by simp))) (enc_lst enc_I) (eqE_lst eqE_I))) r' s1 c1 ne.symm hs hc fun G2 H2 g2 => ?_
  · obtain rfl : u = _ := q
    exact ⟨c, cells.map V.int, rfl, s2 _ _ upd_same, by rw [List.length_map]; exact Nat.le_trans hcl (by decide), al_I cells G2⟩
  have k2 := gq.trans g2.st ⟨_, hs0⟩ ⟨_, hc0⟩ ⟨_, hs⟩ ⟨_, hc⟩ gs gc
  have s2 : G2 st = none := g2.owned hs s1
  have c2 : G2 c = none := g2.owned hc c1
  have hs2 := g2.h _ _ hs
  have hc2 := g2.h _ _ hc
  have r2 := g2.r _ r'
  clear g2 gq r' hs hc
  by_cases hb : a = 0 ∧ cells ≠ []
  · obtain ⟨rfl, hne⟩ := hb
    obtain ⟨x, xs, rfl⟩ := List.exists_cons_of_ne_nil hne
    rw [if_pos (by simp)]
    refine ⟨fun σ' H' => DrI st c m cnt G H xs.length σ' H', fun σ' H' h' => ⟨xs.length, by simp, h'⟩, ?_⟩
    refine Ev.lend (te := tOp (rIx K) (tVar 0) (tC (.int 0))) (c := .ref c) (b := true) (ev_it rfl upd_same (by simp) (j := 0) rfl rfl) r2 s2 hs2 fun G3 H3 g3 s3 hs3 => ?_
    have hc3 := g3.h _ _ hc2
    have c3 : G3 c = none := g3.owned hc2 c2
    have k3 := k2.trans g3.st ⟨_, hs0⟩ ⟨_, hc0⟩ ⟨_, hs2⟩ ⟨_, hc2⟩ gs gc
    refine ⟨.inl ⟨rfl, _, SqL.of hc3⟩, c, _, 0, 0, .int x, rfl, rfl, hc3, by decide, by decide, (ixN_seq (i := 0) (j := 0) (by unfold ixN; simp)).1, rfl, ?_⟩
    have k4 : GoS st c G H G3 (upd H3 c (.lst (xs.map V.int))) := k3.putC c3
    have hs4 : (upd H3 c (.lst (xs.map V.int))) st = _ := (upd_ne ne).trans hs3
    have hc4 : (upd H3 c (.lst (xs.map V.int))) c = _ := upd_same
    have r4 : Rel true G3 (upd H3 c (.lst (xs.map V.int))) := (g3.r _ r2).own c3
    show tSeq _ _ _ _ (upd H3 c (.lst (xs.map V.int)))
    generalize upd H3 c (.lst (xs.map V.int)) = H4 at k4 hs4 hc4 r4 ⊢
    refine tq_put (b := true) (kk := 3) (v := .int ((mm * 8191 + x + 3).fmod 2147483647)) (H := H4) (ev_modI (ev_intI (ev_addI (ev_addI (ev_mulI (ev_it rfl upd_same (by simp) (j := 3) rfl rfl) ev_int (.inr ⟨by decide, by decide⟩)) (ev_var rfl rfl)) ev_int)) ev_int (by decide)) rfl r4 s3 hs4 (j := 3) rfl fun G5 H5 g5 s5 => ?_
    have hc5 := g5.h _ _ hc4
    have hs5 := g5.h _ _ hs4
    have c5 : G5 c = none := g5.owned hc4 c3
    have k5 := k4.trans g5.st ⟨_, hs0⟩ ⟨_, hc0⟩ ⟨_, hs4⟩ ⟨_, hc4⟩ gs gc
    have r5 := g5.r _ r4
    show tAsg _ _ _ _ _
    refine ts_put (b := true) (i := 0) (kk := 1) (v := .int (if 10 ^ 18 ≤ x then x else 0)) (ev_if (et_test (ev_leI (ev_var rfl rfl) (ev_powI ev_int ev_int ⟨by decide, by decide, by decide⟩))) (fun e => ?_) fun e => ?_) rfl (r5.own s5) s5 upd_same (j := 1) rfl fun G6 H6 g6 s6 => ?_
    · rw [if_pos (show (10 : Int) ^ 18 ≤ x from of_decide_eq_true e)]
      exact ev_var rfl rfl
    · rw [if_neg (show ¬ (10 : Int) ^ 18 ≤ x from of_decide_eq_false e)]
      exact ev_int
    · have hc6 := g6.h _ _ (show (upd H5 st _) c = some (.lst (xs.map V.int)) from (upd_ne ne.symm).trans hc5)
      have c6 : G6 c = none := g6.owned (show (upd H5 st _) c = some (.lst (xs.map V.int)) from (upd_ne ne.symm).trans hc5) c5
      have k6 := ((k5.putS s5).trans g6.st ⟨_, hs0⟩ ⟨_, hc0⟩ ⟨_, upd_same⟩ ⟨_, (upd_ne ne.symm).trans hc5⟩ gs gc).putS s6 (o := .lst [.ref c, .int (if 10 ^ 18 ≤ x then x else 0), .int ((cnt : Int) + 1), .int ((mm * 8191 + x + 3).fmod 2147483647)])
      refine ⟨xs, (if 10 ^ 18 ≤ x then x else 0), (mm * 8191 + x + 3).fmod 2147483647, _, _, _, G6, rfl, k6, s6, c6, upd_same, (upd_ne ne.symm).trans hc6, ?_, Int.fmod_nonneg_of_pos _ (by decide), Int.fmod_lt_of_pos _ (by decide), by simp at hcl; omega, rfl⟩
      split
      · rename_i hx
        exact Int.le_trans (by decide) hx
      · exact Int.le_refl 0
  · rw [if_neg (by simpa using hb)]
    show tSeq _ _ _ _ H2
    clear hb
    have hm0' : (m : Int) ≠ 0 := by omega
    have hmp : (0 : Int) < (m : Int) := by omega
    refine EvT.lend (tt := tTest (tOp (rI0 fun i j => .bl (decide (j < i))) (tOp (rIx K) (tVar 0) (tC (.int 1))) (tC (.int 0)))) (b := true) (c := decide (0 < a)) (et_test (ev_gtI (ev_it rfl upd_same (by simp) (j := 1) rfl rfl) ev_int)) r2 s2 hs2 fun G3 H3 g3 s3 hs3 => ?_
    have hc3 := g3.h _ _ hc2
    have c3 : G3 c = none := g3.owned hc2 c2
    have k3 := k2.trans g3.st ⟨_, hs0⟩ ⟨_, hc0⟩ ⟨_, hs2⟩ ⟨_, hc2⟩ gs gc
    have r3 := g3.r _ r2
    by_cases hp : 0 < a
    · rw [if_pos (decide_eq_true hp)]
      refine tq_setL (b := true) (xs := [.ref c, .int a, .int ((cnt : Int) + 1), .int mm]) (v := .int (a.fmod m)) (ev_modI (ev_intI (ev_it rfl upd_same (by simp) (j := 1) rfl rfl)) (ev_var rfl rfl) hm0') r3 s3 hs3 fun G4 H4 g4 s4 hs4 => ?_
      have hc4 := g4.h _ _ hc3
      have c4 : G4 c = none := g4.owned hc3 c3
      have k4 := k3.trans g4.st ⟨_, hs0⟩ ⟨_, hc0⟩ ⟨_, hs3⟩ ⟨_, hc3⟩ gs gc
      have r4 := g4.r _ r3
      refine tq_put (b := true) (v := .int (a.fdiv m)) (ev_divI (ev_it rfl upd_same (by simp) (j := 1) rfl rfl) (ev_var rfl rfl) ⟨hm0', by omega⟩) rfl r4 s4 hs4 (j := 1) rfl fun G5 H5 g5 s5 => ?_
      have hc5 := g5.h _ _ hc4
      have c5 : G5 c = none := g5.owned hc4 c4
      have k5 := (k4.trans g5.st ⟨_, hs0⟩ ⟨_, hc0⟩ ⟨_, hs4⟩ ⟨_, hc4⟩ gs gc).putS s5 (o := .lst [.ref c, .int (a.fdiv m), .int ((cnt : Int) + 1), .int mm])
      have r5 := (g5.r _ r4).own s5 (o := .lst [.ref c, .int (a.fdiv m), .int ((cnt : Int) + 1), .int mm])
      refine ⟨.int (a.fmod m), rfl, k _ G5 _ k5 ⟨ne, s5, c5, cells, a.fdiv m, mm, cnt + 1, upd_same, (upd_ne ne.symm).trans hc5, ?_, Nat.add_le_add_right hcnt 1, hm2, hm3, hcl⟩ r5 (dw_of (Int.fmod_nonneg_of_pos _ hmp) (Int.fmod_lt_of_pos _ hmp))⟩
      rw [Int.fdiv_eq_ediv_of_nonneg _ (by omega)]
      exact Int.ediv_nonneg (by omega) (by omega)
    · rw [if_neg (by simpa using hp)]
      dsimp only [tNext]
      have hb1 : (mm + 7919 * ((cnt : Int) + 1) + 104729).natAbs < 2 ^ 64 := by omega
      have m1 : CMul 7919 ((cnt : Int) + 1) := .inl ⟨by decide, by decide⟩
      have p1 : CPow (mm + 7919 * ((cnt : Int) + 1) + 104729) 5 := ⟨by decide, by decide, hb1⟩
      have z1 : (2147483629 : Int) ≠ 0 := by decide
      have z2 : (1000000007 : Int) ≠ 0 := by decide
      refine tq_setL (b := true) (xs := [.ref c, .int a, .int ((cnt : Int) + 1), .int mm]) (v := .int (((mm + 7919 * ((cnt : Int) + 1) + 104729) ^ 5).fmod 2147483629)) (ev_modI (ev_intI (ev_powI (ev_addI (ev_addI (ev_it rfl upd_same (by simp) (j := 3) rfl rfl) (ev_mulI ev_int (ev_it rfl upd_same (by simp) (j := 2) rfl rfl) m1)) ev_int) ev_int p1)) ev_int z1) r3 s3 hs3 fun G4 H4 g4 s4 hs4 => ?_
      have hc4 := g4.h _ _ hc3
      have c4 : G4 c = none := g4.owned hc3 c3
      have k4 := k3.trans g4.st ⟨_, hs0⟩ ⟨_, hc0⟩ ⟨_, hs3⟩ ⟨_, hc3⟩ gs gc
      have r4 := g4.r _ r3
      have q1 := Int.fmod_nonneg_of_pos ((mm + 7919 * ((cnt : Int) + 1) + 104729) ^ 5) (show (0 : Int) < 2147483629 by decide)
      have q2 := Int.fmod_lt_of_pos ((mm + 7919 * ((cnt : Int) + 1) + 104729) ^ 5) (show (0 : Int) < 2147483629 by decide)
      generalize ((mm + 7919 * ((cnt : Int) + 1) + 104729) ^ 5).fmod 2147483629 = y at q1 q2
      have hb2 : (y * 48271 + 30011 * ((cnt : Int) + 1) + 29).natAbs < 2 ^ 64 := by omega
      have m2 : CMul y 48271 := .inr ⟨by decide, by decide⟩
      have m3 : CMul 30011 ((cnt : Int) + 1) := .inl ⟨by decide, by decide⟩
      have p2 : CPow (y * 48271 + 30011 * ((cnt : Int) + 1) + 29) 3 := ⟨by decide, by decide, hb2⟩
      refine ts_retL (b := true) (xs := [.ref c, .int a, .int ((cnt : Int) + 1), .int mm]) (v := .int ((((y * 48271 + 30011 * ((cnt : Int) + 1) + 29) ^ 3).fmod 1000000007).fmod m)) (ev_modI (ev_modI (ev_intI (ev_powI (ev_addI (ev_addI (ev_mulI (ev_var rfl rfl) ev_int m2) (ev_mulI ev_int (ev_it rfl upd_same (by simp) (j := 2) rfl rfl) m3)) ev_int) ev_int p2)) ev_int z2) (ev_var rfl rfl) hm0') r4 s4 hs4 fun G5 H5 g5 s5 hs5 => ?_
      have hc5 := g5.h _ _ hc4
      have c5 : G5 c = none := g5.owned hc4 c4
      have k5 := k4.trans g5.st ⟨_, hs0⟩ ⟨_, hc0⟩ ⟨_, hs4⟩ ⟨_, hc4⟩ gs gc
      exact k _ G5 _ k5 ⟨ne, s5, c5, cells, a, mm, cnt + 1, hs5, hc5, ha0, Nat.add_le_add_right hcnt 1, hm2, hm3, hcl⟩ (g5.r _ r4) (dw_of (Int.fmod_nonneg_of_pos _ hmp) (Int.fmod_lt_of_pos _ hmp))
end
end Gd
-- part P8
set_option Elab.async false
set_option linter.all false
set_option maxRecDepth 100000
set_option maxHeartbeats 1000000
namespace Gd
open PySem PySem.Spec PyProof.Rows L2
abbrev s_pick : Stmt := topS 50
theorem sc_pick : FnScope ["_law_stream", "_law_some"] ["_law_stream", "_law_some"] (defScope s_pick) := ⟨rfl, rfl, rfl, by decide +kernel, rfl, by decide +kernel, by decide +kernel⟩
abbrev s_mixed : Stmt := topS 51
theorem sc_mixed : FnScope ["_law_stream", "_law_some", "_law_left", "_law_k"] ["_law_stream", "_law_some"] (defScope s_mixed) := ⟨rfl, rfl, rfl, by decide +kernel, rfl, by decide +kernel, by decide +kernel⟩
section
variable {P : Program} {w : World} {K : PySem.W.Frag} {mg : Str → Option Value} {base : Heap} {aL : Addr}
section
variable {s c : Addr} {k m : Nat} {σ : L2.St} {G G' H : Hp} {t ta tb te : TE} {R R' : SR} {α β : Type} {e : α → SR} {D : Ends} {u : TS}
theorem td_ret {nx bk ct : L2.St → Hp → Prop} {Q : VK} {n : Nat} (h : EvD s c k te σ G R) (r : Rel true G H) (d : Dr s c n G H) (hn : n + k ≤ 1000000) (q : ∀ v G2 H2, GoS s c G H G2 H2 → Dr s c (n + k) G2 H2 → Rel true G2 H2 → R.p v G2 → Q v H2) : tRet te ⟨nx, Q, bk, ct⟩ σ H := h.run r d hn q
theorem tdq_set {i n : Nat} (h : EvD s c k te σ G R) (r : Rel true G H) (d : Dr s c n G H) (hn : n + k ≤ 1000000) (q : ∀ v G2 H2, GoS s c G H G2 H2 → Dr s c (n + k) G2 H2 → Rel true G2 H2 → R.p v G2 → u D (σ.set i (some v)) H2) : tSeq (tAsg te (gName i)) u D σ H := h.run r d hn q
theorem EvD.fin {n : Nat} {Q : VK} {v : V} {G1 H1 G2 H2 G3 H3 : Hp} (q : ∀ v G2 H2, GoS s c G1 H1 G2 H2 → Dr s c n G2 H2 → Rel true G2 H2 → R.p v G2 → Q v H2) {n1 : Nat} (d1 : Dr s c n1 G1 H1) (g : GoS s c G1 H1 G2 H2) (d2 : Dr s c n G2 H2) (r2 : Rel true G2 H2) (g3 : Go G2 H2 G3 H3) (p : R.p v G3) : Q v H3 := q v G3 H3 (g.tr g3.st d1 d2) (d2.go g3) (g3.r _ r2) p
end
structure PickI : Type 1 where
  α : Type
  e : α → SR
  xs : List α
def sp_pick (K : PySem.W.Frag) : Sp := spD (fun i : PickI => [Sq K i.e i.xs]) (fun i => i.xs ≠ [] ∧ i.xs.length ≤ 100000) (fun _ => 1) (fun i => ExR (· ∈ i.xs) i.e)
theorem spD_len {ι : Type _} {pre : ι → List SR} {ok : ι → Prop} {cost : ι → Nat} {post : ι → SR} {vs : List V} {H : Hp} {Q : VK} {E : XK} {n : Nat} (h : spD pre ok cost post vs H Q E) (hn : ∀ i, (pre i).length + 1 = n) : vs.length = n := by
  obtain ⟨i, G, s, c, _, rest, rfl, _, _, _, _, al, _⟩ := h
  rw [List.length_cons, alr_len al, hn]
theorem ev_ixSq {b : Bool} {σ : L2.St} {G : Hp} {α : Type} {e : α → SR} {xs : List α} {v : V} {j : Nat} {a : α} (h : (Sq K e xs).p v G) (hx : xs[j]? = some a) : Ev b (tOp (rIx K) (tC v) (tC (.int j))) σ G (e a) := by
  rcases h with h | h
  · exact ev_ixL (ev_cR h) ev_int rfl hx
  · exact ev_ixT (ev_cR h) ev_int rfl hx
theorem ok_pick (F : Fn K mg "_law_pick" s_pick ["_law_stream", "_law_some"]) (T : Txt K mg aL) (c_draw : C8.Cal P w K mg base 1 "_law_draw" sp_draw []) : C8.Cal P w K mg base 2 "_law_pick" (sp_pick K) [] := by
  refine cal_of F sc_pick (fun vs H Q E h => spD_len h fun _ => rfl) (fun f cdv A outer s H vs Q E hr h => ?_)
  obtain ⟨⟨α, e, xs⟩, G, st, c, n, rest, rfl, r, d, hn, ⟨hne, hl⟩, al, k⟩ := h
  obtain ⟨v, rfl, hv⟩ := alr1 al
  refine ⟨_, (pss_one (ps_ret (pe_ix (ix_K (K := K)) (pv 1) (C8.pe_c c_draw hr (by first | decide | omega) rfl (pa_cons (pv 0) (pa_cons (pe_callB (call_lenK (K := K)) rfl T.len PySem.boot_len (pa_cons (pv 1) pa_nil)) pa_nil))) (fun _ _ => rfl)))), ?_⟩
  refine td_ret (s := st) (c := c) (R := ExR (· ∈ xs) e) (fun G1 H1 n a r d hn Q q => ?_) r d hn k
  refine ⟨v, rfl, ?_⟩
  have hv1 : (Sq K e xs).p v G1 := (Sq K e xs).st a hv
  refine EvD.run (ed_call (ι := Nat) xs.length rfl (ea_cons (ev_len (ev_var rfl hv1)) ea_nil) ⟨List.length_pos_iff.mpr hne, by have : xs.length ≤ 100000 := hl; omega⟩) r d hn fun y G2 H2 g d2 r2 ⟨dd, hd, hy⟩ => ?_
  obtain rfl : y = _ := hy
  have hx : xs[dd]? = some xs[dd] := List.getElem?_eq_getElem hd
  exact (ev_ixSq (σ := []) (b := true) ((Sq K e xs).st g.g hv1) hx).run r2 fun u G3 H3 g3 p => EvD.fin q d g d2 r2 g3 ⟨xs[dd], List.getElem_mem hd, p⟩
theorem yesI {σ : L2.St} {A B : Hp → Prop} {H : Hp} (h : A H) : tYes σ H (fun b H3 => if b = true then A H3 else B H3) := h
theorem perm_pick {α : Type} : ∀ (ls : List α) (d : Nat) (x : α), ls[d]? = some x → (x :: ls.eraseIdx d).Perm ls
  | [], d, x, h => by simp at h
  | a :: ls, 0, x, h => by
    simp at h
    subst h
    exact .refl _
  | a :: ls, d + 1, x, h => by
    have ih := perm_pick ls d x (by simpa using h)
    rw [List.eraseIdx_cons_succ]
    exact (List.Perm.swap a x _).trans (ih.cons a)
def sp_mixed (K : PySem.W.Frag) : Sp := spD (fun i : PickI => [Sq K i.e i.xs]) (fun i => i.xs.length ≤ 100000) (fun i => i.xs.length) (fun i => ExR (fun ys => ys.Perm i.xs) (Lst i.e))
theorem ok_mixed (F : Fn K mg "_law_mixed" s_mixed ["_law_stream", "_law_some"]) (T : Txt K mg aL) (c_draw : C8.Cal P w K mg base 1 "_law_draw" sp_draw []) : C8.Cal P w K mg base 2 "_law_mixed" (sp_mixed K) [] := by
  refine cal_of F sc_mixed (fun vs H Q E h => spD_len h fun _ => rfl) (fun f cdv A outer s H vs Q E hr h => ?_)
  obtain ⟨⟨α, e, xs⟩, G, st, c, n, rest, rfl, r, d, hn, hl, al, k⟩ := h
  obtain ⟨v, rfl, hv⟩ := alr1 al
  have hl : xs.length ≤ 100000 := hl
  have hn : n + xs.length ≤ 1000000 := hn
  refine ⟨_, (pss_cons (ps_set (i := 2) sc_mixed.nd rfl (by first | exact Or.inl rfl | exact Or.inr rfl) (pe_callTy (call_listK (K := K)) rfl T.list boot_list (pa_cons (pv 1) pa_nil)))
      (pss_one (ps_ret (pe_lc (own := [("_law_k", 3)]) rfl sc_mixed.nd (pi_range1 rfl T.range (pa_cons (pe_callB (call_lenK (K := K)) rfl T.len PySem.boot_len (pa_cons (pv 2) pa_nil)) pa_nil)) (blkOk_by (by kernel_rfl)) (fun _ _ _ _ _ => (pg_name (i := 3) sc_mixed.nd rfl (by first | exact Or.inl rfl | exact Or.inr rfl))) (fun _ _ _ _ _ => pts_nil) (fun _ _ _ _ _ => (pe_bmK (K := K) PySem.F.plainAttrs_list PySem.F.slot_list_pop PySem.F.type_list_pop mt_popAt (pv 2) (pa_cons (C8.pe_c c_draw hr (by first | decide | omega) rfl (pa_cons (pv 0) (pa_cons (pe_callB (call_lenK (K := K)) rfl T.len PySem.boot_len (pa_cons (pv 2) pa_nil)) pa_nil))) pa_nil))))))), ?_⟩
  refine tq_setN (en_list (ev_var rfl hv)) r fun p G1 H1 g1 o1 => ?_
  have d1 := d.go g1
  have r1 := g1.r _ r
  obtain ⟨us, hp1, al1⟩ := o1.ex
  have nps : p ≠ st := fun z => by obtain ⟨o, h⟩ := d.hs; rw [← z, o1.n0] at h; cases h
  have npc : p ≠ c := fun z => by obtain ⟨o, h⟩ := d.hc; rw [← z, o1.n0] at h; cases h
  have hul : us.length = xs.length := al1.len
  -- range(len(left))
  refine ⟨.ref p, rfl, p, us, rfl, .inl (SqL.of hp1), (us.length : Int), rfl, by omega, by omega, fun D hD => ?_⟩
  have nDp : D ≠ p := fun z => by rw [z, hp1] at hD; cases hD
  have nDs : D ≠ st := fun z => by obtain ⟨o, h⟩ := d1.hs; rw [← z, hD] at h; cases h
  have nDc : D ≠ c := fun z => by obtain ⟨o, h⟩ := d1.hc; rw [← z, hD] at h; cases h
  have hDG : G1 D = none := r1.free hD
  refine ⟨fun i m H' => m = xs.length - i ∧ i ≤ xs.length ∧ ∃ G' left acc ls rs, GoS st c G H G' H' ∧ Dr st c (n + i) G' H' ∧ Rel true G' H' ∧ G' p = none ∧ G' D = none ∧ H' p = some (.lst left) ∧ H' D = some (.lst acc) ∧ Al e ls left G' ∧ Al e rs acc G' ∧ (rs ++ ls).Perm xs ∧ rs.length = i,
    ⟨xs.length, rfl, Nat.zero_le _, G1, us, [], xs, [], (g1.trans (Go.own r1 hD)).st, d1.wr nDs nDc, r1.own hDG, o1.nG, hDG, by rw [upd_ne nDp.symm]; exact hp1, upd_same, al1, .nil, .refl _, rfl⟩, ?_⟩
  rintro i m H' ⟨rfl, hi, G', left, acc, ls, rs, gq, dq, rq, np, nD, hp, hDD, al2, al3, perm, hlen⟩
  have hll : ls.length = xs.length - i := by
    have := perm.length_eq
    rw [List.length_append] at this
    omega
  by_cases hlt : i < xs.length
  · refine .inr ⟨by show i < _; omega, fun H' => ∃ G' left acc ls rs, GoS st c G H G' H' ∧ Dr st c (n + (i + 1)) G' H' ∧ Rel true G' H' ∧ G' p = none ∧ G' D = none ∧ H' p = some (.lst left) ∧ H' D = some (.lst acc) ∧ Al e ls left G' ∧ Al e rs acc G' ∧ (rs ++ ls).Perm xs ∧ rs.length = i + 1, fun H' h' => ⟨xs.length - (i + 1), by omega, rfl, hlt, h'⟩, fun x H'' y => ?_⟩
    obtain ⟨rfl, rfl⟩ := y
    refine ⟨rfl, ?_⟩
    refine yesI ?_
    refine ⟨.ref p, rfl, .inl ⟨rfl, left, SqL.of hp⟩, _, rfl, .ref p, rfl, p, left, rfl, .inl (SqL.of hp), left.length, G', st, c, n + i, [.int left.length], rfl, rq, dq, by show n + i + 1 ≤ 1000000; omega, ⟨by rw [al2.len]; omega, by rw [al2.len]; omega⟩, .cons rfl .nil, fun y G2 H2 g2 d2 r2 ⟨dd, hd, hy⟩ => ?_⟩
    obtain rfl : y = _ := hy
    have hdl : dd < ls.length := by rw [← al2.len]; exact hd
    have hp2 : H2 p = some (.lst left) := g2.h _ _ nps npc hp
    have hD2 : H2 D = some (.lst acc) := g2.h _ _ nDs nDc hDD
    have np2 : G2 p = none := (g2.n _ _ hp).trans np
    have nD2 : G2 D = none := (g2.n _ _ hDD).trans nD
    refine ⟨p, left, dd, dd, left[dd], rfl, rfl, hp2, by omega, by have : xs.length ≤ 100000 := hl; rw [al2.len] at hd; omega, (ixN_seq (by unfold ixN; rw [if_pos (by omega), if_pos (by omega)]; simp)).1, List.getElem?_eq_getElem hd, acc, by rw [upd_ne nDp]; exact hD2, ?_, ?_⟩
    · rw [al3.len]
      have : sizeLine = 16777216 := sizeLine_eq
      omega
    · obtain ⟨a0, ha0, pa0⟩ := al2.get (List.getElem?_eq_getElem hd)
      have k3 := gq.tr g2 d dq
      have w1 : Dr st c (n + (i + 1)) G2 (upd (upd H2 p (.lst (left.eraseIdx dd))) D (.lst (acc ++ [left[dd]]))) := (d2.wr nps npc).wr nDs nDc
      refine ⟨G2, left.eraseIdx dd, acc ++ [left[dd]], ls.eraseIdx dd, rs ++ [a0], ?_, w1, (r2.own np2).own nD2, np2, nD2, by rw [upd_ne nDp.symm]; exact upd_same, upd_same, (al2.st g2.g).erase dd, (al3.st g2.g).snoc ((e a0).st g2.g pa0), ?_, by rw [List.length_append, hlen]; rfl⟩
      · exact (k3.wr o1.n0 np2).wr (g1.free hD) nD2
      · rw [List.append_assoc]
        exact ((perm_pick ls dd a0 ha0).append_left rs).trans perm
  · have e0 : i = xs.length := by omega
    subst e0
    have els : ls = [] := List.length_eq_zero_iff.mp (by omega)
    subst els
    rw [List.append_nil] at perm
    refine .inl ⟨by show us.length ≤ _; omega, ?_⟩
    have hacc : acc.length ≤ sizeLine := by
      have : sizeLine = 16777216 := sizeLine_eq
      rw [al3.len]; omega
    exact k (.ref D) (upd G' D (.lst acc)) H' (gq.give (g1.free hD) nD hDD) (dq.give nDs nDc) (rq.give hDD) ⟨rs, perm, D, acc, rfl, upd_same, hacc, al3.st (Same.new nD)⟩
end
end Gd
-- part P9
set_option Elab.async false
set_option linter.all false
set_option maxRecDepth 100000
set_option maxHeartbeats 1000000
namespace Gd
open PySem PySem.Spec PyProof.Rows L2
abbrev s_d_names : Stmt := topS 56
theorem sc_d_names : FnScope ["_law_stream", "_law_many", "_law_some"] ["_law_stream", "_law_many"] (defScope s_d_names) := ⟨rfl, rfl, rfl, by decide +kernel, rfl, by decide +kernel, by decide +kernel⟩
section
variable {P : Program} {w : World} {K : PySem.W.Frag} {mg : Str → Option Value} {base : Heap} {aL : Addr}
def names10 : List Str := ["b", "aa", "c1", "docs", "z9", "a", "m3", "abcdefghijk1", "no", "yes"]
theorem names_ok : ∀ x ∈ names10, isName x = true := by decide +kernel
theorem names_nd : names10.Nodup := by decide +kernel
def goodN (ys : List Str) : Prop := ys.Nodup ∧ ∀ y ∈ ys, y ∈ names10
def sp_d_names : Sp := spD (fun m : Nat => [I m]) (fun m => m ≤ 10) (fun _ => 10) (fun m => ExR (fun ys => goodN ys ∧ ys.length = m) (Lst S))
theorem ok_d_names (F : Fn K mg "_law_d_names" s_d_names ["_law_stream", "_law_many"]) (T : Txt K mg aL) (c_mixed : C8.Cal P w K mg base 2 "_law_mixed" (sp_mixed K) []) : C8.Cal P w K mg base 3 "_law_d_names" sp_d_names [] := by
  refine cal_of F sc_d_names (fun vs H Q E h => spD_len h fun _ => rfl) (fun f cdv A outer s H vs Q E hr h => ?_)
  obtain ⟨m, G, st, c, n, rest, rfl, r, d, hn, hm, al, k⟩ := h
  obtain ⟨v, rfl, hv⟩ := alr1 al
  refine ⟨_, (pss_cons (ps_set (i := 2) sc_d_names.nd rfl (by first | exact Or.inl rfl | exact Or.inr rfl) (pe_lst (pa_cons pe_str (pa_cons pe_str (pa_cons pe_str (pa_cons pe_str (pa_cons pe_str (pa_cons pe_str (pa_cons pe_str (pa_cons pe_str (pa_cons pe_str (pa_cons pe_str pa_nil))))))))))))
      (pss_one (ps_ret (pe_slice (sl_lK (K := K)) (C8.pe_c c_mixed hr (by first | decide | omega) rfl (pa_cons (pv 0) (pa_cons (pv 2) pa_nil))) po_none (po_some (pv 1)))))), ?_⟩
  refine tq_set (EvN.ev (en_lst (e := S) (xs := names10) ?_ (by decide))) r fun u G1 H1 g1 hu => ?_
  · show EvA _ _ _ _ [_, _, _, _, _, _, _, _, _, _]
    exact ea_cons ev_str (ea_cons ev_str (ea_cons ev_str (ea_cons ev_str (ea_cons ev_str (ea_cons ev_str (ea_cons ev_str (ea_cons ev_str (ea_cons ev_str (ea_cons ev_str ea_nil)))))))))
  have d1 := d.go g1
  have r1 := g1.r _ r
  refine td_ret (s := st) (c := c) (k := 10) (R := ExR (fun ys => goodN ys ∧ ys.length = m) (Lst S)) (fun G1' H1' n a r d hn Q q => ?_) r1 d1 hn fun v G2 H2 g2 d2 r2 p => k v G2 H2 (g1.st.tr g2 d d1) d2 r2 p
  refine EvD.run (t := tCall (sp_mixed K) [] C8.E0 (tCons (tVar 0) (tCons (tVar 2) tNil))) (ed_call (ι := PickI) ⟨Str, S, names10⟩ rfl (ea_cons (Ev.sqL (ev_var rfl ((Lst S names10).st a hu))) ea_nil) (by show 10 ≤ 100000; decide)) r d hn fun y G2 H2 g d2 r2 ⟨ys, hperm, hy⟩ => ?_
  have hperm : ys.Perm names10 := hperm
  refine Ev.run (b := true) (t := tSl (rSlL K) (tC y) tNoPart (tPart (tVar 1))) (EvN.ev (en_takeL (n := m) (ev_cR hy) (eo_some (ev_var rfl hv)))) r2 fun u G3 H3 g3 p => EvD.fin q d g d2 r2 g3 ⟨ys.take m, ⟨⟨?_, fun x hx => hperm.mem_iff.mp (List.mem_of_mem_take hx)⟩, by have hm : m ≤ 10 := hm; have e : ys.length = 10 := hperm.length_eq; rw [List.length_take, e]; omega⟩, p⟩
  exact List.Nodup.sublist (List.take_sublist m ys) (hperm.nodup_iff.mpr names_nd)
end
end Gd
-- part P10
set_option Elab.async false
set_option linter.all false
set_option maxRecDepth 100000
set_option maxHeartbeats 1000000
-- part P11
set_option Elab.async false
set_option linter.all false
set_option maxRecDepth 100000
set_option maxHeartbeats 1000000
namespace Gd
open PySem PySem.Spec PyProof.Rows L2
abbrev s_loose : Stmt := topS 55
theorem sc_loose : FnScope ["_law_stream", "_law_thing", "_law_found", "_law_part"] ["_law_stream", "_law_thing"] (defScope s_loose) := ⟨rfl, rfl, rfl, by decide +kernel, rfl, by decide +kernel, by decide +kernel⟩
section
variable {P : Program} {w : World} {K : PySem.W.Frag} {mg : Str → Option Value} {base : Heap} {aL : Addr}
inductive Lo (K : PySem.W.Frag) : Nat → SR → Nat → Prop
  | s {n m : Nat} (x : Str) : Lo K n (S x) m
  | q {n m : Nat} {α : Type} {e : α → SR} {xs : List α} : (∀ x ∈ xs, Lo K n (e x) m) → Lo K (n + 1) (Sq K e xs) (xs.length * m + 1)
def sp_loose (K : PySem.W.Frag) (n : Nat) : Sp := spD (fun i : SR × Nat => [i.1]) (fun i => Lo K n i.1 i.2) (fun i => i.2) (fun i => i.1)
theorem ed_loose {s c : Addr} {σ : L2.St} {G : Hp} {ta : TE} {E : XK} {i j m : Nat} {R : SR} (hs : σ[i]? = some (some (.ref s))) (h : Ev true ta σ G R) (hl : Lo K j R m) : EvD s c m (tCall (sp_loose K j) [] E (tCons (tVar i) (tCons ta tNil))) σ G R := ed_call (ι := SR × Nat) (pre := fun i => [i.1]) (ok := fun i => Lo K j i.1 i.2) (cost := fun i => i.2) (post := fun i => i.1) (R, m) hs (ea_cons h ea_nil) hl
theorem ok_loose0 (F : Fn K mg "_law_loose" s_loose ["_law_stream", "_law_thing"]) (T : Txt K mg aL) (c_draw : C8.Cal P w K mg base 1 "_law_draw" sp_draw []) : C8.Cal P w K mg base 2 "_law_loose" (sp_loose K 0) [] := by
  refine cal_of F sc_loose (fun vs H Q E h => spD_len h fun _ => rfl) (fun f cdv A outer s H vs Q E hr h => ?_)
  obtain ⟨⟨R, m⟩, G, st, c, n, rest, rfl, r, d, hn, hR, al, k⟩ := h
  obtain ⟨v, rfl, hv⟩ := alr1 al
  refine ⟨_, (pss_cons (ps_if (pt_not (pt_val (pe_callB (call_isiTK (K := K)) rfl T.isinstance boot_isinstance (pa_cons (pv 1) (pa_cons (pe_tup (pa_cons (pe_bltn (v := .ty "list") rfl T.list boot_list rfl) (pa_cons (pe_bltn (v := .ty "tuple") rfl T.tuple boot_tuple rfl) pa_nil))) pa_nil))))) (pss_one (ps_ret (pv 1))) pss_nil)
      pss_never), ?_⟩
  cases hR with
  | s x =>
    refine ts_ifT (t := tRet _) (EvT.eq (et_not (et_B (ev_isiLT0 (ev_var rfl hv) hty_S))) rfl) r fun G1 H1 g1 => ?_
    exact ⟨_, rfl, k v G1 H1 g1.st ((d.go g1).le (Nat.le_add_right _ _)) (g1.r _ r) ((S x).st g1.g hv)⟩
theorem ok_looseS {j : Nat} (F : Fn K mg "_law_loose" s_loose ["_law_stream", "_law_thing"]) (T : Txt K mg aL) (c_draw : C8.Cal P w K mg base 1 "_law_draw" sp_draw []) (c_loose : C8.Cal P w K mg base (j + 2) "_law_loose" (sp_loose K j) []) : C8.Cal P w K mg base (j + 3) "_law_loose" (sp_loose K (j + 1)) [] := by
  refine cal_of F sc_loose (fun vs H Q E h => spD_len h fun _ => rfl) (fun f cdv A outer s H vs Q E hr h => ?_)
  obtain ⟨⟨R, m⟩, G, st, c, n, rest, rfl, r, d, hn, hR, al, k⟩ := h
  obtain ⟨v, rfl, hv⟩ := alr1 al
  refine ⟨_, (pss_cons (ps_if (pt_not (pt_val (pe_callB (call_isiTK (K := K)) rfl T.isinstance boot_isinstance (pa_cons (pv 1) (pa_cons (pe_tup (pa_cons (pe_bltn (v := .ty "list") rfl T.list boot_list rfl) (pa_cons (pe_bltn (v := .ty "tuple") rfl T.tuple boot_tuple rfl) pa_nil))) pa_nil))))) (pss_one (ps_ret (pv 1))) pss_nil)
      (pss_cons (ps_setLc (i := 2) (own := [("_law_part", 3)]) rfl sc_loose.nd rfl rfl (sw_true rfl rfl rfl (by decide +kernel)) (pi_seqK (K := K) (pv 1)) (blkOk_by (by kernel_rfl)) (fun _ _ _ _ _ => (pg_name (i := 3) sc_loose.nd rfl (by first | exact Or.inl rfl | exact Or.inr rfl))) (fun _ _ _ _ _ => pts_nil) (fun _ _ _ _ _ => (C8.pe_c c_loose hr (by first | decide | omega) rfl (pa_cons (pv 0) (pa_cons (pv 3) pa_nil)))))
      (pss_one (ps_ret (pe_ifExp (pt_cmpR op_eq (C8.pe_c c_draw hr (by first | decide | omega) rfl (pa_cons (pv 0) (pa_cons pe_int pa_nil))) pe_int (nomark _)) (pv 2) (pe_callTy (call_tupK (K := K)) rfl T.tuple boot_tuple (pa_cons (pv 2) pa_nil))))))), ?_⟩
  cases hR with
  | s x =>
    refine ts_ifT (t := tRet _) (EvT.eq (et_not (et_B (ev_isiLT0 (ev_var rfl hv) hty_S))) rfl) r fun G1 H1 g1 => ?_
    exact ⟨_, rfl, k v G1 H1 g1.st ((d.go g1).le (Nat.le_add_right _ _)) (g1.r _ r) ((S x).st g1.g hv)⟩
  | q hx =>
    rename_i m α e xs
    have hn : n + (xs.length * m + 1) ≤ 1000000 := hn
    refine tq_ifF (EvT.eq (et_not (et_B (ev_isiSq (ev_var rfl hv)))) rfl) r fun G1 H1 g1 => ?_
    have hv1 := (Sq K e xs).st g1.g hv
    have d1 := d.go g1
    have r1 := g1.r _ r
    refine tdq_set (s := st) (c := c) (k := xs.length * m) (ed_map (er := e) (fn := fun a => a) (ei_sq (ev_var rfl hv1)) fun a ha x G' s' hx' => ⟨_, gto_name, rfl, ed_loose rfl (ev_var rfl hx') (hx a ha)⟩) r1 d1 (by omega) fun u G2 H2 g2 d2 r2 hu => ?_
    rw [List.map_id'] at hu
    have k2 := g1.st.tr g2 d d1
    have d2 : Dr st c (n + xs.length * m) G2 H2 := d2
    refine td_ret (s := st) (c := c) (k := 1) (R := Sq K e xs) (fun G3 H3 n3 a3 r3 d3 hn3 Q3 q3 => ?_) r2 d2 (by omega) fun w G4 H4 g4 d4 r4 p4 => k w G4 H4 (k2.tr g4 d d2) d4 r4 p4
    refine EvD.run (t := tCall sp_draw [] C8.E0 (tCons (tVar 0) (tCons (tC (.int 3)) tNil))) (ed_call (ι := Nat) 3 rfl (ea_cons ev_int ea_nil) ⟨by decide, by decide⟩) r3 d3 hn3 fun z G4 H4 g4 d4 r4 ⟨dd, hd, hz⟩ => ?_
    obtain rfl : z = _ := hz
    refine ⟨rfl, _, rfl, ?_⟩
    dsimp only
    have hu4 := (Lst e xs).st (a3.trans g4.g) hu
    by_cases h0 : V.int ((dd : Nat) : Int) = V.int 0
    · rw [if_pos (decide_eq_true h0)]
      exact ⟨u, rfl, q3 u G4 H4 g4 d4 r4 (.inl hu4)⟩
    · rw [if_neg (by simpa using h0)]
      exact (ev_tupleL (ev_var rfl hu4)).run r4 fun w G5 H5 g5 p => EvD.fin q3 d3 g4 d4 r4 g5 (.inr p)
end
end Gd
-- part P12
set_option Elab.async false
set_option linter.all false
set_option maxRecDepth 100000
set_option maxHeartbeats 1000000
namespace Gd
open PySem PySem.Spec PyProof.Rows L2
theorem nodup_len {α : Type} [DecidableEq α] : ∀ {l cs : List α}, l.Nodup → (∀ x ∈ l, x ∈ cs) → l.length ≤ cs.length
  | [], _, _, _ => Nat.zero_le _
  | x :: l, cs, nd, h => by
    obtain ⟨n1, n2⟩ := List.nodup_cons.mp nd
    have hx : x ∈ cs := h x (List.mem_cons_self ..)
    have := nodup_len (cs := cs.erase x) n2 fun y hy => (List.mem_erase_of_ne (fun e => n1 (by rw [← e]; exact hy))).mpr (h y (List.mem_cons_of_mem _ hy))
    rw [List.length_erase_of_mem hx] at this
    have hp : 0 < cs.length := List.length_pos_of_mem hx
    rw [List.length_cons]
    omega
end Gd
-- part P13
set_option Elab.async false
set_option linter.all false
set_option maxRecDepth 100000
set_option maxHeartbeats 1000000
namespace Gd
open PySem PySem.Spec PyProof.Rows L2
section
variable {P : Program} {w : World} {K : PySem.W.Frag} {mg : Str → Option Value} {base : Heap} {aL : Addr}
theorem ok_loose (F : Fn K mg "_law_loose" s_loose ["_law_stream", "_law_thing"]) (T : Txt K mg aL) (c_draw : C8.Cal P w K mg base 1 "_law_draw" sp_draw []) : ∀ n, C8.Cal P w K mg base (n + 2) "_law_loose" (sp_loose K n) [] --
  | 0 => ok_loose0 F T c_draw
  | n + 1 => ok_looseS F T c_draw (ok_loose F T c_draw n)
theorem gName_I {i : Nat} {x : V} {σ : L2.St} {H : Hp} {Q : L2.St → Hp → Prop} (h : Q (σ.set i (some x)) H) : gName i x σ H Q := h
end
end Gd
-- part M1
set_option Elab.async false
set_option linter.all false
set_option maxRecDepth 100000
set_option maxHeartbeats 1000000
namespace Gd
open PySem PySem.Spec PyProof.Rows L2
theorem map_nodup {α β : Type} {f : α → β} {xs : List α} (h : ∀ a ∈ xs, ∀ b ∈ xs, f a = f b → a = b) (nd : xs.Nodup) : (xs.map f).Nodup := by
  induction xs with
  | nil => exact List.nodup_nil
  | cons x xs ih =>
    obtain ⟨n1, n2⟩ := List.nodup_cons.mp nd
    rw [List.map_cons, List.nodup_cons]
    refine ⟨fun hm => ?_, ih (fun a ha b hb => h a (List.mem_cons_of_mem _ ha) b (List.mem_cons_of_mem _ hb)) n2⟩
    obtain ⟨y, hy, e⟩ := List.mem_map.mp hm
    have := h y (List.mem_cons_of_mem _ hy) x (List.mem_cons_self ..) e
    exact n1 (this ▸ hy)
end Gd
-- part M2
set_option Elab.async false
set_option linter.all false
set_option maxRecDepth 100000
set_option maxHeartbeats 1000000
-- part Q4a
set_option Elab.async false
set_option linter.all false
set_option maxRecDepth 100000
set_option maxHeartbeats 1000000
namespace Gd
open PySem PySem.Spec PyProof.Rows L2
section
variable {X : Cx}
theorem pe_lx {A : Around} {outer : List Env} {s : Shared} {H : Hp} {E : XK} {scope : Scope} {f c' : Addr} {k j : Nat} {x : Str} {ps : List Str} {sp : Sp} {e : Expr} {es : List Expr} {ta : TA} {p pos : Pos} (c : CalX X.prog X.w X.K X.mg X.base k x ps sp) (hr : Room j (A.deeper (LamX.lamEnv X scope s.heap.objs.size f c'))) (hk : k ≤ j)
    (hg : Gl (LamX.lamCx X A outer s H E scope f c') x) (ha : PA (LamX.lamCx X A outer s H E scope f c') (e :: es) ta) (hdb : (x == ("__debug__" : Str)) = false := by decide)
    (he : starEach (e :: es) (LamX.lamCx X A outer s H E scope f c').env = (false, eval e (LamX.lamCx X A outer s H E scope f c').env) :: starEach es (LamX.lamCx X A outer s H E scope f c').env := by rfl) (hpl : (backTo pos (starEach es (LamX.lamCx X A outer s H E scope f c').env)).any (·.1) = false := by rfl) :
    PE (LamX.lamCx X A outer s H E scope f c') (.Call (.Name x p) (e :: es) [] pos) (tCall sp [] E ta) :=
  pe_cx (X := LamX.lamCx X A outer s H E scope f c') c hr hk hg (lam_pass (X := X)) ha hdb he hpl
end
end Gd
-- part Gd47
set_option Elab.async false
set_option linter.all false
set_option maxRecDepth 100000
set_option maxHeartbeats 1000000
namespace PySem
open Sem (wp)
namespace FnT
open PySem.F
theorem qFn : Slot "function" "__eq__" "object.__eq__" := .of (owner := "object") (n := "__eq__") (by rw [typeLookup_type, builtinLookup_eq_fast]; kernel_rfl) (by decide +kernel) (by decide +kernel) (by decide +kernel) (by first | exact .inl (by decide +kernel) | exact .inr (by decide +kernel)) (by rw [isSubtype_type]; kernel_rfl)
theorem selfEq {prog : Program} {w : World} {A : Around} {E : Value → Shared → Prop} {s : Shared} {a : Addr} {o : Obj} {Q : Value → Shared → Prop} (hx : s.heap.get? a = some o) (hc : o.cls = .type "function") (hu : A.units < cLine) (hq : Q (.bool true) s) : wpAny (model prog w) A (richCompare .Eq (.ref a) (.ref a)) Q E s := by
  have hT : s.TypeIs (.ref a) "function" := ⟨_, hx, hc⟩
  refine wpAny_richCompare_same_room (T := "function") (id := "object.__eq__") hT hT qFn ?_ hu
  refine wpAny_call_entry qFn hT F.cmpEntry_eq ?_ (F.cmpArgs_eq _ _)
  exact objEq_entry_same ⟨.bool true, rfl, by simp, hq⟩
end FnT
end PySem
namespace Gd
open PySem PySem.Spec PyProof.Rows L2
def FnV (K : PySem.W.Frag) (v : V) : Prop := ∃ g oc od fd sl, v = .ref g ∧ K.lookup g = some ⟨oc, od, .func fd, sl⟩ ∧ oc = .type "function"
def TyY (K : PySem.W.Frag) (H : Hp) (v : V) (t : Value) : Prop := TyX K H v t ∨ (FnV K v ∧ t = .type "function")
def rIsiY (K : PySem.W.Frag) : List V → Hp → VK → Prop := fun xs H Q => ∃ (x c : V) (t u : Value) (b : Bool), xs = [x, c] ∧ ClsV c u ∧ TyY K H x t ∧ PySem.W.kitOne K t u = some b ∧ Q (.bl b) H
def rIsiTY (K : PySem.W.Frag) : List V → Hp → VK → Prop := fun xs H Q => ∃ (x : V) (tp : Addr) (cs : List V) (t : Value) (us : List Value) (b : Bool), xs = [x, .ref tp] ∧ H tp = some (.tup cs) ∧ Paired ClsV cs us ∧ TyY K H x t ∧ PySem.W.kitAny K t us = some b ∧ Q (.bl b) H
def rEqF (K : PySem.W.Frag) : R2 := fun x y H Q => x = y ∧ FnV K x ∧ Q (.bl true) H
section
variable {X : Cx} {K : PySem.W.Frag}
theorem call_isiY (hK : X.K = K := by rfl) : CallR X (.builtin "isinstance") (rIsiY K) := by
  subst hK
  intro pins s σ H xs us Q I r h
  obtain ⟨x, c, t, u, b, rfl, hc, hT | ⟨⟨g, oc, od, fd, sl, rfl, hk, hoc⟩, rfl⟩, e, q⟩ := h
  · exact call_isi pins s σ H [x, c] us Q I r ⟨x, c, t, u, b, rfl, hc, hT, e, q⟩
  · obtain ⟨u1, u2, rfl, r1, r2⟩ := vals2 r
    cases (show u1 = Value.ref g from r1)
    have e2 := hc.eq r2
    subst e2
    exact PySem.W.kia_one PySem.FnT.kitx_fn I.kIn ⟨_, I.kIn _ _ hk, hoc⟩ e (fun z => nomatch z) fun tk => ⟨.bl b, H, I.tok tk, rfl, q⟩
theorem call_isiTY (hK : X.K = K := by rfl) : CallR X (.builtin "isinstance") (rIsiTY K) := by
  subst hK
  intro pins s σ H xs us Q I r h
  obtain ⟨x, tp, cs, t, ws, b, rfl, hT, k, hY | ⟨⟨g, oc, od, fd, sl, rfl, hk, hoc⟩, rfl⟩, e, q⟩ := h
  · exact call_isiT pins s σ H _ us Q I r ⟨x, tp, cs, t, ws, b, rfl, hT, k, hY, e, q⟩
  · obtain ⟨u1, u2, rfl, r1, r2⟩ := vals2 r
    cases (show u1 = Value.ref g from r1)
    cases (show u2 = Value.ref tp from r2)
    obtain ⟨_, its, rv, o, h1, h2, n, h3⟩ := (show ObjOk X.prog X.w H s.heap tp (.tup cs) from I.hok tp _ hT)
    have e3 := ClsV.all k rv
    subst e3
    obtain ⟨oc', od', dt, sl⟩ := o
    simp only at h2 h3
    subst h2 h3
    exact PySem.W.kia_tup PySem.FnT.kitx_fn I.kIn ⟨_, I.kIn _ _ hk, hoc⟩ h1 e (fun z => nomatch z) fun tk => ⟨.bl b, H, I.tok tk, rfl, q⟩
theorem op_eqF (hu : X.A.units < cLine) (hK : X.K = K := by rfl) : OpR X (compareOp .Eq) (rEqF K) := by
  subst hK
  intro pins s σ H x y v u Q I rx ry h
  obtain ⟨rfl, ⟨g, oc, od, fd, sl, rfl, hk, hoc⟩, q⟩ := h
  cases (show v = Value.ref g from rx)
  cases (show u = Value.ref g from ry)
  exact PySem.FnT.selfEq (I.kIn _ _ hk) hoc hu ⟨.bl true, H, I, rfl, q⟩
end
structure OwnEqR (P : Program) (w : World) (K : PySem.W.Frag) (mg : Str → Option Value) (base : Heap) (k : Nat) (C : Addr) (R : Addr → Addr → Hp → Prop) : Prop where
  ex : ∃ f fd, PySem.W.findIn K (.ref C) "__eq__" = some (some (.ref f)) ∧ PySem.W.isFn K (.ref f) = true ∧ FnOk P w K mg base C8.CX0 k f fd ["self", "other"] (spEq R) ∧ Binds K fd ["self", "other"] []
theorem op_eqOwn {X : Cx} {k j : Nat} {C : Addr} {R : Addr → Addr → Hp → Prop} (c : OwnEqR X.prog X.w X.K X.mg X.base k C R) (hr : Room j X.A) (hk : k ≤ j) : OpR X (compareOp .Eq) (rEqG (DIns C R)) := by
  obtain ⟨f, fd, h1, h2, F, hb⟩ := c.ex
  exact op_eqG (rcG_ins (E := C8.E0) F h1 h2 hb C8.pass0) (hr.mono hk)
def rEqX (K : PySem.W.Frag) (D : Eqv) : R2 := fun x y H Q => rEq x y H Q ∨ (rEqG D x y H Q ∨ rEqF K x y H Q)
structure AtOk (K : PySem.W.Frag) (D : Eqv) (R : SR) : Prop where
  ty : ∀ v b G H, Rel b G H → R.p v G → ∃ t, TyY K H v t ∧ PySem.W.kitOne K t (.type "int") = some false ∧ PySem.W.kitOne K t (.type "list") = some false ∧ PySem.W.kitOne K t (.type "tuple") = some false ∧ PySem.W.kitOne K t (.type "dict") = some false
  eq : ∀ u v G H, Rel true G H → R.p u G → R.p v G → (scal u v = true ∧ u = v) ∨ D u v H ∨ (u = v ∧ FnV K u)
inductive SmS (K : PySem.W.Frag) (At' : SR → Prop) (Z : SR → Prop) : SR → Prop
  | s (x : Str) : SmS K At' Z (S x)
  | i (x : Int) : SmS K At' Z (I x)
  | b (x : Bool) : SmS K At' Z (B x)
  | a {R : SR} : At' R → SmS K At' Z R
  | l {α : Type} {e : α → SR} {xs : List α} : (∀ x ∈ xs, Z (e x)) → SmS K At' Z (Lst e xs)
  | t {α : Type} {e : α → SR} {xs : List α} : (∀ x ∈ xs, Z (e x)) → SmS K At' Z (Tpl K e xs)
  | p {α β : Type} {e : α → SR} {f : β → SR} {x : α × β} : Z (e x.1) → Z (f x.2) → SmS K At' Z (Pr K e f x)
  | d {α : Type} {e : α → SR} {kvs : List (Str × α)} : (∀ p ∈ kvs, okS p.1 = true) → Z (Lst (Pr K S e) kvs) → SmS K At' Z (Dct e kvs)
def SmN (K : PySem.W.Frag) (At' : SR → Prop) : Nat → SR → Prop
  | 0 => fun _ => False
  | n + 1 => SmS K At' (SmN K At' n)
theorem SmN.succ {K : PySem.W.Frag} {At' : SR → Prop} : ∀ {n : Nat} {R : SR}, SmN K At' n R → SmN K At' (n + 1) R
  | 0, _, h => h.elim
  | n + 1, R, h => by
    have h : SmS K At' (SmN K At' n) R := h
    show SmS K At' (SmN K At' (n + 1)) R
    cases h with
    | s x => exact .s x
    | i x => exact .i x
    | b x => exact .b x
    | a q => exact .a q
    | l q => exact .l fun x hx => SmN.succ (q x hx)
    | t q => exact .t fun x hx => SmN.succ (q x hx)
    | p h1 h2 => exact .p (SmN.succ h1) (SmN.succ h2)
    | d h1 h2 => exact .d h1 (SmN.succ h2)
theorem SmN.le {K : PySem.W.Frag} {At' : SR → Prop} {n m : Nat} {R : SR} (h : SmN K At' n R) (q : n ≤ m) : SmN K At' m R := by
  induction q with
  | refl => exact h
  | step _ ih => exact ih.succ
def sp_sameZ (K : PySem.W.Frag) (Z : SR → Prop) : Sp := spF true (fun R : SR => [R, R]) Z (fun _ => B true)
abbrev sp_sameX (K : PySem.W.Frag) (At' : SR → Prop) (n : Nat) : Sp := sp_sameZ K (SmN K At' n)
section
variable {K : PySem.W.Frag} {b : Bool} {σ : L2.St} {G H : Hp} {ta tb te : TE} {α β : Type} {e : α → SR} {f : β → SR} {R : SR}
theorem ev_isiY {t : String} {r : Bool} (ha : Ev b ta σ G R) (ht : ∀ v b G H, Rel b G H → R.p v G → ∃ tt, TyY K H v tt ∧ PySem.W.kitOne K tt (.type t) = some r) : Ev b (tCB (rIsiY K) (tCons ta (tCons (tC (.ty t)) tNil))) σ G (B r) := fun G1 H1 a rr Q k => ha G1 H1 a rr _ fun u G2 H2 g p => by
  obtain ⟨tt, h1, h2⟩ := ht u b G2 H2 (g.r _ rr) p
  exact ⟨u, .ty t, tt, .type t, r, rfl, .ty t, h1, h2, k _ G2 H2 g rfl⟩
theorem kitAny_all {K : PySem.W.Frag} {t : Value} : ∀ us : List Value, (∀ u ∈ us, PySem.W.kitOne K t u = some false) → PySem.W.kitAny K t us = some false
  | [], _ => kitAny_nil
  | u :: us, h => kitAny_cons (h u (List.mem_cons_self ..)) (fun _ => kitAny_all us fun v hv => h v (List.mem_cons_of_mem _ hv)) (fun z => by cases z)
theorem ev_isiTY2 {r : Bool} (ha : Ev b ta σ G R) (ht : ∀ v b G H, Rel b G H → R.p v G → ∃ tt, TyY K H v tt ∧ PySem.W.kitAny K tt [.type "list", .type "tuple"] = some r) : Ev b (tCB (rIsiTY K) (tCons ta (tCons (tTup (tCons (tC (.ty "list")) (tCons (tC (.ty "tuple")) tNil))) tNil))) σ G (B r) := fun G1 H1 a rr Q k => ha G1 H1 a rr _ fun u G2 H2 g p => by
  refine ⟨(by show 2 ≤ sizeLine; decide), fun p' hp => ?_⟩
  have r2 := g.r _ rr
  have gn := Go.new r2 (o := .tup [.ty "list", .ty "tuple"]) hp
  obtain ⟨tt, h1, h2⟩ := ht u b _ _ (gn.r _ r2) (R.st gn.g p)
  exact ⟨u, p', _, tt, _, r, rfl, upd_same, .cons (.ty _) (.cons (.ty _) .nil), h1, h2, k _ _ _ (g.trans gn) rfl⟩
theorem ev_isiTY4 {r : Bool} (ha : Ev b ta σ G R) (ht : ∀ v b G H, Rel b G H → R.p v G → ∃ tt, TyY K H v tt ∧ PySem.W.kitAny K tt [.type "int", .type "list", .type "tuple", .type "dict"] = some r) : Ev b (tCB (rIsiTY K) (tCons ta (tCons (tTup (tCons (tC (.ty "int")) (tCons (tC (.ty "list")) (tCons (tC (.ty "tuple")) (tCons (tC (.ty "dict")) tNil))))) tNil))) σ G (B r) := fun G1 H1 a rr Q k => ha G1 H1 a rr _ fun u G2 H2 g p => by
  refine ⟨(by show 4 ≤ sizeLine; decide), fun p' hp => ?_⟩
  have r2 := g.r _ rr
  have gn := Go.new r2 (o := .tup [.ty "int", .ty "list", .ty "tuple", .ty "dict"]) hp
  obtain ⟨tt, h1, h2⟩ := ht u b _ _ (gn.r _ r2) (R.st gn.g p)
  exact ⟨u, p', _, tt, _, r, rfl, upd_same, .cons (.ty _) (.cons (.ty _) (.cons (.ty _) (.cons (.ty _) .nil))), h1, h2, k _ _ _ (g.trans gn) rfl⟩
theorem tyY_ty {T t : String} {r : Bool} (h : HasTy K R T) (hk : kitB T t = some r := by decide +kernel) : ∀ v b G H, Rel b G H → R.p v G → ∃ tt, TyY K H v tt ∧ PySem.W.kitOne K tt (.type t) = some r := fun v b G H r p => ⟨.type T, .inl (h v b G H r p), kit_ty hk⟩
theorem ev_eqX {D : Eqv} (A : AtOk K D R) (ha : Ev true ta σ G R) (hb : Ev true tb σ G R) : Ev true (tOp (rEqX K D) ta tb) σ G (B true) := ev_op ha hb fun x y G1 H1 _ r px py Q k => by
  rcases A.eq x y G1 H1 r px py with ⟨h1, rfl⟩ | h | ⟨rfl, h⟩
  · exact .inl ⟨h1, by rw [decide_eq_true rfl]; exact k _ G1 H1 (Go.refl _ _) rfl⟩
  · exact .inr (.inl ⟨h, fun H' e => k _ G1 H' ⟨Same.refl _, e, fun a o h1 h2 => (by rw [h1] at h2; cases h2), fun _ _ _ => rfl, fun a o h1 h2 => (by rw [h1] at h2; cases h2)⟩ rfl⟩)
  · exact .inr (.inr ⟨rfl, h, k _ G1 H1 (Go.refl _ _) rfl⟩)
theorem ev_eqXs {D : Eqv} {c : Bool} {R' : SR} (ha : Ev b ta σ G R) (hb : Ev b tb σ G R') (h : ∀ x y G, R.p x G → R'.p y G → scal x y = true ∧ decide (x = y) = c) : Ev b (tOp (rEqX K D) ta tb) σ G (B c) := ev_opP ha hb fun x y G1 H1 _ r px py => ⟨_, rfl, fun Q q => .inl ⟨(h x y G1 px py).1, by rw [(h x y G1 px py).2]; exact q⟩⟩
theorem ald_items {G G' : Hp} (s : Same G G') : ∀ {kv : List (Str × α)} {vs : List (Key × V)} {ts : List Addr}, AlD e kv vs G → Paired (fun (t : Addr) (q : Key × V) => G' t = some (.tup [kV q.1, q.2])) ts vs → (∀ p ∈ kv, okS p.1 = true) → Al (Pr K S e) kv (ts.map V.ref) G'
  | _, _, _, .nil, .nil, _ => .nil
  | _, _, _, .cons hq ald, .cons h1 h2, hok => .cons ⟨_, _, _, rfl, SqT.of h1, ⟨rfl, hok _ (List.mem_cons_self ..)⟩, (e _).st s hq⟩ (ald_items s ald h2 fun p hp => hok p (List.mem_cons_of_mem _ hp))
theorem en_listItems {kvs : List (Str × α)} (ha : Ev true ta σ G (Dct e kvs)) (hok : ∀ p ∈ kvs, okS p.1 = true) : EvN true (LiI.tListItems ta) σ G (Pr K S e) kvs := fun G1 H1 a r Q k => ha G1 H1 a r _ fun u G2 H2 g p => by
  obtain ⟨d, vs, rfl, hd, hl, ald⟩ := p
  have r2 := g.r _ r
  refine ⟨d, vs, rfl, r2.ex hd, fun H' p ts hs hp ht hpt hp' hts => ?_⟩
  have tup : ∀ t ∈ ts, ∃ xs, H' t = some (.tup xs) := fun t h => by
    obtain ⟨j, q, _, _, e3⟩ := LiI.paired_ix hts h
    exact ⟨_, e3⟩
  have out : ∀ {a : Addr} {o : HO}, H2 a = some o → a ∉ ts := fun {a} {o} h z => by rw [ht a z] at h; cases h
  have gg : Go G2 H2 (fun a => if a ∈ ts then H' a else G2 a) H' := by
    refine ⟨fun a o h => ?_, hs, fun a o h1 h2 => ?_, fun a o h => ?_, fun a o h1 h2 => ?_⟩
    · show (if a ∈ ts then H' a else G2 a) = some o
      rw [if_neg (out (r2.ex h))]
      exact h
    · have h2 : (if a ∈ ts then H' a else G2 a) = some o := h2
      by_cases z : a ∈ ts
      · rw [if_pos z] at h2
        exact h2
      · rw [if_neg z, h1] at h2
        cases h2
    · show (if a ∈ ts then H' a else G2 a) = G2 a
      rw [if_neg (out h)]
    · have h2 : (if a ∈ ts then H' a else G2 a) = some o := h2
      by_cases z : a ∈ ts
      · rw [if_pos z] at h2
        obtain ⟨xs, e⟩ := tup a z
        rw [e] at h2
        cases h2
        rfl
      · rw [if_neg z, h1] at h2
        cases h2
  have e1 := congrArg List.length ald.keys
  rw [List.length_map, List.length_map, List.length_map] at e1
  have hlen : (ts.map V.ref).length ≤ sizeLine := by
    rw [List.length_map, hts.length]
    exact hl
  refine k p (ts.map V.ref) _ H' (g.trans gg) (g.free hp) (by show (if p ∈ ts then H' p else G2 p) = none; rw [if_neg hpt]; exact r2.free hp) hp' hlen ?_
  have h9 : ∀ (ts' : List Addr) (vs' : List (Key × V)), (∀ t ∈ ts', t ∈ ts) → Paired (fun (t : Addr) (q : Key × V) => H' t = some (.tup [kV q.1, q.2])) ts' vs' → Paired (fun (t : Addr) (q : Key × V) => (if t ∈ ts then H' t else G2 t) = some (.tup [kV q.1, q.2])) ts' vs' := by
    intro ts' vs' hsub hpd
    induction hpd with
    | nil => exact .nil
    | cons h1 h2 ih => exact .cons (by rw [if_pos (hsub _ (List.mem_cons_self ..))]; exact h1) (ih fun t ht => hsub t (List.mem_cons_of_mem _ ht))
  exact ald_items gg.g ald (h9 ts vs (fun _ h => h) hts) hok
end
end Gd
-- part Gd48
set_option Elab.async false
set_option linter.all false
set_option maxRecDepth 100000
set_option maxHeartbeats 1000000
namespace Gd
open PySem PySem.Spec PyProof.Rows L2
universe u
section
variable {K : PySem.W.Frag} {W : SC} {G0 : Hp} {n k m : Nat} {O O' L : Own} {Rs Rs' : RL} {R : SR} {te ta tb to : TE} {tr : TA} {t u : TS} {D : Ends} {α β : Type} {e : α → SR} {xs : List α} {p : Addr} {i j : Nat} {ι : Type u} {pre : ι → List SR} {ok : ι → Prop} {C : Addr} {f told word : Str} {val : ι → SR}
abbrev PW (K : PySem.W.Frag) (word : Str) (R : SR) : SR := Pr K S (fun R : SR => R) (word, R)
theorem el_metX (i : ι) (ha : EAL W O k tr Rs (pre i)) (hok : ok i) (hw : okS word = true := by decide +kernel) : EL W O k (LamX.tLam W.tb (TMet C f told word) (fun E => tCall (spXM W.tb pre ok C f val) [] E tr)) Rs (PW K word (val i)) := fun σ G H n Q sl w hn kk => by
  refine ⟨w.tb, fun H1 e t1 => ?_⟩
  have w1 : Wd W n O G H1 := w.gx (GoX.ext e) t1
  show tCall (spXM W.tb pre ok C f val) [] (exIn C f word Q) tr σ H1 _
  refine xr_callM (G0 := G) (n := n) i ha hok ⟨G, Same.refl G, sl, w1⟩ hn fun v d G2 H2 s2 w2 pv hd => ⟨rfl, d, v, rfl, hd, fun p hp => ?_⟩
  have s3 := Same.new (o := .tup [.str word, v]) (w2.r.free hp)
  exact kk (.ref p) _ _ (s2.trans s3) (w2.new hp rfl) ⟨p, .str word, v, rfl, SqT.of upd_same, ⟨rfl, hw⟩, (val i).st s3 pv⟩
def LAt (p : Addr) (xs : List Str) : SR := ⟨fun u G => u = .ref p ∧ (Lst S xs).p u G, fun s ⟨h1, h2⟩ => ⟨h1, (Lst S xs).st s h2⟩⟩
theorem al_S {G G' : Hp} : ∀ {xs : List Str} {vs : List V}, Al S xs vs G → Al S xs vs G'
  | _, _, .nil => .nil
  | _, _, .cons h t => .cons h (al_S t)
end
end Gd
-- part Gd50
set_option Elab.async false
set_option linter.all false
set_option maxRecDepth 100000
set_option maxHeartbeats 2000000
namespace Gd
open PySem PySem.Spec PyProof.Rows L2
open PySem.W (EachIs AllAlike dataLe)
def KeyIs (H : Hp) (k : List Key) (v : V) : Prop := ∃ x, v = .ref x ∧ H x = some (.tup (k.map kV))
def rSrtT (K : PySem.W.Frag) : List V → Hp → VK → Prop := fun vs H Q => ∃ (a : Addr) (kvs : List (List Key × V)) (β : Type) (bs : List β) (enc : β → PyData) (ky : β → List Key), vs = [.ref a] ∧ H a = some (.dT kvs) ∧ kvs.map (·.1) = bs.map ky ∧
  (∀ b, b ∈ bs → ∀ v, KeyIs H (ky b) v → Dp K H v (enc b)) ∧ AllAlike (bs.map enc) ∧ Sortable2 (bs.map enc) ∧ (∀ b, b ∈ bs → (enc b).depth ≤ 60) ∧
  ∀ ws p, H p = none → EachIs (fun v b => KeyIs H (ky b) v) ws (bs.mergeSort (dataLe false enc)) → Q (.ref p) (upd H p (.lst ws))
theorem each_keys {H : Hp} {β : Type} {ky : β → List Key} : ∀ {kvs : List (List Key × V)} {ks : List (List Key × Addr × Value)} {bs : List β}, KT H kvs ks → kvs.map (·.1) = bs.map ky → EachIs (fun u b => ∃ v, RelV v u ∧ KeyIs H (ky b) v) (ks.map fun x => Value.ref x.2.1) bs
  | _, _, [], .nil, _ => .nil
  | _, _, b :: bs, .nil, h => by cases h
  | _, _, [], .cons _ _, h => by cases h
  | _, _, b :: bs, .cons h t, e => by
    rw [List.map_cons, List.map_cons] at e
    injection e with e1 e2
    exact .cons ⟨V.ref _, rfl, _, rfl, by rw [← e1]; exact h.2.1⟩ (each_keys t e2)
section
variable {X : Cx}
open PySem.W in
theorem cr_srtT (hc : X.calm = true) (hu : X.A.units + 64 < cLine) : CallR X (.builtin "sorted") (rSrtT X.K) := by
  intro pins s σ H vs us Q I r h
  obtain ⟨a, kvs, β, bs, enc, ky, rfl, hd, hks, hdp0, hal, hk, hdp, q⟩ := h
  rw [Vals.ref1 r]
  obtain ⟨z, hs, ks, pr, o, es, ep, ho, hx, hdt, he, hn⟩ := (show ObjOk X.prog X.w H s.heap a (.dT kvs) from I.hok a _ hd)
  have l1 : es.size = ks.length := size_of_entries he
  have l2 : kvs.length = ks.length := Paired.length pr
  refine Calls.call_function_entry kind_sorted plain_sorted entry_sorted (args_sorted1 _) ?_
  unfold Builtin.«sorted»
  refine wpAny_bind (m := checkCount "sorted" 1 1 _) (wpAny_pure ?_)
  refine wpAny_bind (PySem.W.kdu_collect (A := X.A.in1) (kdl_raw hs hx hdt) (I.ok.hd hc) ho (by omega) fun h' tk acc hkp it => ?_)
  have ea : acc.toList = ks.map fun x => Value.ref x.2.1 := by
    have hl : acc.toList.length = ks.length := by rw [Array.length_toList, it.1]; exact l1
    apply List.ext_getElem?
    intro j
    rw [List.getElem?_map]
    cases hj : acc.toList[j]? with
    | none =>
      rw [List.getElem?_eq_none (by have := List.getElem?_eq_none_iff.mp hj; omega)]
      rfl
    | some v =>
      obtain ⟨en, hen, hv⟩ := it.2 j v (by rw [← Array.getElem?_toList]; exact hj)
      have qe := entry_at he j
      rw [hen] at qe
      cases hb : ks[j]? with
      | none => rw [hb] at qe; cases qe
      | some b =>
        rw [hb] at qe
        have e2 := Option.some.inj (show some en = some _ from qe)
        rw [hv, e2]
        rfl
  have I1 : Inv X pins σ H { s with heap := h', toks := tk } := I.kept hkp
  have hE := each_keys pr hks
  rw [← ea] at hE
  have hlen : acc.toList.length ≤ sizeLine := by rw [ea, List.length_map, ← l2]; exact z
  refine wpAny_bind (wpAny_newList ?_ hlen)
  have hoL : (h'.push (seqObj "list" acc.toList.toArray 0)).get? h'.objs.size = some (seqObj "list" acc.toList.toArray 0) := Heap.get?_push_size _ rfl
  show wpAny _ _ _ _ _ { s with heap := h'.push (seqObj "list" acc.toList.toArray 0), toks := tk }
  have hold : ∀ b o, h'.get? b = some o → (sortingHeap (h'.push (seqObj "list" acc.toList.toArray 0)) h'.objs.size acc.toList).get? b = some o := fun b o e =>
    sortingHeap_old (Nat.ne_of_lt (Heap.lt_size e)) (Heap.get?_push_of_some _ e)
  have hmem : EachIs (fun u b => b ∈ bs ∧ ∃ v, RelV v u ∧ KeyIs H (ky b) v) acc.toList bs := by
    have gen : ∀ {us : List Value} {cs : List β}, (∀ c ∈ cs, c ∈ bs) → EachIs (fun u b => ∃ v, RelV v u ∧ KeyIs H (ky b) v) us cs → EachIs (fun u b => b ∈ bs ∧ ∃ v, RelV v u ∧ KeyIs H (ky b) v) us cs := by
      intro us cs hc h
      induction h with
      | nil => exact .nil
      | cons h t ih => exact .cons ⟨hc _ (List.mem_cons_self ..), h⟩ (ih fun c hcm => hc c (List.mem_cons_of_mem _ hcm))
    exact gen (fun c h => h) hE
  have er : EachIs (fun u b => ∃ as, Reads (sortingHeap (h'.push (seqObj "list" acc.toList.toArray 0)) h'.objs.size acc.toList) u (enc b) as) acc.toList bs := hmem.mono fun u b ⟨hb, v, rv, hv⟩ => by
    obtain ⟨as, rd⟩ := Dp.reads I1 (enc b) v u (hdp0 b hb v hv) rv
    exact ⟨as, PyProof.Rows.Reads.keeps hold rd⟩
  refine wpAny_bind (wpAny_holding (wpAny_call_entry slot_list_sort ⟨_, hoL, rfl⟩ entry_list_sort
    (list_sort_vals (s := { s with heap := h'.push (seqObj "list" acc.toList.toArray 0), toks := tk }) hoL
      (SortsAt.data2 (s := { s with heap := sortingHeap (h'.push (seqObj "list" acc.toList.toArray 0)) h'.objs.size acc.toList, toks := tk }) (each_map (R := fun v d => ∃ as, Reads (sortingHeap (h'.push (seqObj "list" acc.toList.toArray 0)) h'.objs.size acc.toList) v d as) enc er) hal hk (bound_map fun b hb => ?_)) hlen ⟨_, rfl, ?_⟩) (args_list_sort _)))
  · have := hdp b hb
    show X.A.units + 2 + (enc b).depth < cLine
    omega
  · obtain ⟨ws, hv, hw⟩ := each_vals (sortVals_data false hE er hal)
    obtain ⟨e', he'⟩ := PyProof.Rows.sortedHeap_at (vs := acc.toList) (out := (sortVals (dataKind (sortingHeap (h'.push (seqObj "list" acc.toList.toArray 0)) h'.objs.size acc.toList) (bs.map enc)) false acc.toList acc.toList).toArray) hoL
    have hz : ws.length ≤ sizeLine := by rw [hw.length, List.length_mergeSort, ← hE.length]; exact hlen
    refine wpAny_pure ⟨_, rfl, .ref h'.objs.size, upd H h'.objs.size (.lst ws), I1.laid (t' := tk) (fun b u e => ?_) (Nat.le_refl _) ⟨hz, _, e', hv, by simpa using he'⟩, rfl, q ws _ (I1.hok.fresh (Nat.le_refl _)) hw⟩
    have hb : b < h'.objs.size := Heap.lt_size e
    rw [PyProof.Rows.sortedHeap_old (Nat.ne_of_lt hb) (by rw [size_push']; exact Nat.lt_succ_of_lt hb)]
    exact Heap.get?_push_of_some _ e
end
end Gd
-- part Gd51
set_option Elab.async false
set_option linter.all false
set_option maxRecDepth 100000
set_option maxHeartbeats 1000000
namespace Gd
open PySem PySem.Spec PyProof.Rows L2
open PySem.W (EachIs AllAlike dataLe)
universe u
theorem call_srtT {X : Cx} {K : PySem.W.Frag} (hu : X.A.units + 64 < cLine) (hc : X.calm = true := by rfl) (hK : X.K = K := by rfl) : CallR X (.builtin "sorted") (rSrtT K) := by
  subst hK
  exact cr_srtT hc hu
def TpR {α : Type} (e : α → SR) (xs : List α) : SR := ⟨fun u G => ∃ a vs, u = .ref a ∧ G a = some (.tup vs) ∧ vs.length ≤ sizeLine ∧ Al e xs vs G,
  fun s ⟨a, vs, h1, h2, h3, h4⟩ => ⟨a, vs, h1, s _ _ h2, h3, h4.st s⟩⟩
section
variable {K : PySem.W.Frag} {b : Bool} {σ : L2.St} {G H : Hp} {te : TE} {α : Type} {e : α → SR} {xs : List α} {u : V}
theorem ev_tupR (ha : Ev b te σ G (Lst e xs)) : Ev b (tCB (rTupOf K) (tCons te tNil)) σ G (TpR e xs) :=
  ev_cb (ea_cons ha ea_nil) fun vs G1 H1 a r al Q k => by
    obtain ⟨v, rfl, ad, ws, rfl, h1, h2, h3⟩ := alr1 al
    exact ⟨ad, ws, rfl, .inl ⟨r.seqL (SqL.of h1), fun l hl => k _ _ _ (Go.new r hl) ⟨l, ws, rfl, upd_same, h2, h3.st (Same.new (r.free hl))⟩⟩⟩
end
abbrev kP (p : Str × Str) : List Key := [Sum.inr p.1, Sum.inr p.2]
theorem kP_inj {p q : Str × Str} (h : kP p = kP q) : p = q := by
  injection h with h1 h2
  injection h2 with h2 _
  exact Prod.ext (Sum.inr.inj h1) (Sum.inr.inj h2)
theorem al_str : ∀ {xs : List Str} {vs : List V} {G : Hp}, Al S xs vs G → vs = xs.map V.str
  | _, _, _, .nil => rfl
  | _, _, _, .cons h t => by
    obtain ⟨rfl, _⟩ := h
    rw [List.map_cons, ← al_str t]
theorem tpR_key {p : Str × Str} {v : V} {G : Hp} (h : (TpR S [p.1, p.2]).p v G) : ∃ a, v = .ref a ∧ G a = some (.tup ((kP p).map kV)) := by
  obtain ⟨a, vs, rfl, h2, _, h4⟩ := h
  rw [al_str h4] at h2
  exact ⟨a, rfl, h2⟩
def OT (ks : List (Str × Str)) : OR := ⟨fun o _ => ∃ kvs, o = .dT kvs ∧ kvs.length ≤ sizeLine ∧ kvs.map (·.1) = ks.map kP, fun _ h => h⟩
theorem valT {p : Str × Str} : ∀ {kvs : List (List Key × V)} {ks : List (Str × Str)}, kvs.map (·.1) = ks.map kP → (valV kvs (kP p)).isSome = decide (p ∈ ks)
  | [], [], _ => rfl
  | [], _ :: _, h => by cases h
  | _ :: _, [], h => by cases h
  | q :: kvs, k :: ks, h => by
    rw [List.map_cons, List.map_cons] at h
    injection h with h1 h2
    by_cases e : p = k
    · subst e
      rw [valV_pos h1]
      simp
    · rw [valV_neg fun z => e (kP_inj (z.symm.trans h1)), valT h2]
      simp [e]
section
variable {K : PySem.W.Frag} {W : SC} {O O' L : Own} {n k m : Nat} {G0 G H : Hp} {Rs Rs' : RL} {R : SR} {te ta tb ty to : TE} {t u : TS} {E : Ends} {α : Type} {e : α → SR} {xs : List α} {D x : Addr} {i j : Nat} {ks : List (Str × Str)} {p : Str × Str}
theorem elo_dnewT : ELO W O 0 tDNewT Rs (OT []) := fun σ G H n Q sl w hn kk d hd => kk d G _ (Same.refl G) (w.own hd rfl ⟨[], rfl, Nat.zero_le _, rfl⟩)
theorem el_inT (hO : (D, OT ks) ∈ O) (hi : Rs[i]? = some (some (cst (.ref D)))) (h : EL W O k ty Rs (TpR S [p.1, p.2])) : EL W O k (tDIn ty (tVar i)) Rs (B (decide (p ∈ ks))) := fun σ G H n Q sl w hn kk => by
  refine h σ G H n _ sl w hn fun y G2 H2 s2 w2 py => ?_
  obtain ⟨x, h1, h2⟩ := sl.get i _ hi
  obtain rfl : x = .ref D := h2
  obtain ⟨a, rfl, ha⟩ := tpR_key py
  obtain ⟨_, _, _, o, h4, _, kvs, rfl, h7, h8⟩ := w2.o _ hO
  exact ⟨_, h1, D, valV kvs (kP p), rfl, .inr ⟨kvs, kP p, a, .inl h4, rfl, w2.r.ex ha, rfl⟩, by rw [valT h8]; exact kk _ G2 H2 s2 w2 rfl⟩
theorem hl_putT {v : V} (hi : Rs[i]? = some (some (cst (.ref D)))) (h : EL W ((D, OT ks) :: O) k ty Rs (TpR S [p.1, p.2])) (hp : p ∉ ks) (hl : ks.length ≤ 100000) (q : HL W G0 (n + k) ((D, OT (ks ++ [p])) :: O) Rs u E) (hn : n + k ≤ 1000000 := by omega) : HL W G0 n ((D, OT ks) :: O) Rs (tSeq (sDPut (tVar i) ty (tC v)) u) E := fun σ H ⟨G, s, sl, w⟩ => by
  obtain ⟨x, h1, h2⟩ := sl.get i _ hi
  obtain rfl : x = .ref D := h2
  refine ⟨_, h1, h σ G H n _ sl w hn fun y G2 H2 s2 w2 py => ?_⟩
  obtain ⟨a, rfl, ha⟩ := tpR_key py
  obtain ⟨_, _, _, o, h4, _, kvs, rfl, h7, h8⟩ := w2.o _ (List.mem_cons_self ..)
  have hlen : kvs.length = ks.length := by
    have := congrArg List.length h8
    rwa [List.length_map, List.length_map] at this
  have : sizeLine = 16777216 := sizeLine_eq
  have hput : putK kvs (kP p) v = kvs ++ [(kP p, v)] := by
    unfold putK
    rw [valV_any, valT h8, if_neg (by simpa using hp)]
  refine ⟨D, _, rfl, .inr ⟨kvs, kP p, a, h4, rfl, w2.r.ex ha, by omega, rfl⟩, q _ _ ⟨G2, s.trans s2, sl.st s2, ?_⟩⟩
  rw [hput]
  exact w2.put (R' := OT (ks ++ [p])) (o := .dT (kvs ++ [(kP p, v)])) (fun u ⟨_, e, _⟩ => by rw [e]; rfl) rfl ⟨_, rfl, by rw [List.length_append, List.length_singleton]; omega, by rw [List.map_append, List.map_append, h8]; rfl⟩
theorem Wd.frzT {vs : List V} (w : Wd W n O G H) (h : H x = some (.tup vs)) : ∃ G2, Same G G2 ∧ Wd W n O G2 H ∧ G2 x = some (.tup vs) := by
  cases e : G x with
  | some o =>
    have := w.r.ex e
    rw [h] at this
    cases this
    exact ⟨G, Same.refl G, w, e⟩
  | none =>
    obtain ⟨_, _, _, _, _, _, _, es, ec, _⟩ := w.d
    have ns : x ≠ W.s := fun z => by rw [z, es] at h; cases h
    have nc : x ≠ W.c := fun z => by rw [z, ec] at h; cases h
    refine ⟨upd G x (.tup vs), Same.new e, ⟨w.r.give h, w.nt.up rfl, w.tb, w.d.give ns nc, w.nd, fun q hq => ?_⟩, upd_same⟩
    obtain ⟨q1, q2, q3, ho, q4, q5, q6⟩ := w.o q hq
    have ne : q.1 ≠ x := fun z => by
      rw [z, h] at q4
      cases q4
      cases q5
    exact ⟨q1, q2, by rw [upd_ne ne]; exact q3, ho, q4, q5, q.2.st (Same.new e) q6⟩
abbrev RPr (p : Str × Str) : SR := TpR S [p.1, p.2]
theorem rpr_pr {p : Str × Str} {u : V} {G : Hp} (h : (RPr p).p u G) : (Pr K S S p).p u G := by
  obtain ⟨a, vs, rfl, h2, _, h4⟩ := h
  cases h4 with
  | cons h5 h6 => cases h6 with
    | cons h7 h8 =>
      cases h8
      exact ⟨a, _, _, rfl, SqT.of h2, h5, h7⟩
theorem al_rpr {G : Hp} : ∀ {ps : List (Str × Str)} {vs : List V}, Al RPr ps vs G → Al (Pr K S S) ps vs G
  | _, _, .nil => .nil
  | _, _, .cons h t => .cons (rpr_pr h) (al_rpr t)
theorem lst_rpr {ps : List (Str × Str)} {u : V} {G : Hp} (h : (Lst RPr ps).p u G) : (Lst (Pr K S S) ps).p u G := let ⟨a, vs, h1, h2, h3, h4⟩ := h; ⟨a, vs, h1, h2, h3, al_rpr h4⟩
theorem Wd.frzTs : ∀ {ws : List V} {bs : List (Str × Str)} {G : Hp}, Wd W n O G H → EachIs (fun v b => KeyIs H (kP b) v) ws bs → (∀ b ∈ bs, okS b.1 = true ∧ okS b.2 = true) → ∃ G2, Same G G2 ∧ Wd W n O G2 H ∧ Al RPr bs ws G2
  | _, _, G, w, .nil, _ => ⟨G, Same.refl G, w, .nil⟩
  | _, _, G, w, .cons (a := v) (b := c) ⟨x, e, hx⟩ t, ok => by
    obtain ⟨G2, s2, w2, h2⟩ := w.frzT hx
    obtain ⟨G3, s3, w3, h3⟩ := Wd.frzTs w2 t fun b hb => ok b (List.mem_cons_of_mem _ hb)
    obtain ⟨o1, o2⟩ := ok c (List.mem_cons_self ..)
    exact ⟨G3, s2.trans s3, w3, .cons ⟨x, [.str c.1, .str c.2], e, s3 _ _ h2, by show 2 ≤ sizeLine; decide, .cons ⟨rfl, o1⟩ (.cons ⟨rfl, o2⟩ .nil)⟩ h3⟩
abbrev pT : Str × Str → PyData := fun p => .tuple [.str p.1, .str p.2]
theorem eln_srtT (hO : (D, OT ks) ∈ O) (hi : Rs[i]? = some (some (cst (.ref D)))) (hok : ∀ b ∈ ks, okS b.1 = true ∧ okS b.2 = true) : ELN W O 0 (tCB (rSrtT K) (tCons (tVar i) tNil)) Rs RPr (srt pT ks) := fun σ G H n Q sl w hn kk => by
  obtain ⟨x, h1, h2⟩ := sl.get i _ hi
  obtain rfl : x = .ref D := h2
  obtain ⟨_, _, _, o, h4, _, kvs, rfl, h7, h8⟩ := w.o _ hO
  have hA : Alk pT := alk_pr alk_S alk_S
  refine ⟨_, h1, D, kvs, Str × Str, ks, pT, kP, rfl, h4, h8, fun b hb v ⟨x, e, hx⟩ => ?_, fun d hd d' hd' => ?_, sortable_pr _ _ ks, fun b hb => Nat.le_trans ((enc_pr (K := K) enc_S enc_S).dep b) (by decide), fun ws p hp hE => ?_⟩
  · subst e
    exact .tup (SqT.of hx) (.cons (.str _) (.cons (.str _) .nil))
  · obtain ⟨x, _, rfl⟩ := List.mem_map.mp hd
    obtain ⟨y, _, rfl⟩ := List.mem_map.mp hd'
    exact hA.ak x y
  · obtain ⟨G2, s2, w2, al⟩ := Wd.frzTs w hE fun b hb => hok b (List.mem_mergeSort.mp hb)
    refine kk p G2 _ s2 (w2.own hp rfl ⟨ws, rfl, ?_, al⟩)
    rw [al.len, List.length_mergeSort]
    have e := congrArg List.length h8
    rw [List.length_map, List.length_map] at e
    rw [← e]
    exact h7
end
end Gd
-- part Gc2
set_option Elab.async false
set_option linter.all false
set_option maxRecDepth 100000
set_option maxHeartbeats 1000000
namespace Gd
open PySem PySem.Spec PyProof.Rows L2 Clo
universe u
theorem relV_ex (v : V) : ∃ u, RelV v u := by
  cases v with
  | non => exact ⟨_, rfl⟩
  | bl b => exact ⟨_, rfl⟩
  | int i => exact ⟨_, (0 : Nat), rfl⟩
  | str x => exact ⟨_, (0 : Nat), rfl⟩
  | byt b => exact ⟨_, (0 : Nat), rfl⟩
  | flt b => exact ⟨_, (0 : Nat), rfl⟩
  | ref a => exact ⟨_, rfl⟩
  | ty n => exact ⟨_, rfl⟩
theorem cell_code {c a : Addr} {v : V} {q : Str} : CellO c v ≠ LamX.CodeO a q := fun e => by
  unfold CellO LamX.CodeO at e
  have e := HO.ext.inj e
  obtain ⟨u, hu⟩ := relV_ex v
  have hg : ∀ b o, (⟨Array.replicate (c + 1) { cls := .none, data := .cell (some u) }, {}⟩ : Heap).get? b = some o → o = { cls := .none, data := .cell (some u) } := fun b o h => by
    unfold Heap.get? at h
    simp only [Array.getElem?_replicate] at h
    split at h
    · rename_i e1
      split at e1 <;> cases e1
    · rename_i e1
      split at h
      · exact (Option.some.inj h).symm
      · cases h
  have h0 : (⟨Array.replicate (c + 1) { cls := .none, data := .cell (some u) }, {}⟩ : Heap).get? c = some { cls := .none, data := .cell (some u) } := by
    unfold Heap.get?
    simp [Array.getElem?_replicate]
  have h1 := (congrFun e (⟨Array.replicate (c + 1) { cls := .none, data := .cell (some u) }, {}⟩ : Heap)).mp ⟨u, hu, _, h0, rfl⟩
  obtain ⟨oc, vs, t, e1, e2, _⟩ := h1
  rw [hg _ _ e1] at e2
  cases e2
theorem isTT_cell {c : Addr} {v : V} : isTT (CellO c v) = false := by
  unfold CellO isTT
  refine @decide_eq_false _ (_) fun ⟨a, q, h⟩ => cell_code (c := c) (v := v) h
theorem isTT_code {c : Addr} {q : Str} : isTT (LamX.CodeO c q) = true := by
  unfold LamX.CodeO isTT
  exact @decide_eq_true _ (_) ⟨c, q, rfl⟩
def OCell (c : Addr) (R : SR) : OR := ⟨fun o G => ∃ v, o = CellO c v ∧ R.p v G, fun s ⟨v, h1, h2⟩ => ⟨v, h1, R.st s h2⟩⟩
structure CloD where
  f : Addr
  c : Addr
  qual : Str
  params : Arguments
  body : Expr
  scope : Scope
  cl : List (Str × Addr)
  RR : List SR
def CloD.F (κ : CloD) : LF := ⟨κ.qual, κ.params, κ.body, κ.scope, κ.cl, κ.c⟩
def cellO (cl : List (Str × Addr)) (RR : List SR) : Own := (cl.zip RR).map fun p => (p.1.2, OCell p.1.2 p.2)
def CloD.own (κ : CloD) : Own := cellO κ.cl κ.RR
structure CloD.Ok (κ : CloD) : Prop where
  len : κ.RR.length = κ.cl.length
  nd : (κ.cl.map (·.1)).Nodup
def LamV (κ : CloD) : SR := ⟨fun u G => u = .ref κ.f ∧ G κ.f = some (LamO κ.f κ.F) ∧ G κ.c = some (LamX.CodeO κ.c κ.qual), fun s ⟨h1, h2, h3⟩ => ⟨h1, s _ _ h2, s _ _ h3⟩⟩
theorem cellO_keys {RR : List SR} : ∀ {cl : List (Str × Addr)}, RR.length = cl.length → (cellO cl RR).map (·.1) = cl.map (·.2) := by
  induction RR with
  | nil => intro cl h; cases cl with
    | nil => rfl
    | cons p cl => cases h
  | cons R RR ih => intro cl h; cases cl with
    | nil => cases h
    | cons p cl => exact congrArg (p.2 :: ·) (ih (cl := cl) (by simpa using h))
theorem look_nd {α : Type} : ∀ {l : List (Str × α)} {y : Str} {c : α}, (l.map (·.1)).Nodup → (y, c) ∈ l → l.lookup y = some c
  | [], _, _, _, h => by cases h
  | (z, d) :: l, y, c, nd, h => by
    rw [List.lookup_cons]
    rcases List.mem_cons.mp h with e | h
    · cases e; simp
    · have hn : y ≠ z := fun e => (List.nodup_cons.mp nd).1 (List.mem_map.mpr ⟨(y, c), h, e⟩)
      have : (y == z) = false := by simpa using hn
      rw [this]
      exact look_nd (List.nodup_cons.mp nd).2 h
section
variable {W : SC} {n m k : Nat} {O O' : Own} {G H G2 H2 G3 H3 : Hp} {κ : CloD}
theorem cells_hold : ∀ {cl : List (Str × Addr)} {RR : List SR}, RR.length = cl.length → (∀ q ∈ cellO cl RR, ∃ ho, H q.1 = some ho ∧ q.2.p ho G) → ∃ us, us.length = cl.length ∧ AlR RR us G ∧ ∀ (i : Nat) (p : Str × Addr) (v : V), cl[i]? = some p → us[i]? = some v → H p.2 = some (CellO p.2 v)
  | [], [], _, _ => ⟨[], rfl, .nil, fun i p v h => by simp at h⟩
  | [], _ :: _, h, _ => by cases h
  | _ :: _, [], h, _ => by cases h
  | p :: cl, R :: RR, hl, h => by
    obtain ⟨us, h1, h2, h3⟩ := cells_hold (cl := cl) (RR := RR) (by simpa using hl) fun q hq => h q (List.mem_cons_of_mem _ hq)
    obtain ⟨ho, e1, v, e2, e3⟩ := h (p.2, OCell p.2 R) (List.mem_cons_self ..)
    refine ⟨v :: us, by simp [h1], .cons e3 h2, fun i q z hi hz => ?_⟩
    cases i with
    | zero =>
      simp at hi hz
      subst hi hz
      rw [← e2]
      exact e1
    | succ i => exact h3 i q z (by simpa using hi) (by simpa using hz)
theorem told_of (ok : κ.Ok) (ndA : (κ.cl.map (·.2)).Nodup) (h : ∀ q ∈ κ.own, ∃ ho, H q.1 = some ho ∧ q.2.p ho G) : ∃ us, AlR κ.RR us G ∧ Told κ.cl (κ.cl.map (·.1)) (us.map some) H := by
  obtain ⟨us, h1, h2, h3⟩ := cells_hold ok.len h
  have mem : ∀ p ∈ κ.cl, ∃ v, H p.2 = some (CellO p.2 v) := fun p hp => by
    obtain ⟨i, hi⟩ := List.getElem?_of_mem hp
    have hil := (List.getElem?_eq_some_iff.mp hi).1
    exact ⟨_, h3 i p _ hi (List.getElem?_eq_getElem (by rw [h1]; exact hil))⟩
  refine ⟨us, h2, ⟨by rw [List.length_map, List.length_map, h1], fun y c e => mem (y, c) (PySem.mem_of_lookup e), fun c hc => ?_, fun x y c e1 e2 => ?_, fun i y hy => ?_⟩⟩
  · obtain ⟨p, hp, rfl⟩ := List.mem_map.mp hc
    exact mem p hp
  · have m1 := PySem.mem_of_lookup e1
    have m2 := PySem.mem_of_lookup e2
    obtain ⟨i, hi⟩ := List.getElem?_of_mem m1
    obtain ⟨j, hj⟩ := List.getElem?_of_mem m2
    have hi2 : (κ.cl.map (·.2))[i]? = some c := by rw [List.getElem?_map, hi]; rfl
    have hj2 : (κ.cl.map (·.2))[j]? = some c := by rw [List.getElem?_map, hj]; rfl
    obtain ⟨li, ei⟩ := List.getElem?_eq_some_iff.mp hi2
    obtain ⟨lj, ej⟩ := List.getElem?_eq_some_iff.mp hj2
    have : i = j := (List.getElem_inj ndA).mp (ei.trans ej.symm)
    subst this
    rw [hi] at hj
    cases hj
    rfl
  · rw [List.getElem?_map] at hy
    cases e : κ.cl[i]? with
    | none => rw [e] at hy; cases hy
    | some p =>
      rw [e] at hy
      obtain rfl : p.1 = y := Option.some.inj hy
      refine ⟨p.2, look_nd ok.nd (List.mem_of_getElem? e), fun v hv => ?_⟩
      rw [List.getElem?_map] at hv
      cases e2 : us[i]? with
      | none => rw [e2] at hv; cases hv
      | some z =>
        rw [e2] at hv
        obtain rfl : z = v := Option.some.inj (Option.some.inj hv)
        exact h3 i p z e e2
theorem cellO_told {cl : List (Str × Addr)} {RR : List SR} {q : Addr × OR} (hq : q ∈ cellO cl RR) {ho : HO} (h : q.2.p ho G) : ∃ v, ho = CellO q.1 v := by
  obtain ⟨p, _, rfl⟩ := List.mem_map.mp hq
  obtain ⟨v, e, _⟩ := h
  exact ⟨v, e⟩
theorem Wd.untell (w : Wd W n (κ.own ++ O) G H) (ok : κ.Ok) : Wd W n O G (untell H (κ.cl.map (·.2))) := by
  have keys := cellO_keys ok.len
  have own : ∀ a ∈ κ.cl.map (·.2), a ≠ W.s ∧ a ≠ W.c ∧ G a = none ∧ ∃ v, H a = some (CellO a v) := fun a ha => by
    rw [← keys] at ha
    obtain ⟨q, hq, rfl⟩ := List.mem_map.mp ha
    obtain ⟨h1, h2, h3, ho, h4, h5, h6⟩ := w.o q (List.mem_append_left _ hq)
    obtain ⟨v, e⟩ := cellO_told hq h6
    exact ⟨h1, h2, h3, v, by rw [h4, e]⟩
  have at_ : ∀ a o, H a = some o → (∀ v, o ≠ CellO a v) → Clo.untell H (κ.cl.map (·.2)) a = some o := fun a o e hn => by
    rw [untell_at fun z => ?_, e]
    obtain ⟨_, _, _, v, h4⟩ := own a z
    rw [e] at h4
    exact hn v (Option.some.inj h4)
  refine ⟨fun a o e => .inl ?_, w.nt, fun p hp => ?_, ?_, (List.map_append ▸ w.nd).sublist (List.sublist_append_right _ _), fun q hq => ?_⟩
  · rw [untell_at fun z => by obtain ⟨_, _, h3, _⟩ := own a z; rw [h3] at e; cases e]
    exact w.r.ex e
  · obtain ⟨ps, h1, h2, h3⟩ := w.tb p hp
    refine ⟨ps, at_ _ _ h1 (fun v z => by unfold CellO at z; cases z), h2, fun pos cv hc => ?_⟩
    obtain ⟨c', e1, e2⟩ := h3 pos cv hc
    exact ⟨c', e1, at_ _ _ e2 fun v z => cell_code z.symm⟩
  · obtain ⟨d1, d2, d3, cells, a, m, cnt, e1, e2, e3⟩ := w.d
    exact ⟨d1, d2, d3, cells, a, m, cnt, at_ _ _ e1 (fun v z => by unfold CellO at z; cases z), at_ _ _ e2 (fun v z => by unfold CellO at z; cases z), e3⟩
  · obtain ⟨h1, h2, h3, ho, h4, h5, h6⟩ := w.o q (List.mem_append_right _ hq)
    refine ⟨h1, h2, h3, ho, ?_, h5, h6⟩
    rw [untell_at fun z => ?_, h4]
    have nd := w.nd
    rw [List.map_append, List.nodup_append] at nd
    have e : (κ.own.map (·.1)) = κ.cl.map (·.2) := keys
    rw [e] at nd
    exact nd.2.2 _ z _ (List.mem_map.mpr ⟨q, hq, rfl⟩) rfl
theorem Wd.retell (w0 : Wd W n (κ.own ++ O) G H) (ok : κ.Ok) (s : Same G G3) (w : Wd W m O G3 H3) (hn : ∀ c ∈ κ.cl.map (·.2), H3 c = none) : Wd W m (κ.own ++ O) G3 (retell H H3 (κ.cl.map (·.2))) := by
  have keys := cellO_keys ok.len
  have keep : ∀ a o, H3 a = some o → Clo.retell H H3 (κ.cl.map (·.2)) a = some o := fun a o e => by
    rw [retell_at fun z => by rw [hn a z] at e; cases e]
    exact e
  refine ⟨fun a o e => .inl (keep a o (w.r.ex e)), w.nt, w.tb.ext fun b o e => keep b o e, ?_, w0.nd, fun q hq => ?_⟩
  · obtain ⟨d1, d2, d3, cells, a, m', cnt, e1, e2, e3⟩ := w.d
    exact ⟨d1, d2, d3, cells, a, m', cnt, keep _ _ e1, keep _ _ e2, e3⟩
  · rcases List.mem_append.mp hq with hq | hq
    · obtain ⟨h1, h2, h3, ho, h4, h5, h6⟩ := w0.o q (List.mem_append_left _ hq)
      have hk : q.1 ∈ κ.cl.map (·.2) := by rw [← keys]; exact List.mem_map.mpr ⟨q, hq, rfl⟩
      refine ⟨h1, h2, w.r.free (hn _ hk), ho, by rw [retell_in hk]; exact h4, h5, q.2.st s h6⟩
    · obtain ⟨h1, h2, h3, ho, h4, h5, h6⟩ := w.o q hq
      exact ⟨h1, h2, h3, ho, keep _ _ h4, h5, h6⟩
end
def spV {ι : Type u} (Tb : List (Addr × Str)) (RR : List SR) (pre : ι → List SR) (ok : ι → Own → Prop) (post : ι → SR) : List (Option V) → Sp := fun ws vs H Q _ => ∃ (i : ι) (s c : Addr) (n : Nat) (O : Own) (G : Hp) (us : List V), ws = us.map some ∧ AlR RR us G ∧ Wd ⟨s, c, Tb⟩ n O G H ∧ n ≤ 1000000 ∧ ok i O ∧ AlR (pre i) vs G ∧ ∀ v G2 H2, Same G G2 → Wd ⟨s, c, Tb⟩ n O G2 H2 → (post i).p v G2 → Q v H2
end Gd
-- part Gd52
set_option Elab.async false
set_option linter.all false
set_option maxRecDepth 100000
set_option maxHeartbeats 1000000
namespace Gd
open PySem PySem.Spec PyProof.Rows L2
universe u
def OI (C : Addr) (L : List (Str × SR)) : OR := ⟨fun o G => ∃ dx fs, o = .ins C dx fs ∧ fs.length ≤ L.length ∧ ∀ q ∈ L, ∃ v, fs.lookup q.1 = some v ∧ q.2.p v G,
  fun s ⟨dx, fs, h1, h2, h3⟩ => ⟨dx, fs, h1, h2, fun q hq => let ⟨v, h4, h5⟩ := h3 q hq; ⟨v, h4, q.2.st s h5⟩⟩⟩
section
variable {K : PySem.W.Frag} {W : SC} {O O' : Own} {n k m : Nat} {G0 G H : Hp} {Rs Rs' : RL} {R : SR} {te ta tb to : TE} {t u : TS} {E : Ends} {α : Type} {e : α → SR} {xs : List α} {D C p : Addr} {i j : Nat} {L : List (Str × SR)} {f : Str}
theorem oi_put {dx : Addr} {fs : List (Str × V)} {v : V} (h : (OI C L).p (.ins C dx fs) G) (hf : ∀ q ∈ L, q.1 ≠ f) (hv : R.p v G) : (OI C ((f, R) :: L)).p (.ins C dx (putF f v fs)) G := by
  obtain ⟨dx', fs', e1, h2, h3⟩ := h
  cases e1
  refine ⟨dx, _, rfl, Nat.le_trans (length_putF f v fs) (by rw [List.length_cons]; omega), fun q hq => ?_⟩
  rcases List.mem_cons.mp hq with rfl | hq
  · exact ⟨v, by rw [lookup_putF, if_pos rfl], hv⟩
  · obtain ⟨z, h4, h5⟩ := h3 q hq
    exact ⟨z, by rw [lookup_putF, if_neg (hf q hq)]; exact h4, h5⟩
theorem hl_fld (cl : Cls K C) (na : NoAttr K C f) (hi : Rs[i]? = some (some (cst (.ref p)))) (h : EL W ((p, OI C L) :: O) k te Rs R) (q : HL W G0 (n + k) ((p, OI C ((f, R) :: L)) :: O) Rs u E) (hf : ∀ q ∈ L, q.1 ≠ f) (hL : L.length ≤ 100) (hn : n + k ≤ 1000000 := by omega) : HL W G0 n ((p, OI C L) :: O) Rs (tSeq (sFld K (tVar i) te f) u) E := fun σ H ⟨G, s, sl, w⟩ => by
  refine h σ G H n _ sl w hn fun v G2 H2 s2 w2 pv => ?_
  obtain ⟨x, h1, h2⟩ := sl.get i _ hi
  obtain rfl : x = .ref p := h2
  obtain ⟨_, _, _, o, h4, _, hO⟩ := w2.o _ (List.mem_cons_self ..)
  obtain ⟨dx, fs, rfl, h5, h6⟩ := id hO
  refine ⟨_, h1, p, C, dx, fs, rfl, h4, cl, na, by omega, q _ _ ⟨G2, s.trans s2, sl.st s2, ?_⟩⟩
  exact w2.put (fun u ⟨_, _, e, _⟩ => by rw [e]; rfl) rfl (oi_put hO hf pv)
theorem el_fldO (cl : Cls K C) (na : NoAttr K C f) (hi : Rs[i]? = some (some (cst (.ref p)))) (hO : (p, OI C L) ∈ O) (hf : (f, R) ∈ L) : EL W O 0 (tFld K (tVar i) f) Rs R := fun σ G H n Q sl w hn kk => by
  obtain ⟨x, h1, h2⟩ := sl.get i _ hi
  obtain rfl : x = .ref p := h2
  obtain ⟨_, _, _, o, h4, _, dx, fs, rfl, h5, h6⟩ := w.o _ hO
  obtain ⟨v, h7, h8⟩ := h6 _ hf
  exact ⟨_, h1, p, C, dx, fs, v, rfl, h4, cl, na, h7, kk v G H (Same.refl G) w h8⟩
theorem WalkR.st {b : Bool} {J : It} {G2 : Hp} (h : WalkR b J e xs G (fun _ => True)) (s : Same G G2) : WalkR b J e xs G2 (fun _ => True) :=
  ⟨h.len, fun i G3 H3 hi s3 => h.goes i G3 H3 hi (s.trans s3), fun G3 H3 s3 => h.stops G3 H3 (s.trans s3), fun i a G3 H3 x H' hx s3 => h.yields i a G3 H3 x H' hx (s.trans s3)⟩
theorem elm_new {cs : List Str} (e : α → SR) (K : PySem.W.Frag) {wi : TI} (hi : EIL W O k wi Rs S cs) (nd : cs.Nodup) (σ : L2.St) (G H : Hp) (n : Nat) (Q : VK) (sl : Slots G σ Rs) (w : Wd W n O G H) (hn : n + k ≤ 1000000) (kk : ∀ D pl G2 H2, Same G G2 → Wd W (n + k) (omO e D pl (fun _ => []) cs ++ O) G2 H2 → Q (.ref D) H2) (hj : j < Rs.length := by simp) : tDc wi (gName j) tYes (tVar j) (tLst tNil) [j] σ H Q :=
  hi σ G H n _ sl w hn fun J G2 H2 s2 w2 WR => by
    refine om_new (K := K) (wi := fun _ H Q => Q J H) (σ := σ) (G := G2) (H := H2) (fun G1 H1 s1 r1 Rr k => k J G1 H1 (Go.refl _ _) (WR.st s1)) nd (fun a ha x G' s' hx => ⟨_, gto_name, ?_, ev_var ?_ hx⟩) w2.r fun D pl G3 H3 g o => kk D pl G3 H3 (s2.trans g.g) (om_own w2 g o nd)
    · exact (wipe_set (List.mem_singleton.mpr rfl)).trans (by
        apply List.ext_getElem?
        intro z
        rw [wipe_get, wipe_get, wipe_length]
        split <;> rfl)
    · rw [List.getElem?_set_self]
      rw [wipe_length, sl.len]
      exact hj
theorem hl_fldM {cs : List Str} (e : α → SR) (cl : Cls K C) (na : NoAttr K C f) {wi : TI} (hi : Rs[i]? = some (some (cst (.ref p)))) (h : EIL W ((p, OI C L) :: O) k wi Rs S cs) (nd : cs.Nodup) (q : ∀ D pl, HL W G0 (n + k) ((p, OI C ((f, cst (.ref D)) :: L)) :: (omO e D pl (fun _ => []) cs ++ O)) Rs u E) (hf : ∀ q ∈ L, q.1 ≠ f) (hL : L.length ≤ 100) (hn : n + k ≤ 1000000 := by omega) (hj : j < Rs.length := by simp) : HL W G0 n ((p, OI C L) :: O) Rs (tSeq (sFld K (tVar i) (tDc wi (gName j) tYes (tVar j) (tLst tNil) [j]) f) u) E := fun σ H ⟨G, s, sl, w⟩ => by
  refine elm_new e K h nd σ G H n (fun y H1 => tVar i σ H1 fun x H2 => ∃ a C dx fs, x = V.ref a ∧ H2 a = some (.ins C dx fs) ∧ Cls K C ∧ NoAttr K C f ∧ fs.length < 1000 ∧ u E σ (upd H2 a (.ins C dx (putF f y fs)))) sl w hn (fun D pl G2 H2 s2 w2 => ?_) hj
  obtain ⟨x, h1, h2⟩ := sl.get i _ hi
  obtain rfl : x = .ref p := h2
  have w3 : Wd W (n + k) ((p, OI C L) :: (omO e D pl (fun _ => []) cs ++ O)) G2 H2 := w2.perm List.perm_middle.symm
  obtain ⟨_, _, _, o, h4, _, hO⟩ := w3.o _ (List.mem_cons_self ..)
  obtain ⟨dx, fs, rfl, h5, h6⟩ := id hO
  refine ⟨_, h1, p, C, dx, fs, rfl, h4, cl, na, by omega, q D pl _ _ ⟨G2, s.trans s2, sl.st s2, ?_⟩⟩
  exact w3.put (fun u ⟨_, _, e, _⟩ => by rw [e]; rfl) rfl (oi_put (R := cst (.ref D)) hO hf rfl)
theorem hl_pushM2 {pl : Str → Addr} {acc : Str → List α} {cs : List Str} {c : Str} {a : α} (nd : cs.Nodup) (hc : c ∈ cs) (ho : ∀ O', (D, OEx (.dK (cs.map fun c => (Sum.inr c, V.ref (pl c))))) ∈ O' → (∀ q ∈ O, q ∈ O') → EL W O' k to Rs (cst (.ref (pl c)))) (h : ∀ O', EL W O' m te Rs (e a)) (hl : (acc c).length ≤ 100000) (q : HL W G0 (n + (k + m)) (omO e D pl (fun x => if x = c then acc c ++ [a] else acc x) cs ++ O) Rs u E) (hn : n + (k + m) ≤ 1000000 := by omega) : HL W G0 n (omO e D pl acc cs ++ O) Rs (tSeq (tDrop (tBM K "list" rAppend to (tCons te tNil))) u) E := by
  obtain ⟨rest, h1, h2⟩ := om_perm (e := e) (D := D) (pl := pl) (acc := acc) (O := O) nd hc
  refine HL.perm ?_ h1.symm
  exact hl_pushE (ho _ (h1.mem_iff.mp (List.mem_append_left _ (List.mem_cons_self ..))) fun q hq => h1.mem_iff.mp (List.mem_append_right _ hq)) (h _) hl (HL.perm q (h2 _).symm) hn
theorem el_dgetE {M : Addr} {kvs : List (Key × V)} {s : Str} {v : V} {ty : TE} (hd : EL W O k ta Rs (cst (.ref M))) (hM : (M, OEx (.dK kvs)) ∈ O) (hb : EL W O m ty Rs (S s)) (hv : valV kvs (Sum.inr s : Key) = some v) : EL W O (k + m) (tDGet ta ty) Rs (cst v) := fun σ G H n Q sl w hn kk => by
  refine hd σ G H n _ sl w (by omega) fun x G1 H1 s1 w1 hx => ?_
  obtain rfl : x = .ref M := hx
  refine hb σ G1 H1 (n + k) _ (sl.st s1) w1 (by omega) fun y G2 H2 s2 w2 ⟨q, _⟩ => ?_
  subst q
  obtain ⟨_, _, _, o, h4, _, rfl⟩ := w2.o _ hM
  exact ⟨M, v, rfl, .inl ⟨kvs, Sum.inr s, .inl h4, rfl, hv.symm⟩, kk v G2 H2 (s1.trans s2) (w2.eq (by omega)) rfl⟩
theorem hl_forever {tt : TT} {tb' : TS} {δ : Type} (P : Nat → δ → Prop) (Of : δ → Own) (Rf : δ → RL) (z : Nat) (d0 : δ) (h0 : P 0 d0) (hO : Of d0 = O) (hR : ∀ G, Slk G Rs (Rf d0)) (ht : ∀ d, ETL W (Of d) 0 tt (Rf d) true)
    (hb : ∀ (i : Nat) (d : δ) (E' : Ends) (G1 : Hp), P i d → i < z → E'.rt = E.rt → Same G0 G1 → (∀ d' σ H, P (i + 1) d' → i + 1 < z → At W G1 n (Of d') (Rf d') σ H → E'.nx σ H) → HL W G1 n (Of d) (Rf d) tb' E') (hz : 0 < z) (hn : n ≤ 1000000 := by omega) : HL W G0 n O Rs (tSeq (tWhile tt tb') u) E := fun σ H ⟨G, s, sl, w⟩ => by
  refine ⟨fun y σ H => ∃ i, y = z - i ∧ i < z ∧ ∃ d, P i d ∧ ∃ G', Same G0 G' ∧ Slots G' σ (Rf d) ∧ Wd W n (Of d) G' H, ⟨z, 0, rfl, hz, d0, h0, G, s, sl.weak (hR G), by rw [hO]; exact w⟩, ?_⟩
  rintro y σ' H' ⟨i, rfl, hi, d, hP, G', s0, sl', w'⟩
  refine ht d σ' G' H' n _ sl' w' hn fun b G2 H2 s2 w2 eb => ?_
  subst eb
  rw [if_pos rfl]
  refine ⟨fun σ H => i + 1 < z ∧ ∃ d, P (i + 1) d ∧ ∃ G', Same G0 G' ∧ Slots G' σ (Rf d) ∧ Wd W n (Of d) G' H, fun σ H ⟨h1, h2⟩ => ⟨z - (i + 1), by omega, i + 1, rfl, h1, h2⟩, ?_⟩
  exact hb i d { E with nx := fun σ H => i + 1 < z ∧ ∃ d, P (i + 1) d ∧ ∃ G', Same G0 G' ∧ Slots G' σ (Rf d) ∧ Wd W n (Of d) G' H, ct := fun σ H => i + 1 < z ∧ ∃ d, P (i + 1) d ∧ ∃ G', Same G0 G' ∧ Slots G' σ (Rf d) ∧ Wd W n (Of d) G' H, bk := u E } G2 hP hi rfl (s0.trans s2) (fun d' σ H hP' hi' ⟨G, z1, z2, z3⟩ => ⟨hi', d', hP', G, (s0.trans s2).trans z1, z2, z3⟩) σ' H2 ⟨G2, Same.refl _, sl'.st s2, w2⟩
end
end Gd
-- part D1
set_option Elab.async false
set_option linter.all false
set_option maxRecDepth 100000
set_option maxHeartbeats 1000000
namespace Gd
open PySem PySem.Spec PyProof.Rows L2
universe u
abbrev s_as_tuples : Stmt := topS 13
theorem sc_as_tuples : FnScope ["thing", "part"] ["thing"] (defScope s_as_tuples) := ⟨rfl, rfl, rfl, by decide +kernel, rfl, by decide +kernel, by decide +kernel⟩
abbrev s_checked_statements : Stmt := topS 15
theorem sc_checked_statements : FnScope ["statements", "index", "thing"] ["statements"] (defScope s_checked_statements) := ⟨rfl, rfl, rfl, by decide +kernel, rfl, by decide +kernel, by decide +kernel⟩
abbrev s_is_pair_of : Stmt := topS 16
theorem sc_is_pair_of : FnScope ["thing", "statements", "one"] ["thing", "statements"] (defScope s_is_pair_of) := ⟨rfl, rfl, rfl, by decide +kernel, rfl, by decide +kernel, by decide +kernel⟩
abbrev s_checked_objections : Stmt := topS 17
theorem sc_checked_objections : FnScope ["objections", "statements", "known", "index", "thing"] ["objections", "statements"] (defScope s_checked_objections) := ⟨rfl, rfl, rfl, by decide +kernel, rfl, by decide +kernel, by decide +kernel⟩
abbrev s_Debate_init : Stmt := inClass (topS 18) 0
theorem sc_Debate_init : FnScope ["self", "statements", "objections", "one", "other", "statement"] ["self", "statements", "objections"] (defScope s_Debate_init) := ⟨rfl, rfl, rfl, by decide +kernel, rfl, by decide +kernel, by decide +kernel⟩
abbrev s_checked_statement : Stmt := topS 19
theorem sc_checked_statement : FnScope ["debate", "statement"] ["debate", "statement"] (defScope s_checked_statement) := ⟨rfl, rfl, rfl, by decide +kernel, rfl, by decide +kernel, by decide +kernel⟩
abbrev Pq (K : PySem.W.Frag) (p : Str × Str) : SR := Sq K S [p.1, p.2]
abbrev Deb := List Str × List (Str × Str)
theorem sqv_of' {K : PySem.W.Frag} {α : Type} {e : α → SR} {xs : List α} {v : V} {G : Hp} (h : (Sq K e xs).p v G) : (SqV K).p v G := sqv_of h
theorem al_ok : ∀ {xs : List Str} {vs : List V} {G : Hp}, Al S xs vs G → ∀ x ∈ xs, okS x = true
  | _, _, _, .nil, _, h => by cases h
  | _, _, _, .cons p t, x, h => by
    rcases List.mem_cons.mp h with rfl | h
    · exact p.2
    · exact al_ok t x h
theorem sq_ok {K : PySem.W.Frag} {xs : List Str} {v : V} {G : Hp} (h : (Sq K S xs).p v G) : ∀ x ∈ xs, okS x = true := by
  rcases h with ⟨_, _, _, _, _, h⟩ | ⟨_, _, _, _, _, h⟩ <;> exact al_ok h
section
variable {P : Program} {w : World} {K : PySem.W.Frag} {mg : Str → Option Value} {base : Heap} {aL : Addr}
def sp_is_listF : Sp := spF false (fun s : Str => [S s]) (fun _ => True) (fun _ => B false)
theorem ok_is_listF (F : Fn K mg "is_list" s_is_list ["thing"]) (T : Txt K mg aL) : C8.Cal P w K mg base 1 "is_list" sp_is_listF [] := by
  refine cal_of F sc_is_list (fun vs H Q E h => spF_len h fun _ => rfl) (fun f cdv A outer s H vs Q E hr h => ?_)
  obtain ⟨x, G, v, rfl, r, _, hv, k⟩ := sp1 h fun _ => rfl
  refine ⟨_, (pss_one (ps_ret (pe_callB (call_isiTK (K := K)) rfl T.isinstance boot_isinstance (pa_cons (pv 0) (pa_cons (pe_tup (pa_cons (pe_bltn (v := .ty "list") rfl T.list boot_list rfl) (pa_cons (pe_bltn (v := .ty "tuple") rfl T.tuple boot_tuple rfl) pa_nil))) pa_nil))))), ?_⟩
  exact ts_ret (ev_isiLT0 (ev_var rfl hv) hty_S) r k
def sp_asB : Sp := fun vs H Q E => False
theorem ok_asB (F : Fn K mg "as_tuples" s_as_tuples ["thing"]) : C8.Cal P w K mg base 1 "as_tuples" sp_asB [] := cal_of F sc_as_tuples (fun vs H Q E h => h.elim) (fun f cdv A outer s H vs Q E hr h => h.elim)
def sp_as0 : Sp := spF true (fun s : Str => [S s]) (fun _ => True) (fun s => S s)
theorem ok_as0 (F : Fn K mg "as_tuples" s_as_tuples ["thing"]) (T : Txt K mg aL) (c_is_listF : C8.Cal P w K mg base 1 "is_list" sp_is_listF []) (c_as_tuples : C8.Cal P w K mg base 1 "as_tuples" sp_asB []) : C8.Cal P w K mg base 2 "as_tuples" sp_as0 [] := by
  refine cal_of F sc_as_tuples (fun vs H Q E h => spF_len h fun _ => rfl) (fun f cdv A outer s H vs Q E hr h => ?_)
  obtain ⟨x, G, v, rfl, r, _, hv, k⟩ := sp1 h fun _ => rfl
  refine ⟨_, (pss_one (ps_ret (pe_ifExp (pt_val (C8.pe_c c_is_listF hr (by first | decide | omega) rfl (pa_cons (pv 0) pa_nil))) (pe_callTy (call_tupK (K := K)) rfl T.tuple boot_tuple (pa_cons (pe_lc (own := [("part", 1)]) rfl sc_as_tuples.nd (pi_seqK (K := K) (pv 0)) (blkOk_by (by kernel_rfl)) (fun _ _ _ _ _ => (pg_name (i := 1) sc_as_tuples.nd rfl (by first | exact Or.inl rfl | exact Or.inr rfl))) (fun _ _ _ _ _ => pts_nil) (fun _ _ _ _ _ => (C8.pe_c c_as_tuples hr (by first | decide | omega) rfl (pa_cons (pv 1) pa_nil)))) pa_nil)) (pv 0)))), ?_⟩
  exact ts_ret (ev_if (c := false) (et_B (ev_call x (ea_cons (ev_var rfl hv) ea_nil) trivial)) (fun h => by cases h) fun _ => ev_var rfl hv) r k
def sp_as1 (K : PySem.W.Frag) : Sp := spF true (fun xs : List Str => [Sq K S xs]) (fun _ => True) (fun xs => TpR S xs)
theorem ok_as1 (F : Fn K mg "as_tuples" s_as_tuples ["thing"]) (T : Txt K mg aL) (c_is_list : C8.Cal P w K mg base 1 "is_list" (sp_is_list K) []) (c_as_tuples : C8.Cal P w K mg base 2 "as_tuples" sp_as0 []) : C8.Cal P w K mg base 3 "as_tuples" (sp_as1 K) [] := by
  refine cal_of F sc_as_tuples (fun vs H Q E h => spF_len h fun _ => rfl) (fun f cdv A outer s H vs Q E hr h => ?_)
  obtain ⟨xs, G, v, rfl, r, _, hv, k⟩ := sp1 h fun _ => rfl
  refine ⟨_, (pss_one (ps_ret (pe_ifExp (pt_val (C8.pe_c c_is_list hr (by first | decide | omega) rfl (pa_cons (pv 0) pa_nil))) (pe_callTy (call_tupK (K := K)) rfl T.tuple boot_tuple (pa_cons (pe_lc (own := [("part", 1)]) rfl sc_as_tuples.nd (pi_seqK (K := K) (pv 0)) (blkOk_by (by kernel_rfl)) (fun _ _ _ _ _ => (pg_name (i := 1) sc_as_tuples.nd rfl (by first | exact Or.inl rfl | exact Or.inr rfl))) (fun _ _ _ _ _ => pts_nil) (fun _ _ _ _ _ => (C8.pe_c c_as_tuples hr (by first | decide | omega) rfl (pa_cons (pv 1) pa_nil)))) pa_nil)) (pv 0)))), ?_⟩
  refine ts_ret (ev_if (c := true) (et_B (ev_call () (ea_cons ((ev_var rfl hv).is fun _ _ _ q => sqv_of' q) ea_nil) trivial)) (fun _ => ?_) fun h => by cases h) r k
  have h : EvN true (tLc (iSeq K (tVar 0)) (gName 1) tYes (tCall sp_as0 [] C8.E0 (tCons (tVar 1) tNil)) [1]) [some v, none] G S (xs.map fun a => a) := en_map (ei_sq (ev_var (i := 0) rfl hv)) fun a ha y G' s hy => ⟨_, gto_name, rfl, ev_call a (ea_cons (ev_var rfl hy) ea_nil) trivial⟩
  rw [List.map_id'] at h
  exact ev_tupR h.ev
def sp_checked_statements (K : PySem.W.Frag) : Sp := spF false (fun xs : List Str => [Sq K S xs]) (fun xs => (∀ x ∈ xs, isName x = true) ∧ xs.Nodup) (fun xs => Lst S (srt PyData.str xs))
theorem ok_checked_statements (F : Fn K mg "checked_statements" s_checked_statements ["statements"]) (T : Txt K mg aL) (c_is_list : C8.Cal P w K mg base 1 "is_list" (sp_is_list K) []) (c_is_name : C8.Cal P w K mg base 1 "is_name" sp_is_name []) : C8.Cal P w K mg base 2 "checked_statements" (sp_checked_statements K) [] := by
  refine cal_of F sc_checked_statements (fun vs H Q E h => spF_len h fun _ => rfl) (fun f cdv A outer s H vs Q E hr h => ?_)
  obtain ⟨xs, G, v, rfl, r, ⟨hx, nd⟩, hv, k⟩ := sp1 h fun _ => rfl
  have hu64 := hu64_of hr
  refine ⟨_, (pss_cons (ps_if (pt_not (pt_val (C8.pe_c c_is_list hr (by first | decide | omega) rfl (pa_cons (pv 0) pa_nil)))) (pss_one ps_never) pss_nil)
      (pss_cons (ps_for PassesOwn.never rfl (pi_enumK (K := K) rfl T.enumerate (pa_cons (pv 0) pa_nil)) (pg_tupK (K := K) (n := 2) rfl (pgs_cons (pg_name (i := 1) sc_checked_statements.nd rfl (by first | exact Or.inl rfl | exact Or.inr rfl)) (pgs_cons (pg_name (i := 2) sc_checked_statements.nd rfl (by first | exact Or.inl rfl | exact Or.inr rfl)) pgs_nil))) (pss_one (ps_if (PW.pt (pw_or (pt_not (pt_val (C8.pe_c c_is_name hr (by first | decide | omega) rfl (pa_cons (pv 2) pa_nil)))) (pw_or1 (pt_cmpR (op_inK (K := K)) (pv 2) (pe_slice (sl_qK (K := K)) (pv 0) po_none (po_some (pv 1))) (by with_unfolding_all rfl))))) (pss_one ps_never) pss_nil)))
      (pss_one (ps_ret (pe_callB (call_srtK (K := K) hu64) rfl T.sorted boot_sorted (pa_cons (pv 0) pa_nil)))))), ?_⟩
  refine tq_ifF (EvT.eq (et_not (et_B (ev_call () (ea_cons ((ev_var rfl hv).is fun _ _ _ q => sqv_of q) ea_nil) trivial))) rfl) r fun G2 H2 g => ?_
  have hv2 := (Sq K S xs).st g.g hv
  refine tq_each (fun σ => ∃ y1 y2, σ = [some v, y1, y2]) ⟨_, _, rfl⟩ (ei_enum (ev_var rfl hv2)) (g.r _ r) ?_ ?_
  · rintro i ⟨j, x⟩ hp y G' H' σ' D' s r' ⟨ad, v1, v2, rfl, hT, h1, h2⟩ ⟨y1, y2, rfl⟩ _ kn
    obtain ⟨rfl, hxi⟩ := enumI_get hp
    refine gto_tup2 hT H' r' _ ?_
    refine ts_ifFN (EvT.eq (et_or (et_not (et_B (ev_call x (ea_cons (ev_var rfl h2) ea_nil) (hx x (List.mem_of_getElem? hxi))))) fun _ => et_test (ev_in (ev_var rfl h2) (ev_takeQ (ev_var rfl ((Sq K S xs).st s hv2)) (eo_some (ev_var rfl h1))))) ?_) r' fun G3 H3 g3 => kn _ G3 H3 g3 ⟨_, _, rfl⟩
    have hn : x ∉ xs.take i := nodup_take nd hxi
    simp [hn]
  · rintro σ' G3 H3 g3 ⟨y1, y2, rfl⟩
    refine ts_ret (EvN.ev (en_sorted (ev_var rfl ((Sq K S xs).st g3.g hv2)) enc_S alk_S (sortable_S xs))) (g3.r _ (g.r _ r)) fun u G4 H4 g4 p => k u G4 H4 ((g.trans g3).trans g4) p
def sp_is_pair_of (K : PySem.W.Frag) : Sp := spF true (fun i : (Str × Str) × List Str => [Pq K i.1, Sq K S i.2]) (fun i => i.1.1 ∈ i.2 ∧ i.1.2 ∈ i.2) (fun _ => B true)
theorem ok_is_pair_of (F : Fn K mg "is_pair_of" s_is_pair_of ["thing", "statements"]) (T : Txt K mg aL) (c_is_list : C8.Cal P w K mg base 1 "is_list" (sp_is_list K) []) : C8.Cal P w K mg base 2 "is_pair_of" (sp_is_pair_of K) [] := by
  refine cal_of F sc_is_pair_of (fun vs H Q E h => spF_len h fun _ => rfl) (fun f cdv A outer s H vs Q E hr h => ?_)
  obtain ⟨⟨p, cs⟩, G, v, w, rfl, r, ⟨h1, h2⟩, hv, hw, k⟩ := sp2 h fun _ => rfl
  refine ⟨_, (pss_one (ps_ret (pe_and (C8.pe_c c_is_list hr (by first | decide | omega) rfl (pa_cons (pv 0) pa_nil)) (pe_and (pe_cmpR op_eq (pe_callB (call_lenK (K := K)) rfl T.len PySem.boot_len (pa_cons (pv 0) pa_nil)) pe_int (nomark _)) (pe_one (pe_callB (call_allK (K := K) rfl) rfl T.all boot_all (pa_cons (pe_lc (own := [("one", 2)]) rfl sc_is_pair_of.nd (pi_seqK (K := K) (pv 0)) (blkOk_by (by kernel_rfl)) (fun _ _ _ _ _ => (pg_name (i := 2) sc_is_pair_of.nd rfl (by first | exact Or.inl rfl | exact Or.inr rfl))) (fun _ _ _ _ _ => pts_nil) (fun _ _ _ _ _ => (pe_and (pe_callB (call_isiKK (K := K)) rfl T.isinstance boot_isinstance (pa_cons (pv 2) (pa_cons (pe_bltn (v := .ty "str") rfl T.str boot_str rfl) pa_nil))) (pe_one (pe_cmpR (op_inK (K := K)) (pv 2) (pv 1) (by with_unfolding_all rfl)))))) pa_nil))))))), ?_⟩
  refine ts_ret (Ev.eq (R' := B true) (ev_and (ev_call () (ea_cons ((ev_var rfl hv).is fun _ _ _ q => sqv_of' q) ea_nil) trivial) fun _ => ev_and (ev_eqI (ev_len (ev_var rfl hv)) ev_int) fun _ => ev_allL (en_map (ei_sq (ev_var rfl hv)) fun a ha y G' s hy =>
    ⟨_, gto_name, rfl, ev_and (ev_isi (r := true) (ev_var rfl hy) hty_S) fun _ => ev_in (ev_var rfl hy) (ev_var rfl ((Sq K S cs).st s hw))⟩)) ?_) r k
  simp [h1, h2]
end
end Gd
-- part D2
set_option Elab.async false
set_option linter.all false
set_option maxRecDepth 100000
set_option maxHeartbeats 1000000
namespace Gd
open PySem PySem.Spec PyProof.Rows L2
universe u
def InsR (C : Addr) (L : List (Str × SR)) : SR := ⟨fun u G => ∃ a dx fs, u = .ref a ∧ G a = some (.ins C dx fs) ∧ ∀ q ∈ L, ∃ v, fs.lookup q.1 = some v ∧ q.2.p v G,
  fun s ⟨a, dx, fs, h1, h2, h3⟩ => ⟨a, dx, fs, h1, s _ _ h2, fun q hq => let ⟨v, h4, h5⟩ := h3 q hq; ⟨v, h4, q.2.st s h5⟩⟩⟩
theorem ev_insF {K : PySem.W.Frag} {b : Bool} {σ : L2.St} {G : Hp} {te : TE} {C : Addr} {L : List (Str × SR)} {f : Str} {R : SR} (h : Ev b te σ G (InsR C L)) (cl : Cls K C) (na : NoAttr K C f) (hf : (f, R) ∈ L) : Ev b (tFld K te f) σ G R := ev_fld h cl na fun u G' ⟨a, dx, fs, h1, h2, h3⟩ => let ⟨v, h4, h5⟩ := h3 _ hf; ⟨a, dx, fs, v, h1, h2, h4, h5⟩
theorem el_insF {K : PySem.W.Frag} {W : SC} {O : Own} {k : Nat} {Rs : RL} {te : TE} {C : Addr} {L : List (Str × SR)} {f : Str} {R : SR} (h : EL W O k te Rs (InsR C L)) (cl : Cls K C) (na : NoAttr K C f) (hf : (f, R) ∈ L) : EL W O k (tFld K te f) Rs R := el_f1 (fun a => tFld K a f) h fun _ _ _ p => ev_insF (ev_cR' p) cl na hf
def tosP (ps : List (Str × Str)) (s : Str) : List Str := (ps.filter fun p => decide (p.2 = s)).map (·.1)
def fromP (ps : List (Str × Str)) (s : Str) : List Str := (ps.filter fun p => decide (p.1 = s)).map (·.2)
theorem tosP_snoc (ps : List (Str × Str)) (p : Str × Str) (s : Str) : tosP (ps ++ [p]) s = if s = p.2 then tosP ps p.2 ++ [p.1] else tosP ps s := by
  unfold tosP
  rw [List.filter_append, List.map_append]
  by_cases e : s = p.2
  · subst e; simp
  · rw [if_neg e]
    have : p.2 ≠ s := fun z => e z.symm
    simp [this]
theorem fromP_snoc (ps : List (Str × Str)) (p : Str × Str) (s : Str) : fromP (ps ++ [p]) s = if s = p.1 then fromP ps p.1 ++ [p.2] else fromP ps s := by
  unfold fromP
  rw [List.filter_append, List.map_append]
  by_cases e : s = p.1
  · subst e; simp
  · rw [if_neg e]
    have : p.1 ≠ s := fun z => e z.symm
    simp [this]
theorem tosP_len (ps : List (Str × Str)) (s : Str) : (tosP ps s).length ≤ ps.length := by
  unfold tosP
  rw [List.length_map]
  exact List.length_filter_le _ _
theorem fromP_len (ps : List (Str × Str)) (s : Str) : (fromP ps s).length ≤ ps.length := by
  unfold fromP
  rw [List.length_map]
  exact List.length_filter_le _ _
def dbF (K : PySem.W.Frag) (d : Deb) : List (Str × SR) := [("own_objected", Dct (Lst S) (d.1.map fun s => (s, fromP d.2 s))), ("own_objectors", Dct (Lst S) (d.1.map fun s => (s, tosP d.2 s))), ("own_objections", Lst RPr d.2), ("own_statements", Lst S d.1)]
abbrev DB (K : PySem.W.Frag) (C : Addr) (d : Deb) : SR := InsR C (dbF K d)
structure DCls (K : PySem.W.Frag) (C : Addr) : Prop where
  cl : Cls K C
  nS : NoAttr K C "own_statements"
  nO : NoAttr K C "own_objections"
  nT : NoAttr K C "own_objectors"
  nF : NoAttr K C "own_objected"
def okD (i : Deb) : Prop := ((∀ x ∈ i.1, isName x = true) ∧ i.1.Nodup ∧ i.1.length ≤ 1000) ∧ i.2.Nodup ∧ (∀ p ∈ i.2, p.1 ∈ i.1 ∧ p.2 ∈ i.1) ∧ i.2.length ≤ 10000
def mkD (i : Deb) : Deb := (srt PyData.str i.1, srt pT i.2)
section
variable {K : PySem.W.Frag} {W : SC} {O : Own} {k n : Nat} {Rs : RL} {te : TE} {C : Addr} {d : Deb} {b : Bool} {σ : L2.St} {G : Hp}
theorem el_dbS (T : DCls K C) (h : EL W O k te Rs (DB K C d)) : EL W O k (tFld K te "own_statements") Rs (Lst S d.1) := el_insF h T.cl T.nS (by unfold dbF; simp)
theorem el_dbT (T : DCls K C) (h : EL W O k te Rs (DB K C d)) : EL W O k (tFld K te "own_objectors") Rs (Dct (Lst S) (d.1.map fun s => (s, tosP d.2 s))) := el_insF h T.cl T.nT (by unfold dbF; simp)
theorem ev_dbS (T : DCls K C) (h : Ev b te σ G (DB K C d)) : Ev b (tFld K te "own_statements") σ G (Lst S d.1) := ev_insF h T.cl T.nS (by unfold dbF; simp)
theorem ev_dbO (T : DCls K C) (h : Ev b te σ G (DB K C d)) : Ev b (tFld K te "own_objections") σ G (Lst (Pr K S S) d.2) := (ev_insF (R := Lst RPr d.2) h T.cl T.nO (by unfold dbF; simp)).is fun _ _ _ p => lst_rpr p
theorem ev_dbT (T : DCls K C) (h : Ev b te σ G (DB K C d)) : Ev b (tFld K te "own_objectors") σ G (Dct (Lst S) (d.1.map fun s => (s, tosP d.2 s))) := ev_insF h T.cl T.nT (by unfold dbF; simp)
theorem ev_dbF (T : DCls K C) (h : Ev b te σ G (DB K C d)) : Ev b (tFld K te "own_objected") σ G (Dct (Lst S) (d.1.map fun s => (s, fromP d.2 s))) := ev_insF h T.cl T.nF (by unfold dbF; simp)
end
section
variable {P : Program} {w : World} {K : PySem.W.Frag} {mg : Str → Option Value} {base : Heap} {aL : Addr} {Tb : List (Addr × Str)}
def sp_checked_objections (K : PySem.W.Frag) (Tb : List (Addr × Str)) : Sp := spM Tb (fun i : List (Str × Str) × List Str => [Sq K (Pq K) i.1, Lst S i.2]) (fun i => i.1.Nodup ∧ (∀ p ∈ i.1, p.1 ∈ i.2 ∧ p.2 ∈ i.2) ∧ i.1.length ≤ 10000) (fun i => Lst RPr (srt pT i.1))
theorem ok_checked_objections (F : Fn K mg "checked_objections" s_checked_objections ["objections", "statements"]) (T : Txt K mg aL) (c_is_list : C8.Cal P w K mg base 1 "is_list" (sp_is_list K) []) (c_is_pair_of : C8.Cal P w K mg base 2 "is_pair_of" (sp_is_pair_of K) []) (c_as_tuples : C8.Cal P w K mg base 3 "as_tuples" (sp_as1 K) []) : C8.Cal P w K mg base 4 "checked_objections" (sp_checked_objections K Tb) [] := by
  refine cal_of F sc_checked_objections (fun vs H Q E h => spM_len h fun _ => rfl) (fun f cdv A outer s H vs Q E hr h => ?_)
  have hu64 := hu64_of hr
  have hu := hu_of hr
  obtain ⟨⟨ps, ss⟩, st, c, n, O, G, w0, hn, ⟨nd, hm, hl⟩, al, k⟩ := h
  have hl : ps.length ≤ 10000 := hl
  have nd : ps.Nodup := nd
  refine ⟨_, (pss_cons (ps_if (pt_not (pt_val (C8.pe_c c_is_list hr (by first | decide | omega) rfl (pa_cons (pv 0) pa_nil)))) (pss_one ps_never) pss_nil)
      (pss_cons (ps_set (i := 2) sc_checked_objections.nd rfl (by first | exact Or.inl rfl | exact Or.inr rfl) pe_dnewT)
      (pss_cons (ps_for PassesOwn.never rfl (pi_enumK (K := K) rfl T.enumerate (pa_cons (pv 0) pa_nil)) (pg_tupK (K := K) (n := 2) rfl (pgs_cons (pg_name (i := 3) sc_checked_objections.nd rfl (by first | exact Or.inl rfl | exact Or.inr rfl)) (pgs_cons (pg_name (i := 4) sc_checked_objections.nd rfl (by first | exact Or.inl rfl | exact Or.inr rfl)) pgs_nil))) (pss_cons (ps_if (PW.pt (pw_or (pt_not (pt_val (C8.pe_c c_is_pair_of hr (by first | decide | omega) rfl (pa_cons (pv 4) (pa_cons (pv 1) pa_nil))))) (pw_or1 (pt_cmp (pc_din hu (C8.pe_c c_as_tuples hr (by first | decide | omega) rfl (pa_cons (pv 4) pa_nil)) (pv 2)))))) (pss_one ps_never) pss_nil)
      (pss_one (ps_dput hu (pv 2) (C8.pe_c c_as_tuples hr (by first | decide | omega) rfl (pa_cons (pv 4) pa_nil)) pe_bl rfl))))
      (pss_one (ps_ret (pe_callB (call_srtT (K := K) hu64) rfl T.sorted boot_sorted (pa_cons (pv 2) pa_nil))))))), ?_⟩
  have hok : ∀ s ∈ ss, okS s = true := by
    obtain ⟨v, w', rfl, h1, h2⟩ := alr2 al
    exact sq_ok (K := K) (.inl h2)
  refine (?_ : HL ⟨st, c, Tb⟩ G n O [some (Sq K (Pq K) ps), some (Lst S ss), none, none, none] _ _) _ _ ⟨G, Same.refl G, by have h := slots_start (N := ["objections", "statements", "known", "index", "thing"]) al; rw [alr_len al] at h; exact h, w0⟩
  refine hl_ifF (k := 0) (ETL.eq (etl_not (etl_B (el_call () (eal_cons ((el_var (i := 0) rfl).is fun _ _ q => sqv_of' q) eal_nil) trivial))) rfl) ?_
  refine hl_setN (k := 0) elo_dnewT fun D => ?_
  dsimp only [List.set]
  refine hl_for (k := 0) (e := Pr K I (Pq K)) (xs := enumI ps) (δ := List (Str × Str)) (fun i d => d = ps.take i) (fun d => (D, OT d) :: O) (fun _ => [some (Sq K (Pq K) ps), some (Lst S ss), some (cst (.ref D)), none, none]) 0 (eil_enum (el_var rfl)) [] rfl rfl (fun G => (.eq (.eq (.eq (.no (.no .nil)))))) ?_ ?_ (by omega)
  · rintro i ⟨j, p⟩ d E' G1 hp rfl hrt s1 kn hn1
    obtain ⟨rfl, hpi⟩ := enumI_get hp
    refine ⟨_, _, gl_pr gl_name gl_name, ?_⟩
    dsimp only [List.set]
    have hpm : p ∈ ps := List.mem_of_getElem? hpi
    have hpn : p ∉ ps.take i := nodup_take nd hpi
    have htl : (ps.take i).length ≤ 100000 := by rw [List.length_take]; omega
    refine hl_ifF (k := 0) (ETL.eq (etl_or (k := 0) (m := 0) (etl_not (etl_B (el_call (p, ss) (eal_cons (el_var rfl) (eal_cons (el_sqL (el_var rfl)) eal_nil)) (hm p hpm)))) fun _ => etl_test (el_inT (ks := ps.take i) (p := p) (List.mem_cons_self ..) rfl (el_call [p.1, p.2] (eal_cons (el_var rfl) eal_nil) trivial))) (by simp [hpn])) ?_
    refine hl_last ?_
    refine hl_putT (k := 0) (p := p) rfl (el_call [p.1, p.2] (eal_cons (el_var rfl) eal_nil) trivial) hpn htl ?_
    exact hl_nx fun σ H a => kn _ σ H (take_succ hpi).symm ((a.weak fun G => (.eq (.eq (.eq (.no (.no .nil)))))).le (by omega))
  · rintro d rfl
    rw [enumI_len, List.take_length]
    exact hl_ret (k := 0) (ELN.el (eln_srtT (List.mem_cons_self ..) rfl fun p hp => ⟨hok _ (hm p hp).1, hok _ (hm p hp).2⟩)) fun v G2 H2 s2 w2 p => k v G2 H2 s2 ((w2.drop (List.sublist_cons_self ..)).le (by omega)) p
end
end Gd
-- part D3
set_option Elab.async false
set_option linter.all false
set_option maxRecDepth 100000
set_option maxHeartbeats 1000000
namespace Gd
open PySem PySem.Spec PyProof.Rows L2
universe u
theorem srtS_nodup {xs : List Str} (h : xs.Nodup) : (srt PyData.str xs).Nodup := srt_nodup.mpr h
section
variable {P : Program} {w : World} {K : PySem.W.Frag} {mg : Str → Option Value} {base : Heap} {aL : Addr} {Tb : List (Addr × Str)}
def sp_initD (K : PySem.W.Frag) (C : Addr) (Tb : List (Addr × Str)) : Sp := fun vs H Q _ => ∃ (i : Deb) (st c : Addr) (n : Nat) (O : Own) (G : Hp) (p : Addr) (v w : V), vs = [.ref p, v, w] ∧ Wd ⟨st, c, Tb⟩ n ((p, OI C []) :: O) G H ∧ n ≤ 1000000 ∧ okD i ∧ (Sq K S i.1).p v G ∧ (Sq K (Pq K) i.2).p w G ∧
  ∀ G2 H2, Same G G2 → Wd ⟨st, c, Tb⟩ n O G2 H2 → (DB K C (mkD i)).p (.ref p) G2 → Q .non H2
theorem db_made {C p D1 D2 : Addr} {ss : List Str} {qs : List (Str × Str)} {pl1 pl2 : Str → Addr} {acc1 acc2 : Str → List Str} {G : Hp} (hl : ss.length ≤ 100000) (e1 : ∀ s ∈ ss, acc1 s = tosP qs s) (e2 : ∀ s ∈ ss, acc2 s = fromP qs s)
    (h : ∀ q ∈ omO S D1 pl1 acc1 ss ++ (omO S D2 pl2 acc2 ss ++ [(p, OI C [("own_objected", cst (.ref D2)), ("own_objectors", cst (.ref D1)), ("own_objections", Lst RPr qs), ("own_statements", Lst S ss)])]), ∃ o, G q.1 = some o ∧ q.2.p o G) : (DB K C (ss, qs)).p (.ref p) G := by
  obtain ⟨o, h1, dx, fs, rfl, _, h3⟩ := h _ (List.mem_append_right _ (List.mem_append_right _ (List.mem_singleton.mpr rfl)))
  refine ⟨p, dx, fs, rfl, h1, fun q hq => ?_⟩
  unfold dbF at hq
  simp only [List.mem_cons, List.not_mem_nil, or_false] at hq
  rcases hq with rfl | rfl | rfl | rfl
  · obtain ⟨v, h4, h5⟩ := h3 ("own_objected", cst (.ref D2)) (by simp)
    obtain rfl : v = .ref D2 := h5
    refine ⟨_, h4, ?_⟩
    have := om_dct (e := S) (D := D2) (pl := pl2) (acc := acc2) hl fun q hq => h q (List.mem_append_right _ (List.mem_append_left _ hq))
    rwa [List.map_congr_left fun s hs => by rw [e2 s hs]] at this
  · obtain ⟨v, h4, h5⟩ := h3 ("own_objectors", cst (.ref D1)) (by simp)
    obtain rfl : v = .ref D1 := h5
    refine ⟨_, h4, ?_⟩
    have := om_dct (e := S) (D := D1) (pl := pl1) (acc := acc1) hl fun q hq => h q (List.mem_append_left _ hq)
    rwa [List.map_congr_left fun s hs => by rw [e1 s hs]] at this
  · obtain ⟨v, h4, h5⟩ := h3 ("own_objections", Lst RPr qs) (by simp)
    exact ⟨v, h4, h5⟩
  · obtain ⟨v, h4, h5⟩ := h3 ("own_statements", Lst S ss) (by simp)
    exact ⟨v, h4, h5⟩
theorem ok_initD {C : Addr} {f : Addr} {fd : FuncData} (M : Mk K C f) (F : L2.Fun K "__init__" "Debate.__init__" s_Debate_init f fd) (hm : mg "Debate" = some (.ref C)) (bi : Binds K fd ["self", "statements", "objections"] []) (T : Txt K mg aL) (DC : DCls K C)
    (c_checked_statements : C8.Cal P w K mg base 2 "checked_statements" (sp_checked_statements K) []) (c_checked_objections : C8.Cal P w K mg base 4 "checked_objections" (sp_checked_objections K Tb) []) : C8.Mak P w K mg base 5 "Debate" C (sp_initD K C Tb) [] := by
  refine ⟨f, fd, _, [], M, F.ok sc_Debate_init (fun vs H Q E h => ?_) (fun cdv A outer s H vs Q E hr h => ?_), hm, bi, .nil⟩
  · obtain ⟨i, st, c, n, O, G, p, v, w, rfl, _⟩ := h
    rfl
  · have hu64 := hu64_of hr
    have hu := hu_of hr
    obtain ⟨⟨cs, ps⟩, st, c, n, O, G, p, v, w', rfl, w0, hn, ⟨⟨hx, nd, hcl⟩, pnd, hpm, hpl⟩, hv, hw, k⟩ := h
    have hcl : cs.length ≤ 1000 := hcl
    have hpl : ps.length ≤ 10000 := hpl
    refine ⟨_, (pss_cons (ps_fldK (K := K) (pv 0) (C8.pe_c c_checked_statements hr (by first | decide | omega) rfl (pa_cons (pv 1) pa_nil)) rfl)
      (pss_cons (ps_fldK (K := K) (pv 0) (C8.pe_c c_checked_objections hr (by first | decide | omega) rfl (pa_cons (pv 2) (pa_cons (pe_fldK (K := K) (pv 0) rfl) pa_nil))) rfl)
      (pss_cons (ps_fldK (K := K) (pv 0) (pe_dc (own := [("statement", 5)]) rfl sc_Debate_init.nd (pi_seqK (K := K) (pe_fldK (K := K) (pv 0) rfl)) (blkOk_by (by kernel_rfl)) (fun _ _ _ _ _ => (pg_name (i := 5) sc_Debate_init.nd rfl (by first | exact Or.inl rfl | exact Or.inr rfl))) (fun _ _ _ _ _ => pts_nil) (fun _ _ _ _ _ => (pv 5)) (fun _ _ _ _ _ => (pe_lst pa_nil))) rfl)
      (pss_cons (ps_fldK (K := K) (pv 0) (pe_dc (own := [("statement", 5)]) rfl sc_Debate_init.nd (pi_seqK (K := K) (pe_fldK (K := K) (pv 0) rfl)) (blkOk_by (by kernel_rfl)) (fun _ _ _ _ _ => (pg_name (i := 5) sc_Debate_init.nd rfl (by first | exact Or.inl rfl | exact Or.inr rfl))) (fun _ _ _ _ _ => pts_nil) (fun _ _ _ _ _ => (pv 5)) (fun _ _ _ _ _ => (pe_lst pa_nil))) rfl)
      (pss_one (ps_for PassesOwn.never rfl (pi_seqK (K := K) (pe_fldK (K := K) (pv 0) rfl)) (pg_tupK (K := K) (n := 2) rfl (pgs_cons (pg_name (i := 3) sc_Debate_init.nd rfl (by first | exact Or.inl rfl | exact Or.inr rfl)) (pgs_cons (pg_name (i := 4) sc_Debate_init.nd rfl (by first | exact Or.inl rfl | exact Or.inr rfl)) pgs_nil))) (pss_cons (ps_expr (pe_bmK (K := K) PySem.F.plainAttrs_list PySem.F.slot_list_append PySem.F.type_list_append mt_append (pe_dget hu (pe_fldK (K := K) (pv 0) rfl) (pv 4) (fun _ _ => rfl)) (pa_cons (pv 3) pa_nil)))
      (pss_one (ps_expr (pe_bmK (K := K) PySem.F.plainAttrs_list PySem.F.slot_list_append PySem.F.type_list_append mt_append (pe_dget hu (pe_fldK (K := K) (pv 0) rfl) (pv 3) (fun _ _ => rfl)) (pa_cons (pv 4) pa_nil))))))))))), ?_⟩
    have hss : (srt PyData.str cs).length ≤ 100000 := by unfold srt; rw [List.length_mergeSort]; omega
    have hqs : (srt pT ps).length ≤ 10000 := by unfold srt; rw [List.length_mergeSort]; omega
    have hnd := srtS_nodup (xs := cs) nd
    have hqm : ∀ q ∈ srt pT ps, q.1 ∈ srt PyData.str cs ∧ q.2 ∈ srt PyData.str cs := fun q hq => ⟨mem_srt.mpr (hpm q (mem_srt.mp hq)).1, mem_srt.mpr (hpm q (mem_srt.mp hq)).2⟩
    generalize hSS : srt PyData.str cs = ss at *
    generalize hQS : srt pT ps = qs at *
    refine (?_ : HL ⟨st, c, Tb⟩ G n ((p, OI C []) :: O) [some (cst (.ref p)), some (Sq K S cs), some (Sq K (Pq K) ps), none, none, none] _ _) _ _ ⟨G, Same.refl G, slots_start (N := ["self", "statements", "objections", "one", "other", "statement"]) (vs := [.ref p, v, w']) (Ls := [cst (.ref p), Sq K S cs, Sq K (Pq K) ps]) (.cons rfl (.cons hv (.cons hw .nil))), w0⟩
    refine hl_fld (k := 0) DC.cl DC.nS rfl (el_call cs (eal_cons (el_var rfl) eal_nil) ⟨hx, nd⟩) ?_ (by simp) (by simp)
    rw [hSS]
    refine hl_fld (k := 0) DC.cl DC.nO rfl (el_callm (W := ⟨st, c, Tb⟩) (ι := List (Str × Str) × List Str) (post := fun i => Lst RPr (srt pT i.1)) (ps, ss) (eal_cons (el_var rfl) (eal_cons (el_fldO DC.cl DC.nS rfl (List.mem_cons_self ..) (List.mem_cons_self ..)) eal_nil)) ⟨pnd, fun q hq => ?_, hpl⟩) ?_ (by simp; decide) (by simp)
    · rw [← hSS]; exact ⟨mem_srt.mpr (hpm q hq).1, mem_srt.mpr (hpm q hq).2⟩
    dsimp only
    rw [hQS]
    refine hl_fldM (k := 0) S DC.cl DC.nT rfl (eil_sq (el_sqL (el_fldO DC.cl DC.nS rfl (List.mem_cons_self ..) (by simp)))) hnd (fun D1 pl1 => ?_) (by simp; decide) (by simp)
    refine hl_fldM (k := 0) S DC.cl DC.nF rfl (eil_sq (el_sqL (el_fldO DC.cl DC.nS rfl (List.mem_cons_self ..) (by simp)))) hnd (fun D2 pl2 => ?_) (by simp; decide) (by simp)
    refine HL.perm (O' := omO S D1 pl1 (fun _ => []) ss ++ (omO S D2 pl2 (fun _ => []) ss ++ ((p, OI C [("own_objected", cst (.ref D2)), ("own_objectors", cst (.ref D1)), ("own_objections", Lst RPr qs), ("own_statements", Lst S ss)]) :: O))) ?_ ?_
    · refine hl_for (k := 0) (e := Pr K S S) (xs := qs) (δ := Nat) (fun i d => d = i) (fun d => omO S D1 pl1 (tosP (qs.take d)) ss ++ (omO S D2 pl2 (fromP (qs.take d)) ss ++ ((p, OI C [("own_objected", cst (.ref D2)), ("own_objectors", cst (.ref D1)), ("own_objections", Lst RPr qs), ("own_statements", Lst S ss)]) :: O))) (fun _ => [some (cst (.ref p)), some (Sq K S cs), some (Sq K (Pq K) ps), none, none, none]) 0 (eil_sq (el_sqL ((el_fldO (R := Lst RPr qs) DC.cl DC.nO rfl (List.mem_append_right _ (List.mem_append_right _ (List.mem_cons_self ..))) (by simp)).is fun _ _ p => lst_rpr p))) 0 rfl rfl (fun G => (.eq (.eq (.eq (.no (.no (.no .nil))))))) ?_ ?_ (by omega)
      · rintro i ⟨a, b⟩ d E' G1 hp rfl hrt s1 kn hn1
        refine ⟨_, _, gl_pr gl_name gl_name, ?_⟩
        dsimp only [List.set]
        obtain ⟨ha, hb⟩ := hqm _ (List.mem_of_getElem? hp)
        have htl : (qs.take d).length ≤ 100000 := by rw [List.length_take]; omega
        refine hl_pushM2 (k := 0) (m := 0) (c := b) (a := a) hnd hb (fun O' h1 h2 => el_dgetE (k := 0) (m := 0) (el_fldO DC.cl DC.nT rfl (h2 _ (List.mem_append_right _ (List.mem_cons_self ..))) (by simp)) h1 (el_var rfl) (valV_pl hb)) (fun O' => el_var rfl) (Nat.le_trans (tosP_len _ _) htl) ?_
        refine HL.perm ?_ (List.perm_append_comm_assoc _ _ _)
        refine hl_last ?_
        refine hl_pushM2 (k := 0) (m := 0) (c := a) (a := b) hnd ha (fun O' h1 h2 => el_dgetE (k := 0) (m := 0) (el_fldO DC.cl DC.nF rfl (h2 _ (List.mem_append_right _ (List.mem_cons_self ..))) (by simp)) h1 (el_var rfl) (valV_pl ha)) (fun O' => el_var rfl) (Nat.le_trans (fromP_len _ _) htl) ?_
        refine HL.perm ?_ (List.perm_append_comm_assoc _ _ _)
        refine hl_nx fun σ H at0 => kn _ σ H rfl ?_
        have e1 : omO S D1 pl1 (fun x => if x = b then tosP (qs.take d) b ++ [a] else tosP (qs.take d) x) ss = omO S D1 pl1 (tosP (qs.take (d + 1))) ss := omO_congr fun y _ => by rw [take_succ hp, tosP_snoc]
        have e2 : omO S D2 pl2 (fun x => if x = a then fromP (qs.take d) a ++ [b] else fromP (qs.take d) x) ss = omO S D2 pl2 (fromP (qs.take (d + 1))) ss := omO_congr fun y _ => by rw [take_succ hp, fromP_snoc]
        rw [← e1, ← e2]
        exact (at0.weak fun G => (.eq (.eq (.eq (.no (.no (.no .nil))))))).le (by omega)
      · rintro d rfl
        rw [List.take_length]
        refine hl_nx fun σ H ⟨G2, s2, sl, w2⟩ => ?_
        have e0 : ∀ (A1 A2 : Own) (X : Addr × OR), A1 ++ (A2 ++ (X :: O)) = (A1 ++ (A2 ++ [X])) ++ O := fun A1 A2 X => by simp
        rw [e0] at w2
        obtain ⟨G3, s3, w3, h3⟩ := w2.freezeAll
        refine k G3 H (s2.trans s3) (w3.le (by omega)) ?_
        show (DB K C (srt PyData.str cs, srt pT ps)).p _ _
        rw [hSS, hQS]
        exact db_made hss (fun _ _ => rfl) (fun _ _ => rfl) fun q hq => let ⟨o, _, h4, h5⟩ := h3 q hq; ⟨o, h4, h5⟩
    · exact (List.perm_append_comm_assoc ..).trans ((List.perm_middle.append_left _).trans List.perm_middle)
theorem el_mkD {C : Addr} {W : SC} {O : Own} {k : Nat} {Rs : RL} {ta : TA} {E : XK} {i : Deb} (ha : EAL W O k ta Rs [Sq K S i.1, Sq K (Pq K) i.2]) (hi : okD i) : EL W O k (tMake C (sp_initD K C W.tb) [] E ta) Rs (DB K C (mkD i)) := fun σ G H n Q sl w hn kk =>
  ha σ G H n _ sl w hn fun vs G2 H2 s2 w2 al => by
    obtain ⟨v, w', rfl, hv, hw⟩ := alr2 al
    intro x dx nx ndx hne
    refine ⟨i, W.s, W.c, n + k, O, G2, x, v, w', rfl, w2.fresh (w2.go (Go.made w2.r nx ndx)) (Nw.of nx) (w2.r.free nx) upd_same rfl ⟨dx, [], rfl, Nat.le_refl _, fun q hq => by cases hq⟩, hn, hi, hv, hw, fun G3 H3 s3 w3 hu => ⟨rfl, ?_⟩⟩
    exact kk _ G3 H3 (s2.trans s3) w3 hu
end
end Gd
-- part Gd53
set_option Elab.async false
set_option linter.all false
set_option maxRecDepth 100000
set_option maxHeartbeats 1000000
namespace Gd
open PySem PySem.Spec PyProof.Rows L2
universe u
abbrev eAt : Addr × List Str → SR := fun z => LAt z.1 z.2
def NwF (W : SC) (G0 : Hp) (O : Own) (p : Addr) : Prop := p ≠ W.s ∧ p ≠ W.c ∧ G0 p = none ∧ p ∉ O.map (·.1)
theorem atI_last {α : Type} {xs : List α} {a : α} (h : xs.getLast? = some a) : atI xs (-1) = some a := by
  have hne : xs ≠ [] := fun z => by rw [z] at h; cases h
  have hl : 0 < xs.length := List.length_pos_iff.mpr hne
  rw [List.getLast?_eq_getElem?] at h
  have e : ixN xs.length (-1) = some (xs.length - 1) := by
    unfold ixN
    rw [if_neg (by decide), if_pos (by omega)]
    congr 1
    omega
  unfold atI
  rw [e]
  exact h
theorem at_refs : ∀ {qs : List (Addr × List Str)} {vs : List V} {G : Hp}, Al eAt qs vs G → vs = (qs.map (·.1)).map V.ref
  | _, _, _, .nil => rfl
  | _, _, _, .cons h t => by
    rw [List.map_cons, List.map_cons, ← at_refs t, h.1]
section
variable {K : PySem.W.Frag} {W : SC} {O O' : Own} {n k m : Nat} {G0 G G2 H H2 : Hp} {Rs Rs' : RL} {R : SR} {te ta tb to : TE} {t u : TS} {E : Ends} {α : Type} {e : α → SR} {xs : List Str} {p pf : Addr} {i j : Nat} {qs : List (Addr × List Str)}
theorem Wd.nwF (w : Wd W n ((p, OL S xs) :: O) G H) (s : Same G0 G) : NwF W G0 O p := by
  obtain ⟨h1, h2, h3, _⟩ := w.o _ (List.mem_cons_self ..)
  refine ⟨h1, h2, ?_, (List.nodup_cons.mp w.nd).1⟩
  cases e : G0 p with
  | none => rfl
  | some o =>
    have := s _ _ e
    rw [h3] at this
    cases this
theorem hl_newAt (h : ELN W O k te Rs S xs) (q : ∀ p z, NwF W G0 O z → HL W G0 (n + k) ((p, OL eAt [(z, xs)]) :: O) (Rs.set i (some (cst (.ref p)))) u E) (hn : n + k ≤ 1000000 := by omega) : HL W G0 n O Rs (tSeq (tAsg (tLst (tCons te tNil)) (gName i)) u) E := fun σ H ⟨G, s, sl, w⟩ => by
  refine h σ G H n _ sl w hn fun z G2 H2 s2 w2 => ⟨by show 1 ≤ sizeLine; decide, fun p hp => ?_⟩
  have hf := w2.nwF (s.trans s2)
  obtain ⟨o, h1, ⟨vs, rfl, h5, h6⟩, s3, w3⟩ := w2.freeze
  refine q p z hf _ _ ⟨_, (s.trans s2).trans s3, (sl.st (s2.trans s3)).set (R := cst (.ref p)) rfl, w3.own (R := OL eAt [(z, xs)]) hp rfl ⟨[.ref z], rfl, by show 1 ≤ sizeLine; decide, .cons ⟨rfl, z, vs, rfl, upd_same, h5, h6.st s3⟩ .nil⟩⟩
theorem hl_pushAt (hi : Rs[i]? = some (some (cst (.ref pf)))) (hj : Rs[j]? = some (some (cst (.ref p)))) (hij : i ≠ j) (hl : qs.length ≤ 100000) (q : NwF W G0 O p → (∀ z ∈ qs, z.1 ≠ p) → HL W G0 n ((pf, OL eAt (qs ++ [(p, xs)])) :: O) (Rs.set j (some (LAt p xs))) u E) (hn : n ≤ 1000000 := by omega) : HL W G0 n ((p, OL S xs) :: (pf, OL eAt qs) :: O) Rs (tSeq (tDrop (tBM K "list" rAppend (tVar i) (tCons (tVar j) tNil))) u) E := fun σ H ⟨G, s, sl, w⟩ => by
  obtain ⟨f1, f2, f3, f4⟩ := w.nwF s
  have hq : ∀ z ∈ qs, z.1 ≠ p := fun z hz e => by
    obtain ⟨_, _, _, o, h4, _, vs, rfl, _, al⟩ := w.o _ (List.mem_cons_of_mem _ (List.mem_cons_self ..))
    obtain ⟨i, hi⟩ := List.getElem?_of_mem hz
    obtain ⟨v, _, ev, a, ws, ea, h5, _⟩ := al.get' hi
    rw [ev] at ea
    cases ea
    obtain ⟨_, _, h6, _⟩ := w.o _ (List.mem_cons_self ..)
    rw [e, h6] at h5
    cases h5
  obtain ⟨o, h1, ⟨vs, rfl, h5, h6⟩, s3, w3⟩ := w.freeze
  have sl3 := (sl.st s3).conv (R' := LAt p xs) hj fun v hv => by
    obtain rfl : v = .ref p := hv
    exact ⟨rfl, p, vs, rfl, upd_same, h5, h6.st s3⟩
  refine hl_push (k := 0) (K := K) (e := eAt) (a := (p, xs)) (p := pf) ?_ (el_var ?_) hl (q ⟨f1, f2, f3, fun hm => f4 (List.mem_cons_of_mem _ hm)⟩ hq) (by omega) _ _ ⟨_, s.trans s3, sl3, w3⟩
  · rw [List.getElem?_set_ne hij.symm]
    exact hi
  · exact List.getElem?_set_self (List.getElem?_eq_some_iff.mp hj).1
theorem el_lastO {Ro : OR} {ys : List α} {a : α} (hR : ∀ o G, Ro.p o G → (OL e ys).p o G) (hO : (pf, Ro) ∈ O) (hi : Rs[i]? = some (some (cst (.ref pf)))) (hx : ys.getLast? = some a) : EL W O 0 (tOp (rIx K) (tVar i) (tUn (rU fun i => .int (-i)) (tC (.int 1)))) Rs (e a) := fun σ G H n Q sl w hn kk => by
  obtain ⟨x, h1, h2⟩ := sl.get i _ hi
  obtain rfl : x = .ref pf := h2
  obtain ⟨_, _, _, o, h4, _, hr⟩ := w.o _ hO
  obtain ⟨vs, rfl, h5, al⟩ := hR _ _ hr
  rw [List.getLast?_eq_getElem?] at hx
  obtain ⟨v, hv, pv⟩ := al.get' hx
  rw [← al.len, ← List.getLast?_eq_getElem?] at hv
  exact ⟨_, h1, 1, rfl, .inl ⟨pf, vs, _, v, rfl, rfl, SqL.of h4, atI_last hv, kk v G H (Same.refl G) w pv⟩⟩
theorem Wd.thaw (w : Wd W n O G H) (s : Same G G2) (w2 : Wd W m ((p, OL eAt qs) :: exAll (fun a => (H a).getD (.lst [])) O) G2 H2) (hq : ∀ z ∈ qs, NwF W G O z.1) (nd : (qs.map (·.1)).Nodup) : Wd W m (deepO S p (qs.map (·.1)) (qs.map (·.2)) ++ O) G H2 := by
  obtain ⟨p1, p2, p3, o, p4, _, vs, rfl, p6, al⟩ := w2.o _ (List.mem_cons_self ..)
  have hmap : (exAll (fun a => (H a).getD (.lst [])) O).map (·.1) = O.map (·.1) := by
    unfold exAll
    rw [List.map_map]
    rfl
  have hpO : p ∉ O.map (·.1) := by
    have := (List.nodup_cons.mp w2.nd).1
    rwa [hmap] at this
  have gp : G p = none := by
    cases e : G p with
    | none => rfl
    | some o => have := s _ _ e; rw [p3] at this; cases this
  have hin : ∀ z ∈ qs, ∃ ws, G2 z.1 = some (.lst ws) ∧ ws.length ≤ sizeLine ∧ Al S z.2 ws G2 := fun z hz => by
    obtain ⟨i, hi⟩ := List.getElem?_of_mem hz
    obtain ⟨v, _, ev, a, ws, ea, h5, h6, h7⟩ := al.get' hi
    rw [ev] at ea
    cases ea
    exact ⟨ws, h5, h6, h7⟩
  have hvs : vs = (qs.map (·.1)).map V.ref := at_refs al
  have hz : (qs.map (·.1)).zip (qs.map (·.2)) = qs := by
    rw [List.zip_map']
    exact List.map_id' _
  have hne : ∀ z ∈ qs, z.1 ≠ p := fun z hz' e => by
    obtain ⟨ws, h5, _⟩ := hin z hz'
    rw [e, p3] at h5
    cases h5
  refine ⟨fun a u e => .inl (w2.r.ex (s a u e)), w.nt, w2.tb, ?_, ?_, fun q hq' => ?_⟩
  · obtain ⟨d1, d2, d3, d4⟩ := w2.d
    exact ⟨d1, w.d.gs, w.d.gc, d4⟩
  · unfold deepO
    have e9 : ((qs.map fun q => (q.1, OL S q.2)).map (·.1)) = qs.map (·.1) := by rw [List.map_map]; rfl
    rw [hz, List.cons_append, List.map_cons, List.map_append, e9, List.nodup_cons, List.nodup_append]
    refine ⟨fun hm => ?_, nd, w.nd, fun a ha b hb e => ?_⟩
    · rcases List.mem_append.mp hm with hm | hm
      · obtain ⟨z, h1, h2⟩ := List.mem_map.mp hm
        exact hne z h1 h2
      · exact hpO hm
    · obtain ⟨z, h1, h2⟩ := List.mem_map.mp ha
      have h2 : z.1 = a := h2
      exact (hq z h1).2.2.2 (by rw [h2, e]; exact hb)
  · rcases List.mem_append.mp hq' with h | h
    · unfold deepO at h
      rw [hz] at h
      rcases List.mem_cons.mp h with rfl | h
      · exact ⟨p1, p2, gp, _, p4, rfl, by rw [hvs]; rfl⟩
      · obtain ⟨z, h1, rfl⟩ := List.mem_map.mp h
        obtain ⟨f1, f2, f3, _⟩ := hq z h1
        obtain ⟨ws, h5, h6, h7⟩ := hin z h1
        exact ⟨f1, f2, f3, _, w2.r.ex h5, rfl, ws, rfl, h6, al_S h7⟩
    · obtain ⟨q1, q2, q3, ho, q4, q5, q6⟩ := w.o q h
      obtain ⟨_, _, _, ho', z4, _, z6, _⟩ := w2.o (q.1, exO ((H q.1).getD (.lst [])) q.2) (List.mem_cons_of_mem _ (List.mem_map.mpr ⟨q, h, rfl⟩))
      refine ⟨q1, q2, q3, ho, ?_, q5, q6⟩
      rw [z4, z6, q4]
      rfl
end
end Gd
-- part K1
set_option Elab.async false
set_option linter.all false
set_option maxRecDepth 100000
set_option maxHeartbeats 1000000
-- part D4
set_option Elab.async false
set_option linter.all false
set_option maxRecDepth 100000
set_option maxHeartbeats 1000000
namespace Gd
open PySem PySem.Spec PyProof.Rows L2
universe u
abbrev s_hit_by : Stmt := topS 21
theorem sc_hit_by : FnScope ["debate", "members", "member", "other"] ["debate", "members"] (defScope s_hit_by) := ⟨rfl, rfl, rfl, by decide +kernel, rfl, by decide +kernel, by decide +kernel⟩
abbrev s_answered_in : Stmt := topS 22
theorem sc_answered_in : FnScope ["debate", "members", "hit", "rows", "statement", "objector"] ["debate", "members"] (defScope s_answered_in) := ⟨rfl, rfl, rfl, by decide +kernel, rfl, by decide +kernel, by decide +kernel⟩
def hitP (d : Deb) (ms : List Str) : List Str := ms.flatMap (fromP d.2)
def ansP (d : Deb) (ms : List Str) : List Str := d.1.filter fun s => (tosP d.2 s).all fun o => decide (o ∈ hitP d ms)
structure okB (d : Deb) : Prop where
  nd : d.1.Nodup
  ok : ∀ s ∈ d.1, okS s = true
  pm : ∀ p ∈ d.2, p.1 ∈ d.1 ∧ p.2 ∈ d.1
  l1 : d.1.length ≤ 1000
  l2 : d.2.length ≤ 10000
theorem mem_fromP {ps : List (Str × Str)} {s x : Str} : x ∈ fromP ps s ↔ (s, x) ∈ ps := by
  unfold fromP
  rw [List.mem_map]
  constructor
  · rintro ⟨⟨a, b⟩, h, rfl⟩
    obtain ⟨h1, h2⟩ := List.mem_filter.mp h
    obtain rfl : a = s := of_decide_eq_true h2
    exact h1
  · exact fun h => ⟨(s, x), List.mem_filter.mpr ⟨h, by simp⟩, rfl⟩
theorem mem_tosP {ps : List (Str × Str)} {s x : Str} : x ∈ tosP ps s ↔ (x, s) ∈ ps := by
  unfold tosP
  rw [List.mem_map]
  constructor
  · rintro ⟨⟨a, b⟩, h, rfl⟩
    obtain ⟨h1, h2⟩ := List.mem_filter.mp h
    obtain rfl : b = s := of_decide_eq_true h2
    exact h1
  · exact fun h => ⟨(x, s), List.mem_filter.mpr ⟨h, by simp⟩, rfl⟩
theorem mem_hitP {d : Deb} {ms : List Str} {x : Str} : x ∈ hitP d ms ↔ ∃ m ∈ ms, (m, x) ∈ d.2 := by
  unfold hitP
  rw [List.mem_flatMap]
  exact ⟨fun ⟨m, h1, h2⟩ => ⟨m, h1, mem_fromP.mp h2⟩, fun ⟨m, h1, h2⟩ => ⟨m, h1, mem_fromP.mpr h2⟩⟩
theorem mem_ansP {d : Deb} {ms : List Str} {x : Str} : x ∈ ansP d ms ↔ x ∈ d.1 ∧ ∀ o, (o, x) ∈ d.2 → ∃ m ∈ ms, (m, o) ∈ d.2 := by
  unfold ansP
  rw [List.mem_filter, List.all_eq_true]
  exact and_congr_right fun _ => ⟨fun h o ho => mem_hitP.mp (of_decide_eq_true (h o (mem_tosP.mpr ho))), fun h o ho => decide_eq_true (mem_hitP.mpr (h o (mem_tosP.mp ho)))⟩
theorem hitP_len (d : Deb) : ∀ {ms : List Str}, ms.Nodup → (hitP d ms).length ≤ d.2.length := by
  intro ms
  suffices h : ∀ (ps : List (Str × Str)) (ms : List Str), ms.Nodup → (ms.flatMap (fromP ps)).length ≤ (ps.filter fun p => decide (p.1 ∈ ms)).length from fun nd => Nat.le_trans (h d.2 ms nd) (List.length_filter_le _ _)
  intro ps ms nd
  induction ps with
  | nil =>
    have : ms.flatMap (fromP []) = [] := by induction ms with
      | nil => rfl
      | cons m ms ih => rw [List.flatMap_cons, ih (List.nodup_cons.mp nd).2]; rfl
    rw [this]
    exact Nat.zero_le _
  | cons p ps ih =>
    have e : ∀ s, (fromP (p :: ps) s).length = (if p.1 = s then 1 else 0) + (fromP ps s).length := fun s => by
      unfold fromP
      by_cases q : p.1 = s
      · simp [q]; omega
      · simp [q]
    have e2 : ∀ ms : List Str, ms.Nodup → (ms.flatMap (fromP (p :: ps))).length = (if p.1 ∈ ms then 1 else 0) + (ms.flatMap (fromP ps)).length := by
      intro ms
      induction ms with
      | nil => intro _; simp
      | cons m ms ih2 =>
        intro nd
        obtain ⟨n1, n2⟩ := List.nodup_cons.mp nd
        rw [List.flatMap_cons, List.flatMap_cons, List.length_append, List.length_append, ih2 n2, e m]
        by_cases q : p.1 = m
        · rw [if_pos q, if_neg (by rw [q]; exact n1), if_pos (by rw [q]; exact List.mem_cons_self ..)]
          omega
        · rw [if_neg q]
          by_cases q2 : p.1 ∈ ms
          · rw [if_pos q2, if_pos (List.mem_cons_of_mem _ q2)]; omega
          · rw [if_neg q2, if_neg (fun z => (List.mem_cons.mp z).elim q q2)]; omega
    rw [e2 ms nd]
    by_cases q : p.1 ∈ ms
    · rw [if_pos q, List.filter_cons_of_pos (by simpa using q), List.length_cons]; omega
    · rw [if_neg q, List.filter_cons_of_neg (by simpa using q)]; omega
theorem okB_mk {i : Deb} (h : okD i) (ok : ∀ s ∈ i.1, okS s = true) : okB (mkD i) := by
  obtain ⟨⟨h1, h2, h3⟩, h4, h5, h6⟩ := h
  refine ⟨srt_nodup.mpr h2, fun s hs => ok s (mem_srt.mp hs), fun p hp => ⟨mem_srt.mpr (h5 p (mem_srt.mp hp)).1, mem_srt.mpr (h5 p (mem_srt.mp hp)).2⟩, ?_, ?_⟩
  · show (srt PyData.str i.1).length ≤ _
    unfold srt
    rw [List.length_mergeSort]
    exact h3
  · show (srt pT i.2).length ≤ _
    unfold srt
    rw [List.length_mergeSort]
    exact h6
def okM (i : Deb × List Str) : Prop := okB i.1 ∧ (∀ m ∈ i.2, m ∈ i.1.1) ∧ i.2.Nodup
section
variable {P : Program} {w : World} {K : PySem.W.Frag} {mg : Str → Option Value} {base : Heap} {aL : Addr}
def sp_hit_by (K : PySem.W.Frag) (C : Addr) : Sp := spF true (fun i : Deb × List Str => [DB K C i.1, Sq K S i.2]) okM (fun i => Ks ((hitP i.1 i.2).foldl addS []))
theorem ok_hit_by {C : Addr} (F : Fn K mg "hit_by" s_hit_by ["debate", "members"]) (T : Txt K mg aL) (DC : DCls K C) : C8.Cal P w K mg base 1 "hit_by" (sp_hit_by K C) [] := by
  refine cal_of F sc_hit_by (fun vs H Q E h => spF_len h fun _ => rfl) (fun f cdv A outer s H vs Q E hr h => ?_)
  obtain ⟨⟨d, ms⟩, G, v, w, rfl, r, ⟨hd, hm, nd⟩, hv, hw, k⟩ := sp2 h fun _ => rfl
  have hu := hu_of hr
  have hl2 := hd.l2
  refine ⟨_, (pss_one (ps_ret (pe_dc2 (own := [("member", 2), ("other", 3)]) (vs1 := [3]) rfl sc_hit_by.nd (pi_seqK (K := K) (pv 1)) (blkOk_by (by kernel_rfl)) (by decide) (fun _ _ _ _ _ => (pg_name (i := 2) sc_hit_by.nd rfl (by first | exact Or.inl rfl | exact Or.inr rfl))) (fun _ _ _ _ _ => pts_nil) (fun _ _ _ _ _ => (pi_seqK (K := K) (pe_dget hu (pe_fldK (K := K) (pv 0) rfl) (pv 2) (fun _ _ => rfl)))) (fun _ _ _ _ _ => (pg_name (i := 3) sc_hit_by.nd rfl (by first | exact Or.inl rfl | exact Or.inr rfl))) (fun _ _ _ _ _ => pts_nil) (fun _ _ _ _ _ => (pv 3)) (fun _ _ _ _ _ => pe_bl)))), ?_⟩
  refine ts_ret (ev_dc2 (e := S) (f := fromP d.2) (Rv := B true) (ei_sq (ev_var rfl hw)) (Nat.le_trans (hitP_len d nd) (Nat.le_trans hl2 (by decide))) fun m hmm x G' s hx => ?_) r k
  have hmd : m ∈ d.1 := hm m hmm
  exact ⟨_, gto_name, rfl, ei_sq (Ev.sqL (ev_dget (ev_dbF DC (ev_var (i := 0) rfl ((DB K C d).st s hv))) (ev_var rfl hx) (lookup_map hmd))), fun z hz y G2 s2 hy => ⟨_, gto_name, rfl, ev_var rfl hy, ev_bl⟩⟩
def sp_answered_in (K : PySem.W.Frag) (C : Addr) : Sp := spN true (fun i : Deb × List Str => [DB K C i.1, Sq K S i.2]) okM S (fun i => ansP i.1 i.2)
theorem ok_answered_in {C : Addr} (F : Fn K mg "answered_in" s_answered_in ["debate", "members"]) (T : Txt K mg aL) (DC : DCls K C) (c_hit_by : C8.Cal P w K mg base 1 "hit_by" (sp_hit_by K C) []) : C8.Cal P w K mg base 2 "answered_in" (sp_answered_in K C) [] := by
  refine cal_of F sc_answered_in (fun vs H Q E h => spN_len h fun _ => rfl) (fun f cdv A outer s H vs Q E hr h => ?_)
  obtain ⟨⟨d, ms⟩, G, r, hok, al, k⟩ := h
  obtain ⟨v, w', rfl, hv, hw⟩ := alr2 al
  have hu := hu_of hr
  have hd : okB d := hok.1
  refine ⟨_, (pss_cons (ps_set (i := 2) sc_answered_in.nd rfl (by first | exact Or.inl rfl | exact Or.inr rfl) (C8.pe_c c_hit_by hr (by first | decide | omega) rfl (pa_cons (pv 0) (pa_cons (pv 1) pa_nil))))
      (pss_cons (ps_set (i := 3) sc_answered_in.nd rfl (by first | exact Or.inl rfl | exact Or.inr rfl) (pe_fldK (K := K) (pv 0) rfl))
      (pss_one (ps_ret (pe_lock (pe_lc (own := [("statement", 4)]) rfl sc_answered_in.nd (pi_keys (pv 3)) (blkOk_by (by kernel_rfl)) (fun _ _ _ _ _ => (pg_name (i := 4) sc_answered_in.nd rfl (by first | exact Or.inl rfl | exact Or.inr rfl))) (fun _ _ _ _ _ => (pts_one (pt_val (pe_callB (call_allK (K := K) rfl) rfl T.all boot_all (pa_cons (pe_lc (own := [("objector", 5)]) rfl sc_answered_in.nd (pi_seqK (K := K) (pe_dget hu (pv 3) (pv 4) (fun _ _ => rfl))) (blkOk_by (by kernel_rfl)) (fun _ _ _ _ _ => (pg_name (i := 5) sc_answered_in.nd rfl (by first | exact Or.inl rfl | exact Or.inr rfl))) (fun _ _ _ _ _ => pts_nil) (fun _ _ _ _ _ => (pe_cmp (pc_din hu (pv 5) (pv 2))))) pa_nil))))) (fun _ _ _ _ _ => (pv 4)))))))), ?_⟩
  refine tq_set (R := Ks ((hitP d ms).foldl addS [])) (ev_call (d, ms) (ea_cons (ev_var rfl hv) (ea_cons (ev_var rfl hw) ea_nil)) hok) r fun u G1 H1 g1 hu1 => ?_
  have r1 := g1.r _ r
  refine tq_set (ev_dbT DC (ev_var (i := 0) rfl ((DB K C d).st g1.g hv))) r1 fun z G2 H2 g2 hz => ?_
  have r2 := g2.r _ r1
  have hu2 := (Ks _).st g2.g hu1
  obtain ⟨dd, kvs, rfl, hdd, hkl, ald⟩ := id hz
  refine ts_retN (EvN.eq (en_lcK (fn := fun s => s) (p := fun s => (tosP d.2 s).all fun o => decide (o ∈ hitP d ms)) (er := S) (xs := d.1) rfl hdd hkl hd.ok (by rw [ald.keys, List.map_map, List.map_map]; rfl) fun a ha x G' s hx => ⟨_, gto_name, rfl, ?_, fun _ => ev_var rfl hx⟩) (List.map_id' _)) r2 fun p vs G3 H3 g3 h0 => k p vs G3 H3 ((g1.trans g2).trans g3) ((g1.trans g2).free h0)
  refine EvT.eq (et_B (ev_allL (p := fun o => decide (o ∈ (hitP d ms).foldl addS [])) (en_map (ei_sq (Ev.sqL (ev_dget (ev_var (i := 3) rfl ((Dct (Lst S) _).st s hz)) (ev_var rfl hx) (lookup_map ha)))) fun o ho y G'' s' hy => ⟨_, gto_name, rfl, ev_inK (ev_var rfl hy) (ev_var (i := 2) rfl ((Ks _).st (s.trans s') hu2))⟩))) ?_
  congr 1
  funext o
  have e : o ∈ (hitP d ms).foldl addS [] ↔ o ∈ hitP d ms := by
    rw [mem_adds]
    exact ⟨fun h => h.resolve_left fun z => (by cases z), fun h => .inr h⟩
  simp only [e]
end
end Gd
-- part D5
set_option Elab.async false
set_option linter.all false
set_option maxRecDepth 100000
set_option maxHeartbeats 1000000
namespace Gd
open PySem PySem.Spec PyProof.Rows L2
universe u
abbrev s_stages : Stmt := topS 28
theorem sc_stages : FnScope ["debate", "found", "later"] ["debate"] (defScope s_stages) := ⟨rfl, rfl, rfl, by decide +kernel, rfl, by decide +kernel, by decide +kernel⟩
def stgs (d : Deb) : Nat → List Str → List (List Str)
  | 0, l => [l]
  | f + 1, l => if ansP d l = l then [l] else l :: stgs d f (ansP d l)
def stagesP (d : Deb) : List (List Str) := stgs d (d.1.length + 1) (ansP d [])
theorem stgs_fix {d : Deb} {f : Nat} {l : List Str} (h : ansP d l = l) : stgs d f l = [l] := by
  cases f with
  | zero => rfl
  | succ f => unfold stgs; rw [if_pos h]
theorem ansP_sub {d : Deb} {ms : List Str} {x : Str} (h : x ∈ ansP d ms) : x ∈ d.1 := (mem_ansP.mp h).1
theorem ansP_nodup {d : Deb} (h : d.1.Nodup) (ms : List Str) : (ansP d ms).Nodup := h.filter _
theorem ansP_mono {d : Deb} {l m : List Str} (h : ∀ x ∈ l, x ∈ m) {x : Str} (hx : x ∈ ansP d l) : x ∈ ansP d m := by
  rw [mem_ansP] at hx ⊢
  exact ⟨hx.1, fun o ho => let ⟨y, h1, h2⟩ := hx.2 o ho; ⟨y, h y h1, h2⟩⟩
theorem filter_grow {α : Type} {p q : α → Bool} : ∀ {xs : List α}, (∀ x ∈ xs, p x = true → q x = true) → (xs.filter p).length ≤ (xs.filter q).length ∧ ((xs.filter p).length = (xs.filter q).length → xs.filter p = xs.filter q)
  | [], _ => ⟨Nat.le_refl _, fun _ => rfl⟩
  | x :: xs, h => by
    obtain ⟨h1, h2⟩ := filter_grow (xs := xs) fun y hy => h y (List.mem_cons_of_mem _ hy)
    by_cases hp : p x = true
    · have hq := h x (List.mem_cons_self ..) hp
      rw [List.filter_cons_of_pos hp, List.filter_cons_of_pos hq, List.length_cons, List.length_cons]
      exact ⟨by omega, fun e => by rw [h2 (by omega)]⟩
    · rw [List.filter_cons_of_neg hp]
      by_cases hq : q x = true
      · rw [List.filter_cons_of_pos hq, List.length_cons]
        exact ⟨by omega, fun e => by omega⟩
      · rw [List.filter_cons_of_neg hq]
        exact ⟨h1, h2⟩
theorem ansP_grow {d : Deb} {l m : List Str} (h : ∀ x ∈ l, x ∈ m) (hne : ansP d m ≠ ansP d l) : (ansP d l).length < (ansP d m).length := by
  have hg := filter_grow (p := fun s => (tosP d.2 s).all fun o => decide (o ∈ hitP d l)) (q := fun s => (tosP d.2 s).all fun o => decide (o ∈ hitP d m)) (xs := d.1) fun x hx hp => by
    have h1 : x ∈ ansP d l := List.mem_filter.mpr ⟨hx, hp⟩
    exact (List.mem_filter.mp (ansP_mono h h1)).2
  have h1 : (ansP d l).length ≤ (ansP d m).length := hg.1
  have h2 : (ansP d l).length = (ansP d m).length → ansP d l = ansP d m := hg.2
  rcases Nat.lt_or_ge (ansP d l).length (ansP d m).length with h | h
  · exact h
  · exact absurd (h2 (by omega)).symm hne
theorem ansP_len {d : Deb} (l : List Str) : (ansP d l).length ≤ d.1.length := List.length_filter_le _ _
theorem nwF_ex {W : SC} {G : Hp} {O : Own} {F : Addr → HO} {p : Addr} (h : NwF W G (exAll F O) p) : NwF W G O p := by
  obtain ⟨h1, h2, h3, h4⟩ := h
  refine ⟨h1, h2, h3, fun hm => h4 ?_⟩
  unfold exAll
  rw [List.map_map]
  exact hm
theorem nwF_st {W : SC} {G G2 : Hp} {O : Own} {p : Addr} (s : Same G G2) (h : NwF W G2 O p) : NwF W G O p := by
  obtain ⟨h1, h2, h3, h4⟩ := h
  refine ⟨h1, h2, ?_, h4⟩
  cases e : G p with
  | none => rfl
  | some o => have := s _ _ e; rw [h3] at this; cases this
section
variable {P : Program} {w : World} {K : PySem.W.Frag} {mg : Str → Option Value} {base : Heap} {aL : Addr} {Tb : List (Addr × Str)}
def sp_stages (K : PySem.W.Frag) (C : Addr) (Tb : List (Addr × Str)) : Sp := spMD Tb (fun d : Deb => [DB K C d]) okB S stagesP
theorem ok_stages {C : Addr} (F : Fn K mg "stages" s_stages ["debate"]) (T : Txt K mg aL) (DC : DCls K C) (c_answered_in : C8.Cal P w K mg base 2 "answered_in" (sp_answered_in K C) []) : C8.Cal P w K mg base 3 "stages" (sp_stages K C Tb) [] := by
  refine cal_of F sc_stages (fun vs H Q E h => spMD_len h fun _ => rfl) (fun f cdv A outer s H vs Q E hr h => ?_)
  have hu64 := hu64_of hr
  obtain ⟨d, st, c, n, O, G, w0, hn, hd, al, k⟩ := h
  have hl1 := hd.l1
  refine ⟨_, (pss_cons (ps_set (i := 1) sc_stages.nd rfl (by first | exact Or.inl rfl | exact Or.inr rfl) (pe_lst (pa_cons (C8.pe_c c_answered_in hr (by first | decide | omega) rfl (pa_cons (pv 0) (pa_cons (pe_lst pa_nil) pa_nil))) pa_nil)))
      (pss_one (ps_while PassesOwn.never (pt_val pe_bl) (pss_cons (ps_set (i := 2) sc_stages.nd rfl (by first | exact Or.inl rfl | exact Or.inr rfl) (C8.pe_c c_answered_in hr (by first | decide | omega) rfl (pa_cons (pv 0) (pa_cons (pe_ix (ix_K (K := K)) (pv 1) (pe_un un_neg pe_int) (fun _ _ => rfl)) pa_nil))))
      (pss_cons (ps_if (pt_cmpR (op_eqDK (K := K) hu64) (pv 2) (pe_ix (ix_K (K := K)) (pv 1) (pe_un un_neg pe_int) (fun _ _ => rfl)) (nomark _)) (pss_one (ps_ret (pv 1))) pss_nil)
      (pss_one (ps_expr (pe_bmK (K := K) PySem.F.plainAttrs_list PySem.F.slot_list_append PySem.F.type_list_append mt_append (pv 1) (pa_cons (pv 2) pa_nil))))))))), ?_⟩
  generalize hF : (fun a => (H a).getD (.lst [])) = FF at *
  have w1 := w0.exact
  rw [hF] at w1
  refine (?_ : HL ⟨st, c, Tb⟩ G n (exAll FF O) [some (DB K C d), none, none] _ _) _ _ ⟨G, Same.refl G, by have h := slots_start (N := ["debate", "found", "later"]) al; rw [alr_len al] at h; exact h, w1⟩
  refine hl_newAt (k := 0) (eln_call (ι := Deb × List Str) (post := fun i => ansP i.1 i.2) (d, []) (eal_cons (el_var rfl) (eal_cons (el_sqL (ELN.el (eln_lst [] eal_nil (Nat.zero_le _)))) eal_nil)) ⟨hd, fun m hm => (by cases hm), List.nodup_nil⟩) fun pf z hz => ?_
  dsimp only [List.set]
  refine hl_last ?_
  refine hl_forever (δ := List (Addr × List Str)) (fun i qs => ∃ pre q l, pre.length = i ∧ qs = pre ++ [(q, l)] ∧ stagesP d = pre.map (·.2) ++ stgs d (d.1.length + 1 - i) l ∧ (∃ m, l = ansP d m ∧ ∀ x ∈ m, x ∈ l) ∧ i ≤ l.length ∧ (∀ z ∈ qs, NwF ⟨st, c, Tb⟩ G (exAll FF O) z.1) ∧ (qs.map (·.1)).Nodup) (fun qs => (pf, OL eAt qs) :: exAll FF O) (fun _ => [some (DB K C d), some (cst (.ref pf)), none]) (d.1.length + 1) [(z, ansP d [])]
    ⟨[], z, ansP d [], rfl, rfl, rfl, ⟨[], rfl, fun x hx => (by cases hx)⟩, Nat.zero_le _, fun y hy => by rw [List.mem_singleton.mp hy]; exact hz, by simp⟩ rfl (fun G => (.eq (.eq (.no .nil)))) (fun _ => etl_test el_bl) ?_ (Nat.succ_pos _)
  rintro i qs E' G1 ⟨pre, q, l, hpl, rfl, h1, ⟨m, hm, hml⟩, h4, h5, h6⟩ hiz hrt s1 kn
  have hls : ∀ x ∈ l, x ∈ d.1 := fun x hx => ansP_sub (by rw [← hm]; exact hx)
  have hlast : (pre ++ [(q, l)]).getLast? = some (q, l) := by simp
  have hlen : (pre ++ [(q, l)]).length ≤ 100000 := by
    rw [List.length_append, List.length_singleton]
    omega
  refine hl_setN (k := 0) (eln_call (ι := Deb × List Str) (post := fun i => ansP i.1 i.2) (d, l) (eal_cons (el_var rfl) (eal_cons (el_sqL ((el_lastO (e := eAt) (fun _ _ h => h) (List.mem_cons_self ..) rfl hlast).is fun v G h => h.2)) eal_nil)) ⟨hd, hls, by rw [hm]; exact ansP_nodup hd.nd m⟩) fun p => ?_
  dsimp only [List.set]
  refine hl_if (k := 0) (c := decide (ansP d l = l)) ?_ (fun hc => ?_) (fun hc => ?_)
  · refine etl_lendL (i := 2) rfl fun F' => ?_
    dsimp only [List.set]
    exact etl_test (el_eqD (enc_lst enc_S) (eqE_lst eqE_S) (el_var rfl) ((el_lastO (e := eAt) (Ro := exO (F' pf) (OL eAt (pre ++ [(q, l)]))) (fun _ _ h => h.2) (List.mem_cons_self ..) rfl hlast).is fun v G h => h.2))
  · have hc := of_decide_eq_true hc
    refine HL.drop ?_ (List.sublist_cons_self ..)
    refine hl_retD (k := 0) (el_var (i := 1) rfl) fun v G2 H2 s2 w2 hv => ?_
    obtain rfl : v = .ref pf := hv
    show E'.rt _ _
    rw [hrt]
    have e1 : (pre ++ [(q, l)]).map (·.2) = stagesP d := by rw [h1, stgs_fix hc, List.map_append]; rfl
    have w3 := w0.thaw (G2 := G2) (s1.trans s2) (by rw [hF]; exact w2) (fun z hz => nwF_ex (h5 z hz)) h6
    rw [e1] at w3
    exact k pf _ G H2 (Same.refl G) (by rw [← e1, List.length_map, List.length_map]) (w3.le (by omega))
  · have hc : ansP d l ≠ l := fun z => by rw [decide_eq_true z] at hc; cases hc
    refine hl_last ?_
    refine hl_pushAt (i := 1) (j := 2) rfl rfl (by decide) hlen fun hf hq => ?_
    have hgr : l.length < (ansP d l).length := by
      have := ansP_grow (d := d) (l := m) (m := l) hml (by rw [← hm]; exact hc)
      rwa [← hm] at this
    have hle := ansP_len (d := d) l
    refine hl_nx fun σ H a => kn (pre ++ [(q, l)] ++ [(p, ansP d l)]) σ H ⟨pre ++ [(q, l)], p, ansP d l, by rw [List.length_append, List.length_singleton, hpl], rfl, ?_, ⟨l, rfl, fun x hx => ?_⟩, by omega, fun z hz => ?_, ?_⟩ (by omega) ((a.weak fun G => (.eq (.eq (.no .nil)))).le (by omega))
    · rw [h1, List.map_append, List.append_assoc]
      congr 1
      have e : d.1.length + 1 - i = (d.1.length + 1 - (i + 1)) + 1 := by omega
      rw [e]
      show (if ansP d l = l then _ else _) = _
      rw [if_neg hc]
      rfl
    · rw [hm] at hx
      exact ansP_mono hml hx
    · rcases List.mem_append.mp hz with hz | hz
      · exact h5 z hz
      · rw [List.mem_singleton.mp hz]
        exact nwF_st s1 hf
    · rw [List.map_append, List.nodup_append]
      refine ⟨h6, by simp, fun a ha b hb e => ?_⟩
      obtain ⟨z, hz, rfl⟩ := List.mem_map.mp ha
      obtain rfl := List.mem_singleton.mp hb
      exact hq z hz e
end
end Gd
-- part Gd54
set_option Elab.async false
set_option linter.all false
set_option maxRecDepth 100000
set_option maxHeartbeats 1000000
namespace Gd
open PySem PySem.Spec PyProof.Rows L2
universe u
def Op {α : Type} (e : α → SR) : Option α → SR
  | some a => e a
  | none => N
def setd {α : Type} (kvs : List (Str × α)) (s : Str) (a : α) : List (Str × α) := if (kvs.lookup s).isSome = true then kvs else kvs ++ [(s, a)]
theorem setd_len {α : Type} (kvs : List (Str × α)) (s : Str) (a : α) : (setd kvs s a).length ≤ kvs.length + 1 := by
  unfold setd
  split
  · omega
  · rw [List.length_append, List.length_singleton]; exact Nat.le_refl _
theorem AlD.valNone {α : Type} {e : α → SR} {G : Hp} {k : Str} : ∀ {as : List (Str × α)} {vs : List (Key × V)}, AlD e as vs G → as.lookup k = none → valV vs (Sum.inr k : Key) = none
  | _, _, .nil, _ => rfl
  | _, _, .cons (k := k') h t, hl => by
    rw [List.lookup_cons] at hl
    by_cases e : k = k'
    · subst e; simp at hl
    · have e2 : (k == k') = false := by simpa using e
      rw [e2] at hl
      rw [valV_neg fun z => e (Sum.inr.inj z).symm]
      exact AlD.valNone t hl
section
variable {K : PySem.W.Frag} {W : SC} {O O' : Own} {n k m : Nat} {G0 G G2 H H2 : Hp} {Rs Rs' : RL} {R : SR} {te ta tb tk ty tx to : TE} {t u : TS} {E : Ends} {α β : Type} {e : α → SR} {xs : List α} {D : Addr} {i j : Nat}
theorem hl_setd {kvs : List (Str × β)} {er : β → SR} {s : Str} {a : β} (hi : Rs[i]? = some (some (cst (.ref D)))) (h1 : EL W ((D, ODct er kvs) :: O) k ty Rs (S s)) (h2 : EL W ((D, ODct er kvs) :: O) m tx Rs (er a)) (hl : kvs.length ≤ 10000000) (q : HL W G0 (n + (k + m)) ((D, ODct er (setd kvs s a)) :: O) Rs u E) (hn : n + (k + m) ≤ 1000000 := by omega) : HL W G0 n ((D, ODct er kvs) :: O) Rs (tSeq (tDrop (tDSetd (tVar i) ty tx)) u) E := fun σ H ⟨G, s0, sl, w⟩ => by
  obtain ⟨x, e1, e2⟩ := sl.get i _ hi
  obtain rfl : x = .ref D := e2
  obtain ⟨_, _, _, o, d4, _, ws, rfl, _⟩ := w.o _ (List.mem_cons_self ..)
  refine ⟨_, e1, D, rfl, .inl ⟨_, .inl d4⟩, h1 σ G H n _ sl w (by omega) fun y G1 H1 s1 w1 ⟨ey, _⟩ => ?_⟩
  subst ey
  refine h2 σ G1 H1 (n + k) _ (sl.st s1) w1 (by omega) fun z G2 H2 s2 w2 pz => ?_
  obtain ⟨_, _, _, o, z4, _, ks, rfl, z6, al⟩ := w2.o _ (List.mem_cons_self ..)
  have hlen : ks.length = kvs.length := by
    have := congrArg List.length al.keys
    rwa [List.length_map, List.length_map, List.length_map] at this
  have : sizeLine = 16777216 := sizeLine_eq
  refine ⟨ks, Sum.inr s, z4, rfl, by omega, fun v hv => ?_, fun hv => ?_⟩
  · have e : setd kvs s a = kvs := by
      unfold setd
      rw [if_pos]
      cases q : kvs.lookup s with
      | some _ => rfl
      | none => rw [al.valNone q] at hv; cases hv
    rw [e] at q
    exact q _ _ ⟨G2, (s0.trans s1).trans s2, (sl.st s1).st s2, w2.eq (by omega)⟩
  · have e0 : kvs.lookup s = none := by
      cases q : kvs.lookup s with
      | none => rfl
      | some b => obtain ⟨v, q1, _⟩ := al.val q; rw [hv] at q1; cases q1
    have e : setd kvs s a = kvs ++ [(s, a)] := by
      unfold setd
      rw [e0]
      rfl
    rw [e] at q
    have ep : putK ks (Sum.inr s : Key) z = ks ++ [(Sum.inr s, z)] := by
      unfold putK
      rw [valV_any, hv]
      rfl
    refine q _ _ ⟨G2, (s0.trans s1).trans s2, (sl.st s1).st s2, ?_⟩
    rw [ep]
    exact (w2.put (R' := ODct er (kvs ++ [(s, a)])) (o := .dK (ks ++ [(Sum.inr s, z)])) (fun u ⟨_, e, _⟩ => by rw [e]; rfl) rfl ⟨_, rfl, by rw [List.length_append, List.length_singleton]; omega, al.snoc pz⟩).eq (by omega)
theorem elo_dcF {wi : TI} {g : TG} {tt : TT} {vs is : List Nat} {er : β → SR} {ky : α → Str} {fn : α → β} {p : α → Bool} {Ra : α → RL} (hi : EIL W O k wi Rs e xs) (nd : (xs.map ky).Nodup) (hg : ∀ a, a ∈ xs → GL g (e a) (wipeR Rs vs) (Ra a) is) (ht : ∀ a, a ∈ xs → ∀ O', ETL W O' 0 tt (Ra a) (p a)) (hk : ∀ a, a ∈ xs → p a = true → ∀ O', EL W O' 0 tk (Ra a) (S (ky a))) (hb : ∀ a, a ∈ xs → p a = true → ∀ O', EL W O' 0 te (Ra a) (er (fn a))) (his : ∀ i ∈ is, i ∈ vs := by decide) :
    ELO W O k (tDc wi g tt tk te vs) Rs (ODct er ((xs.filter p).map fun a => (ky a, fn a))) := fun σ G H n Q sl w hn kk => by
  refine hi σ G H n _ sl w (by omega) fun J G2 H2 s2 w2 WR D hD => ?_
  have sl2 := (sl.st s2).wipe vs
  refine ⟨fun i z H => z = xs.length - i ∧ i ≤ xs.length ∧ ∃ G', Same G2 G' ∧ Wd W (n + k) ((D, ODct er (((xs.take i).filter p).map fun a => (ky a, fn a))) :: O) G' H, ⟨xs.length, rfl, Nat.zero_le _, G2, Same.refl _, w2.own (R := ODct er []) hD rfl ⟨[], rfl, Nat.zero_le _, .nil⟩⟩, ?_⟩
  rintro i z H ⟨rfl, hi2, G', s', w'⟩
  by_cases hlt : i < xs.length
  · refine .inr ⟨WR.goes i G' H hlt s' w'.r trivial, fun H' => ∃ G', Same G2 G' ∧ Wd W (n + k) ((D, ODct er (((xs.take (i + 1)).filter p).map fun a => (ky a, fn a))) :: O) G' H', fun H' h' => ⟨xs.length - (i + 1), by omega, rfl, hlt, h'⟩, fun x H' y => ?_⟩
    have hxi : xs[i]? = some xs[i] := List.getElem?_eq_getElem hlt
    obtain ⟨G4, g4, pa⟩ := WR.yields i xs[i] G' H x H' hxi s' w'.r trivial y
    have w4 := w'.go g4
    obtain ⟨σ', q1, q2, q3⟩ := (hg xs[i] (List.getElem_mem hlt)).h x (L2.wipe σ vs) G4 (sl2.st (s'.trans g4.g)) pa
    refine q1 H' _ w4.r ⟨?_, ?_⟩
    · have : L2.wipe (L2.wipe σ vs) vs = L2.wipe σ vs := by
        apply List.ext_getElem?
        intro j
        rw [wipe_get, wipe_get, wipe_length]
        split <;> rfl
      rw [q3 vs his, this]
    refine ht xs[i] (List.getElem_mem hlt) _ σ' G4 H' _ _ q2 w4 (by omega) fun b G5 H5 s5 w5 eb => ?_
    subst eb
    by_cases hp : p xs[i] = true
    · rw [if_pos hp]
      refine hk xs[i] (List.getElem_mem hlt) hp _ σ' G5 H5 _ _ (q2.st s5) w5 (by omega) fun y' G6 H6 s6 w6 ⟨ey, _⟩ => ?_
      subst ey
      refine hb xs[i] (List.getElem_mem hlt) hp _ σ' G6 H6 _ _ ((q2.st s5).st s6) w6 (by omega) fun u G7 H7 s7 w7 pu => ?_
      obtain ⟨_, _, _, ho, h4, _, acc, rfl, h7, h8⟩ := w7.o _ (List.mem_cons_self ..)
      have hacc : acc.length = (((xs.take i).filter p).map fun a => (ky a, fn a)).length := by
        have := congrArg List.length h8.keys
        rwa [List.length_map, List.length_map, List.length_map] at this
      have hx := WR.len
      have hft : (((xs.take i).filter p).map fun a => (ky a, fn a)).length ≤ i := by
        rw [List.length_map]
        exact Nat.le_trans (List.length_filter_le _ _) (by rw [List.length_take]; omega)
      have e6 : ((xs.take (i + 1)).filter p).map (fun a => (ky a, fn a)) = ((xs.take i).filter p).map (fun a => (ky a, fn a)) ++ [(ky xs[i], fn xs[i])] := by
        rw [take_succ hxi, List.filter_append, List.map_append, List.filter_cons_of_pos hp]
        rfl
      have hnk : valV acc (Sum.inr (ky xs[i]) : Key) = none := by
        refine valV_none ?_
        rw [h8.keys, List.map_map, List.map_map]
        intro q
        obtain ⟨a0, ha0, e1⟩ := List.mem_map.mp q
        have e2 : ky a0 = ky xs[i] := Sum.inr.inj e1
        have hs' : ky xs[i] ∈ (xs.take i).map ky := List.mem_map.mpr ⟨a0, (List.mem_filter.mp ha0).1, e2⟩
        have nd2 := nd
        rw [← List.take_append_drop i xs, List.map_append] at nd2
        exact (List.nodup_append.mp nd2).2.2 _ hs' (ky xs[i]) (List.mem_map.mpr ⟨xs[i], by rw [List.drop_eq_getElem_cons hlt]; exact List.mem_cons_self .., rfl⟩) rfl
      refine ⟨acc, Sum.inr (ky xs[i]), rfl, h4, by omega, G7, (((s'.trans g4.g).trans s5).trans s6).trans s7, ?_⟩
      rw [e6, putK_new _ hnk]
      exact w7.put (R' := ODct er (((xs.take i).filter p).map (fun a => (ky a, fn a)) ++ [(ky xs[i], fn xs[i])])) (o := .dK (acc ++ [(Sum.inr (ky xs[i]), u)])) (fun u ⟨_, e, _⟩ => by rw [e]; rfl) rfl ⟨_, rfl, by rw [List.length_append, List.length_singleton]; omega, h8.snoc pu⟩
    · rw [if_neg hp]
      have e6 : ((xs.take (i + 1)).filter p).map (fun a => (ky a, fn a)) = ((xs.take i).filter p).map (fun a => (ky a, fn a)) := by
        rw [take_succ hxi, List.filter_append, List.filter_cons_of_neg hp, List.filter_nil, List.append_nil]
      refine ⟨G5, (s'.trans g4.g).trans s5, ?_⟩
      rw [e6]
      exact w5
  · have e0 : i = xs.length := by omega
    subst e0
    rw [List.take_length] at w'
    exact .inl ⟨WR.stops G' H s' w'.r trivial, kk D G' H (s2.trans s') w'⟩
end
end Gd
-- part D6
set_option Elab.async false
set_option linter.all false
set_option maxRecDepth 100000
set_option maxHeartbeats 1000000
namespace Gd
open PySem PySem.Spec PyProof.Rows L2
universe u
abbrev s_known_ranks : Stmt := topS 29
theorem sc_known_ranks : FnScope ["debate", "found", "rank", "lot", "statement"] ["debate"] (defScope s_known_ranks) := ⟨rfl, rfl, rfl, by decide +kernel, rfl, by decide +kernel, by decide +kernel⟩
def lotStep (acc : List (Str × Int)) (q : Int × List Str) : List (Str × Int) := q.2.foldl (fun a s => setd a s q.1) acc
def foundP (d : Deb) : List (Str × Int) := (enumI (stagesP d)).foldl lotStep []
def ranksP (d : Deb) : List (Str × Int) := (d.1.filter fun s => ((foundP d).lookup s).isSome).map fun s => (s, ((foundP d).lookup s).getD 0)
theorem foldSetd_len (r : Int) : ∀ (l : List Str) (acc : List (Str × Int)), (l.foldl (fun a s => setd a s r) acc).length ≤ acc.length + l.length
  | [], acc => Nat.le_refl _
  | s :: l, acc => by
    rw [List.foldl_cons, List.length_cons]
    have h1 := foldSetd_len r l (setd acc s r)
    have h2 := setd_len acc s r
    omega
theorem foldLot_len (z : Nat) : ∀ (qs : List (Int × List Str)) (acc : List (Str × Int)), (∀ q ∈ qs, q.2.length ≤ z) → (qs.foldl lotStep acc).length ≤ acc.length + qs.length * z
  | [], acc, _ => by simp
  | q :: qs, acc, h => by
    rw [List.foldl_cons, List.length_cons]
    have h1 := foldLot_len z qs (lotStep acc q) fun y hy => h y (List.mem_cons_of_mem _ hy)
    have h2 := foldSetd_len q.1 q.2 acc
    have h3 := h q (List.mem_cons_self ..)
    have h4 : (lotStep acc q).length ≤ acc.length + q.2.length := h2
    rw [Nat.add_mul, Nat.one_mul]
    omega
theorem stgs_len (d : Deb) : ∀ (f : Nat) (l : List Str), (stgs d f l).length ≤ f + 1
  | 0, l => by simp [stgs]
  | f + 1, l => by
    unfold stgs
    split
    · simp
    · rw [List.length_cons]
      have := stgs_len d f (ansP d l)
      omega
theorem stgs_mem (d : Deb) : ∀ (f : Nat) (l : List Str), (∃ m, l = ansP d m) → ∀ x ∈ stgs d f l, ∃ m, x = ansP d m
  | 0, l, h, x, hx => by
    unfold stgs at hx
    rw [List.mem_singleton.mp hx]
    exact h
  | f + 1, l, h, x, hx => by
    unfold stgs at hx
    split at hx
    · rw [List.mem_singleton.mp hx]
      exact h
    · rcases List.mem_cons.mp hx with rfl | hx
      · exact h
      · exact stgs_mem d f _ ⟨l, rfl⟩ x hx
theorem stagesP_len (d : Deb) : (stagesP d).length ≤ d.1.length + 2 := stgs_len d _ _
theorem stagesP_mem {d : Deb} {l : List Str} (h : l ∈ stagesP d) : ∃ m, l = ansP d m := stgs_mem d _ _ ⟨[], rfl⟩ l h
theorem lookup_keys {α : Type} {s : Str} : ∀ kvs : List (Str × α), decide (s ∈ kvs.map (·.1)) = (kvs.lookup s).isSome
  | [] => rfl
  | (k, a) :: kvs => by
    rw [List.lookup_cons, List.map_cons]
    by_cases e : s = k
    · subst e; simp
    · have e2 : (s == k) = false := by simpa using e
      rw [e2, ← lookup_keys kvs]
      simp [e]
section
variable {P : Program} {w : World} {K : PySem.W.Frag} {mg : Str → Option Value} {base : Heap} {aL : Addr} {Tb : List (Addr × Str)}
def sp_known_ranks (K : PySem.W.Frag) (C : Addr) (Tb : List (Addr × Str)) : Sp := spMO Tb (fun d : Deb => [DB K C d]) okB (fun d => ODct I (ranksP d))
theorem ok_known_ranks {C : Addr} (F : Fn K mg "known_ranks" s_known_ranks ["debate"]) (T : Txt K mg aL) (DC : DCls K C) (c_stages : C8.Cal P w K mg base 3 "stages" (sp_stages K C Tb) []) : C8.Cal P w K mg base 4 "known_ranks" (sp_known_ranks K C Tb) [] := by
  refine cal_of F sc_known_ranks (fun vs H Q E h => spMO_len h fun _ => rfl) (fun f cdv A outer s H vs Q E hr h => ?_)
  have hu := hu_of hr
  obtain ⟨d, st, c, n, O, G, w0, hn, hd, al, k⟩ := h
  have hl1 := hd.l1
  have hsl := stagesP_len d
  have hlot : ∀ q ∈ enumI (stagesP d), q.2.length ≤ 1000 := fun q hq => by
    obtain ⟨i, hi⟩ := List.getElem?_of_mem hq
    obtain ⟨m, hm⟩ := stagesP_mem (List.mem_of_getElem? (enumI_get hi).2)
    rw [hm]
    exact Nat.le_trans (ansP_len m) hl1
  refine ⟨_, (pss_cons (ps_set (i := 1) sc_known_ranks.nd rfl (by first | exact Or.inl rfl | exact Or.inr rfl) pe_dnewK)
      (pss_cons (ps_for PassesOwn.never rfl (pi_enumK (K := K) rfl T.enumerate (pa_cons (C8.pe_c c_stages hr (by first | decide | omega) rfl (pa_cons (pv 0) pa_nil)) pa_nil)) (pg_tupK (K := K) (n := 2) rfl (pgs_cons (pg_name (i := 2) sc_known_ranks.nd rfl (by first | exact Or.inl rfl | exact Or.inr rfl)) (pgs_cons (pg_name (i := 3) sc_known_ranks.nd rfl (by first | exact Or.inl rfl | exact Or.inr rfl)) pgs_nil))) (pss_one (ps_for PassesOwn.never rfl (pi_seqK (K := K) (pv 3)) (pg_name (i := 4) sc_known_ranks.nd rfl (by first | exact Or.inl rfl | exact Or.inr rfl)) (pss_one (ps_expr (pe_dsetd (pv 1) (pv 4) (pv 2) ⟨rfl, rfl, rfl, rfl⟩))))))
      (pss_one (ps_ret (pe_dc (own := [("statement", 4)]) rfl sc_known_ranks.nd (pi_seqK (K := K) (pe_fldK (K := K) (pv 0) rfl)) (blkOk_by (by kernel_rfl)) (fun _ _ _ _ _ => (pg_name (i := 4) sc_known_ranks.nd rfl (by first | exact Or.inl rfl | exact Or.inr rfl))) (fun _ _ _ _ _ => (pts_one (pt_cmp (pc_din hu (pv 4) (pv 1))))) (fun _ _ _ _ _ => (pv 4)) (fun _ _ _ _ _ => (pe_dget hu (pv 1) (pv 4) (fun _ _ => rfl)))))))), ?_⟩
  refine (?_ : HL ⟨st, c, Tb⟩ G n O [some (DB K C d), none, none, none, none] _ _) _ _ ⟨G, Same.refl G, by have h := slots_start (N := ["debate", "found", "rank", "lot", "statement"]) al; rw [alr_len al] at h; exact h, w0⟩
  refine hl_setN (k := 0) (R := ODct I []) (fun σ G H n Q sl w hn kk p hp => kk p G _ (Same.refl G) (w.own hp rfl ⟨[], rfl, Nat.zero_le _, .nil⟩)) fun D => ?_
  dsimp only [List.set]
  refine hl_for (k := 0) (e := Pr K I (Lst S)) (xs := enumI (stagesP d)) (δ := List (Str × Int)) (fun i kv => kv = ((enumI (stagesP d)).take i).foldl lotStep []) (fun kv => (D, ODct I kv) :: O) (fun _ => [some (DB K C d), some (cst (.ref D)), none, none, none]) 0 (eil_enum (el_sqL (ELD.el (eld_callm (W := ⟨st, c, Tb⟩) (ι := Deb) (post := stagesP) d (eal_cons (el_var rfl) eal_nil) hd) (by omega)))) [] rfl rfl (fun G => (.eq (.eq (.no (.no (.no .nil)))))) ?_ ?_ (by omega)
  · rintro i ⟨r, lot⟩ kv E' G1 hp rfl hrt s1 kn hn1
    have hil : i < (enumI (stagesP d)).length := (List.getElem?_eq_some_iff.mp hp).1
    rw [enumI_len] at hil
    have hll : lot.length ≤ 1000 := hlot _ (List.mem_of_getElem? hp)
    have hkl : (((enumI (stagesP d)).take i).foldl lotStep []).length ≤ 1002000 := by
      have h := foldLot_len 1000 ((enumI (stagesP d)).take i) [] fun q hq => hlot q (List.mem_of_mem_take hq)
      rw [List.length_take, enumI_len, List.length_nil] at h
      have : min i (stagesP d).length * 1000 ≤ 1002 * 1000 := Nat.mul_le_mul_right _ (by omega)
      omega
    refine ⟨_, _, gl_pr gl_name gl_name, ?_⟩
    dsimp only [List.set]
    refine hl_last ?_
    generalize hA : ((enumI (stagesP d)).take i).foldl lotStep [] = A at *
    refine hl_for (k := 0) (e := S) (xs := lot) (δ := List (Str × Int)) (fun j kv => kv = (lot.take j).foldl (fun a s => setd a s r) A) (fun kv => (D, ODct I kv) :: O) (fun _ => [some (DB K C d), some (cst (.ref D)), some (I r), some (Lst S lot), none]) 0 (eil_sq (el_sqL (el_var rfl))) A rfl rfl (fun G => (.eq (.eq (.eq (.eq (.no .nil)))))) ?_ ?_ (by omega)
    · rintro j s kv E2 G2 hs rfl hrt2 s2 kn2 hn2
      refine ⟨_, _, gl_name, ?_⟩
      dsimp only [List.set]
      refine hl_last ?_
      have hkl2 : ((lot.take j).foldl (fun a s => setd a s r) A).length ≤ 10000000 := by
        have h := foldSetd_len r (lot.take j) A
        rw [List.length_take] at h
        omega
      refine hl_setd (k := 0) (m := 0) (i := 1) rfl (el_var rfl) (el_var rfl) hkl2 ?_
      refine hl_nx fun σ H a => kn2 _ σ H ?_ ((a.weak fun G => (.eq (.eq (.eq (.eq (.no .nil)))))).le (by omega))
      rw [take_succ hs, List.foldl_append]
      rfl
    · rintro kv rfl
      refine hl_nx fun σ H a => kn _ σ H ?_ ((a.weak fun G => (.eq (.eq (.no (.no (.no .nil)))))).le (by omega))
      rw [take_succ hp, List.foldl_append, List.take_length, hA]
      rfl
  · rintro kv rfl
    rw [List.take_length]
    refine hl_frzD (i := 1) rfl ?_
    dsimp only [List.set]
    refine hl_retN (k := 0) (R := ODct I (ranksP d)) (elo_dcF (k := 0) (e := S) (xs := d.1) (ky := fun s => s) (fn := fun s => ((foundP d).lookup s).getD 0) (p := fun s => ((foundP d).lookup s).isSome) (eil_sq (el_sqL (el_dbS DC (el_var (i := 0) rfl)))) (by rw [List.map_id']; exact hd.nd) (fun _ _ => gl_name) (fun s _ O' => ETL.eq (etl_test (el_inK (el_var rfl) (el_ks (el_var (i := 1) rfl)))) (lookup_keys _)) (fun s _ _ O' => el_var rfl) fun s _ hs O' => el_dget (k := 0) (m := 0) (el_var (i := 1) rfl) (el_var rfl) ?_) fun p G2 H2 s2 w2 => k p G2 H2 s2 (w2.le (by omega))
    show (foundP d).lookup s = some (((foundP d).lookup s).getD 0)
    have hs : ((foundP d).lookup s).isSome = true := hs
    cases q : (foundP d).lookup s with
    | none => rw [q] at hs; cases hs
    | some a => rfl
end
end Gd
-- part D7
set_option Elab.async false
set_option linter.all false
set_option maxRecDepth 100000
set_option maxHeartbeats 1000000
namespace Gd
open PySem PySem.Spec PyProof.Rows L2
universe u
abbrev s_NoStatement_init : Stmt := inClass (topS 5) 0
theorem sc_NoStatement_init : FnScope ["self", "thing"] ["self", "thing"] (defScope s_NoStatement_init) := ⟨rfl, rfl, rfl, by decide +kernel, rfl, by decide +kernel, by decide +kernel⟩
inductive StX (K : PySem.W.Frag) (ss : List Str) : SR → Prop
  | no (s : Str) : s ∉ ss → StX K ss (S s)
  | odd (R : SR) (h : ∀ v b G H, Rel b G H → R.p v G → ∃ t, TyY K H v t ∧ PySem.W.kitOne K t (.type "str") = some false) : StX K ss R
section
variable {P : Program} {w : World} {K : PySem.W.Frag} {mg : Str → Option Value} {base : Heap} {aL : Addr} {Tb : List (Addr × Str)}
theorem ok_NoStatement_init {C f : Addr} {fd : FuncData} (F : L2.Fun K "__init__" "NoStatement.__init__" s_NoStatement_init f fd) (hC : OexC K C) (hn : PySem.W.findIn K (.ref C) "thing" = some none) : FnOk P w K mg base C8.CX0 1 f fd ["self", "thing"] (sp_exI C "thing") := by
  refine F.ok sc_NoStatement_init (fun vs H Q E h => ?_) (fun cdv A outer s H vs Q E hr h => ?_)
  · obtain ⟨a, y, rfl, _⟩ := h
    rfl
  · obtain ⟨a, y, rfl, h⟩ := h
    exact ⟨_, (pss_one (ps_ost (pv 0) (pv 1))), ts_exI (D := { nx := fun _ H' => Q .non H', rt := Q }) hC hn h⟩
theorem dbT_ks {d : Deb} : (d.1.map fun s => (s, tosP d.2 s)).map (·.1) = d.1 := by rw [List.map_map]; exact List.map_id' _
def sp_stmt (K : PySem.W.Frag) (C : Addr) : Sp := spF true (fun i : Deb × Str => [DB K C i.1, S i.2]) (fun i => i.2 ∈ i.1.1) (fun i => S i.2)
theorem ok_checked_statement {C : Addr} (F : Fn K mg "checked_statement" s_checked_statement ["debate", "statement"]) (T : Txt K mg aL) (DC : DCls K C) : C8.Cal P w K mg base 1 "checked_statement" (sp_stmt K C) [] := by
  refine cal_of F sc_checked_statement (fun vs H Q E h => spF_len h fun _ => rfl) (fun f cdv A outer s H vs Q E hr h => ?_)
  have hu := hu_of hr
  obtain ⟨⟨d, x⟩, G, v, w', rfl, r, hx, hv, hw, k⟩ := sp2 h fun _ => rfl
  have hx : x ∈ d.1 := hx
  refine ⟨_, (pss_cons (ps_if (PW.pt (pw_or (pt_not (pt_val (pe_callB (call_isiKK (K := K)) rfl T.isinstance boot_isinstance (pa_cons (pv 1) (pa_cons (pe_bltn (v := .ty "str") rfl T.str boot_str rfl) pa_nil))))) (pw_or1 (pt_cmp (pc_dnotin hu (pv 1) (pe_fldK (K := K) (pv 0) rfl)))))) (pss_one ps_never) pss_nil)
      (pss_one (ps_ret (pv 1)))), ?_⟩
  refine tq_ifF (EvT.eq (et_or (et_not (et_B (ev_isi (r := true) (ev_var rfl hw) hty_S))) fun _ => et_test (ev_notinK (ev_var rfl hw) (Dct.ks (ev_dbT DC (ev_var (i := 0) rfl hv))))) ?_) r fun G2 H2 g => ?_
  · rw [dbT_ks]
    simp [hx]
  exact ts_ret (ev_var rfl ((S x).st g.g hw)) (g.r _ r) fun u G3 H3 g3 p => k u G3 H3 (g.trans g3) p
def sp_stmtX (K : PySem.W.Frag) (C CB : Addr) : Sp := spX true (fun i : Deb × SR => [DB K C i.1, i.2]) (fun i => StX K i.1.1 i.2) CB "thing" (fun i => i.2)
theorem ox_checked_statement {C CB : Addr} (F : Fn K mg "checked_statement" s_checked_statement ["debate", "statement"]) (T : Txt K mg aL) (DC : DCls K C) (e_NoStatement : ExC P w K mg base "NoStatement" CB "thing") : CalX P w K mg base 3 "checked_statement" ["debate", "statement"] (sp_stmtX K C CB) := by
  refine calX_of F sc_checked_statement (fun vs H Q E h => spX_len h fun _ => rfl) (fun f cdv A outer s H vs Q E hr h => ?_)
  have hu := hu_of hr
  obtain ⟨⟨d, R⟩, G, r, hA, al, k⟩ := h
  obtain ⟨v, w', rfl, hv, hw⟩ := alr2 al
  have hv : (DB K C d).p v G := hv
  have hw : R.p w' G := hw
  have hA : StX K d.1 R := hA
  refine ⟨_, (pss_cons (ps_if (PW.pt (pw_or (pt_not (pt_val (pe_callB (call_isiY (K := K)) rfl T.isinstance boot_isinstance (pa_cons (pv 1) (pa_cons (pe_bltn (v := .ty "str") rfl T.str boot_str rfl) pa_nil))))) (pw_or1 (pt_cmp (pc_dnotin hu (pv 1) (pe_fldK (K := K) (pv 0) rfl)))))) (pss_one (ps_raise rfl (takes_of rfl rfl rfl rfl) (pmk_exc e_NoStatement hr (by first | decide | omega) rfl (pa_cons (pv 1) pa_nil)))) pss_nil)
      (pss_one (ps_ret (pv 1)))), ?_⟩
  refine tq_if (v := true) ?_ r (fun _ G2 H2 g => ?_) fun h => by cases h
  · cases hA with
    | no s hs =>
      refine EvT.eq (et_or (et_not (et_B (ev_isiY (r := true) (ev_var rfl hw) (tyY_ty hty_S)))) fun _ => et_test (ev_notinK (ev_var rfl hw) (Dct.ks (ev_dbT DC (ev_var (i := 0) rfl hv))))) ?_
      rw [dbT_ks]
      simp [hs]
    | odd R h => exact EvT.eq (et_or (d := true) (et_not (et_B (ev_isiY (r := false) (ev_var rfl hw) h))) fun h => by cases h) rfl
  · exact mkO_run (ev_var rfl (R.st g.g hw)) (g.r _ r) fun z d G3 H3 g3 hz n1 n2 n3 => k z d G3 H3 (g.trans g3) hz n1 (g.free n2) n3
end
end Gd
-- part Gd55
set_option Elab.async false
set_option linter.all false
set_option maxRecDepth 100000
set_option maxHeartbeats 1000000
namespace Gd
open PySem PySem.Spec PyProof.Rows L2
universe u
def ORX {A : Type} (P : A → Prop) (R : A → OR) : OR := ⟨fun o G => ∃ a, P a ∧ (R a).p o G, fun s ⟨a, h1, h2⟩ => ⟨a, h1, (R a).st s h2⟩⟩
section
variable {K : PySem.W.Frag} {W : SC} {O O' : Own} {n k m l c : Nat} {G0 G G2 H H2 : Hp} {Rs Rs' : RL} {R R1 R2 : SR} {te ta tb tc tk ty tx to : TE} {tr : TA} {t u : TS} {E : Ends} {α β A : Type} {e : α → SR} {xs : List α} {D p : Addr} {i j z : Nat} {P : A → Prop}
theorem hl_open {f : A → SR} (i : Nat) (hi : Rs[i]? = some (some (ExR P f))) (q : ∀ a, P a → HL W G0 n O (Rs.set i (some (f a))) t E) : HL W G0 n O Rs t E := fun σ H ⟨G, s, sl, w⟩ => by
  obtain ⟨v, h1, a, ha, h2⟩ := sl.get i _ hi
  refine q a ha σ H ⟨G, s, ⟨by rw [List.length_set]; exact sl.len, fun j R' e' => ?_⟩, w⟩
  by_cases z : i = j
  · subst z
    have hl : i < Rs.length := (List.getElem?_eq_some_iff.mp hi).1
    rw [List.getElem?_set_self hl] at e'
    cases e'
    exact ⟨v, h1, h2⟩
  · rw [List.getElem?_set_ne z] at e'
    exact sl.get j R' e'
theorem hl_openO {f : A → OR} (q : ∀ a, P a → HL W G0 n ((p, f a) :: O) Rs t E) : HL W G0 n ((p, ORX P f) :: O) Rs t E := fun σ H ⟨G, s, sl, w⟩ => by
  obtain ⟨h1, h2, h3, o, h4, h5, a, ha, h6⟩ := w.o _ (List.mem_cons_self ..)
  refine q a ha σ H ⟨G, s, sl, ⟨w.r, w.nt, w.tb, w.d, w.nd, fun x hx => ?_⟩⟩
  rcases List.mem_cons.mp hx with rfl | hx
  · exact ⟨h1, h2, h3, o, h4, h5, h6⟩
  · exact w.o x (List.mem_cons_of_mem _ hx)
theorem eix_range {Pd : Nat → Prop} (h : EL W O k te Rs (ExR Pd fun d => I (d : Nat))) (hz : ∀ d, Pd d → d ≤ 100000) : EIX W O k (iRng1 (tCons te tNil)) Rs (fun xs : List Nat => ∃ d, Pd d ∧ xs = List.range d) (fun i : Nat => I (0 + (i : Nat))) := fun σ G H n Q sl w hn kk =>
  h σ G H n _ sl w hn fun v G2 H2 s2 w2 ⟨d, hd, pv⟩ => by
    have := hz d hd
    refine (ei_range1 (b := true) (σ := σ) (G := G2) (te := tC v) (n := ((d : Nat) : Int)) (ev_cR' pv) (by omega) (by omega)).run w2.r fun J G3 H3 g3 W3 => kk J G3 H3 (s2.trans g3.g) (w2.go g3) ⟨List.range d, ⟨d, hd, rfl⟩, ?_⟩
    simpa using W3
theorem EIX.imp {ti : TI} {Px Py : List α → Prop} (h : EIX W O k ti Rs Px e) (q : ∀ xs, Px xs → Py xs) : EIX W O k ti Rs Py e := h.is fun J G ⟨xs, h1, h2⟩ => ⟨xs, q xs h1, h2⟩
theorem eln_lcX {Px : List α → Prop} {wi : TI} {g : TG} {tt : TT} {vs is : List Nat} {er : β → SR} {fn : α → β} {p : α → Bool} {Ra : α → RL} (hi : EIX W O k wi Rs Px e) (hg : ∀ xs, Px xs → ∀ a, a ∈ xs → GL g (e a) (wipeR Rs vs) (Ra a) is) (ht : ∀ xs, Px xs → ∀ a, a ∈ xs → ∀ O', ETL W O' 0 tt (Ra a) (p a)) (hb : ∀ xs, Px xs → ∀ a, a ∈ xs → p a = true → ∀ O', EL W O' 0 te (Ra a) (er (fn a))) (his : ∀ i ∈ is, i ∈ vs := by decide) :
    ELO W O k (tLc wi g tt te vs) Rs (ORX Px fun xs => OL er ((xs.filter p).map fn)) := fun σ G H n Q sl w hn kk => by
  refine hi σ G H n _ sl w (by omega) fun J G2 H2 s2 w2 ⟨xs, hx, WR⟩ D hD => ?_
  have sl2 := (sl.st s2).wipe vs
  refine ⟨fun i z H => z = xs.length - i ∧ i ≤ xs.length ∧ ∃ G', Same G2 G' ∧ Wd W (n + k) ((D, OL er (((xs.take i).filter p).map fn)) :: O) G' H, ⟨xs.length, rfl, Nat.zero_le _, G2, Same.refl _, w2.own (R := OL er []) hD rfl ⟨[], rfl, Nat.zero_le _, .nil⟩⟩, ?_⟩
  rintro i z H ⟨rfl, hi2, G', s', w'⟩
  by_cases hlt : i < xs.length
  · refine .inr ⟨WR.goes i G' H hlt s' w'.r trivial, fun H' => ∃ G', Same G2 G' ∧ Wd W (n + k) ((D, OL er (((xs.take (i + 1)).filter p).map fn)) :: O) G' H', fun H' h' => ⟨xs.length - (i + 1), by omega, rfl, hlt, h'⟩, fun x H' y => ?_⟩
    have hxi : xs[i]? = some xs[i] := List.getElem?_eq_getElem hlt
    obtain ⟨G4, g4, pa⟩ := WR.yields i xs[i] G' H x H' hxi s' w'.r trivial y
    have w4 := w'.go g4
    obtain ⟨σ', q1, q2, q3⟩ := (hg xs hx xs[i] (List.getElem_mem hlt)).h x (L2.wipe σ vs) G4 (sl2.st (s'.trans g4.g)) pa
    refine q1 H' _ w4.r ⟨?_, ?_⟩
    · have : L2.wipe (L2.wipe σ vs) vs = L2.wipe σ vs := by
        apply List.ext_getElem?
        intro j
        rw [wipe_get, wipe_get, wipe_length]
        split <;> rfl
      rw [q3 vs his, this]
    refine ht xs hx xs[i] (List.getElem_mem hlt) _ σ' G4 H' _ _ q2 w4 (by omega) fun b G5 H5 s5 w5 eb => ?_
    subst eb
    by_cases hp : p xs[i] = true
    · rw [if_pos hp]
      refine hb xs hx xs[i] (List.getElem_mem hlt) hp _ σ' G5 H5 _ _ (q2.st s5) w5 (by omega) fun u G6 H6 s6 w6 pu => ?_
      obtain ⟨_, _, _, ho, h4, _, acc, rfl, h7, h8⟩ := w6.o _ (List.mem_cons_self ..)
      have hl := h8.len
      have hx := WR.len
      have hft : (((xs.take i).filter p).map fn).length ≤ i := by
        rw [List.length_map]
        exact Nat.le_trans (List.length_filter_le _ _) (by rw [List.length_take]; omega)
      have e6 : ((xs.take (i + 1)).filter p).map fn = ((xs.take i).filter p).map fn ++ [fn xs[i]] := by
        rw [take_succ hxi, List.filter_append, List.map_append, List.filter_cons_of_pos hp]
        rfl
      refine ⟨acc, h4, by omega, G6, ((s'.trans g4.g).trans s5).trans s6, ?_⟩
      rw [e6]
      exact w6.put (R' := OL er (((xs.take i).filter p).map fn ++ [fn xs[i]])) (o := .lst (acc ++ [u])) (fun u ⟨_, e, _⟩ => by rw [e]; rfl) rfl ⟨_, rfl, by rw [List.length_append, List.length_singleton]; omega, h8.snoc pu⟩
    · rw [if_neg hp]
      have e6 : ((xs.take (i + 1)).filter p).map fn = ((xs.take i).filter p).map fn := by
        rw [take_succ hxi, List.filter_append, List.filter_cons_of_neg hp, List.filter_nil, List.append_nil]
      refine ⟨G5, (s'.trans g4.g).trans s5, ?_⟩
      rw [e6]
      exact w5
  · have e0 : i = xs.length := by omega
    subst e0
    rw [List.take_length] at w'
    exact .inl ⟨WR.stops G' H s' w'.r trivial, kk D G' H (s2.trans s') (w'.weak fun o h => ⟨xs, hx, h⟩)⟩
theorem hl_asg3N {R : OR} (h1 : EL W O k ta Rs R1) (h2 : EL W O m tb Rs R2) (h3 : ELO W O l tc Rs R) (q : ∀ p, HL W G0 (n + (k + m + l)) ((p, R) :: O) (((Rs.set i (some R1)).set j (some R2)).set z (some (cst (.ref p)))) u E) (hn : n + (k + m + l) ≤ 1000000 := by omega) : HL W G0 n O Rs (tSeq (tAsg (tTup (tCons ta (tCons tb (tCons tc tNil)))) (gTup K 3 (gCons (gName i) (gCons (gName j) (gCons (gName z) gNil))))) u) E := fun σ H ⟨G, s, sl, w⟩ => by
  refine h1 σ G H n _ sl w (by omega) fun v1 G1 H1 s1 w1 p1 => ?_
  refine h2 σ G1 H1 (n + k) _ (sl.st s1) w1 (by omega) fun v2 G2 H2 s2 w2 p2 => ?_
  refine h3 σ G2 H2 (n + k + m) _ (sl.st (s1.trans s2)) w2 (by omega) fun p G3 H3 s3 w3 => ⟨by show 3 ≤ sizeLine; decide, fun a ha => ?_⟩
  have s4 := Same.new (o := .tup [v1, v2, .ref p]) (w3.r.free ha)
  have w4 := w3.new (o := .tup [v1, v2, .ref p]) ha rfl
  refine ⟨a, [v1, v2, .ref p], rfl, SqT.of upd_same, rfl, v1, [v2, .ref p], rfl, v2, [.ref p], rfl, .ref p, [], rfl, rfl, q p _ _ ⟨_, ((s.trans s1).trans s2).trans (s3.trans s4), ?_, w4.eq (by omega)⟩⟩
  exact (((sl.st ((s1.trans s2).trans (s3.trans s4))).set (R1.st (s2.trans (s3.trans s4)) p1)).set (R2.st (s3.trans s4) p2)).set (R := cst (.ref p)) rfl
theorem el_calldX {ι : Type u} {pre : ι → List SR} {ok : ι → Prop} {cost : ι → Nat} {post : ι → SR} {j : Nat} {X : XK} (i : A → ι) (hs : Rs[j]? = some (some (cst (.ref W.s)))) (ha : EG W O k tr Rs (fun vs G => ∃ a, P a ∧ AlR (pre (i a)) vs G)) (hok : ∀ a, P a → ok (i a)) (hc : ∀ a, P a → cost (i a) ≤ c) (hp : ∀ a, P a → ∀ v G, (post (i a)).p v G → R.p v G) : EL W O (k + c) (tCall (spD pre ok cost post) [] X (tCons (tVar j) tr)) Rs R := fun σ G H n Q sl w hn kk => by
  obtain ⟨v, h1, h2⟩ := sl.get j _ hs
  obtain rfl : v = .ref W.s := h2
  refine ⟨_, h1, ha σ G H n _ sl w (by omega) fun vs G2 H2 s2 w2 ⟨a, pa, al⟩ => ?_⟩
  have := hc a pa
  exact ⟨i a, G2, W.s, W.c, n + k, vs, by rw [List.append_nil], w2.r, w2.d, by omega, hok a pa, al, fun v G3 H3 g d3 r3 p => kk v G3 H3 (s2.trans g.g) ((w2.gs g d3 r3).le (by omega)) (hp a pa v G3 p)⟩
theorem eal_X1 {f : A → SR} (h : EL W O k ta Rs (ExR P f)) : EG W O k (tCons ta tNil) Rs (fun vs G => ∃ a, P a ∧ AlR [f a] vs G) := fun σ G H n Q sl w hn kk => h σ G H n _ sl w hn fun v G2 H2 s2 w2 ⟨a, pa, pv⟩ => kk [v] G2 H2 s2 w2 ⟨a, pa, .cons pv .nil⟩
theorem hl_ifJ {tt : TT} {cc : Bool} {t2 : TS} {δ : Type} (Pj : δ → Prop) (Of : δ → Own) (Rj : δ → RL) (n2 : Nat) (h : ETL W O k tt Rs cc) (q1 : cc = true → ∀ E', E'.rt = E.rt → (∀ d σ H, Pj d → At W G0 n2 (Of d) (Rj d) σ H → E'.nx σ H) → HL W G0 (n + k) O Rs t E') (q2 : cc = false → ∀ E', E'.rt = E.rt → (∀ d σ H, Pj d → At W G0 n2 (Of d) (Rj d) σ H → E'.nx σ H) → HL W G0 (n + k) O Rs t2 E') (q : ∀ d, Pj d → HL W G0 n2 (Of d) (Rj d) u E) (hn : n + k ≤ 1000000 := by omega) : HL W G0 n O Rs (tSeq (tIfS tt t t2) u) E :=
  hl_if h (fun e => q1 e _ rfl fun d σ H hd a => q d hd σ H a) (fun e => q2 e _ rfl fun d σ H hd a => q d hd σ H a) hn
theorem ev_repL {b : Bool} {σ : L2.St} {r : Int} (ha : Ev b ta σ G (Lst e xs)) (hb : Ev b tb σ G (I r)) (hr : r = 0 ∨ r = 1) (hl : xs.length ≤ 1000) : EvN b (tOp L2.rRep ta tb) σ G e (if r = 0 then [] else xs) :=
  en_op ha hb fun x y G1 H1 a rr p q Q k => by
    obtain ⟨ad, vs, rfl, h1, h2, h3⟩ := p
    obtain rfl : y = _ := q
    have hlen := h3.len
    have : sizeLine = 16777216 := sizeLine_eq
    have h1' := rr.at h1 rfl
    refine ⟨ad, r, vs, rfl, rfl, h1', ?_, ?_, ?_, fun p hp => ?_⟩
    · rcases hr with rfl | rfl <;> decide
    · rcases hr with rfl | rfl <;> decide
    · rcases hr with rfl | rfl
      · simp
      · show vs.length * 1 ≤ _; omega
    · rcases hr with rfl | rfl
      · exact k p [] G1 _ (Go.own rr hp) hp (rr.free hp) upd_same (Nat.zero_le _) .nil
      · refine k p vs G1 _ (Go.own rr hp) hp (rr.free hp) ?_ h2 h3
        rw [upd_same]
        simp
theorem eln_repL {r : Int} (ha : EL W O k ta Rs (Lst e xs)) (hb : EL W O m tb Rs (I r)) (hr : r = 0 ∨ r = 1) (hl : xs.length ≤ 1000) : ELN W O (k + m) (tOp L2.rRep ta tb) Rs e (if r = 0 then [] else xs) := eln_o2 ha hb fun _ _ _ _ p q => ev_repL (ev_cR' p) (ev_cR' q) hr hl
theorem el_ex {f : A → SR} {a : A} (h : EL W O k te Rs (f a)) (pa : P a) : EL W O k te Rs (ExR P f) := h.is fun v G p => ⟨a, pa, p⟩
theorem ev_ex {b : Bool} {σ : L2.St} {f : A → SR} {a : A} (h : Ev b te σ G (f a)) (pa : P a) : Ev b te σ G (ExR P f) := h.is fun _ _ _ p => ⟨a, pa, p⟩
end
end Gd
-- part E1
set_option Elab.async false
set_option linter.all false
set_option maxRecDepth 100000
set_option maxHeartbeats 1000000
namespace Gd
open PySem PySem.Spec PyProof.Rows L2
universe u
abbrev s_d_pairs : Stmt := topS 57
theorem sc_d_pairs : FnScope ["_law_stream", "_law_names", "_law_way", "_law_many", "_law_found", "_law_k", "_law_one", "_law_other"] ["_law_stream", "_law_names"] (defScope s_d_pairs) := ⟨rfl, rfl, rfl, by decide +kernel, rfl, by decide +kernel, by decide +kernel⟩
section
variable {K : PySem.W.Frag} {W : SC} {O : Own} {k m l n : Nat} {Rs : RL} {R : SR} {ta tb te : TE} {E : XK} {j : Nat} {α : Type} {e : α → SR} {xs : List α}
theorem el_drw {z : Nat} (hs : Rs[j]? = some (some (cst (.ref W.s)))) (h : EL W O k te Rs (I (z : Nat))) (h1 : 0 < z) (h2 : z ≤ 1000000) : EL W O (k + 0 + 1) (tCall sp_draw [] E (tCons (tVar j) (tCons te tNil))) Rs (Dw z) := el_calld (ι := Nat) (pre := fun m => [I m]) (ok := fun m => 0 < m ∧ m ≤ 1000000) (cost := fun _ => 1) (post := Dw) z hs (eal_cons h eal_nil) ⟨h1, h2⟩
theorem el_pck (hs : Rs[j]? = some (some (cst (.ref W.s)))) (h : EL W O k te Rs (Sq K e xs)) (h1 : xs ≠ []) (h2 : xs.length ≤ 100000) : EL W O (k + 0 + 1) (tCall (sp_pick K) [] E (tCons (tVar j) (tCons te tNil))) Rs (ExR (· ∈ xs) e) := el_calld (ι := PickI) (pre := fun i => [Sq K i.e i.xs]) (ok := fun i => i.xs ≠ [] ∧ i.xs.length ≤ 100000) (cost := fun _ => 1) (post := fun i => ExR (· ∈ i.xs) i.e) ⟨α, e, xs⟩ hs (eal_cons h eal_nil) ⟨h1, h2⟩
theorem el_mix (hs : Rs[j]? = some (some (cst (.ref W.s)))) (h : EL W O k te Rs (Sq K e xs)) (h2 : xs.length ≤ 100000) : EL W O (k + 0 + xs.length) (tCall (sp_mixed K) [] E (tCons (tVar j) (tCons te tNil))) Rs (ExR (fun ys => ys.Perm xs) (Lst e)) := el_calld (ι := PickI) (pre := fun i => [Sq K i.e i.xs]) (ok := fun i => i.xs.length ≤ 100000) (cost := fun i => i.xs.length) (post := fun i : PickI => ExR (fun ys : List i.α => List.Perm ys i.xs) (Lst i.e)) (⟨α, e, xs⟩ : PickI) hs (eal_cons h eal_nil) h2
theorem el_mulI {x y : Int} (ha : EL W O k ta Rs (I x)) (hb : EL W O m tb Rs (I y)) (h : CMul x y) : EL W O (k + m) (tOp (rI CMul fun i j => .int (i * j)) ta tb) Rs (I (x * y)) := el_o2 ha hb fun _ _ _ _ p q => ev_mulI (ev_cR' p) (ev_cR' q) h
theorem el_modI {x y : Int} (ha : EL W O k ta Rs (I x)) (hb : EL W O m tb Rs (I y)) (h : y ≠ 0) : EL W O (k + m) (tOp (rI (fun _ j => j ≠ 0) fun i j => .int (i.fmod j)) ta tb) Rs (I (x.fmod y)) := el_o2 ha hb fun _ _ _ _ p q => ev_modI (ev_cR' p) (ev_cR' q) h
theorem el_gtI {x y : Int} (ha : EL W O k ta Rs (I x)) (hb : EL W O m tb Rs (I y)) : EL W O (k + m) (tOp (rI0 fun i j => .bl (decide (j < i))) ta tb) Rs (B (decide (y < x))) := el_I0 ha hb
abbrev rInt1 : List V → Hp → VK → Prop := fun xs H Q => (∃ i, xs = [.int i] ∧ Q (.int i) H) ∨ ∃ k, xs = [.bl k] ∧ Q (.int (if k then 1 else 0)) H
theorem el_intI {x : Int} (ha : EL W O k ta Rs (I x)) : EL W O k (tCB rInt1 (tCons ta tNil)) Rs (I x) := fun σ G H n Q sl w hn kk => ha σ G H n _ sl w hn fun v G2 H2 s2 w2 p => .inl ⟨x, by rw [show v = V.int x from p], kk _ G2 H2 s2 w2 rfl⟩
theorem el_intB {x : Bool} (ha : EL W O k ta Rs (B x)) : EL W O k (tCB rInt1 (tCons ta tNil)) Rs (I (if x then 1 else 0)) := fun σ G H n Q sl w hn kk => ha σ G H n _ sl w hn fun v G2 H2 s2 w2 p => .inr ⟨x, by rw [show v = V.bl x from p], kk _ G2 H2 s2 w2 rfl⟩
end
section
variable {P : Program} {w : World} {K : PySem.W.Frag} {mg : Str → Option Value} {base : Heap} {aL : Addr} {Tb : List (Addr × Str)}
theorem ev_notinD {α : Type} [DecidableEq α] {b : Bool} {σ : L2.St} {G : Hp} {ta tb : TE} {e : α → SR} {c : α → PyData} {n : Nat} {x : α} {xs : List α} (ha : Ev b ta σ G (e x)) (hb : Ev b tb σ G (Lst e xs)) (E : Enc K e c n) (Q : EqE c) (hn : n ≤ 63 := by decide) : Ev b (tOp (rNotInD K) ta tb) σ G (B (!decide (x ∈ xs))) :=
  ev_opP ha hb fun u v G1 H1 a r p q => ⟨_, rfl, fun Q' hQ => ⟨c x, xs.map c, r.dp _ _ (E.h p), r.dp _ _ ((enc_lst E).h q), shaped_of (E.lay p) (Nat.le_trans (E.dep x) (by omega)), shaped_of ((enc_lst E).lay q) (Nat.le_trans ((enc_lst E).dep xs) (by omega)), by rw [anyEq Q]; exact hQ⟩⟩
abbrev PP (K : PySem.W.Frag) : Str × Str → SR := Pr K S S
def ostepP (acc : List (Str × Str)) (x : Str × Str) : List (Str × Str) := if decide (x ∈ acc) = true then acc else acc ++ [x]
def onceP (xs : List (Str × Str)) : List (Str × Str) := xs.foldl ostepP []
theorem onceP_spec : ∀ (xs acc : List (Str × Str)), acc.Nodup → (xs.foldl ostepP acc).Nodup ∧ (∀ x, x ∈ xs.foldl ostepP acc ↔ x ∈ acc ∨ x ∈ xs) ∧ (xs.foldl ostepP acc).length ≤ acc.length + xs.length
  | [], acc, h => ⟨h, fun x => by simp, Nat.le_refl _⟩
  | y :: xs, acc, h => by
    rw [List.foldl_cons]
    by_cases q : y ∈ acc
    · have e : ostepP acc y = acc := if_pos (by simpa using q)
      rw [e]
      obtain ⟨h1, h2, h3⟩ := onceP_spec xs acc h
      refine ⟨h1, fun x => ?_, by rw [List.length_cons]; omega⟩
      rw [h2, List.mem_cons]
      exact ⟨fun z => z.elim .inl fun z => .inr (.inr z), fun z => z.elim .inl fun z => z.elim (fun z => .inl (z ▸ q)) .inr⟩
    · have e : ostepP acc y = acc ++ [y] := if_neg (by simpa using q)
      rw [e]
      obtain ⟨h1, h2, h3⟩ := onceP_spec xs (acc ++ [y]) (by
        rw [List.nodup_append]
        exact ⟨h, by simp, fun a ha b hb z => q (by rw [List.mem_singleton.mp hb] at z; exact z ▸ ha)⟩)
      rw [List.length_append, List.length_singleton] at h3
      refine ⟨h1, fun x => ?_, by rw [List.length_cons]; omega⟩
      rw [h2, List.mem_append, List.mem_singleton, List.mem_cons, or_assoc]
def sp_each_onceP (K : PySem.W.Frag) : Sp := spF false (fun xs : List (Str × Str) => [Sq K (PP K) xs]) (fun xs => xs.length ≤ 1000) (fun xs => Lst (PP K) (onceP xs))
theorem ok_each_onceP (F : Fn K mg "_law_each_once" s_each_once ["_law_things"]) (T : Txt K mg aL) : C8.Cal P w K mg base 1 "_law_each_once" (sp_each_onceP K) [] := by
  refine cal_of F sc_each_once (fun vs H Q E h => spF_len h fun _ => rfl) (fun f cdv A outer s H vs Q E hr h => ?_)
  have hu65 := hu65_of hr
  obtain ⟨xs, G, v, rfl, r, hl, hv, k⟩ := sp1 h fun _ => rfl
  have hl : xs.length ≤ 1000 := hl
  refine ⟨_, (pss_cons (ps_set (i := 1) sc_each_once.nd rfl (by first | exact Or.inl rfl | exact Or.inr rfl) (pe_lst pa_nil))
      (pss_cons (ps_for PassesOwn.never rfl (pi_seqK (K := K) (pv 0)) (pg_name (i := 2) sc_each_once.nd rfl (by first | exact Or.inl rfl | exact Or.inr rfl)) (pss_one (ps_if (pt_cmpR (op_notInDK (K := K) hu65) (pv 2) (pv 1) (by with_unfolding_all rfl)) (pss_one (ps_expr (pe_bmK (K := K) PySem.F.plainAttrs_list PySem.F.slot_list_append PySem.F.type_list_append mt_append (pv 1) (pa_cons (pv 2) pa_nil)))) pss_nil)))
      (pss_one (ps_ret (pv 1))))), ?_⟩
  have hb : ∀ ys : List (Str × Str), (ys.foldl ostepP []).length ≤ ys.length := fun ys => by
    have := (onceP_spec ys [] List.nodup_nil).2.2
    simpa using this
  refine tq_setN (en_lst (e := PP K) (xs := []) ea_nil (by simp)) r fun p G1 H1 g1 o1 => ?_
  refine tq_fill ostepP (fun σ => ∃ y2, σ = [some v, some (.ref p), y2]) ⟨_, rfl⟩ o1 g1 (ei_sq (ev_var rfl ((Sq K (PP K) xs).st g1.g hv))) r ?_ ?_
  · rintro i x hx y G' H' σ' D' s r' hy ⟨y2, rfl⟩ g o _ kn
    have hlt : ((xs.take i).foldl ostepP []).length ≤ 1000 := Nat.le_trans (hb _) (by rw [List.length_take]; omega)
    refine o.tif (by omega) r' (fun G1 s1 hp => et_test (ev_notinD (ev_var rfl ((PP K x).st s1 hy)) (ev_var rfl hp) (enc_pr enc_S enc_S) (eqE_pr eqE_S eqE_S))) (fun e G2 H2 g2 => ?_) (fun e G2 H2 g2 => kn _ G2 H2 (g.trans g2) g2.g ?_ ⟨_, rfl⟩)
    · refine (o.go g2).push (ev_var rfl ((PP K x).st g2.g hy)) rfl (by omega) (g2.r _ r') (g.trans g2) fun G3 H3 g3 s3 o3 => kn _ G3 H3 g3 (g2.g.trans s3) ?_ ⟨_, rfl⟩
      rw [show ostepP ((xs.take i).foldl ostepP []) x = (xs.take i).foldl ostepP [] ++ [x] from if_neg (by simpa using e)]
      exact o3
    · rw [show ostepP ((xs.take i).foldl ostepP []) x = (xs.take i).foldl ostepP [] from if_pos (by simpa using e)]
      exact o.go g2
  · rintro σ' G2 H2 g2 s2 o2 ⟨y2, rfl⟩
    obtain ⟨G3, g3, s3, hp⟩ := o2.freeze g2 (Nat.le_trans (hb xs) (by omega))
    exact ts_ret (ev_var (R := Lst (PP K) (onceP xs)) rfl hp) (g3.r _ r) fun u G4 H4 g4 p => k u G4 H4 (g3.trans g4) p
theorem el_onceP {W : SC} {O : Own} {k : Nat} {Rs : RL} {ta : TE} {E : XK} {xs : List (Str × Str)} (h1 : EL W O k ta Rs (Sq K (PP K) xs)) (hl : xs.length ≤ 1000) : EL W O (k + 0) (tCall (sp_each_onceP K) [] E (tCons ta tNil)) Rs (Lst (PP K) (onceP xs)) := el_call (ι := List (Str × Str)) (pre := fun xs => [Sq K (PP K) xs]) (ok := fun xs => xs.length ≤ 1000) (post := fun xs => Lst (PP K) (onceP xs)) xs (eal_cons h1 eal_nil) hl
end
end Gd
-- part E2
set_option Elab.async false
set_option linter.all false
set_option maxRecDepth 100000
set_option maxHeartbeats 1000000
namespace Gd
open PySem PySem.Spec PyProof.Rows L2
universe u
def okPs (ns : List Str) (ps : List (Str × Str)) : Prop := ps.Nodup ∧ (∀ p ∈ ps, p.1 ∈ ns ∧ p.2 ∈ ns) ∧ ps.length ≤ 300
theorem pairs_len {ns : List Str} {M : Nat} {ps : List (Str × Str)} (nd : ps.Nodup) (h : ∀ q ∈ ps, q.1 ∈ ns ∧ q.2 ∈ ns ∧ ns.length = M) : ps.length ≤ M * M := by
  cases ps with
  | nil => exact Nat.zero_le _
  | cons p ps =>
    have hM := (h p (List.mem_cons_self ..)).2.2
    have := nodup_len (cs := ns.flatMap fun a => ns.map fun b => (a, b)) nd fun q hq => List.mem_flatMap.mpr ⟨q.1, (h q hq).1, List.mem_map.mpr ⟨q.2, (h q hq).2.1, rfl⟩⟩
    have hf : ∀ (xs : List Str), (xs.flatMap fun a => ns.map fun b => (a, b)).length = xs.length * M := fun xs => by
      induction xs with
      | nil => simp
      | cons x xs ih => rw [List.flatMap_cons, List.length_append, ih, List.length_map, hM, List.length_cons, Nat.add_mul, Nat.one_mul, Nat.add_comm]
    rw [hf, hM] at this
    exact this
theorem fmod_nat (a b : Nat) : ((a : Int)).fmod (b : Int) = ((a % b : Nat) : Int) := by
  rw [Int.fmod_eq_emod_of_nonneg _ (by omega)]
  exact (Int.natCast_emod a b).symm
theorem ways_z {m way : Nat} (hm : m ≤ 12) (hw : way < 5) : ∃ z, ([2, m * m + 1, m + 2, 2 * m + 1, m + 1] : List Nat)[way]? = some z ∧ 0 < z ∧ z ≤ 145 := by
  have hmm : m * m ≤ 12 * 12 := Nat.mul_le_mul hm hm
  match way, hw with
  | 0, _ => exact ⟨_, rfl, by omega, by omega⟩
  | 1, _ => exact ⟨_, rfl, by omega, by omega⟩
  | 2, _ => exact ⟨_, rfl, by omega, by omega⟩
  | 3, _ => exact ⟨_, rfl, by omega, by omega⟩
  | 4, _ => exact ⟨_, rfl, by omega, by omega⟩
section
variable {P : Program} {w : World} {K : PySem.W.Frag} {mg : Str → Option Value} {base : Heap} {aL : Addr} {Tb : List (Addr × Str)}
def sp_d_pairs (K : PySem.W.Frag) (Tb : List (Addr × Str)) : Sp := spL Tb (fun ns : List Str => [Lst S ns]) (fun ns => ns.length ≤ 12) (fun _ => 700) (fun ns => ExR (okPs ns) (Lst (PP K)))
theorem ok_d_pairs (F : Fn K mg "_law_d_pairs" s_d_pairs ["_law_stream", "_law_names"]) (T : Txt K mg aL) (c_draw : C8.Cal P w K mg base 1 "_law_draw" sp_draw []) (c_pick : C8.Cal P w K mg base 2 "_law_pick" (sp_pick K) []) (c_mixed : C8.Cal P w K mg base 2 "_law_mixed" (sp_mixed K) []) (c_each_once : C8.Cal P w K mg base 1 "_law_each_once" (sp_each_onceP K) []) : C8.Cal P w K mg base 3 "_law_d_pairs" (sp_d_pairs K Tb) [] := by
  refine cal_of F sc_d_pairs (fun vs H Q E h => spL_len h fun _ => rfl) (fun f cdv A outer s H vs Q E hr h => ?_)
  have hu64 := hu64_of hr
  obtain ⟨ns, st, c, n, O, G, rest, rfl, w0, hn, hl, al, k⟩ := h
  obtain ⟨v, rfl, hv⟩ := alr1 al
  have hn : n + 700 ≤ 1000000 := hn
  have hl : ns.length ≤ 12 := hl
  have hv : (Lst S ns).p v G := hv
  refine ⟨_, (pss_cons (ps_asg (pe_tup (pa_cons (C8.pe_c c_draw hr (by first | decide | omega) rfl (pa_cons (pv 0) (pa_cons pe_int pa_nil))) (pa_cons (pe_callB (call_lenK (K := K)) rfl T.len PySem.boot_len (pa_cons (pv 1) pa_nil)) (pa_cons (pe_lst pa_nil) pa_nil)))) (pg_tupK (K := K) (n := 3) rfl (pgs_cons (pg_name (i := 2) sc_d_pairs.nd rfl (by first | exact Or.inl rfl | exact Or.inr rfl)) (pgs_cons (pg_name (i := 3) sc_d_pairs.nd rfl (by first | exact Or.inl rfl | exact Or.inr rfl)) (pgs_cons (pg_name (i := 4) sc_d_pairs.nd rfl (by first | exact Or.inl rfl | exact Or.inr rfl)) pgs_nil)))))
      (pss_cons (ps_if (PW.pt (pw_and (pt_cmpR op_eq (pv 2) pe_int (nomark _)) (pw_and1 (pt_cmpR op_gt (pv 3) pe_int (nomark _))))) (pss_one (ps_setLc (i := 4) (own := [("_law_k", 5)]) rfl sc_d_pairs.nd rfl rfl (sw_true rfl rfl rfl (by decide +kernel)) (pi_range1 rfl T.range (pa_cons (pe_op op_sub (pv 3) (C8.pe_c c_draw hr (by first | decide | omega) rfl (pa_cons (pv 0) (pa_cons pe_int pa_nil)))) pa_nil)) (blkOk_by (by kernel_rfl)) (fun _ _ _ _ _ => (pg_name (i := 5) sc_d_pairs.nd rfl (by first | exact Or.inl rfl | exact Or.inr rfl))) (fun _ _ _ _ _ => pts_nil) (fun _ _ _ _ _ => (pe_tup (pa_cons (pe_ix (ix_K (K := K)) (pv 1) (pv 5) (fun _ _ => rfl)) (pa_cons (pe_ix (ix_K (K := K)) (pv 1) (pe_op op_modN (pe_callTy call_int1 rfl T.int boot_int (pa_cons (pe_op op_add (pv 5) pe_int) pa_nil)) (pv 3)) (fun _ _ => rfl)) pa_nil)))))) pss_nil)
      (pss_cons (ps_for PassesOwn.never rfl (pi_range1 rfl T.range (pa_cons (pe_ifExp (pt_cmpR op_gt (pv 3) pe_int (nomark _)) (C8.pe_c c_draw hr (by first | decide | omega) rfl (pa_cons (pv 0) (pa_cons (pe_ix (ix_K (K := K)) (pe_lst (pa_cons pe_int (pa_cons (pe_op op_add (pe_op op_mul (pv 3) (pv 3)) pe_int) (pa_cons (pe_op op_add (pv 3) pe_int) (pa_cons (pe_op op_add (pe_op op_mul pe_int (pv 3)) pe_int) (pa_cons (pe_op op_add (pv 3) pe_int) pa_nil)))))) (pv 2) (fun _ _ => rfl)) pa_nil))) pe_int) pa_nil)) (pg_name (i := 5) sc_d_pairs.nd rfl (by first | exact Or.inl rfl | exact Or.inr rfl)) (pss_cons (ps_par (i := 6) (j := 7) rfl sc_d_pairs.nd rfl rfl (by decide) rfl rfl (pa_cons (C8.pe_c c_pick hr (by first | decide | omega) rfl (pa_cons (pv 0) (pa_cons (pv 1) pa_nil))) (pa_cons (C8.pe_c c_pick hr (by first | decide | omega) rfl (pa_cons (pv 0) (pa_cons (pv 1) pa_nil))) pa_nil)) rfl)
      (pss_cons (ps_expr (pe_bmK (K := K) PySem.F.plainAttrs_list PySem.F.slot_list_append PySem.F.type_list_append mt_append (pv 4) (pa_cons (pe_tup (pa_cons (pv 6) (pa_cons (pv 7) pa_nil))) pa_nil)))
      (pss_one (ps_expr (pe_bmK (K := K) PySem.F.plainAttrs_list PySem.F.slot_list_extend PySem.F.type_list_extend mt_extend (pv 4) (pa_cons (pe_op op_rep (pe_lst (pa_cons (pe_tup (pa_cons (pv 7) (pa_cons (pv 6) pa_nil))) pa_nil)) (pe_callTy call_int1 rfl T.int boot_int (pa_cons (pe_cmpR op_eq (pv 2) pe_int (nomark _)) pa_nil))) pa_nil)))))))
      (pss_one (ps_ret (C8.pe_c c_mixed hr (by first | decide | omega) rfl (pa_cons (pv 0) (pa_cons (C8.pe_c c_each_once hr (by first | decide | omega) rfl (pa_cons (pv 4) pa_nil)) pa_nil)))))))), ?_⟩
  refine (?_ : HL ⟨st, c, Tb⟩ G n O [some (cst (.ref st)), some (Lst S ns), none, none, none, none, none, none] _ _) _ _ ⟨G, Same.refl G, slots_start (N := ["_law_stream", "_law_names", "_law_way", "_law_many", "_law_found", "_law_k", "_law_one", "_law_other"]) (vs := [.ref st, v]) (Ls := [cst (.ref st), Lst S ns]) (.cons rfl (.cons hv .nil)), w0⟩
  refine hl_asg3N (el_drw (z := 5) rfl el_int (by decide) (by decide)) (el_len (el_sqL (el_var rfl))) (eln_lst (e := PP K) [] eal_nil (Nat.zero_le _)) fun p0 => ?_
  dsimp only [List.set]
  refine hl_open 2 rfl fun way hway => ?_
  dsimp only [List.set]
  have hway : way < 5 := hway
  generalize hM : ns.length = M at *
  refine hl_ifJ (δ := Addr × List (Str × Str)) (k := 0) (cc := decide (way = 0) && decide (0 < M)) (fun z => z.2.length ≤ 12 ∧ ∀ p ∈ z.2, p.1 ∈ ns ∧ p.2 ∈ ns) (fun z => (z.1, OL (PP K) z.2) :: O) (fun z => [some (cst (.ref st)), some (Lst S ns), some (I way), some (I M), some (cst (.ref z.1)), none, none, none]) (n + 10) ?_ (fun hc E' hrt kn => ?_) (fun hc E' hrt kn => ?_) ?_
  · refine ETL.eq (etl_and (k := 0) (m := 0) (etl_test (el_eqI (el_var rfl) el_int)) fun _ => etl_test (el_gtI (el_var rfl) el_int)) ?_
    congr 1 <;> (apply decide_eq_decide.mpr; omega)
  · have hM0 : 0 < M := by
      rw [Bool.and_eq_true] at hc
      exact of_decide_eq_true hc.2
    refine hl_last ?_
    refine HL.drop ?_ (List.sublist_cons_self ..)
    refine hl_setN (k := 1) (eln_lcX (Px := fun xs : List Nat => ∃ d, d ≤ M ∧ xs = List.range d) (er := PP K) (fn := fun i => (ns.getD i "", ns.getD ((i + 1) % M) "")) (p := fun _ => true) (eix_range (el_o2 (k := 0) (m := 1) (R1 := I M) (R3 := Dw 2) (el_var rfl) (el_drw (z := 2) rfl el_int (by decide) (by decide)) fun x y σ G hx ⟨d, hd, hy⟩ => ?_) fun d hd => by omega) (fun _ _ _ _ => gl_name) (fun _ _ _ _ _ => etl_yes) fun xs hx i hi _ O' => ?_) fun p1 => ?_
    · have hd : d < 2 := hd
      exact ev_ex (a := M - d) (Ev.eq (ev_I0 (ev_cR' hx) (ev_cR' hy)) (by show cst _ = cst _; congr 2; omega)) (by omega)
    · obtain ⟨d, hd, rfl⟩ := hx
      have hi : i < M := by
        have := List.mem_range.mp hi
        omega
      have hi2 : (i + 1) % M < M := Nat.mod_lt _ hM0
      refine el_pr (x := ns.getD i "") (y := ns.getD ((i + 1) % M) "") (k := 0) (m := 0) (el_ixL (el_var (i := 1) rfl) (el_var rfl) (by omega) (?_ : ns[i]? = _)) (el_ixL (el_var (i := 1) rfl) (el_modI (el_intI (el_addI (el_var rfl) el_int)) (el_var rfl) (by omega)) ?_ (?_ : ns[(i + 1) % M]? = _))
      · rw [List.getD_eq_getElem?_getD, List.getElem?_eq_getElem (by omega)]; rfl
      · rw [show (0 + (i : Int) + 1) = ((i + 1 : Nat) : Int) by omega]
        exact fmod_nat _ _
      · rw [List.getD_eq_getElem?_getD, List.getElem?_eq_getElem (by omega)]; rfl
    · refine hl_openO fun xs hx => ?_
      obtain ⟨d, hd, rfl⟩ := hx
      dsimp only [List.set]
      refine hl_nx fun σ H a => kn (p1, _) σ H ⟨?_, fun q hq => ?_⟩ (a.le (by omega))
      · rw [List.length_map]
        refine Nat.le_trans (List.length_filter_le _ _) ?_
        rw [List.length_range]
        omega
      · obtain ⟨i, hi, rfl⟩ := List.mem_map.mp hq
        have hi : i < M := by
          have := List.mem_range.mp (List.mem_filter.mp hi).1
          omega
        have hi2 : (i + 1) % M < M := Nat.mod_lt _ hM0
        refine ⟨?_, ?_⟩
        · show ns.getD i "" ∈ ns
          rw [List.getD_eq_getElem?_getD, List.getElem?_eq_getElem (by omega)]
          exact List.getElem_mem _
        · show ns.getD ((i + 1) % M) "" ∈ ns
          rw [List.getD_eq_getElem?_getD, List.getElem?_eq_getElem (by omega)]
          exact List.getElem_mem _
  · exact hl_nx fun σ H a => kn (p0, []) σ H ⟨Nat.zero_le _, fun q hq => by cases hq⟩ (a.le (by omega))
  · rintro ⟨p, d0⟩ ⟨hd1, hd2⟩
    dsimp only at hd1 hd2 ⊢
    have hMl : M ≤ 12 := hl
    refine hl_forX (k := 1) (e := fun i : Nat => I (0 + (i : Nat))) (Px := fun xs : List Nat => ∃ d, (d ≤ 145 ∧ (M = 0 → d = 0)) ∧ xs = List.range d) (δ := List (Str × Str)) (fun xs i d => d.length ≤ 12 + 2 * i ∧ ∀ q ∈ d, q.1 ∈ ns ∧ q.2 ∈ ns) (fun d => (p, OL (PP K) d) :: O) (fun _ => [some (cst (.ref st)), some (Lst S ns), some (I way), some (I M), some (cst (.ref p)), none, none, none]) 2 145 (eix_range (Pd := fun d => d ≤ 145 ∧ (M = 0 → d = 0)) ?_ fun d hd => by omega) d0 (fun xs ⟨d, hd, hx⟩ => ⟨by rw [hx, List.length_range]; exact hd.1, by omega, hd2⟩) rfl (fun G => (.eq (.eq (.eq (.eq (.eq (.no (.no (.no .nil))))))))) ?_ ?_
    · refine EG.le (el_if (k := 0) (m := 1) (c := decide (0 < M)) (ETL.eq (etl_test (el_gtI (el_var rfl) el_int)) (by apply decide_eq_decide.mpr; omega)) (fun hc => ?_) (fun hc => ?_)) (by omega)
      · have hc := of_decide_eq_true hc
        obtain ⟨z, hz1, hz2, hz3⟩ := ways_z hMl hway
        have hcm : CMul (M : Int) (M : Int) := .inl ⟨by omega, by omega⟩
        have hcm2 : CMul (2 : Int) (M : Int) := .inl ⟨by omega, by omega⟩
        refine (el_drw (z := z) rfl (el_ixL (e := fun z : Nat => I (z : Nat)) (xs := [2, M * M + 1, M + 2, 2 * M + 1, M + 1]) (ELN.el (eln_lst _ ?_ (by simp))) (el_var rfl) rfl hz1) hz2 (by omega)).is fun v G ⟨d, hd, hv⟩ => ⟨d, ⟨by have hd : d < z := hd; omega, fun e => by omega⟩, hv⟩
        refine eal_cons el_int (eal_cons (EL.eq (el_addI (el_mulI (el_var rfl) (el_var rfl) hcm) el_int) ?_) (eal_cons (EL.eq (el_addI (el_var rfl) el_int) ?_) (eal_cons (EL.eq (el_addI (el_mulI el_int (el_var rfl) hcm2) el_int) ?_) (eal_cons (EL.eq (el_addI (el_var rfl) el_int) ?_) eal_nil)))) <;> (congr 1)
      · exact EG.le (el_ex (a := 0) el_int ⟨by omega, fun _ => rfl⟩) (by omega)
    · rintro xs ⟨dd, ⟨hdd, hM0⟩, rfl⟩ i kx d E' G1 hx ⟨h1, h2⟩ hrt s1 kn hn1
      have hix : i < dd := by
        have := (List.getElem?_eq_some_iff.mp hx).1
        rwa [List.length_range] at this
      have hne : ns ≠ [] := fun e => by
        rw [e] at hM
        have := hM0 hM.symm
        omega
      refine ⟨_, _, gl_name, ?_⟩
      dsimp only [List.set]
      have hsub : ∀ {a b : Str} (r : Int) (q : Str × Str), q ∈ (if r = 0 then [] else [(a, b)]) → q = (a, b) := fun r q hq => by
        by_cases e : r = 0
        · rw [if_pos e] at hq; cases hq
        · rw [if_neg e] at hq; exact List.mem_singleton.mp hq
      have hsl : ∀ {a b : Str} (r : Int), (if r = 0 then [] else [(a, b)] : List (Str × Str)).length ≤ 1 := fun r => by
        by_cases e : r = 0
        · rw [if_pos e]; exact Nat.zero_le _
        · rw [if_neg e]; exact Nat.le_refl _
      refine hl_par (el_pck rfl (el_sqL (el_var (i := 1) rfl)) hne (by omega)) (el_pck rfl (el_sqL (el_var (i := 1) rfl)) hne (by omega)) ?_
      dsimp only [List.set]
      refine hl_open 6 rfl fun a1 ha1 => ?_
      refine hl_open 7 rfl fun a2 ha2 => ?_
      dsimp only [List.set]
      refine hl_push (k := 0) (a := (a1, a2)) rfl (el_pr (el_var rfl) (el_var rfl)) (by omega) ?_
      refine hl_last ?_
      refine hl_ext (k := 0) rfl (eln_repL (k := 0) (m := 0) (xs := [(a2, a1)]) (ELN.el (eln_lst (e := PP K) [(a2, a1)] (eal_cons (el_pr (x := a2) (y := a1) (el_var rfl) (el_var rfl)) eal_nil) (by simp))) (el_intB (el_eqI (el_var (i := 2) rfl) el_int)) ?_ (by simp)) ?_ ?_
      · split
        · exact .inr rfl
        · exact .inl rfl
      · rw [List.length_append, List.length_singleton]
        exact Nat.le_trans (Nat.add_le_add_left (hsl _) _) (by omega)
      · refine hl_nx fun σ H a => kn _ σ H ⟨?_, fun q hq => ?_⟩ ((a.weak fun G => (.eq (.eq (.eq (.eq (.eq (.no (.no (.no .nil))))))))).le (by omega))
        · rw [List.length_append, List.length_append, List.length_singleton]
          exact Nat.le_trans (Nat.add_le_add_left (hsl _) _) (by omega)
        · rcases List.mem_append.mp hq with hq | hq
          · rcases List.mem_append.mp hq with hq | hq
            · exact h2 q hq
            · rw [List.mem_singleton.mp hq]
              exact ⟨ha1, ha2⟩
          · have := hsub _ _ hq
            rw [this]
            exact ⟨ha2, ha1⟩
    · rintro xs ⟨dd, ⟨hdd, hM0⟩, rfl⟩ d ⟨h1, h2⟩
      rw [List.length_range] at h1
      obtain ⟨o1, o2, o3⟩ := onceP_spec d [] List.nodup_nil
      rw [List.length_nil, Nat.zero_add] at o3
      have o4 : (onceP d).length ≤ M * M := pairs_len o1 fun q hq => by
        have := h2 q (((o2 q).mp hq).resolve_left fun z => by cases z)
        exact ⟨this.1, this.2, hM⟩
      have o5 : M * M ≤ 12 * 12 := Nat.mul_le_mul hMl hMl
      have o3 : (onceP d).length ≤ 144 := by omega
      refine hl_frzL (i := 4) rfl ?_
      dsimp only [List.set]
      refine hl_ret (k := 300) (R := ExR (okPs ns) (Lst (PP K))) (EG.le ((el_mix rfl (el_sqL (el_onceP (el_sqL (el_var rfl)) (by omega))) (by omega)).is fun v G ⟨ys, hy, hv⟩ => ⟨ys, ⟨?_, ?_, ?_⟩, hv⟩) (by omega)) fun v G2 H2 s2 w2 p => k v G2 H2 s2 (w2.le (by show _ ≤ n + 700; omega)) p
      · exact hy.nodup_iff.mpr o1
      · exact fun q hq => h2 q (by have := (o2 q).mp (hy.mem_iff.mp hq); exact this.resolve_left fun z => by cases z)
      · rw [hy.length_eq]; omega
end
end Gd
-- part Gd56
set_option Elab.async false
set_option linter.all false
set_option maxRecDepth 100000
set_option maxHeartbeats 1000000
namespace Gd
open PySem PySem.Spec PyProof.Rows L2
universe u
section
variable {K : PySem.W.Frag} {W : SC} {O O' : Own} {n k m l c : Nat} {G0 G G2 H H2 : Hp} {Rs Rs' : RL} {R R1 R2 : SR} {te ta tb tc tk ty tx to : TE} {tr : TA} {t u : TS} {E : Ends} {α β A B' : Type} {e : α → SR} {f : β → SR} {xs : List α} {D p : Addr} {i j z : Nat} {P : A → Prop} {P' : B' → Prop}
theorem hl_pushX {fa : A → α} (hi : Rs[i]? = some (some (cst (.ref p)))) (h : EL W ((p, OL e xs) :: O) k te Rs (ExR P fun a => e (fa a))) (hl : xs.length ≤ 100000) (q : ∀ a, P a → HL W G0 (n + k) ((p, OL e (xs ++ [fa a])) :: O) Rs u E) (hn : n + k ≤ 1000000 := by omega) : HL W G0 n ((p, OL e xs) :: O) Rs (tSeq (tDrop (tBM K "list" rAppend (tVar i) (tCons te tNil))) u) E := fun σ H ⟨G, s, sl, w⟩ => by
  obtain ⟨v, h1, h2⟩ := sl.get i _ hi
  obtain rfl : v = .ref p := h2
  obtain ⟨_, _, _, o, w4, _, vs, rfl, _⟩ := w.o _ (List.mem_cons_self ..)
  refine ⟨_, h1, .inl ⟨rfl, vs, SqL.of w4⟩, ?_⟩
  show te σ H _
  refine h σ G H n _ sl w hn fun v G2 H2 s2 w2 ⟨a, pa, pv⟩ => ?_
  obtain ⟨_, _, _, o, z4, _, ws, rfl, _, al⟩ := w2.o _ (List.mem_cons_self ..)
  have := al.len
  have : sizeLine = 16777216 := sizeLine_eq
  exact ⟨p, ws, v, rfl, rfl, z4, by omega, q a pa _ _ ⟨G2, s.trans s2, sl.st s2, w2.put (fun u ⟨_, e, _⟩ => by rw [e]; rfl) rfl ⟨_, rfl, by rw [List.length_append, List.length_singleton]; omega, al.snoc pv⟩⟩⟩
theorem el_prX2 {x : α} {fb : B' → β} (h1 : EL W O k ta Rs (e x)) (h2 : EL W O m tb Rs (ExR P' fun b => f (fb b))) : EL W O (k + m) (tTup (tCons ta (tCons tb tNil))) Rs (ExR P' fun b => Pr K e f (x, fb b)) := el_f2 (fun a b => tTup (tCons a (tCons b tNil))) h1 h2 fun x y σ G hx ⟨b, pb, hy⟩ => ev_ex (f := fun b => Pr K e f (_, fb b)) (ev_pr (ev_cR' hx) (ev_cR' hy)) pb
theorem el_prXX {fa : A → α} {fb : B' → β} (h1 : EL W O k ta Rs (ExR P fun a => e (fa a))) (h2 : EL W O m tb Rs (ExR P' fun b => f (fb b))) : EL W O (k + m) (tTup (tCons ta (tCons tb tNil))) Rs (ExR (fun q : A × B' => P q.1 ∧ P' q.2) fun q => Pr K e f (fa q.1, fb q.2)) := el_f2 (fun a b => tTup (tCons a (tCons b tNil))) h1 h2 fun x y σ G ⟨a, pa, hx⟩ ⟨b, pb, hy⟩ => ev_ex (f := fun q : A × B' => Pr K e f (fa q.1, fb q.2)) (a := (a, b)) (ev_pr (ev_cR' hx) (ev_cR' hy)) ⟨pa, pb⟩
theorem el_ixX {fa : A → Nat} (ha : EL W O k ta Rs (Lst e xs)) (hb : EL W O m tb Rs (ExR P fun a => I (fa a : Nat))) (hx : ∀ a, P a → fa a < xs.length) : EL W O (k + m) (tOp (rIx K) ta tb) Rs (ExR (· ∈ xs) e) := el_o2 ha hb fun x y σ G px ⟨a, pa, py⟩ => ev_ex (ev_ixL (ev_cR' px) (ev_cR' py) rfl (List.getElem?_eq_getElem (hx a pa))) (List.getElem_mem (hx a pa))
theorem eil_range2 {a b : Int} (ha : EL W O k ta Rs (I a)) (hb : EL W O m tb Rs (I b)) (h0 : 0 ≤ a) (h1 : a ≤ 100000) (h2 : 0 ≤ b) (h3 : b ≤ 100000) : EIL W O (k + m) (iRng2 (tCons ta (tCons tb tNil))) Rs (fun i : Nat => I (a + (i : Nat))) (List.range (b - a).toNat) := fun σ G H n Q sl w hn kk =>
  ha σ G H n _ sl w (by omega) fun x G1 H1 s1 w1 px => hb σ G1 H1 (n + k) _ (sl.st s1) w1 (by omega) fun y G2 H2 s2 w2 py => by
    obtain rfl : x = .int a := px
    obtain rfl : y = .int b := py
    exact ⟨a, b, rfl, ⟨by omega, by omega, by omega, by omega⟩, kk _ G2 H2 (s1.trans s2) (w2.eq (by omega)) (walkR_range (by have : sizeLine = 16777216 := sizeLine_eq; omega))⟩
end
end Gd
-- part E3
set_option Elab.async false
set_option linter.all false
set_option maxRecDepth 100000
set_option maxHeartbeats 1000000
namespace Gd
open PySem PySem.Spec PyProof.Rows L2
universe u
abbrev s_rk_made : Stmt := topS 41
theorem sc_rk_made : FnScope ["_law_stream", "_law_given"] ["_law_stream", "_law_given"] (defScope s_rk_made) := ⟨rfl, rfl, rfl, by decide +kernel, rfl, by decide +kernel, by decide +kernel⟩
abbrev s_rk_debate : Stmt := topS 42
theorem sc_rk_debate : FnScope ["_law_stream", "_law_most", "_law_way", "_law_names", "_law_pairs", "_law_at", "_law_k"] ["_law_stream", "_law_most"] (defScope s_rk_debate) := ⟨rfl, rfl, rfl, by decide +kernel, rfl, by decide +kernel, by decide +kernel⟩
abbrev DR (K : PySem.W.Frag) : Deb → SR := Pr K (Lst S) (Lst (PP K))
theorem pq_of {K : PySem.W.Frag} {ps : List (Str × Str)} {v : V} {G : Hp} (h : (Lst (PP K) ps).p v G) : (Sq K (Pq K) ps).p v G := by
  obtain ⟨a, vs, h1, h2, h3, h4⟩ := h
  refine .inl ⟨a, vs, h1, h2, h3, ?_⟩
  have := Al.conv (e := PP K) (f := Pq K) (c := fun p => p) (fun p v ⟨a, v1, v2, e1, e2, e3, e4⟩ => .inr ⟨a, [v1, v2], e1, e2, (by show 2 ≤ sizeLine; decide), .cons e3 (.cons e4 .nil)⟩) h4
  rwa [List.map_id'] at this
section
variable {P : Program} {w : World} {K : PySem.W.Frag} {mg : Str → Option Value} {base : Heap} {aL : Addr} {Tb : List (Addr × Str)}
theorem el_loose {W : SC} {O : Own} {k m jj : Nat} {Rs : RL} {R : SR} {te : TE} {E : XK} {j : Nat} (hs : Rs[j]? = some (some (cst (.ref W.s)))) (h : EL W O k te Rs R) (hl : Lo K jj R m) : EL W O (k + 0 + m) (tCall (sp_loose K jj) [] E (tCons (tVar j) (tCons te tNil))) Rs R := el_calld (ι := SR × Nat) (pre := fun i => [i.1]) (ok := fun i => Lo K jj i.1 i.2) (cost := fun i => i.2) (post := fun i => i.1) (R, m) hs (eal_cons h eal_nil) hl
def sp_rk_made (K : PySem.W.Frag) (C : Addr) (Tb : List (Addr × Str)) : Sp := spL Tb (fun i : Deb => [DR K i]) okD (fun i => i.2.length + 2) (fun i => DB K C (mkD i))
theorem ok_rk_made {C : Addr} (F : Fn K mg "_law_rk_made" s_rk_made ["_law_stream", "_law_given"]) (T : Txt K mg aL) (c_loose : C8.Cal P w K mg base 4 "_law_loose" (sp_loose K 2) []) (m_Debate : C8.Mak P w K mg base 5 "Debate" C (sp_initD K C Tb) []) : C8.Cal P w K mg base 7 "_law_rk_made" (sp_rk_made K C Tb) [] := by
  refine cal_of F sc_rk_made (fun vs H Q E h => spL_len h fun _ => rfl) (fun f cdv A outer s H vs Q E hr h => ?_)
  obtain ⟨⟨ns, ps⟩, st, c, n, O, G, rest, rfl, w0, hn, hok, al, k⟩ := h
  obtain ⟨v, rfl, hv⟩ := alr1 al
  have hn : n + (ps.length + 2) ≤ 1000000 := hn
  refine ⟨_, (pss_one (ps_ret (C8.pe_mk m_Debate hr (by first | decide | omega) rfl (pa_cons (C8.pe_c c_loose hr (by first | decide | omega) rfl (pa_cons (pv 0) (pa_cons (pe_ix (ix_K (K := K)) (pv 1) pe_int (fun _ _ => rfl)) pa_nil))) (pa_cons (C8.pe_c c_loose hr (by first | decide | omega) rfl (pa_cons (pv 0) (pa_cons (pe_ix (ix_K (K := K)) (pv 1) pe_int (fun _ _ => rfl)) pa_nil))) pa_nil))))), ?_⟩
  refine (?_ : HL ⟨st, c, Tb⟩ G n O [some (cst (.ref st)), some (DR K (ns, ps))] _ _) _ _ ⟨G, Same.refl G, slots_start (N := ["_law_stream", "_law_given"]) (vs := [.ref st, v]) (Ls := [cst (.ref st), DR K (ns, ps)]) (.cons rfl (.cons hv .nil)), w0⟩
  refine hl_ret (k := ps.length + 2) (EG.le (el_mkD (W := ⟨st, c, Tb⟩) (i := (ns, ps)) (eal_cons (el_loose (m := ns.length * 0 + 1) rfl (el_sqL (el_ixP1 (el_var rfl))) (.q fun x _ => .s x)) (eal_cons (el_loose (m := ps.length * 1 + 1) rfl ((el_ixP2 (el_var rfl)).is fun _ _ h => pq_of h) (.q fun p _ => .q (m := 0) fun x _ => .s x)) eal_nil)) hok) (by omega)) fun v G2 H2 s2 w2 p => k v G2 H2 s2 (w2.le (by show _ ≤ n + (ps.length + 2); omega)) p
def okR (z : Nat) (i : Deb) : Prop := ((∀ x ∈ i.1, isName x = true) ∧ i.1.Nodup) ∧ i.1.length ≤ z ∧ okPs i.1 i.2
theorem okR_D {z : Nat} {i : Deb} (h : okR z i) (hz : z ≤ 1000) : okD i := ⟨⟨h.1.1, h.1.2, Nat.le_trans h.2.1 hz⟩, h.2.2.1, h.2.2.2.1, Nat.le_trans h.2.2.2.2 (by decide)⟩
theorem goodN_names {ns : List Str} (h : goodN ns) : ∀ x ∈ ns, isName x = true := fun x hx => names_ok x (h.2 x hx)
theorem el_dnamesX {W : SC} {O : Own} {k z : Nat} {Rs : RL} {te : TE} {E : XK} {j : Nat} {Pd : Nat → Prop} {fd : Nat → Nat} (hs : Rs[j]? = some (some (cst (.ref W.s)))) (h : EL W O k te Rs (ExR Pd fun d => I (fd d : Nat))) (hd : ∀ d, Pd d → fd d ≤ 10) (hP : ∀ d, Pd d → 0 < fd d) (hz : ∀ d, Pd d → fd d ≤ z) : EL W O (k + 10) (tCall sp_d_names [] E (tCons (tVar j) (tCons te tNil))) Rs (ExR (fun ys => goodN ys ∧ 0 < ys.length ∧ ys.length ≤ z) (Lst S)) :=
  el_calldX (P := Pd) (ι := Nat) (pre := fun m => [I m]) (ok := fun m => m ≤ 10) (cost := fun _ => 10) (post := fun m => ExR (fun ys => goodN ys ∧ ys.length = m) (Lst S)) fd hs (eal_X1 h) hd (fun _ _ => Nat.le_refl _) fun a pa v G ⟨ys, ⟨h1, h2⟩, h3⟩ => ⟨ys, ⟨h1, by rw [h2]; exact hP a pa, by rw [h2]; exact hz a pa⟩, h3⟩
theorem el_addX {W : SC} {O : Own} {k m : Nat} {Rs : RL} {ta tb : TE} {x : Nat} {Pd : Nat → Prop} (ha : EL W O k ta Rs (I (x : Nat))) (hb : EL W O m tb Rs (ExR Pd fun d => I (d : Nat))) : EL W O (k + m) (tOp (rI0 fun i j => .int (i + j)) ta tb) Rs (ExR Pd fun d => I ((x + d : Nat) : Nat)) := el_o2 ha hb fun u v σ G pu ⟨d, hd, pv⟩ => ev_ex (f := fun d => I ((x + d : Nat) : Nat)) (Ev.eq (ev_I0 (ev_cR' pu) (ev_cR' pv)) (by show cst _ = cst _; rw [Int.natCast_add])) hd
theorem el_dpairs {W : SC} {O : Own} {k : Nat} {Rs : RL} {te : TE} {E : XK} {j : Nat} {ns : List Str} (hs : Rs[j]? = some (some (cst (.ref W.s)))) (h : EL W O k te Rs (Lst S ns)) (hl : ns.length ≤ 12) : EL W O (k + 0 + 700) (tCall (sp_d_pairs K W.tb) [] E (tCons (tVar j) (tCons te tNil))) Rs (ExR (okPs ns) (Lst (PP K))) := el_calll (ι := List Str) (pre := fun ns => [Lst S ns]) (ok := fun ns => ns.length ≤ 12) (cost := fun _ => 700) (post := fun ns => ExR (okPs ns) (Lst (PP K))) ns hs (eal_cons h eal_nil) hl
def sp_rk_debate (K : PySem.W.Frag) (Tb : List (Addr × Str)) : Sp := spL Tb (fun m : Nat => [I m]) (fun m => 0 < m ∧ m ≤ 9) (fun _ => 1100) (fun m => ExR (fun i => okR m i ∧ 0 < i.1.length ∧ goodN i.1) (DR K))
theorem ok_rk_debate (F : Fn K mg "_law_rk_debate" s_rk_debate ["_law_stream", "_law_most"]) (T : Txt K mg aL) (c_draw : C8.Cal P w K mg base 1 "_law_draw" sp_draw []) (c_pick : C8.Cal P w K mg base 2 "_law_pick" (sp_pick K) []) (c_mixed : C8.Cal P w K mg base 2 "_law_mixed" (sp_mixed K) []) (c_each_once : C8.Cal P w K mg base 1 "_law_each_once" (sp_each_onceP K) []) (c_d_names : C8.Cal P w K mg base 3 "_law_d_names" sp_d_names []) (c_d_pairs : C8.Cal P w K mg base 3 "_law_d_pairs" (sp_d_pairs K Tb) []) : C8.Cal P w K mg base 4 "_law_rk_debate" (sp_rk_debate K Tb) [] := by
  refine cal_of F sc_rk_debate (fun vs H Q E h => spL_len h fun _ => rfl) (fun f cdv A outer s H vs Q E hr h => ?_)
  obtain ⟨mm, st, c, n, O, G, rest, rfl, w0, hn, ⟨hm0, hm9⟩, al, k⟩ := h
  obtain ⟨v, rfl, hv⟩ := alr1 al
  have hn : n + 1100 ≤ 1000000 := hn
  have hm0 : 0 < mm := hm0
  have hm9 : mm ≤ 9 := hm9
  refine ⟨_, (pss_cons (ps_par (i := 2) (j := 3) rfl sc_rk_debate.nd rfl rfl (by decide) rfl rfl (pa_cons (C8.pe_c c_draw hr (by first | decide | omega) rfl (pa_cons (pv 0) (pa_cons pe_int pa_nil))) (pa_cons (C8.pe_c c_d_names hr (by first | decide | omega) rfl (pa_cons (pv 0) (pa_cons (pe_op op_add pe_int (C8.pe_c c_draw hr (by first | decide | omega) rfl (pa_cons (pv 0) (pa_cons (pv 1) pa_nil)))) pa_nil))) pa_nil)) rfl)
      (pss_cons (ps_if (pt_cmpR op_lt (pv 2) pe_int (nomark _)) (pss_one (ps_ret (pe_tup (pa_cons (pv 3) (pa_cons (C8.pe_c c_d_pairs hr (by first | decide | omega) rfl (pa_cons (pv 0) (pa_cons (pv 3) pa_nil))) pa_nil))))) pss_nil)
      (pss_cons (ps_set (i := 4) sc_rk_debate.nd rfl (by first | exact Or.inl rfl | exact Or.inr rfl) (pe_lst pa_nil))
      (pss_cons (ps_for PassesOwn.never rfl (pi_range2 rfl T.range (pa_cons pe_int (pa_cons (pe_callB (call_lenK (K := K)) rfl T.len PySem.boot_len (pa_cons (pv 3) pa_nil)) pa_nil))) (pg_name (i := 5) sc_rk_debate.nd rfl (by first | exact Or.inl rfl | exact Or.inr rfl)) (pss_one (ps_expr (pe_bmK (K := K) PySem.F.plainAttrs_list PySem.F.slot_list_append PySem.F.type_list_append mt_append (pv 4) (pa_cons (pe_tup (pa_cons (pe_ix (ix_K (K := K)) (pv 3) (pv 5) (fun _ _ => rfl)) (pa_cons (pe_ix (ix_K (K := K)) (pv 3) (pe_ifExp (pt_cmpR op_eq (pv 2) pe_int (nomark _)) (pe_op op_sub (pv 5) pe_int) (C8.pe_c c_draw hr (by first | decide | omega) rfl (pa_cons (pv 0) (pa_cons (pv 5) pa_nil)))) (fun _ _ => rfl)) pa_nil))) pa_nil)))))
      (pss_cons (ps_for PassesOwn.never rfl (pi_range1 rfl T.range (pa_cons (C8.pe_c c_draw hr (by first | decide | omega) rfl (pa_cons (pv 0) (pa_cons pe_int pa_nil))) pa_nil)) (pg_name (i := 6) sc_rk_debate.nd rfl (by first | exact Or.inl rfl | exact Or.inr rfl)) (pss_one (ps_expr (pe_bmK (K := K) PySem.F.plainAttrs_list PySem.F.slot_list_append PySem.F.type_list_append mt_append (pv 4) (pa_cons (pe_tup (pa_cons (C8.pe_c c_pick hr (by first | decide | omega) rfl (pa_cons (pv 0) (pa_cons (pv 3) pa_nil))) (pa_cons (C8.pe_c c_pick hr (by first | decide | omega) rfl (pa_cons (pv 0) (pa_cons (pv 3) pa_nil))) pa_nil))) pa_nil)))))
      (pss_one (ps_ret (pe_tup (pa_cons (pv 3) (pa_cons (C8.pe_c c_mixed hr (by first | decide | omega) rfl (pa_cons (pv 0) (pa_cons (C8.pe_c c_each_once hr (by first | decide | omega) rfl (pa_cons (pv 4) pa_nil)) pa_nil))) pa_nil)))))))))), ?_⟩
  refine (?_ : HL ⟨st, c, Tb⟩ G n O [some (cst (.ref st)), some (I mm), none, none, none, none, none] _ _) _ _ ⟨G, Same.refl G, slots_start (N := ["_law_stream", "_law_most", "_law_way", "_law_names", "_law_pairs", "_law_at", "_law_k"]) (vs := [.ref st, v]) (Ls := [cst (.ref st), I mm]) (.cons rfl (.cons hv .nil)), w0⟩
  refine hl_par (el_drw (z := 4) rfl el_int (by decide) (by decide)) (el_dnamesX (z := mm) rfl (el_addX (x := 1) el_int (el_drw (z := mm) rfl (el_var (i := 1) rfl) hm0 (by omega))) (fun d hd => ?_) (fun d hd => ?_) (fun d hd => ?_)) ?_
  · have hd : d < mm := hd
    omega
  · omega
  · have hd : d < mm := hd
    omega
  dsimp only [List.set]
  refine hl_open 2 rfl fun way hway => ?_
  refine hl_open 3 rfl fun ns ⟨hns, hn0, hnl⟩ => ?_
  dsimp only [List.set]
  refine hl_if (k := 0) (c := decide (way < 2)) (ETL.eq (etl_test (el_ltI (el_var rfl) el_int)) (by apply decide_eq_decide.mpr; omega)) (fun _ => ?_) (fun _ => ?_)
  · refine hl_last ?_
    refine hl_retD (k := 700) (R := ExR (fun i => okR mm i ∧ 0 < i.1.length ∧ goodN i.1) (DR K)) ?_ fun v G2 H2 s2 w2 p => k v G2 H2 s2 (w2.le (by show _ ≤ n + 1100; omega)) p
    refine (el_prX2 (k := 0) (el_var (i := 3) rfl) (el_dpairs rfl (el_var (i := 3) rfl) (by omega))).is fun v G ⟨ps, hps, hv⟩ => ⟨(ns, ps), ⟨⟨⟨goodN_names hns, hns.1⟩, hnl, hps⟩, hn0, hns⟩, hv⟩
  · refine hl_setN (k := 0) (eln_lst (e := PP K) [] eal_nil (Nat.zero_le _)) fun p => ?_
    dsimp only [List.set]
    refine hl_for (k := 0) (e := fun i : Nat => I (1 + (i : Nat))) (xs := List.range ((ns.length : Int) - 1).toNat) (δ := List (Str × Str)) (fun i d => d.length = i ∧ ∀ q ∈ d, q.1 ∈ ns ∧ q.2 ∈ ns) (fun d => (p, OL (PP K) d) :: O) (fun _ => [some (cst (.ref st)), some (I mm), some (I way), some (Lst S ns), some (cst (.ref p)), none, none]) 1 (eil_range2 (k := 0) (m := 0) el_int (el_len (el_sqL (el_var rfl))) (by omega) (by omega) (by omega) (by omega)) [] ⟨rfl, fun q hq => by cases hq⟩ rfl (fun G => (.eq (.eq (.eq (.eq (.eq (.no (.no .nil)))))))) ?_ ?_ (by rw [List.length_range]; omega)
    · rintro i kx d E' G1 hx ⟨h1, h2⟩ hrt s1 kn hn1
      have hil : i < ((ns.length : Int) - 1).toNat := by
        have := (List.getElem?_eq_some_iff.mp hx).1
        rwa [List.length_range] at this
      obtain rfl : kx = i := by
        have := (List.getElem?_eq_some_iff.mp hx).2
        rw [List.getElem_range] at this
        exact this.symm
      refine ⟨_, _, gl_name, ?_⟩
      dsimp only [List.set]
      refine hl_last ?_
      have hi1 : 1 + kx < ns.length := by omega
      refine hl_pushX (k := 1) (P := (· ∈ ns)) (fa := fun b => (ns[1 + kx], b)) rfl (el_prX2 (k := 0) (m := 1) (fb := fun b => b) (el_ixL (k := 0) (m := 0) (el_var (i := 3) rfl) (el_var rfl) (by omega) (List.getElem?_eq_getElem hi1)) (el_ixX (k := 0) (m := 1) (P := fun j => j < 1 + kx) (fa := fun j => j) (el_var (i := 3) rfl) (EG.le (el_if (k := 0) (m := 1) (c := decide (way = 2)) (ETL.eq (etl_test (el_eqI (el_var rfl) el_int)) (by apply decide_eq_decide.mpr; omega)) (fun _ => ?_) fun _ => ?_) (by omega)) fun a ha => by omega)) (by omega) fun b hb => ?_
      · exact EG.le (el_ex (P := fun j => j < 1 + kx) (a := kx) (EL.eq (el_subI (k := 0) (m := 0) (el_var rfl) el_int) (by show I _ = I _; congr 1; omega)) (by omega)) (by omega)
      · exact el_drw (z := 1 + kx) rfl (EL.eq (el_var rfl) (by show I _ = I _; congr 1)) (by omega) (by omega)
      · refine hl_nx fun σ H a => kn _ σ H ⟨by rw [List.length_append, List.length_singleton, h1], fun q hq => ?_⟩ ((a.weak fun G => (.eq (.eq (.eq (.eq (.eq (.no (.no .nil)))))))).le (by omega))
        rcases List.mem_append.mp hq with hq | hq
        · exact h2 q hq
        · rw [List.mem_singleton.mp hq]
          exact ⟨List.getElem_mem _, hb⟩
    · rintro d ⟨h1, h2⟩
      rw [List.length_range] at h1 ⊢
      have hd9 : d.length ≤ 9 := by omega
      refine hl_forX (k := 1) (e := fun i : Nat => I (0 + (i : Nat))) (Px := fun xs : List Nat => ∃ d, d < 3 ∧ xs = List.range d) (δ := List (Str × Str)) (fun xs i d => d.length ≤ 9 + i ∧ ∀ q ∈ d, q.1 ∈ ns ∧ q.2 ∈ ns) (fun d => (p, OL (PP K) d) :: O) (fun _ => [some (cst (.ref st)), some (I mm), some (I way), some (Lst S ns), some (cst (.ref p)), none, none]) 2 3 (eix_range (el_drw (z := 3) rfl el_int (by decide) (by decide)) fun d hd => by have hd : d < 3 := hd; omega) d (fun xs ⟨d, hd, hx⟩ => ⟨by rw [hx, List.length_range]; omega, by omega, h2⟩) rfl (fun G => (.eq (.eq (.eq (.eq (.eq (.no (.no .nil)))))))) ?_ ?_
      · rintro xs ⟨dd, hdd, rfl⟩ i kx d E' G1 hx ⟨h1, h2⟩ hrt s1 kn hn1
        have hix : i < dd := by
          have := (List.getElem?_eq_some_iff.mp hx).1
          rwa [List.length_range] at this
        have hne : ns ≠ [] := List.length_pos_iff.mp hn0
        refine ⟨_, _, gl_name, ?_⟩
        dsimp only [List.set]
        refine hl_last ?_
        refine hl_pushX (k := 2) (fa := fun q : Str × Str => (q.1, q.2)) rfl (el_prXX (k := 1) (m := 1) (fa := fun a => a) (fb := fun a => a) (el_pck rfl (el_sqL (el_var (i := 3) rfl)) hne (by omega)) (el_pck rfl (el_sqL (el_var (i := 3) rfl)) hne (by omega))) (by omega) fun b hb => ?_
        refine hl_nx fun σ H a => kn _ σ H ⟨by rw [List.length_append, List.length_singleton]; omega, fun q hq => ?_⟩ ((a.weak fun G => (.eq (.eq (.eq (.eq (.eq (.no (.no .nil)))))))).le (by omega))
        rcases List.mem_append.mp hq with hq | hq
        · exact h2 q hq
        · rw [List.mem_singleton.mp hq]
          exact hb
      · rintro xs ⟨dd, hdd, rfl⟩ d ⟨h1, h2⟩
        rw [List.length_range] at h1
        obtain ⟨o1, o2, o3⟩ := onceP_spec d [] List.nodup_nil
        rw [List.length_nil, Nat.zero_add] at o3
        have o3 : (onceP d).length ≤ d.length := o3
        refine hl_frzL (i := 4) rfl ?_
        dsimp only [List.set]
        refine hl_ret (k := 300) (R := ExR (fun i => okR mm i ∧ 0 < i.1.length ∧ goodN i.1) (DR K)) (EG.le ((el_prX2 (k := 0) (el_var (i := 3) rfl) (el_mix rfl (el_sqL (el_onceP (el_sqL (el_var rfl)) (by omega))) (by omega))).is fun v G ⟨ys, hy, hv⟩ => ⟨(ns, ys), ⟨⟨⟨goodN_names hns, hns.1⟩, hnl, ?_, ?_, ?_⟩, hn0, hns⟩, hv⟩) (by omega)) fun v G2 H2 s2 w2 p => k v G2 H2 s2 (w2.le (by show _ ≤ n + 1100; omega)) p
        · exact hy.nodup_iff.mpr o1
        · exact fun q hq => h2 q (by have := (o2 q).mp (hy.mem_iff.mp hq); exact this.resolve_left fun z => by cases z)
        · show ys.length ≤ 300
          rw [hy.length_eq]; omega
end
end Gd
-- part E4
set_option Elab.async false
set_option linter.all false
set_option maxRecDepth 100000
set_option maxHeartbeats 1000000
namespace Gd
open PySem PySem.Spec PyProof.Rows L2
universe u
abbrev s_d_objectors : Stmt := topS 58
theorem sc_d_objectors : FnScope ["_law_pairs", "_law_name", "_law_one", "_law_other"] ["_law_pairs", "_law_name"] (defScope s_d_objectors) := ⟨rfl, rfl, rfl, by decide +kernel, rfl, by decide +kernel, by decide +kernel⟩
abbrev s_d_hits : Stmt := topS 59
theorem sc_d_hits : FnScope ["_law_pairs", "_law_lot", "_law_name", "_law_one"] ["_law_pairs", "_law_lot", "_law_name"] (defScope s_d_hits) := ⟨rfl, rfl, rfl, by decide +kernel, rfl, by decide +kernel, by decide +kernel⟩
abbrev s_d_answers : Stmt := topS 60
theorem sc_d_answers : FnScope ["_law_pairs", "_law_lot", "_law_name", "_law_one"] ["_law_pairs", "_law_lot", "_law_name"] (defScope s_d_answers) := ⟨rfl, rfl, rfl, by decide +kernel, rfl, by decide +kernel, by decide +kernel⟩
def lobj (ps : List (Str × Str)) (s : Str) : List Str := srt PyData.str (tosP ps s)
def lhits (ps : List (Str × Str)) (lot : List Str) (s : Str) : Bool := (lobj ps s).any fun x => decide (x ∈ lot)
def lans (ps : List (Str × Str)) (lot : List Str) (s : Str) : Bool := (lobj ps s).all fun x => lhits ps lot x
section
variable {P : Program} {w : World} {K : PySem.W.Frag} {mg : Str → Option Value} {base : Heap} {aL : Addr} {Tb : List (Addr × Str)}
def sp_d_objectors (K : PySem.W.Frag) : Sp := spF false (fun i : List (Str × Str) × Str => [Lst (PP K) i.1, S i.2]) (fun _ => True) (fun i => Lst S (lobj i.1 i.2))
theorem ok_d_objectors (F : Fn K mg "_law_d_objectors" s_d_objectors ["_law_pairs", "_law_name"]) (T : Txt K mg aL) : C8.Cal P w K mg base 1 "_law_d_objectors" (sp_d_objectors K) [] := by
  refine cal_of F sc_d_objectors (fun vs H Q E h => spF_len h fun _ => rfl) (fun f cdv A outer s H vs Q E hr h => ?_)
  have hu64 := hu64_of hr
  obtain ⟨⟨ps, x⟩, G, v, w', rfl, r, _, hv, hw, k⟩ := sp2 h fun _ => rfl
  refine ⟨_, (pss_one (ps_ret (pe_callB (call_srtK (K := K) hu64) rfl T.sorted boot_sorted (pa_cons (pe_lc (own := [("_law_one", 2), ("_law_other", 3)]) rfl sc_d_objectors.nd (pi_seqK (K := K) (pv 0)) (blkOk_by (by kernel_rfl)) (fun _ _ _ _ _ => (pg_tupK (K := K) (n := 2) rfl (pgs_cons (pg_name (i := 2) sc_d_objectors.nd rfl (by first | exact Or.inl rfl | exact Or.inr rfl)) (pgs_cons (pg_name (i := 3) sc_d_objectors.nd rfl (by first | exact Or.inl rfl | exact Or.inr rfl)) pgs_nil)))) (fun _ _ _ _ _ => (pts_one (pt_cmpR op_eq (pv 3) (pv 1) (nomark _)))) (fun _ _ _ _ _ => (pv 2))) pa_nil)))), ?_⟩
  refine ts_ret (EvN.ev (en_sorted (Ev.sqL (EvN.ev (en_lc (e := PP K) (er := S) (xs := ps) (fn := fun p => p.1) (p := fun p => decide (p.2 = x)) (ei_sq (Ev.sqL (ev_var rfl hv))) fun p hp y G' s hy => ?_))) enc_S alk_S (sortable_S _))) r k
  obtain ⟨a, v1, v2, rfl, hT, h1, h2⟩ := hy
  exact ⟨_, gto_tup2 hT, rfl, et_test (ev_eqS (ev_var rfl h2) (ev_var (i := 1) rfl ((S x).st s hw))), fun _ => ev_var rfl h1⟩
theorem ev_objs {b : Bool} {σ : L2.St} {G : Hp} {ta tb : TE} {E : XK} {ps : List (Str × Str)} {x : Str} (h1 : Ev b ta σ G (Lst (PP K) ps)) (h2 : Ev b tb σ G (S x)) : Ev b (tCall (sp_d_objectors K) [] E (tCons ta (tCons tb tNil))) σ G (Lst S (lobj ps x)) := ev_call (ι := List (Str × Str) × Str) (post := fun i => Lst S (lobj i.1 i.2)) (ps, x) (ea_cons h1 (ea_cons h2 ea_nil)) trivial
def sp_d_hits (K : PySem.W.Frag) : Sp := spF false (fun i : List (Str × Str) × List Str × Str => [Lst (PP K) i.1, Sq K S i.2.1, S i.2.2]) (fun _ => True) (fun i => B (lhits i.1 i.2.1 i.2.2))
theorem ok_d_hits (F : Fn K mg "_law_d_hits" s_d_hits ["_law_pairs", "_law_lot", "_law_name"]) (T : Txt K mg aL) (c_d_objectors : C8.Cal P w K mg base 1 "_law_d_objectors" (sp_d_objectors K) []) : C8.Cal P w K mg base 2 "_law_d_hits" (sp_d_hits K) [] := by
  refine cal_of F sc_d_hits (fun vs H Q E h => spF_len h fun _ => rfl) (fun f cdv A outer s H vs Q E hr h => ?_)
  obtain ⟨⟨ps, lot, x⟩, G, v, w', z, rfl, r, _, hv, hw, hz, k⟩ := sp3 h fun _ => rfl
  refine ⟨_, (pss_one (ps_ret (pe_callB (call_anyK (K := K) rfl) rfl T.any boot_any (pa_cons (pe_lc (own := [("_law_one", 3)]) rfl sc_d_hits.nd (pi_seqK (K := K) (C8.pe_c c_d_objectors hr (by first | decide | omega) rfl (pa_cons (pv 0) (pa_cons (pv 2) pa_nil)))) (blkOk_by (by kernel_rfl)) (fun _ _ _ _ _ => (pg_name (i := 3) sc_d_hits.nd rfl (by first | exact Or.inl rfl | exact Or.inr rfl))) (fun _ _ _ _ _ => pts_nil) (fun _ _ _ _ _ => (pe_cmpR (op_inK (K := K)) (pv 3) (pv 1) (by with_unfolding_all rfl)))) pa_nil)))), ?_⟩
  exact ts_ret (ev_anyL (en_map (ei_sq (Ev.sqL (ev_objs (ev_var rfl hv) (ev_var (i := 2) rfl hz)))) fun a ha y G' s hy => ⟨_, gto_name, rfl, ev_in (ev_var rfl hy) (ev_var (i := 1) rfl ((Sq K S lot).st s hw))⟩)) r k
theorem ev_hits {b : Bool} {σ : L2.St} {G : Hp} {ta tb tc : TE} {E : XK} {ps : List (Str × Str)} {lot : List Str} {x : Str} (h1 : Ev b ta σ G (Lst (PP K) ps)) (h2 : Ev b tb σ G (Sq K S lot)) (h3 : Ev b tc σ G (S x)) : Ev b (tCall (sp_d_hits K) [] E (tCons ta (tCons tb (tCons tc tNil)))) σ G (B (lhits ps lot x)) := ev_call (ι := List (Str × Str) × List Str × Str) (post := fun i => B (lhits i.1 i.2.1 i.2.2)) (ps, lot, x) (ea_cons h1 (ea_cons h2 (ea_cons h3 ea_nil))) trivial
def sp_d_answers (K : PySem.W.Frag) : Sp := spF false (fun i : List (Str × Str) × List Str × Str => [Lst (PP K) i.1, Sq K S i.2.1, S i.2.2]) (fun _ => True) (fun i => B (lans i.1 i.2.1 i.2.2))
theorem ok_d_answers (F : Fn K mg "_law_d_answers" s_d_answers ["_law_pairs", "_law_lot", "_law_name"]) (T : Txt K mg aL) (c_d_objectors : C8.Cal P w K mg base 1 "_law_d_objectors" (sp_d_objectors K) []) (c_d_hits : C8.Cal P w K mg base 2 "_law_d_hits" (sp_d_hits K) []) : C8.Cal P w K mg base 3 "_law_d_answers" (sp_d_answers K) [] := by
  refine cal_of F sc_d_answers (fun vs H Q E h => spF_len h fun _ => rfl) (fun f cdv A outer s H vs Q E hr h => ?_)
  obtain ⟨⟨ps, lot, x⟩, G, v, w', z, rfl, r, _, hv, hw, hz, k⟩ := sp3 h fun _ => rfl
  refine ⟨_, (pss_one (ps_ret (pe_callB (call_allK (K := K) rfl) rfl T.all boot_all (pa_cons (pe_lc (own := [("_law_one", 3)]) rfl sc_d_answers.nd (pi_seqK (K := K) (C8.pe_c c_d_objectors hr (by first | decide | omega) rfl (pa_cons (pv 0) (pa_cons (pv 2) pa_nil)))) (blkOk_by (by kernel_rfl)) (fun _ _ _ _ _ => (pg_name (i := 3) sc_d_answers.nd rfl (by first | exact Or.inl rfl | exact Or.inr rfl))) (fun _ _ _ _ _ => pts_nil) (fun _ _ _ _ _ => (C8.pe_c c_d_hits hr (by first | decide | omega) rfl (pa_cons (pv 0) (pa_cons (pv 1) (pa_cons (pv 3) pa_nil)))))) pa_nil)))), ?_⟩
  exact ts_ret (ev_allL (en_map (ei_sq (Ev.sqL (ev_objs (ev_var rfl hv) (ev_var (i := 2) rfl hz)))) fun a ha y G' s hy => ⟨_, gto_name, rfl, ev_hits (ev_var (i := 0) rfl ((Lst (PP K) ps).st s hv)) (ev_var (i := 1) rfl ((Sq K S lot).st s hw)) (ev_var rfl hy)⟩)) r k
end
end Gd
-- part E5
set_option Elab.async false
set_option linter.all false
set_option maxRecDepth 100000
set_option maxHeartbeats 1000000
namespace Gd
open PySem PySem.Spec PyProof.Rows L2
universe u
section
variable {W : SC} {O : Own} {K : PySem.W.Frag} {k m l : Nat} {Rs : RL} {ta tb tc : TE} {E : XK} {ns lot o : List Str} {ps : List (Str × Str)} {x : Str}
theorem el_ans (h1 : EL W O k ta Rs (Lst (PP K) ps)) (h2 : EL W O m tb Rs (Sq K S lot)) (h3 : EL W O l tc Rs (S x)) : EL W O (k + (m + (l + 0))) (tCall (sp_d_answers K) [] E (tCons ta (tCons tb (tCons tc tNil)))) Rs (B (lans ps lot x)) := el_call (ι := List (Str × Str) × List Str × Str) (post := fun i => B (lans i.1 i.2.1 i.2.2)) (ps, lot, x) (eal_cons h1 (eal_cons h2 (eal_cons h3 eal_nil))) trivial
end
end Gd
-- part Gd57
set_option Elab.async false
set_option linter.all false
set_option maxRecDepth 100000
set_option maxHeartbeats 1000000
namespace Gd
open PySem PySem.Spec PyProof.Rows L2
universe u
theorem mergeK_nodup : ∀ (more kvs : List (Key × V)), (kvs ++ more).map (·.1) |>.Nodup → mergeK kvs more = kvs ++ more
  | [], kvs, _ => (List.append_nil kvs).symm
  | q :: more, kvs, h => by
    have h0 : valV kvs q.1 = none := valV_none fun hm => by
      rw [List.map_append, List.nodup_append] at h
      exact h.2.2 _ hm _ (List.mem_map.mpr ⟨q, List.mem_cons_self .., rfl⟩) rfl
    have e : putK kvs q.1 q.2 = kvs ++ [q] := putK_new _ h0
    show mergeK (putK kvs q.1 q.2) more = _
    rw [e, mergeK_nodup more (kvs ++ [q]) (by rw [List.append_assoc]; exact h), List.append_assoc]
    rfl
abbrev rDictP (K : PySem.W.Frag) : List V → Hp → VK → Prop := fun xs H Q => ∃ (a : Addr) (ps : List Addr) (kvs : List (Key × V)), xs = [.ref a] ∧ SqL K H a (ps.map V.ref) ∧ Paired (fun p kv => SqT K H p [kV kv.1, kv.2]) ps kvs ∧
    ∀ p, H p = none → Q (.ref p) (upd H p (.dK (mergeK [] kvs)))
theorem call_dictPK {X : Cx} {K : PySem.W.Frag} (hc : X.calm = true) (hK : X.K = K := by rfl) : CallR X (.type "dict") (rDictP K) := by
  subst hK
  exact call_dictP hc
abbrev rListD : List V → Hp → VK → Prop := fun xs H Q => ∃ (a : Addr) (kvs : List (Key × V)), xs = [.ref a] ∧ Rd H a (.dK kvs) ∧ ∀ p, H p = none → Q (.ref p) (upd H p (.lst (kvs.map fun kv => kV kv.1)))
theorem call_listDK {X : Cx} (hc : X.calm = true) : CallR X (.type "list") rListD := call_listD hc
theorem al_pairs {α : Type} {e : α → SR} {K : PySem.W.Frag} {G H : Hp} {b : Bool} (r : Rel b G H) : ∀ {kv : List (Str × α)} {vs : List V}, Al (Pr K S e) kv vs G → ∃ (as : List Addr) (ws : List (Key × V)), vs = as.map V.ref ∧ Paired (fun p q => SqT K H p [kV q.1, q.2]) as ws ∧ AlD e kv ws G
  | _, _, .nil => ⟨[], [], rfl, .nil, .nil⟩
  | _, _, .cons (a := q) ⟨a, v, w, h1, h2, h3, h4⟩ t => by
    obtain ⟨as, ws, e1, e2, e3⟩ := al_pairs r t
    obtain ⟨rfl, _⟩ := h3
    exact ⟨a :: as, (Sum.inr q.1, w) :: ws, by rw [List.map_cons, ← e1, h1], .cons (r.seqT h2) e2, .cons h4 e3⟩
section
variable {b : Bool} {σ : L2.St} {G : Hp} {te ta : TE} {K : PySem.W.Frag} {α β : Type} {e : α → SR}
theorem ev_dictP {kv : List (Str × α)} (ha : Ev b ta σ G (Lst (Pr K S e) kv)) (nd : (kv.map (·.1)).Nodup) : Ev b (tCB (rDictP K) (tCons ta tNil)) σ G (Dct e kv) :=
  ev_cb (ea_cons ha ea_nil) fun vs G1 H1 a r al Q k => by
    obtain ⟨v, rfl, ad, ws, rfl, h1, h2, h3⟩ := alr1 al
    obtain ⟨as, qs, rfl, h4, h5⟩ := al_pairs r h3
    refine ⟨ad, as, qs, rfl, SqL.of (r.at h1 rfl), h4, fun p hp => ?_⟩
    have hk : (qs.map (·.1)).Nodup := by
      rw [h5.keys]
      exact List.pairwise_map.mpr (nd.imp fun h z => h (Sum.inr.inj z))
    rw [mergeK_nodup qs [] hk, List.nil_append]
    have hlen : qs.length ≤ sizeLine := by
      have e1 := congrArg List.length h5.keys
      have e2 := h3.len
      rw [List.length_map] at e1 e2 h2
      simp only [List.length_map] at e1
      rw [e1, ← e2]
      exact h2
    exact k (.ref p) (upd G1 p (.dK qs)) _ (Go.new r hp) ⟨p, qs, rfl, upd_same, hlen, h5.st (Same.new (r.free hp))⟩
theorem al_keys {G : Hp} : ∀ {ks : List Str} {kvs : List (Key × V)}, kvs.map (·.1) = ks.map Sum.inr → (∀ s ∈ ks, okS s = true) → Al S ks (kvs.map fun q => kV q.1) G
  | [], [], _, _ => .nil
  | [], _ :: _, h, _ => by cases h
  | _ :: _, [], h, _ => by cases h
  | k :: ks, q :: kvs, h, ok => by
    rw [List.map_cons, List.map_cons] at h
    injection h with h1 h2
    rw [List.map_cons]
    exact .cons ⟨by show kV q.1 = _; rw [h1]; rfl, ok k (List.mem_cons_self ..)⟩ (al_keys h2 fun s hs => ok s (List.mem_cons_of_mem _ hs))
theorem ev_listD {ks : List Str} (ha : Ev true ta σ G (Ks ks)) (hok : ∀ s ∈ ks, okS s = true) : Ev true (tCB rListD (tCons ta tNil)) σ G (Lst S ks) :=
  ev_cb (ea_cons ha ea_nil) fun vs G1 H1 a r al Q k => by
    obtain ⟨v, rfl, ad, kvs, rfl, h1, h2, h3⟩ := alr1 al
    refine ⟨ad, kvs, rfl, .inl (r.ex h1), fun p hp => ?_⟩
    exact k (.ref p) (upd G1 p (.lst (kvs.map fun q => kV q.1))) _ (Go.new r hp) ⟨p, _, rfl, upd_same, by rw [List.length_map]; exact h2, al_keys h3 hok⟩
end
section
variable {K : PySem.W.Frag} {W : SC} {O O' : Own} {n k m : Nat} {Rs : RL} {te ta tb : TE} {α β : Type} {e : α → SR} {i j : Nat}
theorem el_dictP {kv : List (Str × α)} (ha : EL W O k ta Rs (Lst (Pr K S e) kv)) (nd : (kv.map (·.1)).Nodup) : EL W O k (tCB (rDictP K) (tCons ta tNil)) Rs (Dct e kv) := el_f1 (fun a => tCB (rDictP K) (tCons a tNil)) ha fun _ _ _ p => ev_dictP (ev_cR' p) nd
theorem el_listD {ks : List Str} (ha : EL W O k ta Rs (Ks ks)) (hok : ∀ s ∈ ks, okS s = true) : EL W O k (tCB rListD (tCons ta tNil)) Rs (Lst S ks) := el_f1 (fun a => tCB rListD (tCons a tNil)) ha fun _ _ _ p => ev_listD (ev_cR' p) hok
theorem el_dnew0 : EL W O 0 tDNewK Rs (Dct e []) := fun σ G H n Q sl w hn kk => fun p hp => kk (.ref p) _ _ (Same.new (w.r.free hp)) (w.new (o := .dK []) hp rfl) ⟨p, [], rfl, upd_same, Nat.zero_le _, .nil⟩
theorem eln_items {kvs : List (Str × α)} (ha : EL W O k ta Rs (Dct e kvs)) (hok : ∀ p ∈ kvs, okS p.1 = true) : ELN W O k (LiI.tListItems ta) Rs (Pr K S e) kvs := eln_f1 (fun a => LiI.tListItems a) ha fun _ _ _ p => en_listItems (ev_cR' p) hok
end
end Gd
-- part E6
set_option Elab.async false
set_option linter.all false
set_option maxRecDepth 100000
set_option maxHeartbeats 1000000
namespace Gd
open PySem PySem.Spec PyProof.Rows L2
universe u
abbrev s_rk_ranks : Stmt := topS 43
theorem sc_rk_ranks : FnScope ["_law_names", "_law_pairs", "_law_found", "_law_turn", "_law_lot", "_law_later", "_law_name"] ["_law_names", "_law_pairs"] (defScope s_rk_ranks) := ⟨rfl, rfl, rfl, by decide +kernel, rfl, by decide +kernel, by decide +kernel⟩
abbrev Rk := List (Str × Int)
abbrev pI : Str × Int → PyData := fun p => .tuple [.str p.1, .int p.2]
def lrLater (ns : List Str) (ps : List (Str × Str)) (f : Rk) : List Str := (srt PyData.str ns).filter fun s => !decide (s ∈ f.map (·.1)) && lans ps (f.map (·.1)) s
def lrStep (ns : List Str) (ps : List (Str × Str)) (f : Rk) (t : Nat) : Rk := srt pI (f ++ (lrLater ns ps f).map fun s => (s, (t : Int)))
def lrF (ns : List Str) (ps : List (Str × Str)) : Nat → Rk
  | 0 => []
  | t + 1 => lrStep ns ps (lrF ns ps t) t
def lranks (ns : List Str) (ps : List (Str × Str)) : Rk := lrF ns ps (ns.length + 1)
structure RkOk (ns : List Str) (f : Rk) (t : Nat) : Prop where
  nd : (f.map (·.1)).Nodup
  sub : ∀ s ∈ f.map (·.1), s ∈ ns
  lo : ∀ q ∈ f, 0 ≤ q.2
  hi : ∀ q ∈ f, q.2 ≤ (t : Int)
theorem lrStep_perm (ns : List Str) (ps : List (Str × Str)) (f : Rk) (t : Nat) : (lrStep ns ps f t).Perm (f ++ (lrLater ns ps f).map fun s => (s, (t : Int))) := srt_perm _ _
theorem mem_lrLater {ns : List Str} {ps : List (Str × Str)} {f : Rk} {s : Str} : s ∈ lrLater ns ps f ↔ s ∈ ns ∧ s ∉ f.map (·.1) ∧ lans ps (f.map (·.1)) s = true := by
  unfold lrLater
  rw [List.mem_filter, mem_srt]
  simp
theorem rkOk_F {ns : List Str} (nd : ns.Nodup) (ps : List (Str × Str)) : ∀ t, RkOk ns (lrF ns ps t) t
  | 0 => ⟨List.nodup_nil, fun s h => (by cases h), fun q h => (by cases h), fun q h => (by cases h)⟩
  | t + 1 => by
    have h := rkOk_F nd ps t
    have hp := lrStep_perm ns ps (lrF ns ps t) t
    have hpk := hp.map (·.1)
    rw [List.map_append, List.map_map] at hpk
    have hid : (lrLater ns ps (lrF ns ps t)).map ((·.1) ∘ fun s => (s, (t : Int))) = lrLater ns ps (lrF ns ps t) := List.map_id' _
    rw [hid] at hpk
    refine ⟨?_, fun s hs => ?_, fun q hq => ?_, fun q hq => ?_⟩
    · show ((lrStep ns ps (lrF ns ps t) t).map (·.1)).Nodup
      rw [hpk.nodup_iff, List.nodup_append]
      exact ⟨h.nd, (srt_nodup.mpr nd).filter _, fun a ha b hb e => (mem_lrLater.mp hb).2.1 (e ▸ ha)⟩
    · rcases List.mem_append.mp (hpk.mem_iff.mp hs) with hs | hs
      · exact h.sub s hs
      · exact (mem_lrLater.mp hs).1
    · rcases List.mem_append.mp (hp.mem_iff.mp hq) with hq | hq
      · exact h.lo q hq
      · obtain ⟨s, _, rfl⟩ := List.mem_map.mp hq
        show (0 : Int) ≤ (t : Int)
        omega
    · rcases List.mem_append.mp (hp.mem_iff.mp hq) with hq | hq
      · have := h.hi q hq
        omega
      · obtain ⟨s, _, rfl⟩ := List.mem_map.mp hq
        show (t : Int) ≤ ((t + 1 : Nat) : Int)
        omega
theorem rk_len {ns : List Str} {f : Rk} {t : Nat} (h : RkOk ns f t) : f.length ≤ ns.length := by
  have := nodup_len h.nd h.sub
  rwa [List.length_map] at this
section
variable {P : Program} {w : World} {K : PySem.W.Frag} {mg : Str → Option Value} {base : Heap} {aL : Addr} {Tb : List (Addr × Str)}
def okN (ns : List Str) : Prop := ns.Nodup ∧ (∀ s ∈ ns, okS s = true) ∧ ns.length ≤ 50
def sp_rk_ranks (K : PySem.W.Frag) (Tb : List (Addr × Str)) : Sp := spM Tb (fun i : Deb => [Lst S i.1, Lst (PP K) i.2]) (fun i => okN i.1) (fun i => Dct I (lranks i.1 i.2))
theorem ok_rk_ranks (F : Fn K mg "_law_rk_ranks" s_rk_ranks ["_law_names", "_law_pairs"]) (T : Txt K mg aL) (c_d_answers : C8.Cal P w K mg base 3 "_law_d_answers" (sp_d_answers K) []) : C8.Cal P w K mg base 4 "_law_rk_ranks" (sp_rk_ranks K Tb) [] := by
  refine cal_of F sc_rk_ranks (fun vs H Q E h => spM_len h fun _ => rfl) (fun f cdv A outer s H vs Q E hr h => ?_)
  have hu64 := hu64_of hr
  have hu := hu_of hr
  obtain ⟨⟨ns, ps⟩, st, c, n, O, G, w0, hn, ⟨nd, hok, hl⟩, al, k⟩ := h
  have nd : ns.Nodup := nd
  have hok : ∀ s ∈ ns, okS s = true := hok
  have hl : ns.length ≤ 50 := hl
  refine ⟨_, (pss_cons (ps_set (i := 2) sc_rk_ranks.nd rfl (by first | exact Or.inl rfl | exact Or.inr rfl) pe_dnewK)
      (pss_cons (ps_for PassesOwn.never rfl (pi_range1 rfl T.range (pa_cons (pe_op op_add (pe_callB (call_lenK (K := K)) rfl T.len PySem.boot_len (pa_cons (pv 0) pa_nil)) pe_int) pa_nil)) (pg_name (i := 3) sc_rk_ranks.nd rfl (by first | exact Or.inl rfl | exact Or.inr rfl)) (pss_cons (ps_set (i := 4) sc_rk_ranks.nd rfl (by first | exact Or.inl rfl | exact Or.inr rfl) (pe_callTy (call_listDK rfl) rfl T.list boot_list (pa_cons (pv 2) pa_nil)))
      (pss_cons (ps_setLc (i := 5) (own := [("_law_name", 6)]) rfl sc_rk_ranks.nd rfl rfl (sw_true rfl rfl rfl (by decide +kernel)) (pi_seqK (K := K) (pe_callB (call_srtK (K := K) hu64) rfl T.sorted boot_sorted (pa_cons (pv 0) pa_nil))) (blkOk_by (by kernel_rfl)) (fun _ _ _ _ _ => (pg_name (i := 6) sc_rk_ranks.nd rfl (by first | exact Or.inl rfl | exact Or.inr rfl))) (fun _ _ _ _ _ => (pts_one (PW.pt (pw_and (pt_cmp (pc_dnotin hu (pv 6) (pv 2))) (pw_and1 (pt_val (C8.pe_c c_d_answers hr (by first | decide | omega) rfl (pa_cons (pv 1) (pa_cons (pv 4) (pa_cons (pv 6) pa_nil)))))))))) (fun _ _ _ _ _ => (pv 6)))
      (pss_one (ps_set (i := 2) sc_rk_ranks.nd rfl (by first | exact Or.inl rfl | exact Or.inr rfl) (pe_callTy (call_dictPK (K := K) rfl) rfl T.dict boot_dict (pa_cons (pe_callB (call_srtK (K := K) hu64) rfl T.sorted boot_sorted (pa_cons (pe_op op_cat (LiI.pe_listItems rfl (pv 2) rfl T.list boot_list) (pe_lc (own := [("_law_name", 6)]) rfl sc_rk_ranks.nd (pi_seqK (K := K) (pv 5)) (blkOk_by (by kernel_rfl)) (fun _ _ _ _ _ => (pg_name (i := 6) sc_rk_ranks.nd rfl (by first | exact Or.inl rfl | exact Or.inr rfl))) (fun _ _ _ _ _ => pts_nil) (fun _ _ _ _ _ => (pe_tup (pa_cons (pv 6) (pa_cons (pv 3) pa_nil)))))) pa_nil)) pa_nil)))))))
      (pss_one (ps_ret (pv 2))))), ?_⟩
  refine (?_ : HL ⟨st, c, Tb⟩ G n O [some (Lst S ns), some (Lst (PP K) ps), none, none, none, none, none] _ _) _ _ ⟨G, Same.refl G, by have h := slots_start (N := ["_law_names", "_law_pairs", "_law_found", "_law_turn", "_law_lot", "_law_later", "_law_name"]) al; rw [alr_len al] at h; exact h, w0⟩
  refine hl_set (k := 0) (R := Dct I []) el_dnew0 ?_
  dsimp only [List.set]
  refine hl_for (k := 0) (e := fun i : Nat => I (0 + (i : Nat))) (xs := List.range ((ns.length : Int) + 1).toNat) (δ := Nat) (fun i d => d = i) (fun _ => O) (fun d => [some (Lst S ns), some (Lst (PP K) ps), some (Dct I (lrF ns ps d)), none, none, none, none]) 0 (eil_range1 (el_addI (k := 0) (m := 0) (el_len (el_sqL (el_var rfl))) el_int) (by omega) (by omega)) 0 rfl rfl (fun G => (.eq (.eq (.eq (.no (.no (.no (.no .nil)))))))) ?_ ?_ (by rw [List.length_range]; omega)
  · rintro i kx d E' G1 hx rfl hrt s1 kn hn1
    obtain rfl : kx = d := by
      have := (List.getElem?_eq_some_iff.mp hx).2
      rw [List.getElem_range] at this
      exact this.symm
    have hR := rkOk_F nd ps kx
    have hRl := rk_len hR
    have hfo : ∀ q ∈ lrF ns ps kx, okS q.1 = true := fun q hq => hok _ (hR.sub _ (List.mem_map.mpr ⟨q, hq, rfl⟩))
    have hko : ∀ s ∈ (lrF ns ps kx).map (·.1), okS s = true := fun s hs => hok _ (hR.sub _ hs)
    refine ⟨_, _, gl_name, ?_⟩
    dsimp only [List.set]
    refine hl_set (k := 0) (R := Lst S ((lrF ns ps kx).map (·.1))) (el_listD (el_ks (el_var (i := 2) rfl)) hko) ?_
    dsimp only [List.set]
    refine hl_set (k := 0) (R := Lst S (lrLater ns ps (lrF ns ps kx))) (ELN.el (ELN.eq (eln_lc0 (e := S) (er := S) (fn := fun s => s) (p := fun s => !decide (s ∈ (lrF ns ps kx).map (·.1)) && lans ps ((lrF ns ps kx).map (·.1)) s) (eil_sq (el_sqL (ELN.el (eln_sortedS (el_sqL (el_var (i := 0) rfl)))))) (fun _ _ => gl_name) (fun s _ O' => etl_and (k := 0) (m := 0) (etl_test (el_notinK (k := 0) (m := 0) (el_var rfl) (el_ks (el_var (i := 2) rfl)))) fun _ => etl_B (el_ans (el_var (i := 1) rfl) (el_sqL (el_var (i := 4) rfl)) (el_var rfl))) fun s _ _ O' => el_var rfl) (List.map_id' _))) ?_
    dsimp only [List.set]
    refine hl_last ?_
    have hll : (lrLater ns ps (lrF ns ps kx)).length ≤ 50 := by
      unfold lrLater
      refine Nat.le_trans (List.length_filter_le _ _) ?_
      unfold srt
      rw [List.length_mergeSort]
      exact hl
    have hcat := eln_cat (W := ⟨st, c, Tb⟩) (O := O) (k := 0) (m := 0) (Rs := [some (Lst S ns), some (Lst (PP K) ps), some (Dct I (lrF ns ps kx)), some (I (0 + (kx : Nat))), some (Lst S ((lrF ns ps kx).map (·.1))), some (Lst S (lrLater ns ps (lrF ns ps kx))), none]) (e := Pr K S I) (ELN.el (eln_items (K := K) (el_var (i := 2) rfl) hfo)) (ELN.el (eln_map0 (e := S) (er := Pr K S I) (fn := fun s => (s, (kx : Int))) (g := gName 6) (vs := [6]) (eil_sq (K := K) (el_sqL (el_var (i := 5) rfl))) (fun _ _ => gl_name) fun s _ O' => el_pr (k := 0) (m := 0) (el_var (i := 6) rfl) (EL.eq (el_var (i := 3) rfl) (by congr 1; omega)))) (by rw [List.length_map]; omega)
    refine hl_set (k := 0) (R := Dct I (lrF ns ps (kx + 1))) (el_dictP (ELN.el (eln_sorted (e := Pr K S I) (enc_pr enc_S enc_I) (alk_pr alk_S alk_I) (sortable_pr _ _ _) (el_sqL (ELN.el hcat)))) (rkOk_F nd ps (kx + 1)).nd) ?_
    dsimp only [List.set]
    exact hl_nx fun σ H a => kn _ σ H rfl ((a.weak fun G => (.eq (.eq (.eq (.no (.no (.no (.no .nil)))))))).le (by omega))
  · rintro d rfl
    rw [List.length_range]
    refine hl_ret (k := 0) (R := Dct I (lranks ns ps)) (EL.eq (el_var (i := 2) rfl) ?_) fun v G2 H2 s2 w2 p => k v G2 H2 s2 (w2.le (by omega)) p
    unfold lranks
    congr 2
end
end Gd
-- part Gd58
set_option Elab.async false
set_option linter.all false
set_option maxRecDepth 100000
set_option maxHeartbeats 1000000
-- part E7
set_option Elab.async false
set_option linter.all false
set_option maxRecDepth 100000
set_option maxHeartbeats 1000000
namespace Gd
open PySem PySem.Spec PyProof.Rows L2
universe u
def rkv (f : Rk) (s : Str) : Int := (f.lookup s).getD 0
theorem lookup_some {α : Type} {s : Str} : ∀ {kvs : List (Str × α)}, s ∈ kvs.map (·.1) → ∃ a, kvs.lookup s = some a ∧ (s, a) ∈ kvs
  | [], h => by cases h
  | (k, a) :: kvs, h => by
    rw [List.lookup_cons]
    by_cases e : s = k
    · subst e
      exact ⟨a, by simp, List.mem_cons_self ..⟩
    · have e2 : (s == k) = false := by simpa using e
      rw [e2]
      obtain ⟨b, h1, h2⟩ := lookup_some ((List.mem_cons.mp h).resolve_left e)
      exact ⟨b, h1, List.mem_cons_of_mem _ h2⟩
theorem rkv_mem {f : Rk} {s : Str} (h : s ∈ f.map (·.1)) : (s, rkv f s) ∈ f := by
  obtain ⟨a, h1, h2⟩ := lookup_some h
  unfold rkv
  rw [h1]
  exact h2
end Gd
-- part E8
set_option Elab.async false
set_option linter.all false
set_option maxRecDepth 100000
set_option maxHeartbeats 1000000
-- part E9
set_option Elab.async false
set_option linter.all false
set_option maxRecDepth 100000
set_option maxHeartbeats 1000000
-- part N1
set_option Elab.async false
set_option linter.all false
set_option maxRecDepth 100000
set_option maxHeartbeats 1000000
namespace Gd
open PySem PySem.Spec PyProof.Rows L2
section
variable {ns : List Str} {ps : List (Str × Str)} {l m : List Str} {s x : Str}
theorem mem_lobj : x ∈ lobj ps s ↔ (x, s) ∈ ps := mem_srt.trans mem_tosP
theorem lhits_iff : lhits ps l s = true ↔ ∃ m ∈ l, (m, s) ∈ ps := by
  unfold lhits
  rw [List.any_eq_true]
  exact ⟨fun ⟨x, h1, h2⟩ => ⟨x, of_decide_eq_true h2, mem_lobj.mp h1⟩, fun ⟨x, h1, h2⟩ => ⟨x, mem_lobj.mpr h2, decide_eq_true h1⟩⟩
theorem lans_iff : lans ps l s = true ↔ ∀ o, (o, s) ∈ ps → ∃ m ∈ l, (m, o) ∈ ps := by
  unfold lans
  rw [List.all_eq_true]
  exact ⟨fun h o ho => lhits_iff.mp (h o (mem_lobj.mpr ho)), fun h o ho => lhits_iff.mpr (h o (mem_lobj.mp ho))⟩
theorem lans_mono (h : ∀ x ∈ l, x ∈ m) (a : lans ps l s = true) : lans ps m s = true := lans_iff.mpr fun o ho => let ⟨y, h1, h2⟩ := lans_iff.mp a o ho; ⟨y, h y h1, h2⟩
theorem lans_congr (h : ∀ x, x ∈ l ↔ x ∈ m) : lans ps l s = lans ps m s := by
  rw [Bool.eq_iff_iff]
  exact ⟨lans_mono fun x => (h x).mp, lans_mono fun x => (h x).mpr⟩
def aP (ns : List Str) (ps : List (Str × Str)) (l : List Str) : List Str := (srt PyData.str ns).filter fun s => lans ps l s
theorem mem_aP : x ∈ aP ns ps l ↔ x ∈ ns ∧ lans ps l x = true := by
  unfold aP
  rw [List.mem_filter, mem_srt]
theorem ansP_mk (ns : List Str) (ps : List (Str × Str)) (l : List Str) : ansP (mkD (ns, ps)) l = aP ns ps l := by
  unfold ansP aP mkD
  refine List.filter_congr fun s hs => ?_
  rw [Bool.eq_iff_iff, List.all_eq_true, lans_iff]
  constructor
  · intro h o ho
    obtain ⟨m, h1, h2⟩ := mem_hitP.mp (of_decide_eq_true (h o (mem_tosP.mpr (mem_srt.mpr ho))))
    exact ⟨m, h1, mem_srt.mp h2⟩
  · intro h o ho
    obtain ⟨m, h1, h2⟩ := h o (mem_srt.mp (mem_tosP.mp ho))
    exact decide_eq_true (mem_hitP.mpr ⟨m, h1, mem_srt.mpr h2⟩)
def stg (ns : List Str) (ps : List (Str × Str)) : Nat → List Str
  | 0 => aP ns ps []
  | n + 1 => aP ns ps (stg ns ps n)
theorem stg_up : ∀ n, ∀ x ∈ stg ns ps n, x ∈ stg ns ps (n + 1)
  | 0, x, h => by
    obtain ⟨h1, h2⟩ := mem_aP.mp h
    exact mem_aP.mpr ⟨h1, lans_mono (fun y hy => (by cases hy)) h2⟩
  | n + 1, x, h => by
    obtain ⟨h1, h2⟩ := mem_aP.mp h
    exact mem_aP.mpr ⟨h1, lans_mono (stg_up n) h2⟩
theorem stg_le {i j : Nat} (h : i ≤ j) : ∀ x ∈ stg ns ps i, x ∈ stg ns ps j := by
  induction j with
  | zero => intro x hx; rw [show i = 0 by omega] at hx; exact hx
  | succ j ih =>
    intro x hx
    by_cases e : i = j + 1
    · rw [← e]; exact hx
    · exact stg_up j x (ih (by omega) x hx)
theorem stg_flt (n : Nat) : ∃ q : Str → Bool, stg ns ps n = (srt PyData.str ns).filter q := by
  cases n with
  | zero => exact ⟨_, rfl⟩
  | succ n => exact ⟨_, rfl⟩
theorem stg_grow {n : Nat} (h : stg ns ps (n + 1) ≠ stg ns ps n) : (stg ns ps n).length < (stg ns ps (n + 1)).length := by
  obtain ⟨p, hp⟩ := stg_flt (ns := ns) (ps := ps) n
  obtain ⟨q, hq⟩ := stg_flt (ns := ns) (ps := ps) (n + 1)
  have hg := filter_grow (p := p) (q := q) (xs := srt PyData.str ns) fun x hx hpx => by
    have h1 : x ∈ stg ns ps n := by rw [hp]; exact List.mem_filter.mpr ⟨hx, hpx⟩
    have h2 := stg_up n x h1
    rw [hq] at h2
    exact (List.mem_filter.mp h2).2
  rw [hp, hq] at h ⊢
  rcases Nat.lt_or_ge ((srt PyData.str ns).filter p).length ((srt PyData.str ns).filter q).length with z | z
  · exact z
  · exact absurd (hg.2 (by omega)).symm h
theorem least_of {p : Nat → Prop} : ∀ n, p n → ∃ m, m ≤ n ∧ p m ∧ ∀ j < m, ¬ p j := by
  intro n
  induction n using Nat.strongRecOn with
  | _ n ih =>
    intro h
    by_cases q : ∃ j, j < n ∧ p j
    · obtain ⟨j, h1, h2⟩ := q
      obtain ⟨m, h3, h4⟩ := ih j h1 h2
      exact ⟨m, by omega, h4⟩
    · exact ⟨n, Nat.le_refl _, h, fun j hj hp => q ⟨j, hj, hp⟩⟩
theorem stg_top (ns : List Str) (ps : List (Str × Str)) : ∃ N, N ≤ ns.length ∧ stg ns ps (N + 1) = stg ns ps N ∧ ∀ j < N, stg ns ps (j + 1) ≠ stg ns ps j := by
  suffices h : ∃ n, n ≤ ns.length ∧ stg ns ps (n + 1) = stg ns ps n by
    obtain ⟨n, h1, h2⟩ := h
    obtain ⟨m, h3, h4, h5⟩ := least_of (p := fun n => stg ns ps (n + 1) = stg ns ps n) n h2
    exact ⟨m, by omega, h4, h5⟩
  refine Classical.byContradiction fun hc => ?_
  have hg : ∀ n, n ≤ ns.length + 1 → n ≤ (stg ns ps n).length := by
    intro n
    induction n with
    | zero => intro _; exact Nat.zero_le _
    | succ n ih =>
      intro hn
      have h1 := ih (by omega)
      have h2 := stg_grow (ns := ns) (ps := ps) (n := n) fun e => hc ⟨n, by omega, e⟩
      omega
  have h1 := hg (ns.length + 1) (Nat.le_refl _)
  obtain ⟨q, hq⟩ := stg_flt (ns := ns) (ps := ps) (ns.length + 1)
  have h2 : (stg ns ps (ns.length + 1)).length ≤ ns.length := by
    rw [hq]
    refine Nat.le_trans (List.length_filter_le _ _) ?_
    rw [srt_len]
    exact Nat.le_refl _
  omega
theorem stg_all {N : Nat} (h : stg ns ps (N + 1) = stg ns ps N) : ∀ n, N ≤ n → stg ns ps n = stg ns ps N := by
  intro n hn
  induction n with
  | zero => rw [show N = 0 by omega]
  | succ n ih =>
    by_cases e : N = n + 1
    · rw [e]
    · show aP ns ps (stg ns ps n) = _
      rw [ih (by omega)]
      exact h
theorem stgs_eq {N : Nat} (h : stg ns ps (N + 1) = stg ns ps N) (hm : ∀ j < N, stg ns ps (j + 1) ≠ stg ns ps j) : ∀ (k f j : Nat), j + k = N → k ≤ f → stgs (mkD (ns, ps)) f (stg ns ps j) = (List.range (k + 1)).map fun i => stg ns ps (j + i) := by
  intro k
  induction k with
  | zero =>
    intro f j hj _
    rw [Nat.add_zero] at hj
    subst hj
    rw [stgs_fix (by rw [ansP_mk]; exact h)]
    rfl
  | succ k ih =>
    intro f j hj hf
    obtain ⟨f, rfl⟩ : ∃ f', f = f' + 1 := ⟨f - 1, by omega⟩
    show (if ansP (mkD (ns, ps)) (stg ns ps j) = stg ns ps j then [stg ns ps j] else stg ns ps j :: stgs (mkD (ns, ps)) f (ansP (mkD (ns, ps)) (stg ns ps j))) = _
    have hne : ¬ ansP (mkD (ns, ps)) (stg ns ps j) = stg ns ps j := by
      rw [ansP_mk]
      exact hm j (by omega)
    rw [if_neg hne, ansP_mk]
    have := ih f (j + 1) (by omega) (by omega)
    show _ :: stgs (mkD (ns, ps)) f (stg ns ps (j + 1)) = _
    rw [this, List.range_succ_eq_map (n := k + 1), List.map_cons, List.map_map]
    congr 1
    refine List.map_congr_left fun i _ => ?_
    show _ = stg ns ps (j + (i + 1))
    rw [Nat.add_assoc, Nat.add_comm 1 i]
theorem stagesP_eq {N : Nat} (hN : N ≤ ns.length) (h : stg ns ps (N + 1) = stg ns ps N) (hm : ∀ j < N, stg ns ps (j + 1) ≠ stg ns ps j) : stagesP (mkD (ns, ps)) = (List.range (N + 1)).map (stg ns ps) := by
  unfold stagesP
  rw [ansP_mk]
  have hl : (mkD (ns, ps)).1.length = ns.length := srt_len _ _
  have := stgs_eq h hm N ((mkD (ns, ps)).1.length + 1) 0 (by omega) (by omega)
  rw [show stg ns ps 0 = aP ns ps [] from rfl] at this
  rw [this]
  refine List.map_congr_left fun i _ => ?_
  rw [Nat.zero_add]
end
end Gd
-- part N2
set_option Elab.async false
set_option linter.all false
set_option maxRecDepth 100000
set_option maxHeartbeats 1000000
namespace Gd
open PySem PySem.Spec PyProof.Rows L2
section
variable {ns : List Str} {ps : List (Str × Str)} {l m : List Str} {s x : Str}
def keysF (ns : List Str) (ps : List (Str × Str)) (t : Nat) : List Str := (lrF ns ps t).map (·.1)
theorem mem_keysS {t : Nat} : s ∈ keysF ns ps (t + 1) ↔ s ∈ keysF ns ps t ∨ s ∈ lrLater ns ps (lrF ns ps t) := by
  have hp := (lrStep_perm ns ps (lrF ns ps t) t).map (·.1)
  rw [List.map_append, List.map_map] at hp
  have hid : (lrLater ns ps (lrF ns ps t)).map ((·.1) ∘ fun s => (s, (t : Int))) = lrLater ns ps (lrF ns ps t) := List.map_id' _
  rw [hid] at hp
  show s ∈ (lrStep ns ps (lrF ns ps t) t).map (·.1) ↔ _
  rw [hp.mem_iff, List.mem_append]
  rfl
theorem keys_stg : ∀ (t : Nat) (s : Str), s ∈ keysF ns ps (t + 1) ↔ s ∈ stg ns ps t
  | 0, s => by
    rw [mem_keysS, mem_lrLater]
    show _ ↔ s ∈ aP ns ps []
    rw [mem_aP]
    exact ⟨fun h => h.elim (fun h => by cases h) fun h => ⟨h.1, h.2.2⟩, fun h => .inr ⟨h.1, (fun z => by cases z), h.2⟩⟩
  | t + 1, s => by
    rw [mem_keysS, mem_lrLater]
    have ih := keys_stg t
    have hc : lans ps ((lrF ns ps (t + 1)).map (·.1)) s = lans ps (stg ns ps t) s := lans_congr ih
    show _ ↔ s ∈ aP ns ps (stg ns ps t)
    rw [mem_aP, hc]
    constructor
    · rintro (h | h)
      · exact mem_aP.mp (stg_up t s ((ih s).mp h))
      · exact ⟨h.1, h.2.2⟩
    · intro h
      by_cases q : s ∈ keysF ns ps (t + 1)
      · exact .inl q
      · exact .inr ⟨h.1, q, h.2⟩
theorem rk_stg : ∀ (t : Nat) (s : Str) (r : Int), (s, r) ∈ lrF ns ps t → ∃ k : Nat, r = (k : Int) ∧ k < t ∧ s ∈ stg ns ps k ∧ ∀ j < k, s ∉ stg ns ps j
  | 0, s, r, h => by cases h
  | t + 1, s, r, h => by
    rcases List.mem_append.mp ((lrStep_perm ns ps (lrF ns ps t) t).mem_iff.mp h) with h | h
    · obtain ⟨k, h1, h2, h3⟩ := rk_stg t s r h
      exact ⟨k, h1, by omega, h3⟩
    · obtain ⟨s', hs, e⟩ := List.mem_map.mp h
      cases e
      refine ⟨t, rfl, by omega, (keys_stg t s).mp (mem_keysS.mpr (.inr hs)), fun j hj hs2 => ?_⟩
      have h3 := (mem_lrLater.mp hs).2.1
      cases t with
      | zero => omega
      | succ t => exact h3 ((keys_stg t s).mpr (stg_le (by omega) s hs2))
theorem mem_lranks : s ∈ (lranks ns ps).map (·.1) ↔ s ∈ stg ns ps ns.length := keys_stg ns.length s
theorem rkv_stg (h : s ∈ (lranks ns ps).map (·.1)) : ∃ k : Nat, rkv (lranks ns ps) s = (k : Int) ∧ k ≤ ns.length ∧ s ∈ stg ns ps k ∧ ∀ j < k, s ∉ stg ns ps j := by
  obtain ⟨k, h1, h2, h3⟩ := rk_stg _ s _ (rkv_mem h)
  exact ⟨k, h1, by omega, h3⟩
theorem stg_sub_top {n : Nat} (h : s ∈ stg ns ps n) : s ∈ stg ns ps ns.length := by
  obtain ⟨N, h1, h2, _⟩ := stg_top ns ps
  by_cases q : n ≤ ns.length
  · exact stg_le q s h
  · rw [stg_all h2 n (by omega)] at h
    exact stg_le h1 s h
theorem rkv_le {n : Nat} (h : s ∈ (lranks ns ps).map (·.1)) : rkv (lranks ns ps) s ≤ (n : Int) ↔ s ∈ stg ns ps n := by
  obtain ⟨k, h1, h2, h3, h4⟩ := rkv_stg h
  rw [h1]
  constructor
  · intro z
    exact stg_le (by omega) s h3
  · intro z
    refine Classical.byContradiction fun q => h4 n (by omega) z
end
end Gd
-- part N3
set_option Elab.async false
set_option linter.all false
set_option maxRecDepth 100000
set_option maxHeartbeats 1000000
namespace Gd
open PySem PySem.Spec PyProof.Rows L2
section
variable {ns : List Str} {ps : List (Str × Str)} {l m : List Str} {s x : Str}
def firstIx (s : Str) : List (List Str) → Nat → Option Int
  | [], _ => none
  | l :: xs, n => if s ∈ l then some (n : Int) else firstIx s xs (n + 1)
theorem lookup_app {α : Type} {a b : List (Str × α)} : (a ++ b).lookup s = (a.lookup s).or (b.lookup s) := by
  induction a with
  | nil => rfl
  | cons q a ih =>
    obtain ⟨k, v⟩ := q
    rw [List.cons_append, List.lookup_cons, List.lookup_cons]
    by_cases e : (s == k) = true
    · rw [e]; rfl
    · rw [Bool.not_eq_true] at e
      rw [e]
      exact ih
theorem setd_lookup {f : Rk} {k : Str} {r : Int} : (setd f k r).lookup s = (f.lookup s).or (if s = k then some r else none) := by
  unfold setd
  by_cases q : (f.lookup k).isSome = true
  · rw [if_pos q]
    by_cases e : s = k
    · subst e
      cases z : f.lookup s with
      | none => rw [z] at q; cases q
      | some v => rfl
    · rw [if_neg e]
      cases f.lookup s <;> rfl
  · rw [if_neg q, lookup_app, List.lookup_cons]
    by_cases e : s = k
    · subst e; simp
    · have e2 : (s == k) = false := by simpa using e
      rw [e2, if_neg e]
      rfl
theorem fold_lookup {r : Int} : ∀ (l : List Str) (f : Rk), (l.foldl (fun a s => setd a s r) f).lookup s = (f.lookup s).or (if s ∈ l then some r else none)
  | [], f => by simp
  | k :: l, f => by
    rw [List.foldl_cons, fold_lookup l, setd_lookup]
    by_cases e : s = k
    · subst e
      rw [if_pos rfl, if_pos (List.mem_cons_self ..)]
      cases f.lookup s <;> simp
    · rw [if_neg e]
      by_cases q : s ∈ l
      · rw [if_pos q, if_pos (List.mem_cons_of_mem _ q)]
        simp
      · rw [if_neg q, if_neg (fun z => (List.mem_cons.mp z).elim e q)]
        simp
theorem found_lookup : ∀ (xs : List (List Str)) (n : Nat) (f : Rk), (((xs.zipIdx n).map fun p => ((p.2 : Int), p.1)).foldl lotStep f).lookup s = (f.lookup s).or (firstIx s xs n)
  | [], n, f => by simp [firstIx]
  | l :: xs, n, f => by
    rw [List.zipIdx_cons, List.map_cons, List.foldl_cons, found_lookup xs (n + 1)]
    show ((l.foldl (fun a s => setd a s (n : Int)) f).lookup s).or _ = _
    rw [fold_lookup]
    show _ = (f.lookup s).or (if s ∈ l then some (n : Int) else firstIx s xs (n + 1))
    by_cases q : s ∈ l
    · rw [if_pos q, if_pos q]
      cases f.lookup s <;> simp
    · rw [if_neg q, if_neg q]
      cases f.lookup s <;> rfl
theorem firstIx_none {n : Nat} {xs : List (List Str)} (h : ∀ l ∈ xs, s ∉ l) : firstIx s xs n = none := by
  induction xs generalizing n with
  | nil => rfl
  | cons l xs ih =>
    unfold firstIx
    rw [if_neg (h l (List.mem_cons_self ..))]
    exact ih fun l hl => h l (List.mem_cons_of_mem _ hl)
theorem firstIx_some : ∀ {xs : List (List Str)} {n k : Nat}, (∃ l, xs[k]? = some l ∧ s ∈ l) → (∀ j < k, ∀ l, xs[j]? = some l → s ∉ l) → firstIx s xs n = some ((n + k : Nat) : Int)
  | [], n, k, ⟨l, h, _⟩, _ => by simp at h
  | l :: xs, n, 0, ⟨l', h, hs⟩, _ => by
    obtain rfl : l = l' := by simpa using h
    unfold firstIx
    rw [if_pos hs]
    rfl
  | l :: xs, n, k + 1, ⟨l', h, hs⟩, hj => by
    unfold firstIx
    rw [if_neg (hj 0 (by omega) l rfl), firstIx_some (k := k) ⟨l', by simpa using h, hs⟩ fun j hjk l2 hl2 => hj (j + 1) (by omega) l2 (by simpa using hl2)]
    congr 2
    omega
theorem foundP_law : (foundP (mkD (ns, ps))).lookup s = if s ∈ (lranks ns ps).map (·.1) then some (rkv (lranks ns ps) s) else none := by
  obtain ⟨N, hN, h, hm⟩ := stg_top ns ps
  unfold foundP
  rw [stagesP_eq hN h hm]
  have := found_lookup (s := s) ((List.range (N + 1)).map (stg ns ps)) 0 []
  show (((((List.range (N + 1)).map (stg ns ps)).zipIdx 0).map fun p => ((p.2 : Int), p.1)).foldl lotStep []).lookup s = _
  rw [this]
  show firstIx s _ 0 = _
  by_cases hs : s ∈ (lranks ns ps).map (·.1)
  · rw [if_pos hs]
    obtain ⟨k, h1, h2, h3, h4⟩ := rkv_stg hs
    have hkN : k ≤ N := by
      refine Classical.byContradiction fun z => h4 N (by omega) ?_
      rw [stg_all h k (by omega)] at h3
      exact h3
    rw [h1]
    have := firstIx_some (s := s) (xs := (List.range (N + 1)).map (stg ns ps)) (n := 0) (k := k) ⟨stg ns ps k, by rw [List.getElem?_map, List.getElem?_range (by omega)]; rfl, h3⟩ fun j hj l hl => by
      rw [List.getElem?_map, List.getElem?_range (by omega)] at hl
      cases hl
      exact h4 j hj
    rw [this, Nat.zero_add]
  · rw [if_neg hs]
    refine firstIx_none fun l hl hsl => hs ?_
    obtain ⟨i, _, rfl⟩ := List.mem_map.mp hl
    exact mem_lranks.mpr (stg_sub_top hsl)
open PyProof.Rows in
theorem dle_pI {x y : Str} {a b : Int} (hne : x ≠ y) (h : PySem.W.dataLe false PyData.str x y = true) : PySem.W.dataLe false pI (x, a) (y, b) = true := by
  have hn : (Sum.inr y.cps.toList : Int ⊕ List Nat) ≠ Sum.inr x.cps.toList := fun e => hne (by
    have := Sum.inr.inj e
    cases x; cases y
    simpa using this.symm)
  have h' : (!lexLt itemOrd [Sum.inr y.cps.toList] [Sum.inr x.cps.toList]) = true := h
  rw [lex_diff (O := itemOrd) hn] at h'
  show (!lexLt itemOrd (Sum.inl 1 :: Sum.inr y.cps.toList :: _) (Sum.inl 1 :: Sum.inr x.cps.toList :: _)) = true
  rw [lex_self (O := itemOrd), lex_diff (O := itemOrd) hn]
  exact h'
theorem rkv_of {f : Rk} {r : Int} (nd : (f.map (·.1)).Nodup) (h : (s, r) ∈ f) : rkv f s = r := by
  have hm := rkv_mem (List.mem_map.mpr ⟨(s, r), h, rfl⟩ : s ∈ f.map (·.1))
  induction f with
  | nil => cases h
  | cons q f ih =>
    rw [List.map_cons] at nd
    obtain ⟨n1, n2⟩ := List.nodup_cons.mp nd
    have hcons : rkv (q :: f) s = if s = q.1 then q.2 else rkv f s := by
      obtain ⟨k, v⟩ := q
      unfold rkv
      rw [List.lookup_cons]
      by_cases e : s = k
      · subst e; simp
      · have e2 : (s == k) = false := by simpa using e
        rw [e2, if_neg e]
    rw [hcons]
    rcases List.mem_cons.mp h with e | h
    · rw [← e, if_pos rfl]
    · have hs : s ∈ f.map (·.1) := List.mem_map.mpr ⟨(s, r), h, rfl⟩
      rw [if_neg (fun e : s = q.1 => n1 (e ▸ hs))]
      exact ih n2 h (rkv_mem hs)
theorem sdI_map : ∀ {xs : List Str} {f : Str → Int}, Sd PyData.str xs → xs.Nodup → Sd pI (xs.map fun s => (s, f s))
  | [], _, _, _ => List.Pairwise.nil
  | x :: xs, f, h, nd => by
    obtain ⟨h1, h2⟩ := List.pairwise_cons.mp h
    obtain ⟨n1, n2⟩ := List.nodup_cons.mp nd
    rw [List.map_cons]
    refine List.pairwise_cons.mpr ⟨fun q hq => ?_, sdI_map h2 n2⟩
    obtain ⟨y, hy, rfl⟩ := List.mem_map.mp hq
    have hxy : x ≠ y := fun e => n1 (e ▸ hy)
    exact dle_pI hxy (h1 y hy)
theorem ranks_law (nd : ns.Nodup) : ranksP (mkD (ns, ps)) = lranks ns ps := by
  have hR := rkOk_F nd ps (ns.length + 1)
  have e1 : ranksP (mkD (ns, ps)) = ((srt PyData.str ns).filter fun s => decide (s ∈ (lranks ns ps).map (·.1))).map fun s => (s, rkv (lranks ns ps) s) := by
    unfold ranksP
    show ((srt PyData.str ns).filter _).map _ = _
    have ef : ((srt PyData.str ns).filter fun s => ((foundP (mkD (ns, ps))).lookup s).isSome) = (srt PyData.str ns).filter fun s => decide (s ∈ (lranks ns ps).map (·.1)) := List.filter_congr fun s _ => by
      rw [foundP_law]
      by_cases q : s ∈ (lranks ns ps).map (·.1) <;> simp only [q, if_true, if_false, decide_true, decide_false] <;> rfl
    rw [ef]
    refine List.map_congr_left fun s hs => ?_
    have q : s ∈ (lranks ns ps).map (·.1) := of_decide_eq_true (List.mem_filter.mp hs).2
    rw [foundP_law, if_pos q]
    rfl
  rw [e1]
  have hnd : ((srt PyData.str ns).filter fun s => decide (s ∈ (lranks ns ps).map (·.1))).Nodup := (srt_nodup.mpr nd).filter _
  have hT := sdI_map (f := rkv (lranks ns ps)) ((srt_sd PyData.str ns).sub (List.filter_sublist (p := fun s => decide (s ∈ (lranks ns ps).map (·.1))))) hnd
  have hz : (lranks ns ps).Nodup := by
    have := hR.nd
    exact (List.pairwise_map.mp this).imp fun h e => h (by rw [e])
  refine (srt_eq (xs := lrF ns ps ns.length ++ (lrLater ns ps (lrF ns ps ns.length)).map fun s => (s, ((ns.length : Nat) : Int))) (alk_pr alk_S alk_I) (eqE_pr eqE_S eqE_I) ?_ hT).symm
  refine (lrStep_perm ns ps (lrF ns ps ns.length) ns.length).symm.trans ?_
  show (lranks ns ps).Perm _
  refine (List.perm_ext_iff_of_nodup hz (map_nodup (fun a _ b _ e => by injection e) hnd)).mpr fun q => ?_
  obtain ⟨s, r⟩ := q
  constructor
  · intro h
    have hk : s ∈ (lranks ns ps).map (·.1) := List.mem_map.mpr ⟨(s, r), h, rfl⟩
    exact List.mem_map.mpr ⟨s, List.mem_filter.mpr ⟨mem_srt.mpr (hR.sub s hk), decide_eq_true hk⟩, by rw [show rkv (lranks ns ps) s = r from rkv_of hR.nd h]⟩
  · intro h
    obtain ⟨s', h1, e⟩ := List.mem_map.mp h
    cases e
    exact rkv_mem (of_decide_eq_true (List.mem_filter.mp h1).2)
end
end Gd
-- part N4
set_option Elab.async false
set_option linter.all false
set_option maxRecDepth 100000
set_option maxHeartbeats 1000000
-- part PX
set_option Elab.async false
set_option linter.all false
set_option maxRecDepth 100000
set_option maxHeartbeats 1000000
namespace Gd
open PySem PySem.Spec PyProof.Rows L2
section
variable {P : Program} {w : World} {K : PySem.W.Frag} {mg : Str → Option Value} {base : Heap} {aL : Addr} {D : Eqv} {At' : SR → Prop} {m0 : Nat}
def OwnQ (P : Program) (w : World) (K : PySem.W.Frag) (mg : Str → Option Value) (base : Heap) (m0 : Nat) (D : Eqv) : Prop := ∀ X : Cx, X.prog = P → X.w = w → X.K = K → X.mg = mg → X.base = base → ∀ j, Room j X.A → m0 ≤ j → OpR X (compareOp .Eq) (rEqG D)
theorem ownQ_of {C : Addr} {R : Addr → Addr → Hp → Prop} (c : OwnEqR P w K mg base m0 C R) : OwnQ P w K mg base m0 (DIns C R) := fun X h1 h2 h3 h4 h5 j hr hk => by
  subst h1 h2 h3 h4 h5
  exact op_eqOwn c hr hk
theorem room_u {j : Nat} {A : Around} (r : Room j A) : A.units < cLine := by have := r.un; omega
section
variable {σ : L2.St} {G H : Hp} {tv tw : TE} {R : SR} {x : Nat}
theorem sX_LT {b r : Bool} {T : String} (h : HasTy K R T) (ha : Ev b tw σ G R) (hk : PySem.W.kitAny K (.type T) [.type "list", .type "tuple"] = some r := by decide +kernel) : Ev b (tCB (rIsiTY K) (tCons tw (tCons (tTup (tCons (tC (.ty "list")) (tCons (tC (.ty "tuple")) tNil))) tNil))) σ G (B r) := ev_isiTY2 ha fun v b G H r p => ⟨.type T, .inl (h v b G H r p), hk⟩
theorem sX_LT4 {b r : Bool} {T : String} (h : HasTy K R T) (ha : Ev b tw σ G R) (hk : PySem.W.kitAny K (.type T) [.type "int", .type "list", .type "tuple", .type "dict"] = some r) : Ev b (tCB (rIsiTY K) (tCons tw (tCons (tTup (tCons (tC (.ty "int")) (tCons (tC (.ty "list")) (tCons (tC (.ty "tuple")) (tCons (tC (.ty "dict")) tNil))))) tNil))) σ G (B r) := ev_isiTY4 ha fun v b G H r p => ⟨.type T, .inl (h v b G H r p), hk⟩
theorem sX_1 {b r : Bool} {T t : String} (h : HasTy K R T) (ha : Ev b tw σ G R) (hk : kitB T t = some r := by decide +kernel) : Ev b (tCB (rIsiY K) (tCons tw (tCons (tC (.ty t)) tNil))) σ G (B r) := ev_isiY ha (tyY_ty h hk)
theorem lt4_no {T : String} (h0 : kitB T "int" = some false := by decide +kernel) (h1 : kitB T "list" = some false := by decide +kernel) (h2 : kitB T "tuple" = some false := by decide +kernel) (h3 : kitB T "dict" = some false := by decide +kernel) : PySem.W.kitAny K (.type T) [.type "int", .type "list", .type "tuple", .type "dict"] = some false := kitAny_all _ fun u hu => by
  simp only [List.mem_cons, List.not_mem_nil, or_false] at hu
  rcases hu with rfl | rfl | rfl | rfl
  · exact kit_ty h0
  · exact kit_ty h1
  · exact kit_ty h2
  · exact kit_ty h3
theorem hty_Dct {α : Type} {e : α → SR} {kvs : List (Str × α)} : HasTy K (Dct e kvs) "dict" := fun v b G H r ⟨a, vs, h1, h2, _⟩ => by
  subst h1
  rcases r a _ h2 with h | ⟨_, _, ob, h⟩
  · exact .base (.dK h)
  · exact .fDict h
end
theorem ok_sameS' {m : Nat} {Z : SR → Prop} (F : Fn K mg "_law_same" s_same ["_law_found", "_law_due"]) (T : Txt K mg aL) (q_own : OwnQ P w K mg base m0 D) (hA : ∀ R, At' R → AtOk K D R) (hm : m0 ≤ m) (c_same : C8.Cal P w K mg base m "_law_same" (sp_sameZ K Z) []) : C8.Cal P w K mg base (m + 1) "_law_same" (sp_sameZ K (SmS K At' Z)) [] := by
  refine cal_of F sc_same (fun vs H Q E h => spF_len h fun _ => rfl) (fun f cdv A outer s H vs Q E hr h => ?_)
  obtain ⟨R, G, v, w', rfl, r, hR, hv, hw, k⟩ := sp2 h fun _ => rfl
  have hu0 := room_u hr
  refine ⟨_, (pss_cons (ps_if (pt_val (pe_callB (call_isiTY (K := K)) rfl T.isinstance boot_isinstance (pa_cons (pv 1) (pa_cons (pe_tup (pa_cons (pe_bltn (v := .ty "list") rfl T.list boot_list rfl) (pa_cons (pe_bltn (v := .ty "tuple") rfl T.tuple boot_tuple rfl) pa_nil))) pa_nil)))) (pss_cons (ps_if (PW.pt (pw_or (pt_cmpR op_ne (pe_callB (call_isiY (K := K)) rfl T.isinstance boot_isinstance (pa_cons (pv 0) (pa_cons (pe_bltn (v := .ty "list") rfl T.list boot_list rfl) pa_nil))) (pe_callB (call_isiY (K := K)) rfl T.isinstance boot_isinstance (pa_cons (pv 1) (pa_cons (pe_bltn (v := .ty "list") rfl T.list boot_list rfl) pa_nil))) (nomark _)) (pw_or1 (pt_cmpR op_ne (pe_callB (call_isiY (K := K)) rfl T.isinstance boot_isinstance (pa_cons (pv 0) (pa_cons (pe_bltn (v := .ty "tuple") rfl T.tuple boot_tuple rfl) pa_nil))) (pe_callB (call_isiY (K := K)) rfl T.isinstance boot_isinstance (pa_cons (pv 1) (pa_cons (pe_bltn (v := .ty "tuple") rfl T.tuple boot_tuple rfl) pa_nil))) (nomark _))))) (pss_one (ps_ret pe_bl)) pss_nil)
      (pss_one (ps_ret (pe_and (pe_cmpR op_eq (pe_callB (call_lenK (K := K)) rfl T.len PySem.boot_len (pa_cons (pv 0) pa_nil)) (pe_callB (call_lenK (K := K)) rfl T.len PySem.boot_len (pa_cons (pv 1) pa_nil)) (nomark _)) (pe_one (pe_callB (call_allK (K := K) rfl) rfl T.all boot_all (pa_cons (pe_lc (own := [("_law_x", 2), ("_law_y", 3)]) rfl sc_same.nd (pi_zipK (K := K) rfl T.zip (pa_cons (pv 0) (pa_cons (pv 1) pa_nil))) (blkOk_by (by kernel_rfl)) (fun _ _ _ _ _ => (pg_tupK (K := K) (n := 2) rfl (pgs_cons (pg_name (i := 2) sc_same.nd rfl (by first | exact Or.inl rfl | exact Or.inr rfl)) (pgs_cons (pg_name (i := 3) sc_same.nd rfl (by first | exact Or.inl rfl | exact Or.inr rfl)) pgs_nil)))) (fun _ _ _ _ _ => pts_nil) (fun _ _ _ _ _ => (C8.pe_c c_same hr (by first | decide | omega) rfl (pa_cons (pv 2) (pa_cons (pv 3) pa_nil))))) pa_nil))))))) pss_nil)
      (pss_cons (ps_if (pt_val (pe_callB (call_isiY (K := K)) rfl T.isinstance boot_isinstance (pa_cons (pv 1) (pa_cons (pe_bltn (v := .ty "dict") rfl T.dict boot_dict rfl) pa_nil)))) (pss_one (ps_ret (pe_and (pe_callB (call_isiY (K := K)) rfl T.isinstance boot_isinstance (pa_cons (pv 0) (pa_cons (pe_bltn (v := .ty "dict") rfl T.dict boot_dict rfl) pa_nil))) (pe_one (C8.pe_c c_same hr (by first | decide | omega) rfl (pa_cons (LiI.pe_listItems rfl (pv 0) rfl T.list boot_list) (pa_cons (LiI.pe_listItems rfl (pv 1) rfl T.list boot_list) pa_nil))))))) pss_nil)
      (pss_cons (ps_if (pt_val (pe_callB (call_isiY (K := K)) rfl T.isinstance boot_isinstance (pa_cons (pv 1) (pa_cons (pe_bltn (v := .ty "int") rfl T.int boot_int rfl) pa_nil)))) (pss_one (ps_ret (pe_and (pe_callB (call_isiY (K := K)) rfl T.isinstance boot_isinstance (pa_cons (pv 0) (pa_cons (pe_bltn (v := .ty "int") rfl T.int boot_int rfl) pa_nil))) (pe_and (pe_cmpR op_eq (pe_callB (call_isiY (K := K)) rfl T.isinstance boot_isinstance (pa_cons (pv 0) (pa_cons (pe_bltn (v := .ty "bool") rfl T.bool boot_bool rfl) pa_nil))) (pe_callB (call_isiY (K := K)) rfl T.isinstance boot_isinstance (pa_cons (pv 1) (pa_cons (pe_bltn (v := .ty "bool") rfl T.bool boot_bool rfl) pa_nil))) (nomark _)) (pe_one (pe_cmpR (OpR.or op_eq (OpR.or (q_own _ rfl rfl rfl rfl rfl _ hr (by first | decide | omega)) (op_eqF (K := K) hu0))) (pv 0) (pv 1) (nomark _))))))) pss_nil)
      (pss_one (ps_ret (pe_and (pe_not (pe_callB (call_isiTY (K := K)) rfl T.isinstance boot_isinstance (pa_cons (pv 0) (pa_cons (pe_tup (pa_cons (pe_bltn (v := .ty "int") rfl T.int boot_int rfl) (pa_cons (pe_bltn (v := .ty "list") rfl T.list boot_list rfl) (pa_cons (pe_bltn (v := .ty "tuple") rfl T.tuple boot_tuple rfl) (pa_cons (pe_bltn (v := .ty "dict") rfl T.dict boot_dict rfl) pa_nil))))) pa_nil)))) (pe_one (pe_cmpR (OpR.or op_eq (OpR.or (q_own _ rfl rfl rfl rfl rfl _ hr (by first | decide | omega)) (op_eqF (K := K) hu0))) (pv 0) (pv 1) (nomark _))))))))), ?_⟩
  cases hR with
  | s x =>
    refine tq_ifF (et_B (sX_LT hty_S (ev_var rfl hw) lt2_no)) r fun G1 H1 g1 => ?_
    refine tq_ifF (et_B (sX_1 (r := false) hty_S (ev_var rfl ((S x).st g1.g hw)))) (g1.r _ r) fun G2 H2 g2 => ?_
    have g := g1.trans g2
    refine tq_ifF (et_B (sX_1 (r := false) hty_S (ev_var rfl ((S x).st g.g hw)))) (g.r _ r) fun G3 H3 g3 => ?_
    have g := g.trans g3
    exact ts_ret (Ev.eq (R' := B true) (ev_and (ev_not (sX_LT4 hty_S (ev_var rfl ((S x).st g.g hv)) lt4_no)) fun _ => ev_eqXs (R := S x) (R' := S x) (c := true) (ev_var rfl ((S x).st g.g hv)) (ev_var rfl ((S x).st g.g hw)) (fun x y G ⟨p, _⟩ ⟨q, _⟩ => by subst p q; exact ⟨rfl, by simp⟩)) (by simp)) (g.r _ r) fun u G4 H4 g4 p => k u G4 H4 (g.trans g4) p
  | i x =>
    refine tq_ifF (et_B (sX_LT hty_I (ev_var rfl hw) lt2_no)) r fun G1 H1 g1 => ?_
    refine tq_ifF (et_B (sX_1 (r := false) hty_I (ev_var rfl ((I x).st g1.g hw)))) (g1.r _ r) fun G2 H2 g2 => ?_
    have g := g1.trans g2
    refine ts_ifT (t := tRet _) (et_B (sX_1 (r := true) hty_I (ev_var rfl ((I x).st g.g hw)))) (g.r _ r) fun G3 H3 g3 => ?_
    have g := g.trans g3
    exact ts_ret (Ev.eq (R' := B true) (ev_and (sX_1 (r := true) hty_I (ev_var rfl ((I x).st g.g hv))) fun _ => ev_and (ev_eqB (sX_1 (r := false) hty_I (ev_var rfl ((I x).st g.g hv))) (sX_1 (r := false) hty_I (ev_var rfl ((I x).st g.g hw)))) fun _ => ev_eqXs (R := I x) (R' := I x) (c := true) (ev_var rfl ((I x).st g.g hv)) (ev_var rfl ((I x).st g.g hw)) (fun a b G p q => by
      obtain rfl : a = .int x := p
      obtain rfl : b = .int x := q
      exact ⟨rfl, by simp⟩)) (by simp)) (g.r _ r) fun u G4 H4 g4 p => k u G4 H4 (g.trans g4) p
  | b x =>
    refine tq_ifF (et_B (sX_LT hty_B (ev_var rfl hw) lt2_no)) r fun G1 H1 g1 => ?_
    refine tq_ifF (et_B (sX_1 (r := false) hty_B (ev_var rfl ((B x).st g1.g hw)))) (g1.r _ r) fun G2 H2 g2 => ?_
    have g := g1.trans g2
    refine ts_ifT (t := tRet _) (et_B (sX_1 (r := true) hty_B (ev_var rfl ((B x).st g.g hw)))) (g.r _ r) fun G3 H3 g3 => ?_
    have g := g.trans g3
    exact ts_ret (Ev.eq (R' := B true) (ev_and (sX_1 (r := true) hty_B (ev_var rfl ((B x).st g.g hv))) fun _ => ev_and (ev_eqB (sX_1 (r := true) hty_B (ev_var rfl ((B x).st g.g hv))) (sX_1 (r := true) hty_B (ev_var rfl ((B x).st g.g hw)))) fun _ => ev_eqXs (R := B x) (R' := B x) (c := true) (ev_var rfl ((B x).st g.g hv)) (ev_var rfl ((B x).st g.g hw)) (fun a b G p q => by
      obtain rfl : a = .bl x := p
      obtain rfl : b = .bl x := q
      exact ⟨rfl, by simp⟩)) (by simp)) (g.r _ r) fun u G4 H4 g4 p => k u G4 H4 (g.trans g4) p
  | a h =>
    have A0 := hA R h
    refine tq_ifF (et_B (ev_isiTY2 (r := false) (ev_var rfl hw) fun v b G H r p => ?_)) r fun G1 H1 g1 => ?_
    · obtain ⟨t, h1, h2, h3, h4, h5⟩ := A0.ty v b G H r p
      exact ⟨t, h1, kitAny_all _ fun u hu => by
        simp only [List.mem_cons, List.not_mem_nil, or_false] at hu
        rcases hu with rfl | rfl
        · exact h3
        · exact h4⟩
    refine tq_ifF (et_B (ev_isiY (r := false) (ev_var rfl (R.st g1.g hw)) fun v b G H r p => ?_)) (g1.r _ r) fun G2 H2 g2 => ?_
    · obtain ⟨t, h1, h2, h3, h4, h5⟩ := A0.ty v b G H r p
      exact ⟨t, h1, h5⟩
    have g := g1.trans g2
    refine tq_ifF (et_B (ev_isiY (r := false) (ev_var rfl (R.st g.g hw)) fun v b G H r p => ?_)) (g.r _ r) fun G3 H3 g3 => ?_
    · obtain ⟨t, h1, h2, h3, h4, h5⟩ := A0.ty v b G H r p
      exact ⟨t, h1, h2⟩
    have g := g.trans g3
    refine ts_ret (Ev.eq (R' := B true) (ev_and (ev_not (ev_isiTY4 (r := false) (ev_var rfl (R.st g.g hv)) fun v b G H r p => ?_)) fun _ => ev_eqX A0 (ev_var rfl (R.st g.g hv)) (ev_var rfl (R.st g.g hw))) (by simp)) (g.r _ r) fun u G4 H4 g4 p => k u G4 H4 (g.trans g4) p
    obtain ⟨t, h1, h2, h3, h4, h5⟩ := A0.ty v b G H r p
    exact ⟨t, h1, kitAny_all _ fun u hu => by
      simp only [List.mem_cons, List.not_mem_nil, or_false] at hu
      rcases hu with rfl | rfl | rfl | rfl
      · exact h2
      · exact h3
      · exact h4
      · exact h5⟩
  | l hx =>
    rename_i α e xs
    refine ts_ifT (et_B (sX_LT (r := true) hty_lst (ev_var rfl hw) lt2_list)) r fun G1 H1 g1 => ?_
    have hv1 := (Lst e xs).st g1.g hv
    have hw1 := (Lst e xs).st g1.g hw
    refine tq_ifF (EvT.eq (et_or (et_test (ev_neB (sX_1 (r := true) hty_lst (ev_var rfl hv1)) (sX_1 (r := true) hty_lst (ev_var rfl hw1)))) fun _ => et_test (ev_neB (sX_1 (r := false) hty_lst (ev_var rfl hv1)) (sX_1 (r := false) hty_lst (ev_var rfl hw1)))) (by simp)) (g1.r _ r) fun G2 H2 g2 => ?_
    have hv2 := (Lst e xs).st g2.g hv1
    have hw2 := (Lst e xs).st g2.g hw1
    have g := g1.trans g2
    refine ts_ret (Ev.eq (R' := B true) (ev_and (ev_eqI (ev_len (Ev.sqL (ev_var rfl hv2))) (ev_len (Ev.sqL (ev_var rfl hw2)))) fun _ => ev_allL (p := fun _ => true) (en_map (ei_zipL (ev_var rfl hv2) (ev_var rfl hw2)) fun p hp y G' s hy => ?_)) (by rw [zip_all]; simp)) (g.r _ r) fun u G4 H4 g4 p => k u G4 H4 (g.trans g4) p
    obtain ⟨a, v1, v2, rfl, hT, h1, h2⟩ := hy
    obtain ⟨e1, e2⟩ := zip_mem hp
    rw [← e1] at h2
    exact ⟨_, gto_tup2 hT, rfl, ev_call (e p.1) (ea_cons (ev_var rfl h1) (ea_cons (ev_var rfl h2) ea_nil)) (hx _ e2)⟩
  | t hx =>
    rename_i α e xs
    refine ts_ifT (et_B (sX_LT (r := true) hty_tpl (ev_var rfl hw) lt2_tuple)) r fun G1 H1 g1 => ?_
    have hv1 := (Tpl K e xs).st g1.g hv
    have hw1 := (Tpl K e xs).st g1.g hw
    refine tq_ifF (EvT.eq (et_or (et_test (ev_neB (sX_1 (r := false) hty_tpl (ev_var rfl hv1)) (sX_1 (r := false) hty_tpl (ev_var rfl hw1)))) fun _ => et_test (ev_neB (sX_1 (r := true) hty_tpl (ev_var rfl hv1)) (sX_1 (r := true) hty_tpl (ev_var rfl hw1)))) (by simp)) (g1.r _ r) fun G2 H2 g2 => ?_
    have hv2 := (Tpl K e xs).st g2.g hv1
    have hw2 := (Tpl K e xs).st g2.g hw1
    have g := g1.trans g2
    refine ts_ret (Ev.eq (R' := B true) (ev_and (ev_eqI (ev_len (Ev.sqT (ev_var rfl hv2))) (ev_len (Ev.sqT (ev_var rfl hw2)))) fun _ => ev_allL (p := fun _ => true) (en_map (ei_zipT (ev_var rfl hv2) (ev_var rfl hw2)) fun p hp y G' s hy => ?_)) (by rw [zip_all]; simp)) (g.r _ r) fun u G4 H4 g4 p => k u G4 H4 (g.trans g4) p
    obtain ⟨a, v1, v2, rfl, hT, h1, h2⟩ := hy
    obtain ⟨e1, e2⟩ := zip_mem hp
    rw [← e1] at h2
    exact ⟨_, gto_tup2 hT, rfl, ev_call (e p.1) (ea_cons (ev_var rfl h1) (ea_cons (ev_var rfl h2) ea_nil)) (hx _ e2)⟩
  | p h1 h2 =>
    rename_i α β e' f' x
    have hv := pr_tpl hv
    have hw := pr_tpl hw
    have hx : ∀ i ∈ [false, true], Z (prE e' f' x i) := fun i hi => by
      cases i with
      | false => exact h1
      | true => exact h2
    generalize prE e' f' x = e at hv hw hx
    generalize [false, true] = xs at hv hw hx
    refine ts_ifT (et_B (sX_LT (r := true) hty_tpl (ev_var rfl hw) lt2_tuple)) r fun G1 H1 g1 => ?_
    have hv1 := (Tpl K e xs).st g1.g hv
    have hw1 := (Tpl K e xs).st g1.g hw
    refine tq_ifF (EvT.eq (et_or (et_test (ev_neB (sX_1 (r := false) hty_tpl (ev_var rfl hv1)) (sX_1 (r := false) hty_tpl (ev_var rfl hw1)))) fun _ => et_test (ev_neB (sX_1 (r := true) hty_tpl (ev_var rfl hv1)) (sX_1 (r := true) hty_tpl (ev_var rfl hw1)))) (by simp)) (g1.r _ r) fun G2 H2 g2 => ?_
    have hv2 := (Tpl K e xs).st g2.g hv1
    have hw2 := (Tpl K e xs).st g2.g hw1
    have g := g1.trans g2
    refine ts_ret (Ev.eq (R' := B true) (ev_and (ev_eqI (ev_len (Ev.sqT (ev_var rfl hv2))) (ev_len (Ev.sqT (ev_var rfl hw2)))) fun _ => ev_allL (p := fun _ => true) (en_map (ei_zipT (ev_var rfl hv2) (ev_var rfl hw2)) fun p hp y G' s hy => ?_)) (by rw [zip_all]; simp)) (g.r _ r) fun u G4 H4 g4 p => k u G4 H4 (g.trans g4) p
    obtain ⟨a, v1, v2, rfl, hT, h1, h2⟩ := hy
    obtain ⟨e1, e2⟩ := zip_mem hp
    rw [← e1] at h2
    exact ⟨_, gto_tup2 hT, rfl, ev_call (e p.1) (ea_cons (ev_var rfl h1) (ea_cons (ev_var rfl h2) ea_nil)) (hx _ e2)⟩
  | d h1 h2 =>
    rename_i α e kvs
    refine tq_ifF (et_B (sX_LT hty_Dct (ev_var rfl hw) lt2_no)) r fun G1 H1 g1 => ?_
    have hv1 := (Dct e kvs).st g1.g hv
    have hw1 := (Dct e kvs).st g1.g hw
    refine tq_if (v := true) (et_B (sX_1 (r := true) hty_Dct (ev_var rfl hw1))) (g1.r _ r) (fun _ G2 H2 g2 => ?_) fun h => by cases h
    have hv2 := (Dct e kvs).st g2.g hv1
    have hw2 := (Dct e kvs).st g2.g hw1
    have g := g1.trans g2
    exact ts_ret (Ev.eq (R' := B true) (ev_and (sX_1 (r := true) hty_Dct (ev_var rfl hv2)) fun _ => ev_call (ι := SR) (Lst (Pr K S e) kvs) (ea_cons (EvN.ev (en_listItems (ev_var rfl hv2) h1)) (ea_cons (EvN.ev (en_listItems (ev_var rfl hw2) h1)) ea_nil)) h2) (by simp)) (g.r _ r) fun u G4 H4 g4 p => k u G4 H4 (g.trans g4) p
theorem ok_sameX (F : Fn K mg "_law_same" s_same ["_law_found", "_law_due"]) (T : Txt K mg aL) (q_own : OwnQ P w K mg base m0 D) (hA : ∀ R, At' R → AtOk K D R) : ∀ n, C8.Cal P w K mg base (m0 + n + 1) "_law_same" (sp_sameX K At' n) []
  | 0 => cal_of F sc_same (fun vs H Q E h => spF_len h fun _ => rfl) (fun f cdv A outer s H vs Q E hr h => by
    obtain ⟨R, G, v, w', rfl, r, hR, _⟩ := sp2 h fun _ => rfl
    exact hR.elim)
  | n + 1 => ok_sameS' F T q_own hA (by omega) (ok_sameX F T q_own hA n)
end
end Gd
-- part Gd59
set_option Elab.async false
set_option linter.all false
set_option maxRecDepth 100000
set_option maxHeartbeats 1000000
namespace Gd
open PySem PySem.Spec PyProof.Rows L2
universe u
section
variable {K : PySem.W.Frag} {W : SC} {O O' L : Own} {n k m l : Nat} {G0 G G2 H H2 : Hp} {Rs Rs' : RL} {R R1 R2 : SR} {te ta tb tc to : TE} {tr : TA} {t u : TS} {E : Ends} {α β : Type} {e : α → SR} {xs : List α} {p z : Addr} {i j : Nat}
theorem eg_lendS {ρ : Type} {tt : L2.St → Hp → (ρ → Hp → Prop) → Prop} {P : ρ → Hp → Prop} (L : Own) (hc : ∀ G, (∀ q ∈ L, ∃ o, G q.1 = some o ∧ q.2.p o G) → Slk G Rs Rs') (hP : ∀ v G G', P v G → P v G') (h : ∀ F, EG W (exAll F O) k tt Rs' P) : EG W (L ++ O) k tt Rs P := fun σ G H n Q sl w hn kk => by
  have w0 := w.exact
  rw [exAll_app] at w0
  obtain ⟨Gf, s3, w3, h3⟩ := w0.freezeAll
  refine h (fun a => (H a).getD (.lst [])) σ _ H n _ ((sl.st s3).weak (hc Gf fun q hq => ?_)) w3 hn fun v G2 H2 s2 w2 pv => ?_
  · obtain ⟨o, _, h2, _, h4⟩ := h3 (q.1, exO ((H q.1).getD (.lst [])) q.2) (List.mem_map.mpr ⟨q, hq, rfl⟩)
    exact ⟨o, h2, h4⟩
  · have sG : Same G G2 := s3.trans s2
    refine kk v G H2 (Same.refl G) ⟨fun a u e => .inl (w2.r.ex (sG a u e)), w.nt, w2.tb, ?_, w.nd, fun q hq => ?_⟩ (hP _ _ _ pv)
    · obtain ⟨d1, d2, d3, d4⟩ := w2.d
      exact ⟨d1, w.d.gs, w.d.gc, d4⟩
    · obtain ⟨q1, q2, q3, ho, q4, q5, q6⟩ := w.o q hq
      refine ⟨q1, q2, q3, ho, ?_, q5, q6⟩
      rcases List.mem_append.mp hq with hq | hq
      · obtain ⟨o, z1, z2, z3, _⟩ := h3 (q.1, exO ((H q.1).getD (.lst [])) q.2) (List.mem_map.mpr ⟨q, hq, rfl⟩)
        rw [q4] at z1
        cases z1
        exact w2.r.ex (s2 _ _ z2)
      · obtain ⟨_, _, _, ho', z4, _, z6, _⟩ := w2.o (q.1, exO ((H q.1).getD (.lst [])) q.2) (List.mem_map.mpr ⟨q, hq, rfl⟩)
        rw [z4, z6, q4]
        rfl
theorem etl_lendS {tt : TT} {b : Bool} {O2 : Own} (L : Own) (hO : O2 = L ++ O) (hc : ∀ G, (∀ q ∈ L, ∃ o, G q.1 = some o ∧ q.2.p o G) → Slk G Rs Rs') (h : ∀ F, ETL W (exAll F O) k tt Rs' b) : ETL W O2 k tt Rs b := hO ▸ eg_lendS L hc (fun _ _ _ h => h) h
theorem hl_know {ns : List Str} (i : Nat) (hi : Rs[i]? = some (some (Lst S ns))) (q : (∀ s ∈ ns, okS s = true) → HL W G0 n O Rs t E) : HL W G0 n O Rs t E := fun σ H ⟨G, s, sl, w⟩ => by
  obtain ⟨v, _, a, vs, _, _, _, h⟩ := sl.get i _ hi
  refine q (fun s hs => ?_) σ H ⟨G, s, sl, w⟩
  obtain ⟨k, hk⟩ := List.getElem?_of_mem hs
  obtain ⟨u, _, hu⟩ := h.get' hk
  exact hu.2
theorem eal_XX {A B' : Type} {P : A → Prop} {P' : B' → Prop} {f : A → SR} {g : B' → SR} (h1 : EL W O k ta Rs (ExR P f)) (h2 : EL W O m tb Rs (ExR P' g)) : EG W O (k + m) (tCons ta (tCons tb tNil)) Rs (fun vs G => ∃ q : A × B', (P q.1 ∧ P' q.2) ∧ AlR [f q.1, g q.2] vs G) := fun σ G H n Q sl w hn kk =>
  h1 σ G H n _ sl w (by omega) fun v G2 H2 s2 w2 ⟨a, pa, pv⟩ => h2 σ G2 H2 (n + k) _ (sl.st s2) w2 (by omega) fun u G3 H3 s3 w3 ⟨b, pb, pu⟩ => kk [v, u] G3 H3 (s2.trans s3) (w3.eq (by omega)) ⟨(a, b), ⟨pa, pb⟩, .cons ((f a).st s3 pv) (.cons pu .nil)⟩
theorem elo_dct {kvs : List (Str × α)} (h : ELO W O k te Rs (ODct e kvs)) : EL W O k te Rs (Dct e kvs) := fun σ G H n Q sl w hn kk => h σ G H n _ sl w hn fun p G2 H2 s2 w2 => by
  obtain ⟨o, h1, h2, s3, w3⟩ := w2.freeze
  exact kk (.ref p) _ H2 (s2.trans s3) w3 (od_dct o _ ((ODct e kvs).st s3 h2) upd_same)
theorem el_dget1 {kvs : List (Str × β)} {er : β → SR} {s : Str} (h1 : EL W O k ta Rs (Dct er kvs)) (h2 : EL W O m tb Rs (S s)) : EL W O (k + m) (tDGet1 ta tb) Rs (Op er (kvs.lookup s)) := fun σ G H n Q sl w hn kk => by
  refine h1 σ G H n _ sl w (by omega) fun x G1 H1 s1 w1 ⟨d, ws, e1, e2, e3, al⟩ => ?_
  subst e1
  refine ⟨d, rfl, .inl ⟨_, .inl (w1.r.ex e2)⟩, h2 σ G1 H1 (n + k) _ (sl.st s1) w1 (by omega) fun y G3 H3 s3 w3 ⟨ey, _⟩ => ?_⟩
  subst ey
  refine ⟨_, .inl ⟨ws, Sum.inr s, .inl (w3.r.ex (s3 _ _ e2)), rfl, rfl⟩, ?_⟩
  have al3 := al.st s3
  cases q : kvs.lookup s with
  | some b =>
    obtain ⟨v, q1, q2⟩ := al3.val q
    rw [q1]
    refine kk v G3 H3 (s1.trans s3) (w3.eq (by omega)) ?_
    rw [q]
    exact q2
  | none =>
    rw [al3.valNone q]
    refine kk .non G3 H3 (s1.trans s3) (w3.eq (by omega)) ?_
    rw [q]
    rfl
theorem eln_twice {a : α} (ha : EL W O k ta Rs (Lst e [a])) : ELN W O k (tOp L2.rRep ta (tC (.int 2))) Rs e [a, a] := eln_f1 (fun x => tOp L2.rRep x (tC (.int 2))) ha fun v σ G p => en_op (ev_cR' p) ev_int fun x y G1 H1 _ rr p q Q k => by
  obtain ⟨ad, vs, rfl, h1, h2, h3⟩ := p
  obtain rfl : y = _ := q
  have hlen := h3.len
  have : sizeLine = 16777216 := sizeLine_eq
  refine ⟨ad, 2, vs, rfl, rfl, rr.at h1 rfl, by decide, by decide, by rw [hlen, this]; show 1 * 2 ≤ 16777216; decide, fun p hp => ?_⟩
  refine k p (vs ++ vs) G1 _ (Go.own rr hp) hp (rr.free hp) ?_ ?_ (h3.app h3)
  · rw [upd_same]
    show some (HO.lst (List.replicate 2 vs).flatten) = _
    simp [List.replicate]
  · rw [List.length_append, hlen, this]; show 1 + 1 ≤ 16777216; decide
end
end Gd
-- part F1a
set_option Elab.async false
set_option linter.all false
set_option maxRecDepth 100000
set_option maxHeartbeats 1000000
namespace Gd
open PySem PySem.Spec PyProof.Rows L2
abbrev s_Debate_eq : Stmt := inClass (topS 18) 4
theorem sc_Debate_eq : FnScope ["self", "other"] ["self", "other"] (defScope s_Debate_eq) := ⟨rfl, rfl, rfl, by decide +kernel, rfl, by decide +kernel, by decide +kernel⟩
section
variable {P : Program} {w : World} {K : PySem.W.Frag} {mg : Str → Option Value} {base : Heap} {aL : Addr}
theorem hty_ins {C : Addr} {L : List (Str × SR)} (IC : C8.InsC K C) {v : V} {G H : Hp} {b : Bool} (r : Rel b G H) (h : (InsR C L).p v G) : TyX K H v (.ref C) := by
  obtain ⟨a, dx, fs, rfl, h2, _⟩ := h
  exact .base (.ins (r.at h2 rfl) IC.cl IC.ha IC.hn IC.htk IC.hm)
def DEq (K : PySem.W.Frag) (C : Addr) : Addr → Addr → Hp → Prop := fun a b H => ∃ d G, Rel true G H ∧ (DB K C d).p (.ref a) G ∧ (DB K C d).p (.ref b) G
theorem ok_Debate_eqD {C f : Addr} {fd : FuncData} (F : L2.Fun K "__eq__" "Debate.__eq__" s_Debate_eq f fd) (T : Txt K mg aL) (DC : DCls K C) (v_Debate : ∃ u, mg "Debate" = some u ∧ RelV (.ref C) u) (IC : C8.InsC K C) (hk : PySem.W.kitOne K (.ref C) (.ref C) = some true) : FnOk P w K mg base C8.CX0 5 f fd ["self", "other"] (spEq (DEq K C)) := by
  refine F.ok sc_Debate_eq (fun vs H Q E h => ?_) (fun cdv A outer s H vs Q E hr h => ?_)
  · obtain ⟨a, b, rfl, _⟩ := h
    rfl
  · obtain ⟨a, b, rfl, ⟨d, G, r, hu, hv⟩, q⟩ := h
    have hu64 := hu64_of hr
    refine ⟨_, (pss_cons (ps_if (pt_not (pt_val (pe_callB (call_isiKK (K := K)) rfl T.isinstance boot_isinstance (pa_cons (pv 1) (pa_cons (C8.pe_gc rfl v_Debate) pa_nil))))) (pss_one (ps_ret pe_bl)) pss_nil)
      (pss_one (ps_ret (pe_and (pe_cmpR (op_eqDK (K := K) hu64) (pe_fldK (K := K) (pv 0) rfl) (pe_fldK (K := K) (pv 1) rfl) (nomark _)) (pe_one (pe_cmpR (op_eqDK (K := K) hu64) (pe_fldK (K := K) (pv 0) rfl) (pe_fldK (K := K) (pv 1) rfl) (nomark _))))))), ?_⟩
    refine tq_ifF (EvT.eq (et_not (et_B (c := true) (fun G1 H1 a1 r1 Q k => ?_))) rfl) r fun G1 H1 g1 => ?_
    · exact ⟨_, rfl, .ref b, .ref C, .ref C, .ref C, true, rfl, .own C, hty_ins IC r1 ((DB K C d).st a1 hv), hk, k _ G1 H1 (Go.refl _ _) rfl⟩
    have hu1 := (DB K C d).st g1.g hu
    have hv1 := (DB K C d).st g1.g hv
    exact ts_ret (Ev.eq (R' := B true) (ev_and (ev_eqD (e := Lst S) (c := fun xs => .list (xs.map PyData.str)) (x := d.1) (y := d.1) (ev_dbS DC (ev_var (i := 0) rfl hu1)) (ev_dbS DC (ev_var (i := 1) rfl hv1)) (enc_lst enc_S) (eqE_lst eqE_S)) fun _ => ev_eqD (e := Lst (PP K)) (c := fun xs => .list (xs.map pT)) (x := d.2) (y := d.2) (ev_dbO DC (ev_var (i := 0) rfl hu1)) (ev_dbO DC (ev_var (i := 1) rfl hv1)) (enc_lst (enc_pr enc_S enc_S)) (eqE_lst (eqE_pr eqE_S eqE_S))) (by simp)) (g1.r _ r) fun u G2 H2 g2 p => by
      obtain rfl : u = .bl true := p
      exact q H2 (g1.h.trans g2.h)
inductive AtD (K : PySem.W.Frag) (C : Addr) : SR → Prop
  | n : AtD K C N
  | u (d : Deb) : AtD K C (DB K C d)
theorem atD_ok {C : Addr} (IC : C8.InsC K C) (hint : PySem.W.kitOne K (.ref C) (.type "int") = some false) (hlist : PySem.W.kitOne K (.ref C) (.type "list") = some false) (htup : PySem.W.kitOne K (.ref C) (.type "tuple") = some false) (hdict : PySem.W.kitOne K (.ref C) (.type "dict") = some false) : ∀ R, AtD K C R → AtOk K (DIns C (DEq K C)) R := fun R h => by
  cases h with
  | n => exact ⟨fun v b G H r p => ⟨.type "NoneType", .inl (hty_N v b G H r p), kit_ty (b := "int") (r := false) (by decide +kernel), kit_ty (b := "list") (r := false) (by decide +kernel), kit_ty (b := "tuple") (r := false) (by decide +kernel), kit_ty (b := "dict") (r := false) (by decide +kernel)⟩, fun u v G H r p q => .inl (by
      obtain rfl : u = .non := p
      obtain rfl : v = .non := q
      exact ⟨rfl, rfl⟩)⟩
  | u d => exact ⟨fun v b G H r p => ⟨.ref C, .inl (hty_ins IC r p), hint, hlist, htup, hdict⟩, fun u v G H r p q => .inr (.inl (by
      obtain ⟨a, dx, fs, rfl, h1, h2⟩ := id p
      obtain ⟨a', dx', fs', rfl, h1', h2'⟩ := id q
      exact ⟨a, a', dx, dx', fs, fs', rfl, rfl, r.at h1 rfl, r.at h1' rfl, d, G, r, p, q⟩))⟩
end
section
variable {K : PySem.W.Frag} {C : Addr}
theorem el_sameD {W : SC} {O : Own} {k m n : Nat} {Rs : RL} {R : SR} {ta tb : TE} {E : XK} {At' : SR → Prop} (h1 : EL W O k ta Rs R) (h2 : EL W O m tb Rs R) (hs : SmN K At' n R) : EL W O (k + (m + 0)) (tCall (sp_sameX K At' n) [] E (tCons ta (tCons tb tNil))) Rs (B true) := el_call (ι := SR) (pre := fun R : SR => [R, R]) (ok := SmN K At' n) (post := fun _ => B true) R (eal_cons h1 (eal_cons h2 eal_nil)) hs
theorem mkD_perm {ns ns' : List Str} {ps ps' : List (Str × Str)} (h1 : ns'.Perm ns) (h2 : ps'.Perm ps) : mkD (ns', ps') = mkD (ns, ps) := by
  unfold mkD
  rw [srt_congr alk_S eqE_S h1, srt_congr (alk_pr alk_S alk_S) (eqE_pr eqE_S eqE_S) h2]
theorem okD_perm {ns ns' : List Str} {ps ps' : List (Str × Str)} (h1 : ns'.Perm ns) (h2 : ps'.Perm ps) (h : okD (ns, ps)) : okD (ns', ps') := by
  obtain ⟨⟨a1, a2, a3⟩, a4, a5, a6⟩ := h
  exact ⟨⟨fun x hx => a1 x (h1.mem_iff.mp hx), h1.nodup_iff.mpr a2, by show ns'.length ≤ 1000; rw [h1.length_eq]; exact a3⟩, h2.nodup_iff.mpr a4, fun p hp => ⟨h1.mem_iff.mpr (a5 p (h2.mem_iff.mp hp)).1, h1.mem_iff.mpr (a5 p (h2.mem_iff.mp hp)).2⟩, by show ps'.length ≤ 10000; rw [h2.length_eq]; exact a6⟩
theorem el_mkDX {W : SC} {O : Own} {k : Nat} {Rs : RL} {ta : TA} {E : XK} {A : Type} {P : A → Prop} {f : A → Deb} {d : Deb} (ha : EG W O k ta Rs (fun vs G => ∃ a, P a ∧ AlR [Sq K S (f a).1, Sq K (Pq K) (f a).2] vs G)) (hi : ∀ a, P a → okD (f a) ∧ mkD (f a) = d) : EL W O k (tMake C (sp_initD K C W.tb) [] E ta) Rs (DB K C d) := fun σ G H n Q sl w hn kk =>
  ha σ G H n _ sl w hn fun vs G2 H2 s2 w2 ⟨a, pa, al⟩ => by
    obtain ⟨v, w', rfl, hv, hw⟩ := alr2 al
    obtain ⟨h1, h2⟩ := hi a pa
    intro x dx nx ndx hne
    refine ⟨f a, W.s, W.c, n + k, O, G2, x, v, w', rfl, w2.fresh (w2.go (Go.made w2.r nx ndx)) (Nw.of nx) (w2.r.free nx) upd_same rfl ⟨dx, [], rfl, Nat.le_refl _, fun q hq => by cases hq⟩, hn, h1, hv, hw, fun G3 H3 s3 w3 hu => ⟨rfl, ?_⟩⟩
    rw [h2] at hu
    exact kk _ G3 H3 (s2.trans s3) w3 hu
theorem elo_ranks {W : SC} {O : Own} {k : Nat} {Rs : RL} {ta : TE} {E : XK} {d : Deb} (h : EL W O k ta Rs (DB K C d)) (hd : okB d) : ELO W O (k + 0) (tCall (sp_known_ranks K C W.tb) [] E (tCons ta tNil)) Rs (ODct I (ranksP d)) := elo_callm (ι := Deb) (pre := fun d => [DB K C d]) (ok := okB) (post := fun d => ODct I (ranksP d)) d (eal_cons h eal_nil) hd
theorem el_made' {W : SC} {O : Own} {k : Nat} {Rs : RL} {ta : TE} {E : XK} {i : Deb} {j : Nat} (hs : Rs[j]? = some (some (cst (.ref W.s)))) (h : EL W O k ta Rs (DR K i)) (hi : okD i) : EL W O (k + 0 + (i.2.length + 2)) (tCall (sp_rk_made K C W.tb) [] E (tCons (tVar j) (tCons ta tNil))) Rs (DB K C (mkD i)) := el_calll (ι := Deb) (pre := fun i => [DR K i]) (ok := okD) (cost := fun i => i.2.length + 2) (post := fun i => DB K C (mkD i)) i hs (eal_cons h eal_nil) hi
theorem el_rkr {W : SC} {O : Own} {k m : Nat} {Rs : RL} {ta tb : TE} {E : XK} {ns : List Str} {ps : List (Str × Str)} (h : EL W O k ta Rs (Lst S ns)) (h2 : EL W O m tb Rs (Lst (PP K) ps)) (hn : okN ns) : EL W O (k + (m + 0)) (tCall (sp_rk_ranks K W.tb) [] E (tCons ta (tCons tb tNil))) Rs (Dct I (lranks ns ps)) := el_callm (ι := Deb) (pre := fun i => [Lst S i.1, Lst (PP K) i.2]) (ok := fun i => okN i.1) (post := fun i => Dct I (lranks i.1 i.2)) (ns, ps) (eal_cons h (eal_cons h2 eal_nil)) hn
theorem el_rkd {W : SC} {O : Own} {Rs : RL} {E : XK} {j : Nat} {z : Nat} (hs : Rs[j]? = some (some (cst (.ref W.s)))) (h1 : 0 < z) (h2 : z ≤ 9) : EL W O (0 + 0 + 1100) (tCall (sp_rk_debate K W.tb) [] E (tCons (tVar j) (tCons (tC (.int (z : Nat))) tNil))) Rs (ExR (fun i => okR z i ∧ 0 < i.1.length ∧ goodN i.1) (DR K)) := el_calll (ι := Nat) (pre := fun m => [I m]) (ok := fun m => 0 < m ∧ m ≤ 9) (cost := fun _ => 1100) (post := fun m => ExR (fun i => okR m i ∧ 0 < i.1.length ∧ goodN i.1) (DR K)) z hs (eal_cons el_int eal_nil) ⟨h1, h2⟩
end
end Gd
-- part L0
set_option Elab.async false
set_option linter.all false
set_option maxRecDepth 100000
set_option maxHeartbeats 1000000
namespace Gd
open PySem PySem.Spec PyProof.Rows L2
universe u
section
variable {K : PySem.W.Frag} {W : SC} {O : Own} {n k m : Nat} {G0 : Hp} {Rs : RL} {R : SR} {te ta tb to : TE} {t u : TS} {E : Ends} {α : Type} {e : α → SR} {ws : List α} {xs ys : List Str} {p : Addr} {i j : Nat}
theorem eln_lendS (hi : Rs[i]? = some (some (cst (.ref p)))) (h : ∀ F, ELN W (exAll F O) k te (Rs.set i (some (Lst S xs))) S ys) : ELN W ((p, OL S xs) :: O) k te Rs S ys := fun σ G H n Q sl w hn kk => by
  have w0 := w.exact
  obtain ⟨o, h1, ⟨h2a, h2⟩, s3, w3⟩ := w0.freeze
  refine h (fun a => (H a).getD (.lst [])) σ _ H n _ ((sl.st s3).conv hi fun v hv => ?_) w3 hn fun q G2 H2 s2 w2 => ?_
  · obtain rfl : v = .ref p := hv
    exact ol_lst o _ ((OL S xs).st s3 h2) upd_same
  · have sG : Same G G2 := s3.trans s2
    have hp2 : G2 p = some o := s2 _ _ upd_same
    have hmap : (exAll (fun a => (H a).getD (.lst [])) O).map (·.1) = O.map (·.1) := by
      unfold exAll
      rw [List.map_map]
      rfl
    obtain ⟨q1, q2, q3, oq, q4, q5, vs, rfl, q6, q7⟩ := w2.o _ (List.mem_cons_self ..)
    have q3 : G2 q = none := q3
    have hqp : q ≠ p := fun z => by rw [z, hp2] at q3; cases q3
    have hqO : q ∉ O.map (·.1) := by
      have := (List.nodup_cons.mp w2.nd).1
      rwa [hmap] at this
    have hqG : G q = none := by
      cases e : G q with
      | none => rfl
      | some u => have := sG _ _ e; rw [q3] at this; cases this
    refine kk q G H2 (Same.refl G) ⟨fun a u e => .inl (w2.r.ex (sG a u e)), w.nt, w2.tb, ?_, ?_, fun z hz => ?_⟩
    · obtain ⟨d1, d2, d3, d4⟩ := w2.d
      exact ⟨d1, w.d.gs, w.d.gc, d4⟩
    · refine List.nodup_cons.mpr ⟨fun hm => ?_, w.nd⟩
      rcases List.mem_cons.mp hm with hm | hm
      · exact hqp hm
      · exact hqO hm
    · rcases List.mem_cons.mp hz with rfl | hz
      · exact ⟨q1, q2, hqG, _, q4, q5, vs, rfl, q6, al_S q7⟩
      · obtain ⟨z1, z2, z3, ho, z4, z5, z6⟩ := w.o z hz
        refine ⟨z1, z2, z3, ho, ?_, z5, z6⟩
        rcases List.mem_cons.mp hz with rfl | hz
        · rw [h1] at z4
          cases z4
          exact w2.r.ex hp2
        · obtain ⟨_, _, _, ho', y4, _, y6, _⟩ := w2.o (z.1, exO ((H z.1).getD (.lst [])) z.2) (List.mem_cons_of_mem _ (List.mem_map.mpr ⟨z, hz, rfl⟩))
          rw [y4, y6, z4]
          rfl
theorem hl_retOD {Ro : OR} (hi : Rs[i]? = some (some (cst (.ref p)))) (q : ∀ G H, Same G0 G → Wd W n ((p, Ro) :: O) G H → E.rt (.ref p) H) : HL W G0 n ((p, Ro) :: O) Rs (tRet (tVar i)) E := fun σ H ⟨G, s, sl, w⟩ => by
  obtain ⟨v, h1, h2⟩ := sl.get i _ hi
  obtain rfl : v = .ref p := h2
  exact ⟨_, h1, q G H s w⟩
end
end Gd
-- part L1
set_option Elab.async false
set_option linter.all false
set_option maxRecDepth 100000
set_option maxHeartbeats 1000000
namespace Gd
open PySem PySem.Spec PyProof.Rows L2
universe u
abbrev s_least_lot : Stmt := topS 23
theorem sc_least_lot : FnScope ["debate", "members", "later"] ["debate"] (defScope s_least_lot) := ⟨rfl, rfl, rfl, by decide +kernel, rfl, by decide +kernel, by decide +kernel⟩
def upD (d : Deb) : Nat → List Str
  | 0 => []
  | n + 1 => ansP d (upD d n)
def leastP (d : Deb) : List Str := upD d (d.1.length + 1)
theorem upD_up {d : Deb} : ∀ n, ∀ x ∈ upD d n, x ∈ upD d (n + 1)
  | 0, x, h => by cases h
  | n + 1, x, h => ansP_mono (upD_up n) h
theorem upD_sub {d : Deb} : ∀ {n x}, x ∈ upD d n → x ∈ d.1
  | 0, _, h => by cases h
  | _ + 1, _, h => ansP_sub h
theorem upD_nodup {d : Deb} (nd : d.1.Nodup) : ∀ n, (upD d n).Nodup
  | 0 => List.nodup_nil
  | _ + 1 => ansP_nodup nd _
theorem upD_len {d : Deb} : ∀ n, (upD d n).length ≤ d.1.length
  | 0 => Nat.zero_le _
  | _ + 1 => ansP_len _
theorem upD_grow {d : Deb} : ∀ {n}, upD d (n + 1) ≠ upD d n → (upD d n).length < (upD d (n + 1)).length
  | 0, h => by
    cases e : upD d 1 with
    | nil => exact absurd e h
    | cons x xs => exact Nat.succ_pos _
  | n + 1, h => ansP_grow (upD_up n) h
theorem upD_fix {d : Deb} {n : Nat} (h : upD d (n + 1) = upD d n) : ∀ k, upD d (n + k) = upD d n
  | 0 => rfl
  | k + 1 => by
    show ansP d (upD d (n + k)) = _
    rw [upD_fix h k]
    exact h
theorem leastP_of {d : Deb} {n : Nat} (h : upD d (n + 1) = upD d n) (hn : n ≤ d.1.length + 1) : leastP d = upD d n := by
  unfold leastP
  rw [show d.1.length + 1 = n + (d.1.length + 1 - n) by omega]
  exact upD_fix h _
section
variable {P : Program} {w : World} {K : PySem.W.Frag} {mg : Str → Option Value} {base : Heap} {aL : Addr} {Tb : List (Addr × Str)}
def sp_least_lot (K : PySem.W.Frag) (C : Addr) (Tb : List (Addr × Str)) : Sp := spMO Tb (fun d : Deb => [DB K C d]) okB (fun d => OL S (leastP d))
theorem ok_least_lot {C : Addr} (F : Fn K mg "least_lot" s_least_lot ["debate"]) (T : Txt K mg aL) (c_answered_in : C8.Cal P w K mg base 2 "answered_in" (sp_answered_in K C) []) : C8.Cal P w K mg base 3 "least_lot" (sp_least_lot K C Tb) [] := by
  refine cal_of F sc_least_lot (fun vs H Q E h => spMO_len h fun _ => rfl) (fun f cdv A outer s H vs Q E hr h => ?_)
  have hu64 := hu64_of hr
  obtain ⟨d, st, c, n, O, G, w0, hn, hd, al, k⟩ := h
  refine ⟨_, (pss_cons (ps_set (i := 1) sc_least_lot.nd rfl (by first | exact Or.inl rfl | exact Or.inr rfl) (pe_lst pa_nil))
      (pss_one (ps_while PassesOwn.never (pt_val pe_bl) (pss_cons (ps_set (i := 2) sc_least_lot.nd rfl (by first | exact Or.inl rfl | exact Or.inr rfl) (C8.pe_c c_answered_in hr (by first | decide | omega) rfl (pa_cons (pv 0) (pa_cons (pv 1) pa_nil))))
      (pss_cons (ps_if (pt_cmpR (op_eqDK (K := K) hu64) (pv 2) (pv 1) (nomark _)) (pss_one (ps_ret (pv 1))) pss_nil)
      (pss_one (ps_set (i := 1) sc_least_lot.nd rfl (by first | exact Or.inl rfl | exact Or.inr rfl) (pv 2)))))))), ?_⟩
  refine (?_ : HL ⟨st, c, Tb⟩ G n O [some (DB K C d), none, none] _ _) _ _ ⟨G, Same.refl G, by have h := slots_start (N := ["debate", "members", "later"]) al; rw [alr_len al] at h; exact h, w0⟩
  refine hl_setN (k := 0) (eln_lst (e := S) [] eal_nil (Nat.zero_le _)) fun p0 => ?_
  dsimp only [List.set]
  refine hl_last ?_
  refine hl_forever (δ := Nat × Addr) (fun i z => z.1 = i ∧ i ≤ (upD d i).length) (fun z => (z.2, OL S (upD d z.1)) :: O) (fun z => [some (DB K C d), some (cst (.ref z.2)), none]) (d.1.length + 1) (0, p0) ⟨rfl, Nat.zero_le _⟩ rfl (fun G => (.eq (.eq (.no .nil)))) (fun _ => etl_test el_bl) ?_ (Nat.succ_pos _)
  rintro _ ⟨i, p⟩ E' G1 ⟨rfl, hl⟩ hiz hrt s1 kn
  dsimp only at hl hiz kn ⊢
  refine hl_setN (k := 0) (eln_lendS (i := 1) rfl fun F => eln_call (ι := Deb × List Str) (post := fun i => ansP i.1 i.2) (d, upD d i) (eal_cons (el_var (i := 0) rfl) (eal_cons (el_sqL (el_var (i := 1) rfl)) eal_nil)) ⟨hd, fun m hm => upD_sub hm, upD_nodup hd.nd _⟩) fun q => ?_
  dsimp only [List.set]
  refine hl_if (k := 0) (c := decide (upD d (i + 1) = upD d i)) (etl_lendS (O := O) (Rs' := [some (DB K C d), some (Lst S (upD d i)), some (Lst S (upD d (i + 1)))]) [(q, OL S (upD d (i + 1))), (p, OL S (upD d i))] rfl (fun G h => (.eq (.cv ?_ (.cv ?_ .nil)))) fun F => etl_test (el_eqD (enc_lst enc_S) (eqE_lst eqE_S) (el_var (i := 2) rfl) (el_var (i := 1) rfl))) (fun hc => ?_) (fun hc => ?_)
  · intro v hv
    obtain rfl : v = .ref p := hv
    obtain ⟨o, h1, h2⟩ := h _ (List.mem_cons_of_mem _ (List.mem_cons_self ..))
    exact ol_lst o G h2 h1
  · intro v hv
    obtain rfl : v = .ref q := hv
    obtain ⟨o, h1, h2⟩ := h _ (List.mem_cons_self ..)
    exact ol_lst o G h2 h1
  · refine HL.drop ?_ (List.sublist_cons_self ..)
    refine hl_retOD (i := 1) rfl fun G2 H2 s2 w2 => ?_
    show E'.rt _ _
    rw [hrt]
    have e := leastP_of (of_decide_eq_true hc) (by omega)
    rw [← e] at w2
    exact k p G2 H2 (s1.trans s2) (w2.le (by omega))
  · have hc : upD d (i + 1) ≠ upD d i := fun z => by rw [decide_eq_true z] at hc; cases hc
    have hg := upD_grow hc
    have hle := upD_len (d := d) (i + 1)
    refine hl_last ?_
    refine hl_set (k := 0) (R := cst (.ref q)) (el_var (i := 2) rfl) ?_
    dsimp only [List.set]
    refine HL.drop (O' := (q, OL S (upD d (i + 1))) :: O) ?_ (List.Sublist.cons_cons _ (List.sublist_cons_self ..))
    exact hl_nx fun σ H a => kn (i + 1, q) σ H ⟨rfl, by omega⟩ (by omega) ((a.weak fun G => (.eq (.eq (.no .nil)))).le (by omega))
end
end Gd
-- part Gd60
set_option Elab.async false
set_option linter.all false
set_option maxRecDepth 100000
set_option maxHeartbeats 2000000
-- part Gd61
set_option Elab.async false
set_option linter.all false
set_option maxRecDepth 100000
set_option maxHeartbeats 1000000
set_option pp.maxSteps 400
set_option pp.deepTerms false
-- part Gd62
set_option Elab.async false
set_option linter.all false
set_option maxRecDepth 100000
set_option maxHeartbeats 1000000
namespace Gd
open PySem PySem.Spec PyProof.Rows L2
universe u
section
variable {K : PySem.W.Frag} {W : SC} {O : Own} {n k m : Nat} {G0 : Hp} {Rs : RL} {R : SR} {te ta tb to : TE} {t u : TS} {D : Ends} {α : Type} {e : α → SR} {xs : List α} {p : Addr} {i j : Nat}
abbrev rIsN : R2 := fun x y H Q => y = V.non ∧ Q (.bl (decide (x = V.non))) H
abbrev rNotN : R2 := fun x y H Q => y = V.non ∧ Q (.bl !(decide (x = V.non))) H
theorem el_isN {c : Bool} (h : EL W O k te Rs R) (hx : ∀ v G, R.p v G → decide (v = V.non) = c) : EL W O k (tOp rIsN te (tC .non)) Rs (B c) := fun σ G H n Q sl w hn kk => h σ G H n _ sl w hn fun v G2 H2 s2 w2 p => ⟨rfl, kk _ G2 H2 s2 w2 (by show V.bl _ = V.bl _; rw [hx v G2 p])⟩
end
end Gd
-- part Gd63
set_option Elab.async false
set_option linter.all false
set_option maxRecDepth 100000
set_option maxHeartbeats 1000000
namespace Gd
open PySem PySem.Spec PyProof.Rows L2
universe u
def FL (W : SC) (G0 : Hp) (O : Own) (l : List Str) : SR := ⟨fun u G => ∃ z, u = .ref z ∧ NwF W G0 O z ∧ (Lst S l).p u G, fun s ⟨z, h1, h2, h3⟩ => ⟨z, h1, h2, (Lst S l).st s h3⟩⟩
theorem fl_lst {W : SC} {G0 G : Hp} {O : Own} {l : List Str} {v : V} (h : (FL W G0 O l).p v G) : (Lst S l).p v G := by obtain ⟨z, _, _, h⟩ := h; exact h
theorem Enc.is {K : PySem.W.Frag} {α : Type} {e e' : α → SR} {c : α → PyData} {n : Nat} (E : Enc K e c n) (h : ∀ x v G, (e' x).p v G → (e x).p v G) : Enc K e' c n := ⟨fun p => E.1 (h _ _ _ p), fun p => E.2 (h _ _ _ p), E.3⟩
theorem al_imp {α : Type} {e f : α → SR} {G : Hp} (h : ∀ x v, (e x).p v G → (f x).p v G) : ∀ {xs : List α} {vs : List V}, Al e xs vs G → Al f xs vs G
  | _, _, .nil => .nil
  | _, _, .cons p t => .cons (h _ _ p) (al_imp h t)
section
variable {K : PySem.W.Frag} {W : SC} {O Ob : Own} {n k m : Nat} {G0 : Hp} {Rs : RL} {R : SR} {te ta tb to : TE} {t u : TS} {D : Ends} {α : Type} {e : α → SR} {p : Addr} {i j : Nat}
def ELF (W : SC) (O : Own) (k : Nat) (t : TE) (Rs : RL) (xs : List (List Str)) : Prop := ∀ (σ : L2.St) (G H : Hp) (n : Nat) (Q : VK), Slots G σ Rs → Wd W n O G H → n + k ≤ 1000000 → (∀ p G2 H2, Same G G2 → Wd W (n + k) ((p, OL (FL W G O) xs) :: O) G2 H2 → Q (.ref p) H2) → t σ H Q
theorem ELF.elo {xs : List (List Str)} (h : ELF W O k te Rs xs) : ELO W O k te Rs (OL (Lst S) xs) := fun σ G H n Q sl w hn kk => h σ G H n _ sl w hn fun p G2 H2 s2 w2 => kk p G2 H2 s2 (w2.weak fun o ⟨vs, h1, h2, h3⟩ => ⟨vs, h1, h2, al_imp (e := FL W G O) (f := Lst S) (fun l v ⟨z, e1, e2, e3⟩ => e3) h3⟩)
theorem ELF.el {xs : List (List Str)} (h : ELF W O k te Rs xs) : EL W O k te Rs (Lst (Lst S) xs) := ELN.el h.elo
end
end Gd
-- part Gd64
set_option Elab.async false
set_option linter.all false
set_option maxRecDepth 100000
set_option maxHeartbeats 1000000
namespace Gd
open PySem PySem.Spec PyProof.Rows L2
universe u
section
variable {K : PySem.W.Frag} {W : SC} {O Ob : Own} {n k m : Nat} {G0 G H G2 H2 : Hp} {Rs : RL} {R : SR} {te ta tb to : TE} {t u : TS} {D : Ends} {p z : Addr} {i j : Nat} {l : List Str}
theorem EL.fl {Gb : Hp} (h : EL W O k te Rs (FL W Gb Ob l)) : EL W O k te Rs (Lst S l) := h.is fun _ _ p => fl_lst p
theorem Ev.fl {b : Bool} {σ : L2.St} {Gb : Hp} (h : Ev b te σ G (FL W Gb Ob l)) : Ev b te σ G (Lst S l) := h.is fun _ _ _ q => fl_lst q
end
end Gd
-- part V1
set_option Elab.async false
set_option linter.all false
set_option maxRecDepth 100000
set_option maxHeartbeats 1000000
-- part V2
set_option Elab.async false
set_option linter.all false
set_option maxRecDepth 100000
set_option maxHeartbeats 1000000
-- part V3
set_option Elab.async false
set_option linter.all false
set_option maxRecDepth 100000
set_option maxHeartbeats 1000000
namespace Gd
open PySem PySem.Spec PyProof.Rows L2
universe u
section
variable {P : Program} {w : World} {K : PySem.W.Frag} {mg : Str → Option Value} {base : Heap} {aL : Addr} {Tb : List (Addr × Str)}
theorem elo_least {C : Addr} {W : SC} {O : Own} {k : Nat} {Rs : RL} {ta : TE} {E : XK} {d : Deb} (h1 : EL W O k ta Rs (DB K C d)) (hd : okB d) : ELO W O (k + 0) (tCall (sp_least_lot K C W.tb) [] E (tCons ta tNil)) Rs (OL S (leastP d)) := elo_callm (ι := Deb) (pre := fun d => [DB K C d]) (ok := okB) (post := fun d => OL S (leastP d)) d (eal_cons h1 eal_nil) hd
end
end Gd
-- part Gd65
set_option Elab.async false
set_option linter.all false
set_option maxRecDepth 100000
set_option maxHeartbeats 1000000
namespace Gd
open PySem PySem.Spec PyProof.Rows L2
universe u
inductive Flt
  | no
  | strs (xs : List Str)
  | lst (t : Str) (l : List Str)
def FltO (K : PySem.W.Frag) : Flt → V → Own → Hp → Prop
  | .no, v, Oz, _ => Oz = [] ∧ v = .non
  | .strs xs, v, Oz, G => Oz = [] ∧ (Tpl K S xs).p v G
  | .lst t l, v, Oz, G => ∃ z : Addr, Oz = [(z, OL S l)] ∧ (Pr K S (fun a : Addr => cst (.ref a)) (t, z)).p v G
section
variable {K : PySem.W.Frag} {W : SC} {O Ob Oz : Own} {n k m : Nat} {G0 G H G2 H2 : Hp} {Rs : RL} {R : SR} {te ta tb to : TE} {tr : TA} {t u : TS} {D : Ends} {p z : Addr} {i j : Nat} {l : List Str} {α : Type} {e : α → SR}
theorem el_notN {c : Bool} (h : EL W O k te Rs R) (hx : ∀ v G, R.p v G → decide (v = V.non) = c) : EL W O k (tOp rNotN te (tC .non)) Rs (B (!c)) := fun σ G H n Q sl w hn kk => h σ G H n _ sl w hn fun v G2 H2 s2 w2 p => ⟨rfl, kk _ G2 H2 s2 w2 (by show V.bl _ = V.bl _; rw [hx v G2 p])⟩
theorem el_notNO {β : Type} {f : β → SR} {o : Option β} (h : EL W O k te Rs (Op f o)) (hx : ∀ b v G, (f b).p v G → v ≠ V.non) : EL W O k (tOp rNotN te (tC .non)) Rs (B (!o.isNone)) := el_notN h fun v G p => by
  cases o with
  | none =>
    obtain rfl : v = .non := p
    rfl
  | some b => simp [hx b v G p]
theorem el_notinD [DecidableEq α] {x : α} {xs : List α} {c : α → PyData} {n : Nat} (E : Enc K e c n) (Q : EqE c) (ha : EL W O k ta Rs (e x)) (hb : EL W O m tb Rs (Lst e xs)) (hn : n ≤ 63 := by decide) : EL W O (k + m) (tOp (rNotInD K) ta tb) Rs (B (!decide (x ∈ xs))) := el_o2 ha hb fun _ _ _ _ p q => ev_notinD (ev_cR' p) (ev_cR' q) E Q hn
def ELZ (W : SC) (K : PySem.W.Frag) (O : Own) (k : Nat) (t : TE) (Rs : RL) (f : Flt) : Prop := ∀ (σ : L2.St) (G H : Hp) (n : Nat) (Q : VK), Slots G σ Rs → Wd W n O G H → n + k ≤ 1000000 → (∀ v Oz G2 H2, Same G G2 → FltO K f v Oz G2 → Wd W (n + k) (Oz ++ O) G2 H2 → Q v H2) → t σ H Q
end
end Gd
-- part Gd66
set_option Elab.async false
set_option linter.all false
set_option maxRecDepth 100000
set_option maxHeartbeats 1000000
namespace Gd
open PySem PySem.Spec PyProof.Rows L2
universe u
def FltR (K : PySem.W.Frag) : Flt → SR
  | .no => N
  | .strs xs => Tpl K S xs
  | .lst t l => Pr K S (Lst S) (t, l)
def FltC (K : PySem.W.Frag) : Flt → SR → Own → Prop
  | .no, R, Oz => Oz = [] ∧ R = N
  | .strs xs, R, Oz => Oz = [] ∧ R = Tpl K S xs
  | .lst t l, R, Oz => ∃ z : Addr, Oz = [(z, OL S l)] ∧ R = Pr K S (fun a : Addr => cst (.ref a)) (t, z)
theorem FltO.c {K : PySem.W.Frag} {f : Flt} {v : V} {Oz : Own} {G : Hp} (h : FltO K f v Oz G) : ∃ R, FltC K f R Oz ∧ R.p v G := by
  cases f with
  | no => exact ⟨N, ⟨h.1, rfl⟩, h.2⟩
  | «strs» xs => exact ⟨_, ⟨h.1, rfl⟩, h.2⟩
  | lst t l =>
    obtain ⟨z, e, p⟩ := h
    exact ⟨_, ⟨z, e, rfl⟩, p⟩
section
variable {K : PySem.W.Frag} {W : SC} {O Oz : Own} {n k m : Nat} {G0 G H G2 H2 : Hp} {Rs : RL} {R R2 : SR} {te ta tb to : TE} {t u : TS} {D : Ends} {z : Addr} {i j : Nat} {l : List Str} {f : Flt} {α : Type} {e : α → SR}
theorem pr_own {t : Str} {v : V} {o : HO} (h1 : G z = some o) (h2 : (OL S l).p o G) (p : (Pr K S (fun a : Addr => cst (.ref a)) (t, z)).p v G) : (Pr K S (Lst S) (t, l)).p v G := by
  obtain ⟨a, x, y, e1, e2, e3, e4⟩ := p
  refine ⟨a, x, y, e1, e2, e3, ?_⟩
  obtain rfl : y = .ref z := e4
  exact ol_lst o G h2 h1
theorem ELZ.el (h : ELZ W K O k te Rs f) : EL W O k te Rs (FltR K f) := fun σ G H n Q sl w hn kk => h σ G H n _ sl w hn fun v Oz G2 H2 s2 f2 w2 => by
  cases f with
  | no =>
    obtain ⟨rfl, hv⟩ := f2
    exact kk v G2 H2 s2 w2 hv
  | «strs» xs =>
    obtain ⟨rfl, hv⟩ := f2
    exact kk v G2 H2 s2 w2 hv
  | lst t l =>
    obtain ⟨z, rfl, p⟩ := f2
    obtain ⟨o, h1, h2, s3, w3⟩ := Wd.freeze (p := z) (R := OL S l) (O := O) w2
    exact kk v _ _ (s2.trans s3) w3 (pr_own (o := o) upd_same ((OL S l).st s3 h2) ((Pr K S (fun a : Addr => cst (.ref a)) (t, z)).st s3 p))
end
end Gd
-- part Gd67
set_option Elab.async false
set_option linter.all false
set_option maxRecDepth 100000
set_option maxHeartbeats 1000000
namespace Gd
open PySem PySem.Spec PyProof.Rows L2
universe u
def isLF : HO → Bool
  | .frz _ _ => true
  | o => isLD o
section
variable {K : PySem.W.Frag} {W : SC} {O Ob : Own} {n k m : Nat} {G0 G H G2 H2 : Hp} {Rs : RL} {R R' : SR} {te ta tb to ty : TE} {t u : TS} {D : Ends} {p d z : Addr} {i j : Nat} {l : List Str} {α : Type} {e : α → SR} {xs : List (Str × α)}
theorem Wd.putF {R R' : OR} {o : HO} (w : Wd W n ((p, R) :: O) G H) (hl : ∀ u, R.p u G → isLF u = true) (ho : isTT o = false) (hR : R'.p o G) : Wd W n ((p, R') :: O) G (upd H p o) := by
  obtain ⟨h1, h2, h3, u, h4, h5, h6⟩ := w.o _ (List.mem_cons_self ..)
  refine ⟨w.r.own h3, w.nt, fun q hq => ?_, w.d.wr h1 h2, w.nd, fun q hq => ?_⟩
  · obtain ⟨ps, e1, e2, e3⟩ := w.tb q hq
    have ne : q.1 ≠ p := fun z => by
      have e4 : H p = some (.tbl ps) := by rw [← z]; exact e1
      rw [h4] at e4
      cases e4
      cases h5
    refine ⟨ps, by rw [upd_ne ne]; exact e1, e2, fun pos cv hc => ?_⟩
    obtain ⟨c, e5, e6⟩ := e3 pos cv hc
    have ne2 : c ≠ p := fun z => by
      rw [z, h4] at e6
      have := hl u h6
      rw [Option.some.inj e6] at this
      cases this
    exact ⟨c, e5, by rw [upd_ne ne2]; exact e6⟩
  · rcases List.mem_cons.mp hq with rfl | hq
    · exact ⟨h1, h2, h3, o, upd_same, ho, hR⟩
    · obtain ⟨q1, q2, q3, ho', q4, q5, q6⟩ := w.o q (List.mem_cons_of_mem _ hq)
      have ne : q.1 ≠ p := fun z => (List.nodup_cons.mp w.nd).1 (List.mem_map.mpr ⟨q, hq, z⟩)
      exact ⟨q1, q2, q3, ho', by rw [upd_ne ne]; exact q4, q5, q6⟩
end
end Gd
-- part Gd68
set_option Elab.async false
set_option linter.all false
set_option maxRecDepth 100000
set_option maxHeartbeats 1000000
-- part Gd69
set_option Elab.async false
set_option linter.all false
set_option maxRecDepth 100000
set_option maxHeartbeats 1000000
namespace Gd
open PySem PySem.Spec PyProof.Rows L2
universe u
section
variable {K : PySem.W.Frag} {W : SC} {O : Own} {n k m : Nat} {G0 : Hp} {Rs : RL} {te ta tb to ty tv : TE} {t u : TS} {E : Ends} {d : Addr} {i : Nat} {α : Type} {e : α → SR} {kv : List (Str × α)}
theorem elo_dnewD : ELO W O 0 tDNewK Rs (ODct e []) := fun σ G H n Q sl w hn kk => fun p hp => kk p G _ (Same.refl G) (w.own hp rfl ⟨[], rfl, Nat.zero_le _, .nil⟩)
theorem hl_putD {s : Str} {a : α} (hi : Rs[i]? = some (some (cst (.ref d)))) (h1 : EL W ((d, ODct e kv) :: O) k tv Rs (e a)) (h2 : EL W ((d, ODct e kv) :: O) m ty Rs (S s)) (hk : kv.lookup s = none) (hl : kv.length ≤ 10000000) (q : HL W G0 (n + (k + m)) ((d, ODct e (kv ++ [(s, a)])) :: O) Rs u E) (hn : n + (k + m) ≤ 1000000 := by omega) : HL W G0 n ((d, ODct e kv) :: O) Rs (tSeq (sDPut (tVar i) ty tv) u) E := fun σ H ⟨G, s0, sl, w⟩ => by
  obtain ⟨x, e1, e2⟩ := sl.get i _ hi
  obtain rfl : x = .ref d := e2
  refine h1 σ G H n _ sl w (by omega) fun v G1 H1 s1 w1 pv => ?_
  refine ⟨_, e1, ?_⟩
  refine h2 σ G1 H1 (n + k) _ (sl.st s1) w1 (by omega) fun y G2 H2 s2 w2 ⟨ey, _⟩ => ?_
  subst ey
  obtain ⟨_, _, _, o, z4, _, ks, rfl, z6, al⟩ := w2.o _ (List.mem_cons_self ..)
  have hlen : ks.length = kv.length := by
    have := congrArg List.length al.keys
    rwa [List.length_map, List.length_map, List.length_map] at this
  have : sizeLine = 16777216 := sizeLine_eq
  have hput : putK ks (Sum.inr s) v = ks ++ [(Sum.inr s, v)] := putK_new _ (al.valNone hk)
  refine ⟨d, _, rfl, .inl ⟨ks, Sum.inr s, z4, rfl, by omega, rfl⟩, q _ _ ⟨G2, (s0.trans s1).trans s2, sl.st (s1.trans s2), ?_⟩⟩
  rw [hput]
  exact (w2.put (R' := ODct e (kv ++ [(s, a)])) (o := .dK (ks ++ [(Sum.inr s, v)])) (fun u ⟨_, e, _⟩ => by rw [e]; rfl) rfl ⟨_, rfl, by rw [List.length_append, List.length_singleton]; omega, al.snoc ((e a).st s2 pv)⟩).eq (by omega)
end
end Gd
-- part Gd70
set_option Elab.async false
set_option linter.all false
set_option maxRecDepth 100000
set_option maxHeartbeats 1000000
-- part Gd71
set_option Elab.async false
set_option linter.all false
set_option maxRecDepth 100000
set_option maxHeartbeats 1000000
-- part Gd72
set_option Elab.async false
set_option linter.all false
set_option maxRecDepth 100000
set_option maxHeartbeats 1000000
-- part Gd73
set_option Elab.async false
set_option linter.all false
set_option maxRecDepth 100000
set_option maxHeartbeats 1000000
-- part Gd74
set_option Elab.async false
set_option linter.all false
set_option maxRecDepth 100000
set_option maxHeartbeats 2000000
namespace PySem
namespace RpX
open Sem PyProof.Rows Builtin Builtin.List
open PySem.RpG (lstOn)
structure GS where
  l : Addr → Prop
  t : Addr → Prop
  d : Addr → Prop
def GS.Of (S : GS) (g : List Code) : Prop := ∀ b, (lstOn g b ↔ S.l b) ∧ ((g.any fun c => tupGuardF (.ref b) (c, default)) = true ↔ S.t b) ∧ ((g.any fun c => dictGuardF (.ref b) (c, default)) = true ↔ S.d b)
def gsOf (g : List Code) : GS := ⟨lstOn g, fun b => (g.any fun c => tupGuardF (.ref b) (c, default)) = true, fun b => (g.any fun c => dictGuardF (.ref b) (c, default)) = true⟩
theorem gsOf_of (g : List Code) : (gsOf g).Of g := fun b => ⟨Iff.rfl, Iff.rfl, Iff.rfl⟩
def GS.addL (S : GS) (a : Addr) : GS := ⟨fun b => b = a ∨ S.l b, fun b => b = a ∨ S.t b, S.d⟩
def GS.addT (S : GS) (a : Addr) : GS := ⟨S.l, fun b => b = a ∨ S.t b, S.d⟩
def GS.addD (S : GS) (a : Addr) : GS := ⟨S.l, fun b => b = a ∨ S.t b, fun b => b = a ∨ S.d b⟩
theorem tup_hd {id : String} (hid : ["list.__repr__.loop", "tuple.__repr__", "dict.__repr__", "tuple.__repr__.under", "dict.__repr__.under"].contains id = true) {a b : Addr} {rest : List Value} {kw : List (Str × Value)} : tupGuardF (.ref b) (Code.builtin id ⟨.ref a :: rest, kw⟩, default) = decide (b = a) := by
  show ((Value.ref a == Value.ref b) && _) = _
  rw [hid, Bool.and_true]
  by_cases e : b = a
  · subst e
    rw [decide_eq_true rfl]
    exact beq_self_eq_true _
  · rw [decide_eq_false e]
    exact beq_eq_false_iff_ne.mpr fun q => e (Value.ref.inj q).symm
theorem lst_hd {id : String} {a b : Addr} {rest : List Value} {kw : List (Str × Value)} {g : List Code} : lstOn (Code.builtin id ⟨.ref a :: rest, kw⟩ :: g) b ↔ (id = "list.__repr__.loop" ∧ b = a) ∨ lstOn g b := by
  constructor
  · rintro ⟨v, r, k, hm, hs⟩
    rcases List.mem_cons.mp hm with e | hm
    · injection e with e1 e2
      injection e2 with e3 e4
      injection e3 with e5 e6
      subst e5
      have hs : (a == b) = true := hs
      exact .inl ⟨e1.symm, (beq_iff_eq.mp hs).symm⟩
    · exact .inr ⟨v, r, k, hm, hs⟩
  · rintro (⟨rfl, rfl⟩ | ⟨v, r, k, hm, hs⟩)
    · exact ⟨.ref b, rest, kw, List.mem_cons_self .., show (b == b) = true from beq_self_eq_true b⟩
    · exact ⟨v, r, k, List.mem_cons_of_mem _ hm, hs⟩
section
variable {S : GS} {g : List Code} {a : Addr} {rest : List Value} {kw : List (Str × Value)}
theorem of_addL (h : S.Of g) : (S.addL a).Of (Code.builtin "list.__repr__.loop" ⟨.ref a :: rest, kw⟩ :: g) := fun b => by
  obtain ⟨h1, h2, h3⟩ := h b
  refine ⟨?_, ?_, ?_⟩
  · rw [lst_hd, h1]
    exact or_congr_left (and_iff_right rfl)
  · rw [List.any_cons, tup_hd (by decide +kernel), Bool.or_eq_true, h2, decide_eq_true_eq]
    exact Iff.rfl
  · rw [List.any_cons, dictGuardF_cons, decide_eq_false (by decide +kernel), Bool.false_and, Bool.false_or]
    exact h3
theorem of_addT {id : String} (hid : id = "tuple.__repr__" ∨ id = "tuple.__repr__.under") (h : S.Of g) : (S.addT a).Of (Code.builtin id ⟨.ref a :: rest, kw⟩ :: g) := fun b => by
  obtain ⟨h1, h2, h3⟩ := h b
  refine ⟨?_, ?_, ?_⟩
  · rw [lst_hd, h1]
    refine or_iff_right fun ⟨e, _⟩ => ?_
    rcases hid with rfl | rfl <;> exact absurd e (by decide +kernel)
  · rw [List.any_cons, tup_hd (by rcases hid with rfl | rfl <;> decide +kernel), Bool.or_eq_true, h2, decide_eq_true_eq]
    exact Iff.rfl
  · rw [List.any_cons, dictGuardF_cons, decide_eq_false (by rcases hid with rfl | rfl <;> decide +kernel), Bool.false_and, Bool.false_or]
    exact h3
theorem of_addD {id : String} (hid : id = "dict.__repr__" ∨ id = "dict.__repr__.under") (h : S.Of g) : (S.addD a).Of (Code.builtin id ⟨.ref a :: rest, kw⟩ :: g) := fun b => by
  obtain ⟨h1, h2, h3⟩ := h b
  refine ⟨?_, ?_, ?_⟩
  · rw [lst_hd, h1]
    refine or_iff_right fun ⟨e, _⟩ => ?_
    rcases hid with rfl | rfl <;> exact absurd e (by decide +kernel)
  · rw [List.any_cons, tup_hd (by rcases hid with rfl | rfl <;> decide +kernel), Bool.or_eq_true, h2, decide_eq_true_eq]
    exact Iff.rfl
  · rw [List.any_cons, dictGuardF_cons, decide_eq_true hid, Bool.true_and, Bool.or_eq_true, h3]
    refine or_congr_left ?_
    exact ⟨fun e => (Value.ref.inj (beq_iff_eq.mp e)).symm, fun e => by rw [e]; exact beq_self_eq_true _⟩
end
abbrev Ext (h h' : Heap) : Prop := ∀ b o, h.get? b = some o → h'.get? b = some o
def RK (P : Program) (w : World) (h₀ : Heap) (d : Nat) (S : GS) (x : Value) (t : Str) : Prop :=
  ∀ (n : Nat), n + t.length ≤ sizeLine → ∀ (A : Around) (g : List Code) (E : Value → Shared → Prop) (s : Shared) (Q : Str → Shared → Prop), A.guards = some g → S.Of g → A.units + d < cLine → Ext h₀ s.heap → (∀ hz tq, Ext s.heap hz → Q t { s with heap := hz, toks := tq }) → wpAny (model P w) A (pyReprUnder n x) Q E s
def RC (P : Program) (w : World) (h₀ : Heap) (d : Nat) (S : GS) (x : Value) (t : Str) : Prop :=
  ∀ (A : Around) (g : List Code) (E : Value → Shared → Prop) (s : Shared) (Q : Value → Shared → Prop), A.guards = some g → S.Of g → A.units + 1 + d < cLine → Ext h₀ s.heap → (∀ hz u tq, Ext s.heap hz → Q (.str t u) { s with heap := hz, toks := tq }) → wpAny (model P w) A (call (.builtin "repr") [x]) Q E s
structure RX (P : Program) (w : World) (h₀ : Heap) (d : Nat) (S : GS) (x : Value) (t : Str) : Prop where
  k : RK P w h₀ d S x t
  c : RC P w h₀ d S x t
  z : t.length ≤ sizeLine
section
variable {P : Program} {w : World} {h₀ : Heap} {d : Nat} {S : GS} {x : Value} {t : Str}
theorem RX.le {d' : Nat} (h : RX P w h₀ d S x t) (q : d ≤ d') : RX P w h₀ d' S x t := ⟨fun n hn A g E s Q a1 a2 a3 a4 a5 => h.k n hn A g E s Q a1 a2 (by omega) a4 a5, fun A g E s Q a1 a2 a3 a4 a5 => h.c A g E s Q a1 a2 (by omega) a4 a5, h.z⟩
theorem RX.flat (h : ReprIs P w x t) (hz : t.length ≤ sizeLine) (hc : ∀ (A : Around) (E : Value → Shared → Prop) (s : Shared) (Q : Value → Shared → Prop), Q (.str t s.toks) { s with toks := s.toks + 1 } → wpAny (model P w) A (call (.builtin "repr") [x]) Q E s) : RX P w h₀ d S x t :=
  ⟨fun n hn A _ E s Q _ _ _ _ hQ => h n hn A E s Q fun tq => hQ s.heap tq fun _ _ e => e, fun A _ E s Q _ _ _ _ hQ => hc A E s Q (hQ s.heap _ _ fun _ _ e => e), hz⟩
theorem RX.str (y : Str) (u : Tok) (hz : (reprText y).length ≤ sizeLine) : RX P w h₀ d S (.str y u) (reprText y) := .flat (ReprIs.str y u hz) hz fun A E s Q h => PySem.P.repr_of_str h hz
theorem RX.none : RX P w h₀ d S .none "None" := .flat ReprIs.none (by decide +kernel) fun A E s Q h => PySem.P.repr_of_none h
theorem RX.bool (b : Bool) : RX P w h₀ d S (.bool b) (if b then "True" else "False") := .flat (ReprIs.bool b) (by cases b <;> decide +kernel) fun A E s Q h => PySem.P.repr_of_bool h
theorem RX.int {i : Int} (u : Tok) (h : i.natAbs.log2 < 1920) (hz : (Str.ofString (toString i)).length ≤ sizeLine) : RX P w h₀ d S (.int i u) (toString i) := .flat (ReprIs.int u h) hz fun A E s Q hq => PySem.P.repr_of_int h hq
end
end RpX
end PySem
-- part Gd75
set_option Elab.async false
set_option linter.all false
set_option maxRecDepth 100000
set_option maxHeartbeats 2000000
namespace PySem
namespace RpX
open Sem PyProof.Rows Builtin Builtin.List
open PySem.RpG (lstOn)
section
variable {P : Program} {w : World} {h₀ : Heap} {d : Nat} {S : GS} {a : Addr} {oa : Obj}
theorem lst_loop {A : Around} {R : Result → Shared → Prop} {z : Addr} (hne : a ≠ z) {its : Array Value} {tt : List Str} {n : Nat} {g : List Code} (hg : A.guards = some g) (hS : S.Of g) (hu : A.units + (d + 1) < cLine) (hz : h₀.get? z = none) (hl : tt.length = its.size)
    (hT : ∀ (i : Nat) (x : Value), its[i]? = some x → ∃ t, tt[i]? = some t ∧ RK P w h₀ d (S.addL a) x t) (hsz : n + (listText tt).length ≤ sizeLine) :
    ∀ (k i : Nat) (s : Shared) (ob : Obj) (m : Nat) (ac : Array Value) (c : Nat) (dn : List (Str × Tok)), its.size - i = k → i ≤ its.size → Ext h₀ s.heap → s.heap.get? a = some ob → ob.data = .seq its m →
      s.heap.get? z = some ⟨.type "list", .none, .seq ac c, #[]⟩ → ac.toList = strValues dn → dn.map (·.1) = tt.take i → (∀ hz u tq, (∀ b o, b ≠ z → s.heap.get? b = some o → hz.get? b = some o) → R (.ok (.ret (.str (listText tt) u))) { s with heap := hz, toks := tq }) →
      codeAny (model P w) A (.builtin "list.__repr__.loop" ⟨[.ref a, rawInt i, .ref z, rawInt ((n + piled (tt.take i) : Nat) : Int)], []⟩) R s := by
  have hX : (listText tt).length = (textFrom 0 "[" tt).length + 1 := by
    show (textFrom 0 "[" tt ++ "]").length = _
    rw [strLen_append]
    rfl
  have hL := textFrom_len tt 0 "["
  have z1 : its.size ≤ sizeLine := by
    have q := hL.1
    rw [if_neg (Nat.lt_irrefl 0)] at q
    omega
  have z2 : ∀ t ∈ tt, t.length ≤ sizeLine := fun t ht => by
    have q := hL.2.1 t ht
    omega
  have z3 : (listText tt).length ≤ sizeLine := by omega
  have pl := piled_le_listText tt
  intro k
  induction k with
  | zero =>
    intro i s ob m ac c dn hk hi e0 ea ed ez eac edn hR
    obtain rfl : i = its.size := by omega
    refine codeAny_builtin F.entry_list_repr_loop ?_
    show wpAny _ _ («list.__repr__.loop» ⟨[.ref a, .int (its.size : Nat) 0, .ref z, .int ((n + piled (tt.take its.size) : Nat) : Int) 0], []⟩) _ _ s
    rw [repr_loop_tree]
    refine wpAny_bind (wpAny_listItems ea ed ?_)
    have hno : its[((its.size : Nat) : Int).toNat]? = .none := by simp
    simp only [hno]
    unfold reprEnd
    refine wpAny_bind (wpAny_listItems ez rfl ?_)
    rw [eac, repr_fold]
    refine wpAny_bind (wpAny_pure ?_)
    rw [show dn.map (·.1) = tt by rw [edn, ← hl, List.take_length]]
    exact wpAny_bind (wpAny_mkStr (wpAny_pure (hR s.heap _ _ fun _ _ _ e => e)) z3)
  | succ k ih =>
    intro i s ob m ac c dn hk hi e0 ea ed ez eac edn hR
    have lt : i < its.size := by omega
    obtain ⟨t, ht, rk⟩ := hT i its[i] (by simp [lt])
    have p1 := piled_take_succ ht
    have p2 := piled_take_le tt (i + 1)
    refine codeAny_builtin F.entry_list_repr_loop ?_
    show wpAny _ _ («list.__repr__.loop» ⟨[.ref a, .int i 0, .ref z, .int ((n + piled (tt.take i) : Nat) : Int) 0], []⟩) _ _ s
    rw [repr_loop_tree]
    refine wpAny_bind (wpAny_listItems ea ed ?_)
    have hso : its[(i : Int).toNat]? = some its[i] := by simp [lt]
    simp only [hso]
    rw [Int.toNat_natCast]
    refine wpAny_bind (wpAny_holding (rk (n + piled (tt.take i) + 1) (by omega) _ _ _ _ _ (guards_under_guard (isGuard_list_loop _) hg) (of_addL hS) (by rw [units_under_list_loop]; omega) e0 fun hy tq hkp => ?_))
    refine wpAny_bind (wpAny_mkStr ?_ (z2 t (List.mem_of_getElem? ht)))
    refine wpAny_bind ?_
    show wpAny _ _ (updateSeq z _) _ _ _
    have hac : ac.size ≤ sizeLine := by
      have q1 : ac.toList.length = ac.size := by simp
      have q2 : (strValues dn).length = dn.length := by simp [strValues]
      have q3 := congrArg List.length edn
      rw [List.length_map, List.length_take] at q3
      rw [eac] at q1
      omega
    refine wpAny_updateSeq (hkp _ _ ez) rfl (wpAny_pure ⟨F.quiet_list_repr_loop _, ?_⟩) hac
    rw [show ((i : Int) + 1) = ((i + 1 : Nat) : Int) by omega, show n + piled (tt.take i) + (t.length + 2) = n + piled (tt.take (i + 1)) by omega]
    refine ih (i + 1) _ ob m (ac.push (.str t tq)) _ (dn ++ [(t, tq)]) (by omega) lt (fun b o e => (Heap.get?_update_other _ _ fun q => by rw [← q, hz] at e; cases e).trans (hkp _ _ (e0 _ _ e))) ((Heap.get?_update_other _ _ fun q => hne q.symm).trans (hkp _ _ ea)) ed (Heap.get?_update_self _ (hkp _ _ ez) rfl) (by simp [eac, strValues]) (by simp [List.take_add_one, ht, edn]) fun hx u tr hh => ?_
    exact hR hx u tr fun b o hb e => hh b o hb ((Heap.get?_update_other _ _ fun q => hb q.symm).trans (hkp _ _ e))
theorem lst_at {x : Value} {l : List Value} {m : Nat} {tt : List Str} (ha : h₀.get? a = some oa) (hda : oa.data = .seq (x :: l).toArray m) (hoff : ¬ S.l a) (hl : tt.length = (x :: l).toArray.size)
    (hT : ∀ (i : Nat) (y : Value), (x :: l).toArray[i]? = some y → ∃ t, tt[i]? = some t ∧ RK P w h₀ d (S.addL a) y t) {A : Around} {g : List Code} {s : Shared} {R : Result → Shared → Prop} {n : Nat}
    (hg : A.guards = some g) (hS : S.Of g) (hu : A.units + (d + 1) < cLine) (e0 : Ext h₀ s.heap) (hR : ∀ hz u tq, Ext s.heap hz → R (.ok (.ret (.str (listText tt) u))) { s with heap := hz, toks := tq }) (hsz : n + (listText tt).length ≤ sizeLine) :
    wpAny (model P w) A.in1 (Builtin.listReprAt n ⟨[.ref a], []⟩) (fun fin s' => match fin with | .done f => R (.ok f) s' | .again c' => c'.quiet = true ∧ codeAny (model P w) A c' R s') (fun e s' => R (.error e) s') s := by
  have hnew : h₀.get? s.heap.objs.size = .none := by
    cases e : h₀.get? s.heap.objs.size with
    | none => rfl
    | some o => exact absurd (Heap.lt_size (e0 _ _ e)) (Nat.lt_irrefl _)
  refine wpAny_list_repr_head (A := A.in1) hg (fun v rest kw hm => ?_) (e0 _ _ ha) hda ?_
  · cases hb : listSameRef v (.ref a) with
    | false => rfl
    | true => exact absurd ((hS a).1.mp ⟨v, rest, kw, hm, hb⟩) hoff
  refine wpAny_bind (m := newList []) (wpAny_newObj_type (wpAny_pure ⟨F.quiet_list_repr_loop _, ?_⟩))
  refine lst_loop (z := s.heap.objs.size) (Nat.ne_of_lt (Heap.lt_size (e0 _ _ ha))) hg hS hu hnew hl hT hsz _ 0 _ oa m #[] _ [] rfl (Nat.zero_le _) (fun b o e => Heap.get?_push_of_some _ (e0 _ _ e)) (Heap.get?_push_of_some _ (e0 _ _ ha)) hda (Heap.get?_push_size _ rfl) rfl (by simp) fun hz u tq hk => ?_
  exact hR hz u tq fun b o e => hk b o (Nat.ne_of_lt (Heap.lt_size e)) (Heap.get?_push_of_some _ e)
theorem RX.list {x : Value} {l : List Value} {m : Nat} {tt : List Str} (ha : h₀.get? a = some oa) (hc : oa.cls = .type "list") (hda : oa.data = .seq (x :: l).toArray m) (hoff : ¬ S.l a) (hl : tt.length = (x :: l).toArray.size)
    (hT : ∀ (i : Nat) (y : Value), (x :: l).toArray[i]? = some y → ∃ t, tt[i]? = some t ∧ RK P w h₀ d (S.addL a) y t) (hz : (listText tt).length ≤ sizeLine) : RX P w h₀ (d + 1) S (.ref a) (listText tt) := by
  refine ⟨fun n hn A g E s Q hg hS hu e0 hQ => ?_, fun A g E s Q hg hS hu e0 hQ => ?_, hz⟩
  · refine wpAny_pyReprUnder_ref (by omega) (wpAny_pyReprObjUnder_twin (twin := "list.__repr__.under") ⟨oa, e0 _ _ ha, hc⟩ F.slot_list_repr.toG rfl (by omega) ?_)
    exact call_twin_plain F.plain_list_repr_under F.entry_list_repr_under F.check_list_repr_under ⟨oa, e0 _ _ ha, hc⟩ F.slot_list_repr.toG (F.args_list_repr_1 _) (lst_at (R := callEnd _ E) ha hda hoff hl hT hg hS hu e0 (fun hz u tq hk => ⟨⟨_, _, rfl⟩, ⟨_, _, rfl, hQ hz tq hk⟩⟩) hn)
  · refine PySem.RpG.rep_l (t := listText tt) ⟨oa, e0 _ _ ha, hc⟩ (by omega) ?_
    exact wpAny_call (codeAny_call_builtin F.slot_list_repr.plain F.entry_list_repr (F.slot_list_repr.check _ _ _ _ _ _ _ _ ⟨oa, e0 _ _ ha, hc⟩ (F.args_list_repr_1 _) (lst_at (n := 0) (R := callEnd _ E) ha hda hoff hl hT (A := A.in1) hg hS (by show A.units + 1 + (d + 1) < cLine; omega) e0 (fun hz u tq hk => ⟨_, rfl, hQ hz u tq hk⟩) (by omega))))
end
end RpX
end PySem
-- part Gd76
set_option Elab.async false
set_option linter.all false
set_option maxRecDepth 100000
set_option maxHeartbeats 2000000
namespace PySem
namespace RpX
open Sem PyProof.Rows Builtin Builtin.List
open PySem.RpG (lstOn)
section
variable {P : Program} {w : World} {h₀ : Heap} {d : Nat} {S : GS} {a : Addr} {oa : Obj}
inductive RKs (P : Program) (w : World) (h₀ : Heap) (d : Nat) (S : GS) : List Value → List Str → Prop
  | nil : RKs P w h₀ d S [] []
  | cons {x : Value} {t : Str} {l : List Value} {tt : List Str} : RK P w h₀ d S x t → RKs P w h₀ d S l tt → RKs P w h₀ d S (x :: l) (t :: tt)
theorem RKs.len : ∀ {l : List Value} {tt : List Str}, RKs P w h₀ d S l tt → tt.length = l.length
  | _, _, .nil => rfl
  | _, _, .cons _ h => by rw [List.length_cons, List.length_cons, h.len]
theorem RKs.at : ∀ {l : List Value} {tt : List Str}, RKs P w h₀ d S l tt → ∀ {i : Nat} {x : Value}, l[i]? = some x → ∃ t, tt[i]? = some t ∧ RK P w h₀ d S x t
  | _, _, .nil, _, _, e => by cases e
  | _, _, .cons h _, 0, _, e => by cases e; exact ⟨_, rfl, h⟩
  | _, _, .cons _ h, i + 1, _, e => h.at (i := i) e
theorem tup_fold {A : Around} {E : Value → Shared → Prop} {g : List Code} (hg : A.guards = some g) (hS : S.Of g) (hu : A.units + d < cLine) : ∀ {l : List Value} {tt : List Str} (_ : RKs P w h₀ d S l tt) (ac : Array Str) (m : Nat) (s : Shared) (Q : (Array Str × Nat) → Shared → Prop), m + piled tt ≤ sizeLine → Ext h₀ s.heap →
    (∀ hz tq, Ext s.heap hz → Q ⟨ac ++ tt.toArray, m + piled tt⟩ { s with heap := hz, toks := tq }) → wpAny (model P w) A (forIn l (⟨ac, m⟩ : (Array Str × Nat)) tupBody) Q E s
  | [], _, .nil, ac, m, s, Q, _, _, h => by
    have q := h s.heap s.toks fun _ _ e => e
    rw [List.forIn_nil]
    exact wpAny_pure (by simpa [piled] using q)
  | x :: l, _, .cons (t := t) (tt := tt) hx hl, ac, m, s, Q, hm, e0, h => by
    rw [piled_cons] at hm
    rw [List.forIn_cons]
    refine wpAny_bind (wpAny_bind (hx (m + 1) (by omega) _ _ _ _ _ hg hS hu e0 fun hz tq hk => wpAny_pure ?_))
    refine tup_fold hg hS hu hl (ac.push t) (m + (t.length + 2)) _ Q (by omega) (fun b o e => hk _ _ (e0 _ _ e)) fun hy tr hk2 => ?_
    have q := h hy tr fun b o e => hk2 _ _ (hk _ _ e)
    rw [show m + piled (t :: tt) = m + (t.length + 2) + piled tt by rw [piled_cons]; omega] at q
    simpa using q
theorem tup_at {its : Array Value} {k : Nat} {tt : List Str} (ha : h₀.get? a = some oa) (hd : oa.data = .seq its k) (hoff : ¬ S.t a) (hT : RKs P w h₀ d (S.addT a) its.toList tt)
    {A : Around} {g : List Code} {s : Shared} {R : Result → Shared → Prop} {n : Nat} {id : String} {rest : List Value} (hid : id = "tuple.__repr__" ∨ id = "tuple.__repr__.under") (hcg : (Code.builtin id ⟨.ref a :: rest, []⟩).isGuard = true) (hcu : (A.under (.builtin id ⟨.ref a :: rest, []⟩)).units = A.units + 1)
    (hg : A.guards = some g) (hS : S.Of g) (hu : A.units + (d + 1) < cLine) (e0 : Ext h₀ s.heap) (hR : ∀ hz u tq, Ext s.heap hz → R (.ok (.ret (.str (tupleText tt) u))) { s with heap := hz, toks := tq }) (hsz : n + (tupleText tt).length ≤ sizeLine) :
    wpOwn (model P w) A (.builtin id ⟨.ref a :: rest, []⟩) (Builtin.tupleReprAt n ⟨[.ref a], []⟩) (fun fin s' => match fin with | .done f => R (.ok f) s' | .again c' => c'.quiet = true ∧ codeAny (model P w) A c' R s') (fun e s' => R (.error e) s') s := by
  have hl : tt.length = its.size := by simpa using hT.len
  have pl := piled_le_tupleText tt
  have z0 : (tupleText tt).length ≤ sizeLine := by omega
  rw [tuple_repr_tree, tupleReprUnderWay_eq]
  refine wpOwn_bind (wpOwn_stackTailAny hg (tupGuardF_off _) (tupGuardF_pos _) ?_)
  rw [show (g.any fun c => tupGuardF (.ref a) (c, default)) = false from by
    cases e : g.any fun c => tupGuardF (.ref a) (c, default) with
    | false => rfl
    | true => exact absurd ((hS a).2.1.mp e) hoff]
  refine wpOwn_of_wpAny ?_
  show wpAny _ _ (tupleReprRest n (.ref a)) _ _ s
  unfold tupleReprRest Builtin.Tuple.tupleItemsOf
  refine wpAny_bind (wpAny_bind (wpAny_seqItems (e0 _ _ ha) hd (wpAny_pure ?_)))
  rw [← Array.forIn_toList]
  refine wpAny_bind (tup_fold (guards_under_guard hcg hg) (of_addT hid hS) (by rw [hcu]; omega) hT _ _ _ _ (by omega) e0 fun hz tq hk => ?_)
  refine wpAny_bind (wpAny_mkStr (wpAny_pure ?_) (by simpa [tupleText, hl] using z0))
  have q := hR hz tq (tq + 1) hk
  simpa [tupleText, hl] using q
theorem RX.tuple {its : Array Value} {k : Nat} {tt : List Str} (ha : h₀.get? a = some oa) (hc : oa.cls = .type "tuple") (hd : oa.data = .seq its k) (hoff : ¬ S.t a) (hT : RKs P w h₀ d (S.addT a) its.toList tt) (hz : (tupleText tt).length ≤ sizeLine) : RX P w h₀ (d + 1) S (.ref a) (tupleText tt) := by
  refine ⟨fun n hn A g E s Q hg hS hu e0 hQ => ?_, fun A g E s Q hg hS hu e0 hQ => ?_, hz⟩
  · refine wpAny_pyReprUnder_ref (by omega) (wpAny_pyReprObjUnder_twin (twin := "tuple.__repr__.under") ⟨oa, e0 _ _ ha, hc⟩ F.slot_tuple_repr rfl (by omega) ?_)
    exact call_twin_own (F.quiet_tuple_repr_under _) F.entry_tuple_repr_under F.check_tuple_repr_under ⟨oa, e0 _ _ ha, hc⟩ F.slot_tuple_repr (F.args_tuple_repr_1 _) (tup_at (R := callEnd _ E) ha hd hoff hT (.inr rfl) (isGuard_tuple_repr_under _) (units_under_tuple_repr_under _ _) hg hS hu e0 (fun hz u tq hk => ⟨⟨_, _, rfl⟩, ⟨_, _, rfl, hQ hz tq hk⟩⟩) hn)
  · refine PySem.RpG.rep_t (t := tupleText tt) ⟨oa, e0 _ _ ha, hc⟩ (by omega) ?_
    exact wpAny_call (codeAny_call_builtin_own (Code.quiet_builtin _ (by decide +kernel)) F.entry_tuple_repr (F.slot_tuple_repr.check _ _ _ _ _ _ _ _ ⟨oa, e0 _ _ ha, hc⟩ (F.args_tuple_repr_1 _) (tup_at (n := 0) (R := callEnd _ E) (A := A.in1) ha hd hoff hT (.inl rfl) (isGuard_tuple_repr _) (units_under_tuple_repr _ _) hg hS (by show A.units + 1 + (d + 1) < cLine; omega) e0 (fun hz u tq hk => ⟨_, rfl, hQ hz u tq hk⟩) (by omega))))
inductive REs (P : Program) (w : World) (h₀ : Heap) (d : Nat) (S : GS) : List DictEntry → List Str → Prop
  | nil : REs P w h₀ d S [] []
  | cons {e : DictEntry} {k v : Str} {es : List DictEntry} {pp : List Str} : RK P w h₀ d S e.key k → RK P w h₀ d S e.val v → REs P w h₀ d S es pp → REs P w h₀ d S (e :: es) ((k ++ ": " ++ v) :: pp)
theorem REs.len : ∀ {es : List DictEntry} {pp : List Str}, REs P w h₀ d S es pp → pp.length = es.length
  | _, _, .nil => rfl
  | _, _, .cons _ _ h => by rw [List.length_cons, List.length_cons, h.len]
theorem REs.at : ∀ {es : List DictEntry} {pp : List Str}, REs P w h₀ d S es pp → ∀ {i : Nat} {e : DictEntry}, es[i]? = some e → ∃ k v : Str, pp[i]? = some (k ++ ": " ++ v) ∧ RK P w h₀ d S e.key k ∧ RK P w h₀ d S e.val v
  | _, _, .nil, _, _, q => by cases q
  | _, _, .cons h1 h2 _, 0, _, q => by cases q; exact ⟨_, _, rfl, h1, h2⟩
  | _, _, .cons _ _ h, i + 1, _, q => h.at (i := i) q
theorem dct_at {es : Array DictEntry} {k : Nat} {pp : List Str} (ha : h₀.get? a = some oa) (hc : oa.cls = .type "dict") (hd : oa.data = .dict es k) (hsys : (a == sysModules) = false) (hoff : ¬ S.d a) (hE : REs P w h₀ d (S.addD a) es.toList pp)
    {A : Around} {g : List Code} {s : Shared} {R : Result → Shared → Prop} {n : Nat} {id : String} {rest : List Value} (hid : id = "dict.__repr__" ∨ id = "dict.__repr__.under") (hcg : (Code.builtin id ⟨.ref a :: rest, []⟩).isGuard = true) (hcu : (A.under (.builtin id ⟨.ref a :: rest, []⟩)).units = A.units + 1)
    (hg : A.guards = some g) (hS : S.Of g) (hu : A.units + (d + 1) < cLine) (e0 : Ext h₀ s.heap) (hR : ∀ hz u tq, Ext s.heap hz → R (.ok (.ret (.str (dictText pp) u))) { s with heap := hz, toks := tq }) (hsz : n + (dictText pp).length ≤ sizeLine) :
    wpOwn (model P w) A (.builtin id ⟨.ref a :: rest, []⟩) (Builtin.dictReprAt n ⟨[.ref a], []⟩) (fun fin s' => match fin with | .done f => R (.ok f) s' | .again c' => c'.quiet = true ∧ codeAny (model P w) A c' R s') (fun e s' => R (.error e) s') s := by
  have hl : pp.length = es.size := by simpa using hE.len
  have pl := piled_le_dictText pp
  have z0 : (dictText pp).length ≤ sizeLine := by omega
  unfold Builtin.dictReprAt
  refine wpOwn_bind (wpOwn_of_wpAny ?_)
  unfold Builtin.Dict.dictSlotNone
  refine wpAny_bind (wpAny_notOrdered_dict ⟨oa, e0 _ _ ha, hc⟩ ?_)
  show wpAny _ _ (Pure.pure (Value.ref a)) _ _ s
  refine wpAny_pure ?_
  rw [dictReprRunning_eq]
  refine wpOwn_bind (wpOwn_stackTailAny hg (dictGuardF_off _) (dictGuardF_pos _) ?_)
  rw [show (g.any fun c => dictGuardF (.ref a) (c, default)) = false from by
    cases e : g.any fun c => dictGuardF (.ref a) (c, default) with
    | false => rfl
    | true => exact absurd ((hS a).2.2.mp e) hoff]
  refine wpOwn_of_wpAny ?_
  have g2 := guards_under_guard hcg hg
  have S2 := of_addD (a := a) (rest := rest) (kw := []) hid hS
  have u2 : (A.under (.builtin id ⟨.ref a :: rest, []⟩)).units + d < cLine := by rw [hcu]; omega
  show wpAny _ _ (Builtin.Dict.addrOf (.ref a) >>= _) _ _ s
  refine wpAny_bind (wpAny_pure ?_)
  show wpAny _ _ (Builtin.Dict.showsAll a >>= _) _ _ s
  unfold Builtin.Dict.showsAll
  rw [if_neg (by rw [hsys]; exact Bool.false_ne_true)]
  refine wpAny_bind (wpAny_pure (wpAny_bind (wpAny_dictEpoch (e0 _ _ ha) hd (wpAny_bind (wpAny_dictEntries (e0 _ _ ha) hd (wpAny_bind ?_))))))
  rw [Std.Legacy.Range.forIn_eq_forIn_range']
  simp only [Std.Legacy.Range.size, Nat.sub_zero, Nat.add_sub_cancel, Nat.div_one]
  refine wpAny_forIn_list _
    (fun rs r s' => ∃ i hz tq, rs = List.range' i (es.size - i) ∧ i ≤ es.size ∧ r = (⟨(pp.take i).toArray, n + piled (pp.take i)⟩ : (Array Str × Nat)) ∧ s' = { s with heap := hz, toks := tq } ∧ Ext s.heap hz)
    _ ?_ ?_ _ _ ⟨0, s.heap, s.toks, by simp, Nat.zero_le _, by simp [piled], rfl, fun _ _ e => e⟩
  · rintro x rs _ s' ⟨i, hz, tq, hr, hi, rfl, rfl, hk⟩
    have lt : i < es.size := by
      refine Nat.lt_of_not_le fun q => ?_
      rw [Nat.sub_eq_zero_of_le q] at hr
      simp at hr
    rw [show es.size - i = (es.size - (i + 1)) + 1 by omega, List.range'_succ] at hr
    injection hr with r1 r2
    subst r1
    obtain ⟨kt, vt, hp, rk, rv⟩ := hE.at (i := x) (e := es[x]) (by simp [lt])
    have pz : (kt ++ ": " ++ vt).length = kt.length + 2 + vt.length := by
      rw [strLen_append, strLen_append]
      rfl
    have p1 := piled_take_succ hp
    have p2 := piled_take_le pp (x + 1)
    rw [pz] at p1
    refine wpAny_bind (wpAny_dictEntries (hk _ _ (e0 _ _ ha)) hd ?_)
    rw [Array.getElem?_eq_getElem lt]
    refine wpAny_bind (wpAny_holding (wpAny_bind (rk (n + piled (pp.take x) + 1) (by omega) _ _ _ _ _ g2 S2 u2 (fun b o e => hk _ _ (e0 _ _ e)) fun h1 t1 k1 =>
      wpAny_bind (rv (n + piled (pp.take x) + (kt.length + 3)) (by omega) _ _ _ _ _ g2 S2 u2 (fun b o e => k1 _ _ (hk _ _ (e0 _ _ e))) fun h2 t2 k2 => wpAny_pure ?_))))
    refine wpAny_bind (wpAny_dictEpoch (k2 _ _ (k1 _ _ (hk _ _ (e0 _ _ ha)))) hd ?_)
    rw [if_neg (by simp)]
    refine wpAny_pure ⟨x + 1, h2, t2, r2, lt, ?_, rfl, fun b o e => k2 _ _ (k1 _ _ (hk _ _ e))⟩
    rw [show (pp.take x).toArray.push (kt ++ ": " ++ vt) = (pp.take (x + 1)).toArray by rw [List.take_add_one, hp]; simp, show n + piled (pp.take x) + (kt.length + vt.length + 4) = n + piled (pp.take (x + 1)) by omega]
  · rintro _ s' ⟨i, hz, tq, hr, hi, rfl, rfl, hk⟩
    have hin : i = es.size := by
      refine Nat.le_antisymm hi (Nat.le_of_not_lt fun q => ?_)
      rw [show es.size - i = (es.size - (i + 1)) + 1 by omega, List.range'_succ] at hr
      cases hr
    rw [hin, ← hl, List.take_length]
    refine wpAny_bind (wpAny_mkStr (wpAny_pure ?_) (by simpa [dictText] using z0))
    have q := hR hz tq (tq + 1) hk
    simpa [dictText] using q
theorem rep_d {A : Around} {E : Value → Shared → Prop} {s : Shared} {Q : Value → Shared → Prop} {t : Str} (hTy : s.TypeIs (.ref a) "dict") (hu : A.units + 1 < cLine) (hc : wpAny (model P w) A.in1 (call (.builtin "dict.__repr__") [.ref a]) (fun v s' => ∃ u, v = .str t u ∧ Q (.str t u) s') E s) : wpAny (model P w) A (call (.builtin "repr") [.ref a]) Q E s := by
  refine Calls.call_function_entry F.kind_repr F.plain_repr F.entry_repr (F.args_repr1 _) ?_
  unfold Builtin.«repr»
  refine wpAny_bind (m := oneArg "repr" _) (wpAny_pure (wpAny_bind (wpAny_cRoomFor hu (wpAny_bind (wpAny_specialOf (name := Str.ofString "__repr__") hTy F.slot_dict_repr.lookup ?_)))))
  refine wpAny_bind (m := callSpecialIfBound? (.ref a) (Str.ofString "__repr__")) (wpAny_callSpecialIfBound?_slotG (name := Str.ofString "__repr__") hTy F.slot_dict_repr (wpAny_mono hc (fun v s' hv => ?_) fun _ _ e => e))
  obtain ⟨u, rfl, hq⟩ := hv
  exact wpAny_bind (wpAny_isInstance (T := "str") (b := true) rfl isSubtype_str_str (wpAny_pure ⟨_, rfl, hq⟩))
theorem RX.dict {es : Array DictEntry} {k : Nat} {pp : List Str} (ha : h₀.get? a = some oa) (hc : oa.cls = .type "dict") (hd : oa.data = .dict es k) (hsys : (a == sysModules) = false) (hoff : ¬ S.d a) (hE : REs P w h₀ d (S.addD a) es.toList pp) (hz : (dictText pp).length ≤ sizeLine) : RX P w h₀ (d + 1) S (.ref a) (dictText pp) := by
  refine ⟨fun n hn A g E s Q hg hS hu e0 hQ => ?_, fun A g E s Q hg hS hu e0 hQ => ?_, hz⟩
  · refine wpAny_pyReprUnder_ref (by omega) (wpAny_pyReprObjUnder_twin (twin := "dict.__repr__.under") ⟨oa, e0 _ _ ha, hc⟩ F.slot_dict_repr rfl (by omega) ?_)
    exact call_twin_own (F.quiet_dict_repr_under _) F.entry_dict_repr_under F.check_dict_repr_under ⟨oa, e0 _ _ ha, hc⟩ F.slot_dict_repr (F.args_dict_repr_1 _) (dct_at (R := callEnd _ E) ha hc hd hsys hoff hE (.inr rfl) (isGuard_dict_repr_under _) (units_under_dict_repr_under _ _) hg hS hu e0 (fun hz u tq hk => ⟨⟨_, _, rfl⟩, ⟨_, _, rfl, hQ hz tq hk⟩⟩) hn)
  · refine rep_d (t := dictText pp) ⟨oa, e0 _ _ ha, hc⟩ (by omega) ?_
    exact wpAny_call (codeAny_call_builtin_own (Code.quiet_builtin _ (by decide +kernel)) F.entry_dict_repr (F.slot_dict_repr.check _ _ _ _ _ _ _ _ ⟨oa, e0 _ _ ha, hc⟩ (F.args_dict_repr_1 _) (dct_at (n := 0) (R := callEnd _ E) (A := A.in1) ha hc hd hsys hoff hE (.inl rfl) (isGuard_dict_repr _) (units_under_dict_repr _ _) hg hS (by show A.units + 1 + (d + 1) < cLine; omega) e0 (fun hz u tq hk => ⟨_, rfl, hQ hz u tq hk⟩) (by omega))))
end
end RpX
end PySem
-- part Gd77
set_option Elab.async false
set_option linter.all false
set_option maxRecDepth 100000
set_option maxHeartbeats 2000000
namespace Gd
open PySem PySem.Spec PyProof.Rows L2
open PySem.RpX
def RpV (K : PySem.W.Frag) (S : GS) (d : Nat) (v : V) (t : Str) (G : Hp) : Prop := ∀ {X : Cx} {pins : List (Addr × Obj)} {σ : L2.St} {H : Hp} {s : Shared}, X.K = K → L2.Inv X pins σ H s → Rel true G H → ∀ u, RelV v u → RX X.prog X.w s.heap d S u t
theorem RpV.st {K : PySem.W.Frag} {S : GS} {d : Nat} {v : V} {t : Str} {G G' : Hp} (s : Same G G') (h : RpV K S d v t G) : RpV K S d v t G' := fun hK I r u ru => h hK I (fun a o e => r a o (s a o e)) u ru
theorem RpV.le {K : PySem.W.Frag} {S : GS} {d d' : Nat} {v : V} {t : Str} {G : Hp} (h : RpV K S d v t G) (q : d ≤ d') : RpV K S d' v t G := fun hK I r u ru => (h hK I r u ru).le q
theorem okS_sg {x : Str} (h : okS x = true) : ∀ c ∈ x.cps.toList, c < 16 ^ 8 := fun c hc => by
  unfold okS at h
  rw [Bool.and_eq_true] at h
  have h1 : (x.cps.all fun c => decide (c < 0x110000)) = true := h.1
  have h2 : c ∈ x.cps := by simpa using hc
  have h3 := Array.all_eq_true_iff_forall_mem.mp h1 c h2
  have h4 : c < 0x110000 := of_decide_eq_true h3
  exact Nat.lt_trans h4 (by decide)
theorem repr_len {x : Str} (h : okS x = true) : (reprText x).length ≤ 10 * x.length + 2 := StrLaws.reprText_len x (okS_sg h)
section
variable {K : PySem.W.Frag} {G : Hp}
theorem vals_at {vs : List V} {us : List Value} (h : Vals vs us) : ∀ {i : Nat} {u : Value}, us[i]? = some u → ∃ v, vs[i]? = some v ∧ RelV v u := by
  induction h with
  | nil => intro i u e; cases e
  | cons h _ ih =>
    intro i u e
    cases i with
    | zero => cases e; exact ⟨_, rfl, h⟩
    | succ i => exact ih (i := i) e
open Classical in
theorem rks_of {P : Program} {w : World} {h₀ : Heap} {d : Nat} {S : GS} : ∀ {us : List Value} {tt : List Str}, tt.length = us.length → (∀ (i : Nat) (u : Value), us[i]? = some u → ∃ t, tt[i]? = some t ∧ RK P w h₀ d S u t) → RKs P w h₀ d S us tt
  | [], [], _, _ => .nil
  | [], _ :: _, h, _ => by cases h
  | _ :: _, [], h, _ => by cases h
  | u :: us, t :: tt, h, k => by
    obtain ⟨t', e1, e2⟩ := k 0 u rfl
    cases e1
    exact .cons e2 (rks_of (Nat.succ.inj h) fun i u e => k (i + 1) u e)
open Classical in
open Classical in
end
end Gd
-- part Gd78
set_option Elab.async false
set_option linter.all false
set_option maxRecDepth 100000
set_option maxHeartbeats 2000000
namespace Gd
open PySem PySem.Spec PyProof.Rows L2
open PySem.RpX
def rRpX (K : PySem.W.Frag) (g : List Code) : List V → Hp → VK → Prop := fun xs H Q => ∃ (v : V) (t : Str) (G : Hp), xs = [v] ∧ Rel true G H ∧ RpV K (gsOf g) 40 v t G ∧ Q (.str t) H
theorem call_rpX {X : Cx} {K : PySem.W.Frag} {g : List Code} (hg : X.A.guards = some g) (hu : X.A.units + 64 < cLine) (hK : X.K = K := by rfl) : CallR X (.builtin "repr") (rRpX K g) := by
  intro pins s σ H xs us Q I r h
  obtain ⟨v, t, G, rfl, rel, hv, q⟩ := h
  obtain ⟨u, rfl, ru⟩ := vals1 r
  refine (hv hK I rel u ru).c X.A g _ s _ hg (gsOf_of g) (by omega) (fun _ _ e => e) fun hz tu tq hk => ?_
  exact ⟨.str t, H, I.kept hk, ⟨_, rfl⟩, q⟩
def ReT (K : PySem.W.Frag) (g : List Code) (R : SR) (t : Str) : SR := ⟨fun u G => R.p u G ∧ RpV K (gsOf g) 40 u t G, fun s ⟨h1, h2⟩ => ⟨R.st s h1, h2.st s⟩⟩
section
variable {K : PySem.W.Frag} {W : SC} {g : List Code} {G0 : Hp} {n k m : Nat} {O : Own} {Rs : RL} {R : SR} {te ta tb : TE} {t u : TS} {D : Ends} {i j : Nat}
theorem EL.rt {x : Str} (h : EL W O k te Rs (ReT K g R x)) : EL W O k te Rs R := h.is fun _ _ p => p.1
end
end Gd
-- part Gd79
set_option Elab.async false
set_option linter.all false
set_option maxRecDepth 100000
set_option maxHeartbeats 2000000
-- part Gd80
set_option Elab.async false
set_option linter.all false
set_option maxRecDepth 100000
set_option maxHeartbeats 2000000
-- part Gd81
set_option Elab.async false
set_option linter.all false
set_option maxRecDepth 100000
set_option maxHeartbeats 2000000
-- part Gd82
set_option Elab.async false
set_option linter.all false
set_option maxRecDepth 100000
set_option maxHeartbeats 2000000
-- part K2
set_option Elab.async false
set_option linter.all false
set_option maxRecDepth 100000
set_option maxHeartbeats 1000000
-- part K3
set_option Elab.async false
set_option linter.all false
set_option maxRecDepth 100000
set_option maxHeartbeats 1000000
-- part K4
set_option Elab.async false
set_option linter.all false
set_option maxRecDepth 100000
set_option maxHeartbeats 1000000
namespace Gd
open PySem PySem.Spec PyProof.Rows L2
universe u
def pinB (Gb : Hp) (R : SR) : SR := ⟨fun u G => R.p u Gb ∧ Same Gb G, fun s h => ⟨h.1, h.2.trans s⟩⟩
section
variable {K : PySem.W.Frag} {W : SC} {O : Own} {n k m : Nat} {G0 Gb G H : Hp} {Rs : RL} {R : SR} {te ta tb : TE} {t u : TS} {α : Type} {e : α → SR} {xs : List α} {i : Nat} {p z : Addr} {D : Ends} {σ : L2.St}
theorem At.base (a : At W Gb n O Rs σ H) (s : Same G0 Gb) : At W G0 n O Rs σ H := let ⟨G, s2, sl, w⟩ := a; ⟨G, s.trans s2, sl, w⟩
end
end Gd
-- part Gd89
set_option Elab.async false
set_option linter.all false
set_option maxRecDepth 100000
set_option maxHeartbeats 1000000
-- part Gj2
set_option Elab.async false
set_option linter.all false
set_option maxRecDepth 100000
set_option maxHeartbeats 2000000
namespace Gd
open PySem PySem.Spec PyProof.Rows L2
universe u
section
variable {K : PySem.W.Frag} {W : SC} {O O' : Own} {n k m j i : Nat} {G0 Gb Ge G H : Hp} {Rs Rs' : RL} {R : SR} {te ta tb tc to t1 t2 t3 : TE} {t u : TS} {D : Ends} {α β : Type} {e : α → SR} {f : β → SR} {xs : List α} {ys : List β} {p B : Addr}
def cutG (ks : List Addr) (G : Hp) : Hp := fun b => if b ∈ ks then none else G b
theorem cutG_at {ks : List Addr} {b : Addr} (h : b ∉ ks) : cutG ks G b = G b := by unfold cutG; rw [if_neg h]
theorem cutG_sub {ks : List Addr} {b : Addr} {o : HO} (h : cutG ks G b = some o) : G b = some o := by
  unfold cutG at h
  split at h
  · cases h
  · exact h
theorem cutG_keep {ks : List Addr} (sb : Same Gb G) (hk : ∀ a ∈ ks, Gb a = none) : Same Gb (cutG ks G) := fun b o e => by
  rw [cutG_at fun hb => by rw [hk b hb] at e; cases e]
  exact sb b o e
abbrev Lent (W : SC) (Gb Ge : Hp) (O : Own) : Prop := ∀ q ∈ O, q.1 ≠ W.s ∧ q.1 ≠ W.c ∧ Gb q.1 = none ∧ ∃ o, Ge q.1 = some o ∧ isTT o = false ∧ q.2.p o Gb
theorem Wd.back (w : Wd W n [] G H) (sb : Same Gb Ge) (s : Same Ge G) (nd : (O.map (·.1)).Nodup) (hO : Lent W Gb Ge O) : Wd W n O (cutG (O.map (·.1)) G) H := by
  have keep : Same Gb (cutG (O.map (·.1)) G) := cutG_keep (sb.trans s) fun a ha => by
    obtain ⟨q, hq, rfl⟩ := List.mem_map.mp ha
    exact (hO q hq).2.2.1
  have ns : ∀ a ∈ O.map (·.1), a ≠ W.s ∧ a ≠ W.c := fun a ha => by
    obtain ⟨q, hq, rfl⟩ := List.mem_map.mp ha
    exact ⟨(hO q hq).1, (hO q hq).2.1⟩
  refine ⟨fun a o e => w.r a o (cutG_sub e), fun a o e => w.nt a o (cutG_sub e), w.tb, ?_, nd, fun q hq => ?_⟩
  · obtain ⟨d1, d2, d3, d4⟩ := w.d
    refine ⟨d1, ?_, ?_, d4⟩
    · rw [cutG_at fun h => (ns _ h).1 rfl]; exact d2
    · rw [cutG_at fun h => (ns _ h).2 rfl]; exact d3
  · obtain ⟨a1, a2, a3, o, a4, a5, a6⟩ := hO q hq
    exact ⟨a1, a2, by unfold cutG; rw [if_pos (List.mem_map.mpr ⟨q, hq, rfl⟩)], o, w.r.ex (s _ _ a4), a5, q.2.st keep a6⟩
inductive Bk (Gb : Hp) : RL → RL → Prop
  | nil : Bk Gb [] []
  | no {r : Option SR} {as bs : RL} : Bk Gb as bs → Bk Gb (r :: as) (none :: bs)
  | pin {R : SR} {as bs : RL} : Bk Gb as bs → Bk Gb (some (pinB Gb R) :: as) (some R :: bs)
  | cv {R R' : SR} {as bs : RL} : (∀ v G G', R.p v G → R'.p v G') → Bk Gb as bs → Bk Gb (some R :: as) (some R' :: bs)
theorem Bk.len {as bs : RL} (h : Bk Gb as bs) : bs.length = as.length := by
  induction h with
  | nil => rfl
  | no _ ih => rw [List.length_cons, List.length_cons, ih]
  | pin _ ih => rw [List.length_cons, List.length_cons, ih]
  | cv _ _ ih => rw [List.length_cons, List.length_cons, ih]
theorem Bk.at {as bs : RL} (h : Bk Gb as bs) {G' : Hp} (sb : Same Gb G') : ∀ (i : Nat) (R' : SR), bs[i]? = some (some R') → ∃ R : SR, as[i]? = some (some R) ∧ ∀ v G, R.p v G → R'.p v G' := by
  induction h with
  | nil => intro i R' e; cases e
  | no _ ih =>
    intro i R' e
    cases i with
    | zero => cases e
    | succ i => exact ih i R' e
  | @pin R as bs _ ih =>
    intro i R' e
    cases i with
    | zero =>
      obtain rfl : R = R' := Option.some.inj (Option.some.inj e)
      exact ⟨_, rfl, fun v G h => R.st sb h.1⟩
    | succ i => exact ih i R' e
  | @cv R R2 as bs hc _ ih =>
    intro i R' e
    cases i with
    | zero =>
      obtain rfl : R2 = R' := Option.some.inj (Option.some.inj e)
      exact ⟨_, rfl, fun v G h => hc v G G' h⟩
    | succ i => exact ih i R' e
end
end Gd
-- part Gj3
set_option Elab.async false
set_option linter.all false
set_option maxRecDepth 100000
set_option maxHeartbeats 2000000
namespace Gd
open PySem PySem.Spec PyProof.Rows L2
universe u
structure FnZ (P : Program) (w : World) (K : PySem.W.Frag) (mg : Str → Option Value) (base : Heap) (k : Nat) (f : Addr) (fd : FuncData) (ps : List Str) (sp : Sp) : Prop where
  len : ∀ vs H Q E, sp vs H Q E → vs.length = ps.length
  go : ∀ (A : Around) (outer : List Env) (s : Shared) (H : Hp) (us : List Value) (vs : List V) (Q : VK) (E : XK), A.guards = some [] → Room k A → Env0 P w K mg base A outer s H → BindsTo s fd ⟨us, []⟩ (ps.zip us) → Vals vs us → sp vs H Q E → codeAny (model P w) A (.call (.ref f) ⟨us, []⟩) (CR CX0 outer P w H s Q E) s
structure CalZ (P : Program) (w : World) (K : PySem.W.Frag) (mg : Str → Option Value) (base : Heap) (k : Nat) (x : Str) (sp : Sp) : Prop where
  ex : ∃ (f : Addr) (fd : FuncData) (ps : List Str), FnZ P w K mg base k f fd ps sp ∧ mg x = some (.ref f) ∧ PySem.W.keepIn K (.ref f) = true ∧ Binds K fd ps []
section
variable {P : Program} {w : World} {K : PySem.W.Frag} {mg : Str → Option Value} {base : Heap}
theorem calZ_of {x : Str} {st : Stmt} {N ps : List Str} {k : Nat} {sp : Sp} (F : Fn K mg x st ps) (S : FnScope N ps (defScope st)) (len : ∀ vs H Q E, sp vs H Q E → vs.length = ps.length)
    (body : ∀ (f : Addr) (cdv : Value) (A : Around) (outer : List Env) (s : Shared) (H : Hp) (vs : List V) (Q : VK) (E : XK), A.guards = some [] → Room k (A.deeper (envOfC x (defScope st) s.heap.objs.size f cdv)) → sp vs H Q E →
      ∃ t, PSs (cxOf CX0 P w K mg base N x (defScope st) f cdv A outer s H E).nox (defBody st) t ∧ t { nx := fun _ H' => Q .non H', rt := Q } (L2.start N vs) H) : CalZ P w K mg base (k + 1) x sp := by
  obtain ⟨f, fd, h1, h2, h3⟩ := F
  refine ⟨f, fd, ps, ⟨len, fun A outer s H us vs Q E hz hr e0 hb r hsp => ?_⟩, h2, h1.kp, h3⟩
  obtain ⟨oc, od, kV, doc, pm, an, cdv, ct, osl, rfl, lk, hcd⟩ := h1.ex
  refine LamX.run_ofS lk hcd S hr e0 hb r (len _ _ _ _ hsp) fun hr2 => ?_
  obtain ⟨t, h, q⟩ := body f cdv A outer s H vs Q E hz hr2 hsp
  exact ⟨t, h.nox, q⟩
theorem fnZL_of {x : Str} {st : Stmt} {N ps : List Str} {k : Nat} {sp : Sp} {c f : Addr} {oc : Value} {od : Option Addr} {kV doc pm : Value} {an : Option Addr} {ct : Value} {osl : Array (Option Value)} (lk : K.lookup f = some ⟨oc, od, .func (PySem.W.fnOf x x (defArgs st) (defBody st) (defScope st) .none kV doc pm an (.ref c) ct), osl⟩) (hcd : PySem.W.codeIn K (.ref c) x = true) (S : FnScope N ps (defScope st)) (len : ∀ vs H Q E, sp vs H Q E → vs.length = ps.length)
    (body : ∀ (A : Around) (outer : List Env) (s : Shared) (H : Hp) (vs : List V) (Q : VK) (E : XK), A.guards = some [] → Room k (A.deeper (envOfC x (defScope st) s.heap.objs.size f (.ref c))) → sp vs H Q E →
      ∃ t, PSs (cxOf CX0 P w K mg base N x (defScope st) f (.ref c) A outer s H E).nox (defBody st) t ∧ t { nx := fun _ H' => Q .non H', rt := Q } (L2.start N vs) H) : FnZ P w K mg base (k + 1) f (PySem.W.fnOf x x (defArgs st) (defBody st) (defScope st) .none kV doc pm an (.ref c) ct) ps sp :=
  ⟨len, fun A outer s H us vs Q E hz hr e0 hb r hsp => LamX.run_ofS lk hcd S hr e0 hb r (len _ _ _ _ hsp) fun hr2 => by
    obtain ⟨t, h, q⟩ := body A outer s H vs Q E hz hr2 hsp
    exact ⟨t, h.nox, q⟩⟩
end
section
variable {X : Cx} {k j : Nat} {x : Str} {sp : Sp} {p pos : Pos} {e : Expr} {es : List Expr} {t : TA}
theorem pe_cZ (c : CalZ X.prog X.w X.K X.mg X.base k x sp) (hz : X.A.guards = some []) (hr : Room j X.A) (hk : k ≤ j) (hg : Gl X x) (ha : PA X (e :: es) t) (hd : (x == ("__debug__" : Str)) = false := by decide)
    (he : starEach (e :: es) X.env = (false, eval e X.env) :: starEach es X.env := by rfl) (hp : (backTo pos (starEach es X.env)).any (·.1) = false := by rfl) : PE X (.Call (.Name x p) (e :: es) [] pos) (tCall sp [] C8.E0 t) := by
  obtain ⟨f, fd, ps, F, hm, kp, b⟩ := c.ex
  refine ⟨fun pins s σ H Q I q0 => wpAny_Call_Name_kw (ld_glob I hg hm ?_ hd)⟩
  refine PySem.W.callWith_K (h₀ := X.base) I.ok.mod.kin kp (thn (ha.run pos pins s σ H _ I q0) fun us s1 q1 => ?_) he hp
  obtain ⟨vs, H1, I1, r, q⟩ := q1
  have q : sp vs H1 Q C8.E0 := by
    have q2 : sp (vs ++ []) H1 Q C8.E0 := q
    rwa [List.append_nil] at q2
  have hl : (us ++ []).length = ps.length := by rw [List.append_nil, ← r.length]; exact F.len _ _ _ _ q
  have hb := b s1 us I1.kIn hl
  rw [List.append_nil] at hb
  refine ⟨I1.kIn, wpAny_call (codeAny_mono (F.go X.A X.stack s1 H1 us vs Q C8.E0 hz (hr.mono hk) I1.env0 hb r q) fun o s2 ho => ?_)⟩
  match o, ho with
  | .error z, ho => exact ho.elim
  | .ok (.ret u), ho => exact I1.after ho
  | .ok .next, ho => exact ho.elim
  | .ok .brk, ho => exact ho.elim
  | .ok .cont, ho => exact ho.elim
end
def scrH (K : PySem.W.Frag) (a : Addr) (ts : List Addr) (o : Obj) (xs : List V) : Hp := fun b => if b ∈ ts then some (.tbl #[]) else if b = a ∧ (K.lookup a).isNone = true then some (.frz o (.lst xs)) else none
theorem scr_at {K : PySem.W.Frag} {a b : Addr} {ts : List Addr} {o : Obj} {xs : List V} {u : HO} (h : scrH K a ts o xs b = some u) : (b ∈ ts ∧ u = .tbl #[]) ∨ (b ∉ ts ∧ b = a ∧ K.lookup a = none ∧ u = .frz o (.lst xs)) := by
  unfold scrH at h
  by_cases h1 : b ∈ ts
  · rw [if_pos h1] at h
    exact .inl ⟨h1, (Option.some.inj h).symm⟩
  · rw [if_neg h1] at h
    by_cases h2 : b = a ∧ (K.lookup a).isNone = true
    · rw [if_pos h2] at h
      exact .inr ⟨h1, h2.1, Option.isNone_iff_eq_none.mp h2.2, (Option.some.inj h).symm⟩
    · rw [if_neg h2] at h
      cases h
theorem scr_tb {K : PySem.W.Frag} {a b : Addr} {ts : List Addr} {o : Obj} {xs : List V} (h : b ∈ ts) : scrH K a ts o xs b = some (.tbl #[]) := if_pos h
def seqObj (vs : List Value) : Obj := { cls := .type "list", data := .seq vs.toArray }
def tabObj0 : Obj := { cls := .none, data := .fields #[] }
section
variable {P : Program} {w : World} {K : PySem.W.Frag} {mg mb : Str → Option Value} {k : Nat} {fa a : Addr} {cs : List (Addr × Addr)} {fd : FuncData} {x : Str} {sp : Sp} {s₁ : Shared} {vs : List Value} {ns : List Int}
theorem law_callZ (KX : K.In s₁.heap) (hns : s₁.heap.Ns mainGlobals mg) (hb : s₁.heap.Ns builtinsNs mb) (hbb : ∀ x : Str, x ≠ "__name__" → mb x = bootBuiltins x) (hlim : s₁.heap.NoLimit) (hg : s₁.gens = #[])
    (hT : ∀ p ∈ cs, s₁.heap.get? p.2 = some tabObj0) (nT : ∀ p ∈ cs, K.lookup p.2 = none) (C : ∀ p ∈ cs, PySem.W.CodeHd s₁.heap p.1 p.2)
    (hbm : ∃ (bm : Addr) (ob : Obj), mg "__builtins__" = some (.ref bm) ∧ bm ≠ builtinsNs ∧ s₁.heap.get? bm = some ob ∧ ob.cls = .type "module" ∧ ob.dict = some builtinsNs ∧ ob.data = .plain)
    (ha : s₁.heap.get? a = some (seqObj vs)) (hi : IntsAre vs ns) (hl : ns.length ≤ sizeLine) (hr : Room k callerA)
    (F : ∀ base : Heap, K.In base → base.Ns mainGlobals mg → (∀ p ∈ cs, LamX.TabB base mg p.1 p.2) → FnZ P w K mg base k fa fd [x] sp) (hbind : ∀ (s : Shared) (u : Value), BindsTo s fd ⟨[u], []⟩ [(x, u)])
    (hsp : ∀ H : Hp, (∀ p ∈ cs, H p.2 = some (.tbl #[])) → SqL K H a (ns.map V.int) → sp [.ref a] H (fun v _ => v = .bl true) fun _ _ _ => False) :
    codeAny (model P w) callerA (.call (.ref fa) ⟨[.ref a], []⟩) (fun r s' => r = .ok (.ret (.bool true)) ∧ OldK s₁.heap s'.heap ∧ s'.os = s₁.os ∧ AllBare s'.gens) s₁ := by
  have rv := vals_ints hi
  have lenV := hi.length
  let ts := cs.map (·.2)
  let H0 := scrH K a ts (seqObj vs) (ns.map V.int)
  have tabs : ∀ b ∈ ts, s₁.heap.get? b = some tabObj0 ∧ K.lookup b = none := fun b hb => by
    obtain ⟨p, hp, rfl⟩ := List.mem_map.mp hb
    exact ⟨hT p hp, nT p hp⟩
  have aT : a ∉ ts := fun z => by
    have q := (tabs a z).1
    rw [ha] at q
    have q2 := congrArg Obj.data (Option.some.inj q)
    cases q2
  -- what is tracked is a table or a list
  have trkd : ∀ b u o, H0 b = some u → s₁.heap.get? b = some o → o.data = .fields #[] ∨ ∃ z n, o.data = .seq z n := fun b u o hu ho => by
    rcases scr_at hu with ⟨h1, _⟩ | ⟨_, h1, _⟩
    · rw [(tabs b h1).1] at ho
      cases ho
      exact .inl rfl
    · rw [h1, ha] at ho
      cases ho
      exact .inr ⟨_, _, rfl⟩
  have keep : ∀ {b : Addr} {o : Obj}, s₁.heap.get? b = some o → o.data ≠ .fields #[] → (∀ z n, o.data ≠ .seq z n) → (hidT s₁.heap H0).get? b = some o := fun {b o} ho n1 n2 => hidT_get ho (by
    cases hu : H0 b with
    | none => rfl
    | some u =>
      rcases trkd b u o hu ho with z | ⟨z, n, e⟩
      · exact absurd z n1
      · exact absurd e (n2 z n))
  have keepD : ∀ {b : Addr} {m : Str → Option Value}, s₁.heap.Ns b m → (hidT s₁.heap H0).Ns b m := fun {b m} hN => by
    obtain ⟨o, es, ep, e1, e2, e3⟩ := hN
    exact ⟨o, es, ep, keep e1 (fun z => by rw [e2] at z; cases z) (fun z n q => by rw [e2] at q; cases q), e2, e3⟩
  have ok0 : HOk P w H0 s₁.heap := fun b u hu => by
    rcases scr_at hu with ⟨h1, rfl⟩ | ⟨_, rfl, _, rfl⟩
    · exact (tabs b h1).1
    · exact ⟨ha, by rw [List.length_map]; exact hl, vs, 0, rv, ha⟩
  have kIn : K.In (hidT s₁.heap H0) := fun b o hk => hidT_get (KX b o hk) (by
    cases hu : H0 b with
    | none => rfl
    | some u =>
      rcases scr_at hu with ⟨h1, _⟩ | ⟨_, h1, h2, _⟩
      · rw [(tabs b h1).2] at hk; cases hk
      · rw [h1, h2] at hk; cases hk)
  have isM : L2.Mod K mg (hidT s₁.heap H0) := by
    obtain ⟨mc, c1, c2⟩ := hlim
    exact ⟨kIn, keepD hns, ⟨mb, keepD hb, hbb⟩, mc, keepD c1, c2⟩
  have isTB : ∀ p ∈ cs, LamX.TabB (hidT s₁.heap H0) mg p.1 p.2 := fun p hp => by
    have notD : ∀ {b : Addr} {m : Str → Option Value}, s₁.heap.Ns b m → b ≠ p.2 := fun {b m} ⟨o, es, ep, e1, e2, _⟩ z => by
      rw [z, hT p hp] at e1
      cases e1
      cases e2
    refine ⟨?_, ?_, notD hns⟩
    · obtain ⟨o, us, file, tf, flags, tg, inF, text, tt, e1, r1, r2, r3, rest⟩ := C p hp
      refine ⟨o, us, file, tf, flags, tg, inF, text, tt, keep e1 (fun z => ?_) (fun z n q => ?_), r1, r2, r3, rest⟩
      · rw [r2] at z
        injection z with z
        rw [z] at r3
        cases r3
      · rw [r2] at q; cases q
    · obtain ⟨bm, ob, b1, b2, b3, b4, b5, b6⟩ := hbm
      refine ⟨bm, ob, b1, b2, fun z => ?_, fun z => ?_, keep b3 (fun z => by rw [b6] at z; cases z) (fun z n q => by rw [b6] at q; cases q), b4, b5, b6⟩
      · obtain ⟨o, es, ep, e1, e2, _⟩ := hns
        rw [← z, b3] at e1
        cases e1
        rw [b6] at e2
        cases e2
      · rw [z, hT p hp] at b3
        cases b3
        cases b6
  have arg : SqL K H0 a (ns.map V.int) := by
    cases hk : K.lookup a with
    | none =>
      exact .inl (.inr ⟨seqObj vs, (if_neg aT).trans (if_pos ⟨rfl, by rw [hk]; rfl⟩)⟩)
    | some o =>
      have e := KX a o hk
      rw [ha] at e
      obtain rfl := Option.some.inj e
      exact .inr ⟨_, vs.toArray, _, hk, rfl, rfl, rfl, by rw [List.size_toArray, lenV]; exact hl, by simpa using rv⟩
  have e0 : Env0 P w K mg (hidT s₁.heap H0) callerA [] s₁ H0 := ⟨rfl, isM, fun b o e => of_hidT e, Nat.le_of_eq (hidT_size _ _), trivial, fun b z => absurd (show b ∈ ([] : List Addr) from z) List.not_mem_nil, ok0, .of_eq hg⟩
  have Fz := F _ kIn (keepD hns) isTB
  refine codeAny_mono (Fz.go callerA [] s₁ H0 [.ref a] [.ref a] _ _ rfl hr e0 (hbind s₁ (.ref a)) (.cons rfl .nil) (hsp H0 (fun p hp => scr_tb (List.mem_map.mpr ⟨p, hp, rfl⟩)) arg)) fun r s' ho => ?_
  match r, ho with
  | .error z, ho => exact ho.elim
  | .ok .next, ho => exact ho.elim
  | .ok .brk, ho => exact ho.elim
  | .ok .cont, ho => exact ho.elim
  | .ok (.ret u), ho =>
    obtain ⟨v, H2, os, bare, un, ok2, rvu, hv⟩ := ho
    have hv : v = .bl true := hv
    subst hv
    obtain rfl : u = Value.bool true := rvu
    have same : ∀ b o, b ∉ ts → s₁.heap.get? b = some o → s'.heap.get? b = some o := fun b o nb e => by
      cases hu : H0 b with
      | none => exact un.keep b o e hu (fun z => absurd (show b ∈ ([] : List Addr) from z) List.not_mem_nil) List.not_mem_nil
      | some u =>
        rcases scr_at hu with ⟨h1, _⟩ | ⟨_, _, _, rfl⟩
        · exact absurd h1 nb
        · have e1 := (ok0 b _ hu).1
          have e2 := (ok2 b _ (un.frzs b _ _ hu)).1
          rw [e] at e1
          cases e1
          exact e2
    have more : ∀ b ∈ ts, ∃ z : Array Value, s'.heap.get? b = some { cls := .none, data := .fields z } := fun b hb => by
      obtain ⟨z, hz⟩ := un.tbls b #[] (scr_tb hb)
      exact ⟨_, ok2 b _ hz⟩
    refine ⟨rfl, ⟨fun b o e => ?_, fun b o e => ?_⟩, os, bare⟩
    · by_cases hb : b ∈ ts
      · obtain ⟨p, hp, ep⟩ := List.mem_map.mp hb
        obtain ⟨z, hz⟩ := more b hb
        rw [← ep] at e hz ⊢
        rw [hT p hp] at e
        cases e
        exact .inr (.inl ⟨((C p hp).tab (hT p hp)).isCodeTable, rfl, #[], z, rfl, by rw [Array.empty_append]; exact hz⟩)
      · exact .inl (same b o hb e)
    · by_cases hb : b ∈ ts
      · exact let ⟨z, hz⟩ := more b hb; ⟨_, hz⟩
      · exact ⟨o, same b o hb e⟩
end
def LawAtZ (l : PySem.W.OpenLaw) (w : World) (K : PySem.W.Frag) (k n : Nat) (x : Str) (mg : Str → Option Value) (fa : Addr) (h : Heap) : Prop :=
  ∃ (fd : FuncData) (cs : List (Addr × Addr)) (sp : Sp), (∀ p ∈ cs, h.get? p.2 = some tabObj0) ∧ (∀ p ∈ cs, K.lookup p.2 = none) ∧ (∀ p ∈ cs, PySem.W.CodeHd h p.1 p.2) ∧ (∀ (s : Shared) (u : Value), BindsTo s fd ⟨[u], []⟩ [(x, u)]) ∧
    (∀ (H : Hp) (a : Addr) (ns : List Int), ns.length ≤ n → (∀ z ∈ ns, Builtin.Int.intBits z ≤ 1048576) → (∀ p ∈ cs, H p.2 = some (.tbl #[])) → SqL K H a (ns.map V.int) → sp [.ref a] H (fun v _ => v = .bl true) fun _ _ _ => False) ∧
    ∀ base : Heap, K.In base → base.Ns mainGlobals mg → (∀ p ∈ cs, LamX.TabB base mg p.1 p.2) → FnZ l.prog w K mg base k fa fd [x] sp
theorem walk_ofZ {l : PySem.W.OpenLaw} {n k : Nat} {q : Program} {loose : List Str} {XP : (Str → Option Value) → Heap → Prop} {YP : World → Heap → Prop} {d : DefRec} {K : Params → PySem.W.Frag} {x : Str}
    (hn : l.most = some n) (hn2 : n ≤ sizeLine) (hdf : d.params.defaults = []) (hr : Room k callerA) (hY : ∀ (w : World) (h : Heap), YP w h → (K w.params).In h)
    (F : ∀ (w : World) (mg : Str → Option Value) (fa : Addr) (h : Heap), YP w h → (K w.params).In h → h.Ns mainGlobals mg → mg d.name = some (.ref fa) → LawAtZ l w (K w.params) k n x mg fa h) :
    PySem.W.WalkO q loose XP YP l.row.toRowW d [] (fun f vs => PySem.call f vs) := by
  refine Att.attach_callB hn hdf fun w s₀ s₁ mg mb fa o pm cd doc a vs ns G Y ho hd hcd hmg hobj hints hlen hbits hg => ?_
  have KX := hY w _ Y
  obtain ⟨fd, cs, sp, h1, h2, h3, h4, h5, h6⟩ := F w mg fa _ Y KX G.T.g hmg
  exact law_callZ KX G.T.g G.T.b G.T.builtins G.T.nolimit hg h1 h2 h3 G.T.bmain hobj hints (Nat.le_trans hlen hn2) hr h6 h4 fun H hH hS => h5 H a ns hlen hbits hH hS
end Gd
-- part Gj4
set_option Elab.async false
set_option linter.all false
set_option maxRecDepth 100000
set_option maxHeartbeats 2000000
namespace Gd
open PySem PySem.Spec PyProof.Rows L2
open PySem.RpX
universe u
def FewS (ss : List Str) : Prop := ss.length ≤ 1000 ∧ ∀ s ∈ ss, s.length ≤ 1000
theorem few_sum : ∀ {ss : List Str}, (∀ s ∈ ss, okS s = true ∧ s.length ≤ 1000) → ((ss.map reprText).map (·.length)).sum ≤ ss.length * 10002
  | [], _ => Nat.zero_le _
  | s :: ss, h => by
    have h1 := few_sum (ss := ss) fun x hx => h x (List.mem_cons_of_mem _ hx)
    obtain ⟨h2, h3⟩ := h s (List.mem_cons_self ..)
    have h4 := repr_len h2
    rw [List.map_cons, List.map_cons, List.sum_cons, List.length_cons, Nat.add_mul, Nat.one_mul]
    omega
theorem al_okS {G : Hp} : ∀ {ss : List Str} {vs : List V}, Al S ss vs G → ∀ s ∈ ss, okS s = true
  | _, _, .nil, s, h => by cases h
  | _, _, .cons h t, s, hs => by
    rcases List.mem_cons.mp hs with rfl | hs
    · exact h.2
    · exact al_okS t s hs
end Gd
-- part Gd90
set_option Elab.async false
set_option linter.all false
set_option maxRecDepth 100000
set_option maxHeartbeats 2000000
-- part Gd91
set_option Elab.async false
set_option linter.all false
set_option maxRecDepth 100000
set_option maxHeartbeats 2000000
-- part Gd92
set_option Elab.async false
set_option linter.all false
set_option maxRecDepth 100000
set_option maxHeartbeats 2000000
-- part Gd93
set_option Elab.async false
set_option linter.all false
set_option maxRecDepth 100000
set_option maxHeartbeats 1000000
-- part Ge1
set_option Elab.async false
set_option linter.all false
set_option maxRecDepth 100000
set_option maxHeartbeats 1000000
namespace Gd
open PySem PySem.Spec PyProof.Rows L2
universe u
def ELC (W : SC) (O : Own) (k : Nat) (t : TE) (Rs : RL) (C : SR → Own → Prop) : Prop := ∀ (σ : L2.St) (G H : Hp) (n : Nat) (Q : VK), Slots G σ Rs → Wd W n O G H → n + k ≤ 1000000 → (∀ R Oz v G2 H2, C R Oz → Same G G2 → R.p v G2 → Wd W (n + k) (Oz ++ O) G2 H2 → Q v H2) → t σ H Q
def spC {ι : Type u} (Tb : List (Addr × Str)) (pre : ι → List SR) (ok : ι → Prop) (C : ι → SR → Own → Prop) : Sp := fun vs H Q _ => ∃ (i : ι) (s c : Addr) (n : Nat) (O : Own) (G : Hp), Wd ⟨s, c, Tb⟩ n O G H ∧ n ≤ 1000000 ∧ ok i ∧ AlR (pre i) vs G ∧ ∀ R Oz v G2 H2, C i R Oz → Same G G2 → R.p v G2 → Wd ⟨s, c, Tb⟩ n (Oz ++ O) G2 H2 → Q v H2
theorem spC_len {ι : Type u} {Tb : List (Addr × Str)} {pre : ι → List SR} {ok : ι → Prop} {C : ι → SR → Own → Prop} {vs : List V} {H : Hp} {Q : VK} {E : XK} {l : Nat} (h : spC Tb pre ok C vs H Q E) (hn : ∀ i, (pre i).length = l) : vs.length = l := by
  obtain ⟨i, s, c, n, O, G, _, _, _, al, _⟩ := h
  rw [alr_len al, hn]
section
variable {K : PySem.W.Frag} {W : SC} {O Ob : Own} {n k m : Nat} {G0 G H G2 H2 : Hp} {Rs : RL} {R : SR} {te ta tb tc : TE} {tr : TA} {t u : TS} {D : Ends} {p z : Addr} {i j : Nat} {l : List Str} {ι : Type u} {pre : ι → List SR} {ok : ι → Prop} {E : XK} {C C2 : SR → Own → Prop}
theorem elc_callm {Cs : ι → SR → Own → Prop} (i : ι) (ha : EAL W O k tr Rs (pre i)) (hok : ok i) : ELC W O k (tCall (spC W.tb pre ok Cs) [] E tr) Rs (Cs i) := fun σ G H n Q sl w hn kk => ha σ G H n _ sl w hn fun vs G2 H2 s2 w2 al =>
  ⟨i, W.s, W.c, n + k, O, G2, w2, by omega, hok, by rw [List.append_nil]; exact al, fun R Oz v G3 H3 hc s3 pv w3 => kk R Oz v G3 H3 hc (s2.trans s3) pv w3⟩
end
end Gd
-- part Gm1
set_option Elab.async false
set_option linter.all false
set_option maxRecDepth 100000
set_option maxHeartbeats 2000000
namespace Clo
open PySem PySem.Spec PyProof.Rows L2 LamX NdefX
structure LOkZ (P : Program) (w : World) (K : PySem.W.Frag) (mg : Str → Option Value) (base : Heap) (k : Nat) (f : Addr) (F : LF) (ps fr : List Str) (sp : List (Option V) → Sp) : Prop where
  len : ∀ ws vs H Q E, sp ws vs H Q E → vs.length = ps.length
  run : ∀ (A : Around) (outer : List Env) (s : Shared) (H : Hp) (us : List Value) (vs : List V) (ws : List (Option V)) (Q : VK) (E : XK), A.guards = some [] → Room k A → Env0 P w K mg base A outer s H → H f = some (LamO f F) → H F.c = some (CodeO F.c F.qual) →
    CellsAt F.cl fr ws s.heap H → Vals vs us → sp ws vs H Q E → codeAny (model P w) A (.call (.ref f) ⟨us, []⟩) (CR C8.CX0 outer P w H s Q E) s
section
variable {P : Program} {w : World} {K : PySem.W.Frag} {mg : Str → Option Value} {base : Heap} {N ps fr : List Str} {F : LF} {f : Addr} {k j : Nat} {sp sp' : List (Option V) → Sp}
theorem LOkZ.mono (o : LOkZ P w K mg base j f F ps fr sp) (h : j ≤ k) : LOkZ P w K mg base k f F ps fr sp := ⟨o.len, fun A outer s H us vs ws Q E hz hr => o.run A outer s H us vs ws Q E hz (hr.mono h)⟩
theorem lok_ofZ (S : NScope N ps fr F.scope) (hb : ∀ (pm ctv : Value) (us : List Value), us.length = ps.length → bindArgs (PySem.W.kla_fn "<lambda>" F.qual F.params F.body F.scope F.cl pm (.ref F.c) ctv) ⟨us, []⟩ = pure (ps.zip us)) (len : ∀ ws vs H Q E, sp ws vs H Q E → vs.length = ps.length)
    (hbody : ∀ (A : Around) (outer : List Env) (s : Shared) (H : Hp) (vs : List V) (ws : List (Option V)) (Q : VK) (E : XK), A.guards = some [] → Room k (A.deeper (envF F.nf f s.heap.objs.size)) → ws.length = fr.length → sp ws vs H Q E →
      ∃ t, PE (ncx C8.CX0 P w K mg base N F.nf f A outer s H E) F.body t ∧ t (startF N vs ws) H Q) :
    LOkZ P w K mg base (k + 1) f F ps fr sp := by
  refine ⟨len, fun A outer s H us vs ws Q E hz hr e0 hf hc C r hsp => ?_⟩
  have hl := len _ _ _ _ _ hsp
  have lim : s.heap.NoLimit := e0.mod.nolimit.keeps fun b o e => (e0.bs b o e).1
  obtain ⟨od, sl, pm, ctv, ho⟩ := lamO_at e0.hok hf
  refine PySem.W.kla_callFunE hr.depth ho rfl S.co S.gen rfl (codeO_at e0.hok hc) ?_
  rw [hb pm ctv us (by rw [← r.length]; exact hl)]
  refine wpAny_pure (wpAny_newFunctionEnv S.nocell (fun ⟨n, _⟩ hy => S.par n (List.of_mem_zip hy).1) (fun h₁ hns hsb => ⟨lim.fresh _ hsb, ?_⟩) S.kind)
  show codeAny _ _ (.expr F.body (envF F.nf f s.heap.objs.size)) _ _
  have kp : ∀ b o, s.heap.get? b = some o → h₁.get? b = some o := fun b o e => hsb.extBut b o (Nat.ne_of_lt (Heap.lt_size e)) (Heap.get?_push_of_some _ e)
  obtain ⟨t, ht, hq⟩ := hbody A outer s H vs ws Q E hz (hr.deeper _) C.len hsp
  have I : Inv (ncx C8.CX0 P w K mg base N F.nf f A outer s H E) [] (startF N vs ws) H { s with heap := h₁, toks := s.toks + (ps.zip us).length } := inv_startN (F := F.nf) S hr.hd e0 hl r C hns kp
  refine PySem.W.kla_codeExpr (wpAny_mono (ht.run [] _ (startF N vs ws) H Q I hq) (fun v s' hq => ?_) fun e s' hq => hq)
  obtain ⟨w', H', J', rv, q⟩ := hq
  exact ⟨w', H', J'.os, J'.bare, J'.base, J'.hok, rv, q⟩
end
def tCallVZ (P : Program) (w : World) (K : PySem.W.Frag) (mg : Str → Option Value) (base : Heap) (k i : Nat) (t : TA) : TE := fun σ H Q => ∃ (f : Addr) (F : LF) (ps fr : List Str) (sp : List (Option V) → Sp), σ[i]? = some (some (.ref f)) ∧ H f = some (LamO f F) ∧ LOkZ P w K mg base k f F ps fr sp ∧
  t σ H fun vs H1 => ∃ ws : List (Option V), H1 f = some (LamO f F) ∧ H1 F.c = some (CodeO F.c F.qual) ∧ Told F.cl fr ws H1 ∧ sp ws vs (untell H1 (F.cl.map (·.2))) (fun v H2 => (∀ c ∈ F.cl.map (·.2), H2 c = none) → Q v (retell H1 H2 (F.cl.map (·.2)))) C8.E0
section
variable {X : Cx} {k j i : Nat} {x : Str} {t : TA} {e : Expr} {es : List Expr} {p pos : Pos}
theorem run_vZ {pins : List (Addr × Obj)} {σ : L2.St} {H : Hp} {s : Shared} {Q : VK} {f : Addr} {F : LF} {ps fr : List Str} {ws : List (Option V)} {sp : List (Option V) → Sp} {us : List Value} {vs : List V} (Fn : LOkZ X.prog X.w X.K X.mg X.base k f F ps fr sp) (hz : X.A.guards = some []) (hr : Room j X.A) (hk : k ≤ j) (I : Inv X pins σ H s)
    (hf : H f = some (LamO f F)) (hc : H F.c = some (CodeO F.c F.qual)) (T : Told F.cl fr ws H) (r : Vals vs us) (q : sp ws vs (untell H (F.cl.map (·.2))) (fun v H2 => (∀ c ∈ F.cl.map (·.2), H2 c = none) → Q v (retell H H2 (F.cl.map (·.2)))) C8.E0) :
    wpAny (model X.prog X.w) X.A (call (.ref f) us) (EP X pins σ Q) X.xe s := by
  have ex : AllExt H (F.cl.map (·.2)) := fun c hc => let ⟨v, e⟩ := T.mem c hc; ⟨_, e⟩
  have nf : f ∉ F.cl.map (·.2) := fun z => by
    obtain ⟨v, e⟩ := T.mem f z
    obtain ⟨_, _, o, ho, hd⟩ := cellO_at I.hok e
    obtain ⟨od, sl, pm, ctv, ho2⟩ := lamO_at I.hok hf
    rw [ho2] at ho
    cases ho
    cases hd
  have nc : F.c ∉ F.cl.map (·.2) := fun z => by
    obtain ⟨v, e⟩ := T.mem _ z
    obtain ⟨_, _, o, ho, hd⟩ := cellO_at I.hok e
    obtain ⟨⟨oc, vs, t, ho2, hd2, _⟩, _, _⟩ := I.hok F.c _ hc
    rw [ho2] at ho
    cases ho
    rw [hd2] at hd
    cases hd
  refine wpAny_call (codeAny_mono (Fn.run X.A X.stack s (untell H (F.cl.map (·.2))) us vs ws _ C8.E0 hz (hr.mono hk) (env0_untell I.env0 ex) ((untell_at nf).trans hf) ((untell_at nc).trans hc) (T.cells I.hok) r q) fun r s' hq => ?_)
  cases r with
  | error e => exact False.elim hq
  | ok fl =>
    cases fl with
    | ret u => exact I.after (ce_retell T.mem I.hok I.env0.frf hq)
    | next => exact False.elim hq
    | brk => exact False.elim hq
    | cont => exact False.elim hq
theorem pe_callVZ (hz : X.A.guards = some []) (hr : Room j X.A) (hk : k ≤ j) (hN : X.N[i]? = some x) (hv : Vis X.env.scope x) (ha : PA X (e :: es) t)
    (hd : (x == ("__debug__" : Str)) = false := by decide) (hcd : (x == ("__classdict__" : Str)) = false := by decide)
    (he : starEach (e :: es) X.env = (false, eval e X.env) :: starEach es X.env := by rfl) (hpl : (backTo pos (starEach es X.env)).any (·.1) = false := by rfl) :
    PE X (.Call (.Name x p) (e :: es) [] pos) (tCallVZ X.prog X.w X.K X.mg X.base k i t) := by
  refine ⟨fun pins s σ H Q I h => ?_⟩
  obtain ⟨f, F, ps, fr, sp, hs, hf, Fn, ht⟩ := h
  refine wpAny_Call_Name_kw (thn ((pe_var (pos := p) hN hv hd hcd).run pins s σ H (fun v H1 => v = .ref f ∧ H1 = H) I ⟨.ref f, hs, rfl, rfl⟩) fun u s1 ⟨v, H1, I1, r1, q1⟩ => ?_)
  obtain ⟨ev, eH⟩ := q1
  subst ev
  rw [eH] at I1
  obtain rfl : u = Value.ref f := r1
  refine PySem.W.callWith_F (first := []) (fnAtL_of I1 hf) (thn (ha.run pos pins s1 σ H _ I1 ht) fun us s2 ⟨vs, H2, I2, r, ws, h1, h2, T, q⟩ => ⟨fnAtL_of I2 h1, ?_⟩) he hpl
  show wpAny _ _ (call (.ref f) us) _ _ _
  exact run_vZ Fn hz hr hk I2 h1 h2 T r q
end
end Clo
namespace Gd
open PySem PySem.Spec PyProof.Rows L2 Clo
universe u
section
variable {K : PySem.W.Frag} {W : SC} {O O' : Own} {k m n : Nat} {G G2 H H2 : Hp} {Rs : RL} {t : TA} {ι : Type u} {pre : ι → List SR} {ok : ι → Own → Prop} {post : ι → SR} {P : Program} {w : World} {mg : Str → Option Value} {base : Heap} {κ : CloD} {lv i : Nat} {ps : List Str} {a : Addr} {o : HO} {σ : L2.St}
theorem el_callVZ (x : ι) (hO : O.Perm (κ.own ++ O')) (ko : κ.Ok) (hi : Rs[i]? = some (some (LamV κ))) (hp : LOkZ P w K mg base lv κ.f κ.F ps (κ.cl.map (·.1)) (spV W.tb κ.RR pre ok post)) (ha : EAL W O k t Rs (pre x)) (hok : ok x O') : EL W O k (tCallVZ P w K mg base lv i t) Rs (post x) := fun σ G H n Q sl w hn kk => by
  obtain ⟨v, h1, rfl, h2, h3⟩ := sl.get i _ hi
  refine ⟨κ.f, κ.F, ps, κ.cl.map (·.1), _, h1, w.r.ex h2, hp, ?_⟩
  refine ha σ G H n _ sl w hn fun vs G2 H2 s2 w2 al => ?_
  have w2' := w2.perm hO.symm
  have ndA : (κ.cl.map (·.2)).Nodup := by
    have nd := w2'.nd
    rw [List.map_append, List.nodup_append] at nd
    rw [← cellO_keys ko.len]
    exact nd.1
  obtain ⟨us, q1, q2⟩ := told_of (κ := κ) (G := G2) (H := H2) ko ndA fun q hq => by
    obtain ⟨_, _, _, ho, h4, _, h6⟩ := w2'.o q (List.mem_append_left _ hq)
    exact ⟨ho, h4, h6⟩
  exact ⟨us.map some, w2.r.ex (s2 _ _ h2), w2.r.ex (s2 _ _ h3), q2, x, W.s, W.c, n + k, O', G2, us, rfl, q1, w2'.untell ko, by omega, hok, al, fun v G3 H3 s3 w3 pv hn3 => kk v G3 _ (s2.trans s3) ((Wd.retell w2' ko s3 w3 hn3).perm hO) pv⟩
theorem Wd.give (w : Wd W n O G H) (h : H a = some o) (ho : isTb o = false) (na : a ∉ O.map (·.1)) (ns : a ≠ W.s) (nc : a ≠ W.c) : Same G (upd G a o) ∧ Wd W n O (upd G a o) H := by
  refine ⟨fun b u e => ?_, w.r.give h, w.nt.up ho, w.tb, ?_, w.nd, fun q hq => ?_⟩
  · by_cases z : b = a
    · subst z
      have := w.r.ex e
      rw [h] at this
      rw [upd_same, this]
    · rw [upd_ne z]
      exact e
  · obtain ⟨d1, d2, d3, d4⟩ := w.d
    exact ⟨d1, by rw [upd_ne fun z => ns z.symm]; exact d2, by rw [upd_ne fun z => nc z.symm]; exact d3, d4⟩
  · obtain ⟨h1, h2, h3, hh, h4, h5, h6⟩ := w.o q hq
    refine ⟨h1, h2, ?_, hh, h4, h5, q.2.st (fun b u e => ?_) h6⟩
    · rw [upd_ne fun z => na (List.mem_map.mpr ⟨q, hq, z⟩)]
      exact h3
    · by_cases z : b = a
      · subst z
        have := w.r.ex e
        rw [h] at this
        rw [upd_same, this]
      · rw [upd_ne z]
        exact e
theorem lamV_gives {mk : Addr → LF} {Q : VK} (hmk : ∀ c, (mk c).c = c) (w : Wd W n O G H) (k : ∀ f c G2 H2, Same G G2 → Wd W n O G2 H2 → G2 f = some (LamO f (mk c)) → G2 c = some (LamX.CodeO c (mk c).qual) → Q (.ref f) H2) : tLamV W.tb mk σ H Q := by
  refine ⟨w.tb, fun f c H1 e e0 t hf h1 h2 => ?_⟩
  have w1 : Wd W n O G H1 := w.gx (GoX.ext e) t
  have own : ∀ q ∈ O, q.1 ≠ W.s ∧ q.1 ≠ W.c ∧ ∃ ho, H q.1 = some ho ∧ isTT ho = false := fun q hq => by
    obtain ⟨a1, a2, _, ho, a4, a5, _⟩ := w.o q hq
    exact ⟨a1, a2, ho, a4, a5⟩
  obtain ⟨_, _, _, cells, a, m, cnt, es, ec, _⟩ := w.d
  obtain ⟨_, _, _, cells1, a1, m1, cnt1, es1, ec1, _⟩ := w1.d
  have cs : c ≠ W.s := fun z => by rw [z, es1] at h2; unfold LamX.CodeO at h2; cases h2
  have cc : c ≠ W.c := fun z => by rw [z, ec1] at h2; unfold LamX.CodeO at h2; cases h2
  have fs : f ≠ W.s := fun z => by rw [z, es] at hf; cases hf
  have fc : f ≠ W.c := fun z => by rw [z, ec] at hf; cases hf
  have cO : c ∉ O.map (·.1) := fun z => by
    obtain ⟨q, hq, e1⟩ := List.mem_map.mp z
    obtain ⟨_, _, _, ho, a4, a5, _⟩ := w1.o q hq
    rw [e1, h2] at a4
    rw [← Option.some.inj a4, isTT_code] at a5
    cases a5
  have fO : f ∉ O.map (·.1) := fun z => by
    obtain ⟨q, hq, e1⟩ := List.mem_map.mp z
    obtain ⟨_, _, ho, a4, _⟩ := own q hq
    rw [e1, hf] at a4
    cases a4
  have h2' : H1 c = some (LamX.CodeO c (mk c).qual) := h2
  obtain ⟨s1, w2⟩ := w1.give h2' (by unfold LamX.CodeO; rfl) cO cs cc
  obtain ⟨s2, w3⟩ := w2.give h1 (by unfold LamO; rfl) fO fs fc
  refine k f c _ H1 (s1.trans s2) w3 upd_same (s2 _ _ upd_same)
theorem alr_at : ∀ {rs : List SR} {vs : List V} {G : Hp} {i : Nat} {R : SR} {v : V}, AlR rs vs G → rs[i]? = some R → vs[i]? = some v → R.p v G
  | _, _, _, i, R, v, .nil, h, _ => by simp at h
  | _, _, _, 0, R, v, .cons p _, h, g => by
    simp at h g
    subst h g
    exact p
  | _, _, _, i + 1, R, v, .cons _ al, h, g => alr_at al (by simpa using h) (by simpa using g)
theorem tell_zip : ∀ {cl : List (Str × Addr)} {us : List V} {H : Hp}, (cl.map (·.2)).Nodup → us.length = cl.length → (∀ a, a ∉ cl.map (·.2) → tellL ((cl.zip us).map fun p => (p.1.2, p.2)) H a = H a) ∧ ∀ (i : Nat) (p : Str × Addr) (v : V), cl[i]? = some p → us[i]? = some v → tellL ((cl.zip us).map fun p => (p.1.2, p.2)) H p.2 = some (CellO p.2 v)
  | [], us, H, _, _ => ⟨fun a _ => rfl, fun i p v h => by simp at h⟩
  | p :: cl, [], H, _, h => by cases h
  | p :: cl, v :: us, H, nd, hl => by
    rw [List.map_cons, List.nodup_cons] at nd
    obtain ⟨h1, h2⟩ := tell_zip (cl := cl) (us := us) (H := H) nd.2 (by simpa using hl)
    have st : ∀ a, a ≠ p.2 → tellL (((p :: cl).zip (v :: us)).map fun p => (p.1.2, p.2)) H a = tellL ((cl.zip us).map fun p => (p.1.2, p.2)) H a := fun a ha => by
      show (match List.lookup a ((p.2, v) :: ((cl.zip us).map fun p => (p.1.2, p.2))) with
        | some v => some (CellO a v)
        | none => H a) = _
      rw [List.lookup_cons, show (a == p.2) = false from by simpa using ha]
      rfl
    refine ⟨fun a ha => ?_, fun i q u hi hu => ?_⟩
    · rw [List.map_cons, List.mem_cons, not_or] at ha
      rw [st a ha.1, h1 a ha.2]
    · cases i with
      | zero =>
        simp at hi hu
        subst hi hu
        show (match List.lookup p.2 ((p.2, v) :: ((cl.zip us).map fun p => (p.1.2, p.2))) with
          | some v => some (CellO p.2 v)
          | none => H p.2) = _
        rw [List.lookup_cons, show (p.2 == p.2) = true from by simp]
      | succ i =>
        have hi : cl[i]? = some q := by simpa using hi
        have hu : us[i]? = some u := by simpa using hu
        have hq : q.2 ∈ cl.map (·.2) := List.mem_map.mpr ⟨q, List.mem_of_getElem? hi, rfl⟩
        rw [st q.2 fun z => nd.1 (z ▸ hq)]
        exact h2 i q u hi hu
theorem Wd.tell {us : List V} (w : Wd W n O G H) (ok : κ.Ok) (nd : (κ.cl.map (·.2)).Nodup) (al : AlR κ.RR us G) (hn : ∀ a ∈ κ.cl.map (·.2), H a = none) : Wd W n (κ.own ++ O) G (tellL ((κ.cl.zip us).map fun p => (p.1.2, p.2)) H) := by
  have hl : us.length = κ.cl.length := by rw [alr_len al, ok.len]
  obtain ⟨t1, t2⟩ := tell_zip (H := H) nd hl
  have keys := cellO_keys ok.len
  have keep : ∀ a o, H a = some o → tellL ((κ.cl.zip us).map fun p => (p.1.2, p.2)) H a = some o := fun a o e => by
    rw [t1 a fun z => by rw [hn a z] at e; cases e]
    exact e
  obtain ⟨_, _, _, _, _, _, _, es, ec, _⟩ := w.d
  refine ⟨fun a o e => .inl (keep a o (w.r.ex e)), w.nt, w.tb.ext keep, ?_, ?_, fun q hq => ?_⟩
  · obtain ⟨d1, d2, d3, cells, a, m', cnt, e1, e2, e3⟩ := w.d
    exact ⟨d1, d2, d3, cells, a, m', cnt, keep _ _ e1, keep _ _ e2, e3⟩
  · rw [List.map_append]
    refine List.nodup_append.mpr ⟨?_, w.nd, fun a ha b hb e => ?_⟩
    · show (κ.own.map (·.1)).Nodup
      rw [show κ.own.map (·.1) = κ.cl.map (·.2) from keys]
      exact nd
    · subst e
      rw [show κ.own.map (·.1) = κ.cl.map (·.2) from keys] at ha
      obtain ⟨q, hq, rfl⟩ := List.mem_map.mp hb
      obtain ⟨_, _, _, ho, a4, _⟩ := w.o q hq
      rw [hn _ ha] at a4
      cases a4
  · rcases List.mem_append.mp hq with hq | hq
    · have hk : q.1 ∈ κ.cl.map (·.2) := by rw [← show κ.own.map (·.1) = κ.cl.map (·.2) from keys]; exact List.mem_map.mpr ⟨q, hq, rfl⟩
      obtain ⟨⟨p, R⟩, hz, rfl⟩ := List.mem_map.mp hq
      obtain ⟨i, hi⟩ := List.getElem?_of_mem hz
      obtain ⟨hi1, hi2⟩ := List.getElem?_zip_eq_some.mp hi
      have hlt : i < us.length := by rw [hl]; exact (List.getElem?_eq_some_iff.mp hi1).1
      have hv := t2 i p us[i] hi1 (List.getElem?_eq_getElem hlt)
      refine ⟨fun z => ?_, fun z => ?_, w.r.free (hn _ hk), _, hv, isTT_cell, us[i], rfl, ?_⟩
      · have := hn _ hk
        rw [z, es] at this
        cases this
      · have := hn _ hk
        rw [z, ec] at this
        cases this
      · exact alr_at al hi2 (List.getElem?_eq_getElem hlt)
    · obtain ⟨h1, h2, h3, ho, h4, h5, h6⟩ := w.o q hq
      exact ⟨h1, h2, h3, ho, keep _ _ h4, h5, h6⟩
structure TkZ (P : Program) (w : World) (K : PySem.W.Frag) (mg : Str → Option Value) (base : Heap) (Tb : List (Addr × Str)) (lv : Nat) (κ : CloD) (okt : List Str → Prop) (Ans : List Str → SR) : Prop where
  ok : κ.Ok
  run : ∃ ps, LOkZ P w K mg base lv κ.f κ.F ps (κ.cl.map (·.1)) (spV Tb κ.RR (fun said : List Str => [Tpl K S said]) (fun said _ => okt said) Ans)
theorem el_tk {okt : List Str → Prop} {Ans : List Str → SR} {said : List Str} {te : TE} (tk : TkZ P w K mg base W.tb lv κ okt Ans) (hO : O.Perm (κ.own ++ O')) (hi : Rs[i]? = some (some (LamV κ))) (ha : EL W O k te Rs (Tpl K S said)) (hok : okt said) : EL W O (k + 0) (tCallVZ P w K mg base lv i (tCons te tNil)) Rs (Ans said) := by
  obtain ⟨ps, hp⟩ := tk.run
  exact el_callVZ (ι := List Str) (pre := fun said => [Tpl K S said]) (ok := fun said _ => okt said) (post := Ans) said hO tk.ok hi hp (eal_cons ha eal_nil) hok
end
theorem slots_startF {G : Hp} {N : List Str} {vs us : List V} {Ls RR : List SR} (al : AlR Ls vs G) (al2 : AlR RR us G) : Slots G (NdefX.startF N vs (us.map some)) (Ls.map some ++ (RR.map some ++ List.replicate (N.length - vs.length - us.length) none)) := by
  have l1 := alr_len al
  have l2 := alr_len al2
  unfold NdefX.startF
  rw [List.length_map]
  refine ⟨by simp [l1, l2], fun i R e => ?_⟩
  by_cases h : i < Ls.length
  · rw [List.getElem?_append_left (by rw [List.length_map]; exact h)] at e
    rw [List.getElem?_append_left (by rw [List.length_map, l1]; exact h)]
    rw [List.getElem?_map] at e ⊢
    cases e1 : Ls[i]? with
    | none => rw [e1] at e; cases e
    | some R' =>
      rw [e1] at e
      obtain rfl : R' = R := Option.some.inj (Option.some.inj e)
      have hlt : i < vs.length := by rw [l1]; exact h
      exact ⟨vs[i], by rw [List.getElem?_eq_getElem hlt]; rfl, alr_at al e1 (List.getElem?_eq_getElem hlt)⟩
  · have h := Nat.le_of_not_lt h
    rw [List.getElem?_append_right (by rw [List.length_map]; exact h), List.length_map] at e
    rw [List.getElem?_append_right (by rw [List.length_map, l1]; exact h), List.length_map, l1]
    by_cases h2 : i - Ls.length < RR.length
    · rw [List.getElem?_append_left (by rw [List.length_map]; exact h2)] at e
      rw [List.getElem?_append_left (by rw [List.length_map, l2]; exact h2)]
      rw [List.getElem?_map] at e ⊢
      cases e1 : RR[i - Ls.length]? with
      | none => rw [e1] at e; cases e
      | some R' =>
        rw [e1] at e
        obtain rfl : R' = R := Option.some.inj (Option.some.inj e)
        have hlt : i - Ls.length < us.length := by rw [l2]; exact h2
        exact ⟨us[i - Ls.length], by rw [List.getElem?_eq_getElem hlt]; rfl, alr_at al2 e1 (List.getElem?_eq_getElem hlt)⟩
    · have h2 := Nat.le_of_not_lt h2
      rw [List.getElem?_append_right (by rw [List.length_map]; exact h2), List.getElem?_replicate] at e
      split at e <;> cases e
end Gd
-- part Gm2
set_option Elab.async false
set_option linter.all false
set_option maxRecDepth 100000
set_option maxHeartbeats 2000000
namespace Gd
open PySem PySem.Spec PyProof.Rows L2 Clo
open PySem.RpX
universe u
def evens {α : Type} : List α → List α
  | [] => []
  | [x] => [x]
  | x :: _ :: r => x :: evens r
theorem evens_range {α : Type} : ∀ (its : List α), (List.range ((its.length + 1) / 2)).filterMap (fun k => its[2 * k]?) = evens its
  | [] => by simp [evens]
  | [x] => by
    rw [show (([x] : List α).length + 1) / 2 = 1 by simp]
    simp [evens, List.range_succ]
  | x :: y :: r => by
    have e : ((x :: y :: r).length + 1) / 2 = (r.length + 1) / 2 + 1 := by simp only [List.length_cons]; omega
    rw [e, List.range_succ_eq_map, List.filterMap_cons, List.filterMap_map]
    show x :: _ = x :: evens r
    rw [← evens_range r]
    congr 1
theorem pick_evens (its : List Value) : slicePick its.toArray (some 0) none (some 2) = (evens its).toArray := by
  have e1 : sliceBounds (some 0) none (some 2) its.toArray.size = (0, (its.length : Int), 2) := by
    unfold sliceBounds
    simp
    omega
  unfold slicePick
  rw [e1, ← evens_range its]
  congr 1
  unfold sliceRange
  have hc : ((if (2 : Int) > 0 then (if (0 : Int) < (its.length : Int) then ((its.length : Int) - 0 + 2 - 1) / 2 else 0) else (if (0 : Int) > (its.length : Int) then ((0 : Int) - (its.length : Int) - 2 - 1) / (-2) else 0)) : Int).toNat = (its.length + 1) / 2 := by
    rw [if_pos (by decide)]
    by_cases h : (0 : Int) < (its.length : Int)
    · rw [if_pos h]
      omega
    · rw [if_neg h]
      omega
  show List.filterMap _ ((List.range (_ : Int).toNat).map _) = _
  rw [hc, List.filterMap_map]
  congr 1
  funext k
  show its.toArray[((0 : Int) + 2 * (k : Int)).toNat]? = its[2 * k]?
  rw [show ((0 : Int) + 2 * (k : Int)).toNat = 2 * k by omega]
  simp
theorem evens_len {α : Type} : ∀ its : List α, (evens its).length ≤ its.length
  | [] => Nat.le_refl _
  | [x] => Nat.le_refl _
  | x :: y :: r => by
    have := evens_len r
    show (evens r).length + 1 ≤ r.length + 1 + 1
    omega
theorem vals_evens : ∀ {xs : List V} {us : List Value}, Vals xs us → Vals (evens xs) (evens us)
  | _, _, .nil => .nil
  | _, _, .cons p .nil => .cons p .nil
  | _, _, .cons p (.cons _ r) => .cons p (vals_evens r)
theorem al_evens {α : Type} {e : α → SR} {G : Hp} : ∀ {xs : List α} {vs : List V}, Al e xs vs G → Al e (evens xs) (evens vs) G
  | _, _, .nil => .nil
  | _, _, .cons p .nil => .cons p .nil
  | _, _, .cons p (.cons _ r) => .cons p (al_evens r)
def tEven (K : PySem.W.Frag) (te : TE) (tl ts : TO) : TE := fun σ H Q => te σ H fun x H1 => tl σ H1 fun l H2 => ts σ H2 fun u H3 => l = some 0 ∧ u = some 2 ∧ ∃ a xs, x = .ref a ∧ SqL K H3 a xs ∧ ∀ p, H3 p = none → Q (.ref p) (upd H3 p (.lst (evens xs)))
theorem pe_even {X : Cx} {K : PySem.W.Frag} {e : Expr} {te : TE} {lo : Option Expr} {st : Expr} {tl ts : TO} {p2 pos : Pos} (he : PE X e te) (hl : PO X lo tl) (hs : PO X (some st) ts) (hK : X.K = K := by rfl) : PE X (.Subscript e (.Slice lo none (some st) p2) pos) (tEven K te tl ts) := by
  subst hK
  refine ⟨fun pins s σ H Q I h => ?_⟩
  refine Subscript_ (thn (he.run pins s σ H _ I h) fun v s1 ⟨x, H1, I1, r1, q1⟩ => ?_)
  refine wpAny_Slice (thn (hl.run pins s1 σ H1 _ I1 q1) fun vl s2 ⟨l, H2, I2, pl, q2⟩ => ?_)
  rw [evalPart_none]
  refine wpAny_pure ?_
  refine thn (hs.run pins s2 σ H2 _ I2 q2) fun vu s3 ⟨u, H3, I3, pu, q3⟩ => ?_
  obtain ⟨rfl, rfl, a, xs, rfl, hx, q⟩ := q3
  have I4 : Inv X pins σ H3 { s3 with heap := s3.heap.push { cls := .type "slice", data := .fields #[vl, .none, vu] } } := I3.kept (t' := s3.toks) fun b ob q => Heap.get?_push_of_some _ q
  obtain rfl : v = Value.ref a := r1
  obtain ⟨its, r, ht, hz⟩ := I4.list hx
  have hlen := r.length
  show wpAny (model X.prog X.w) X.A (subscriptTail e (.Slice lo none (some st) p2) (.ref a) (.ref s3.heap.objs.size)) (EP X pins σ Q) X.xe { s3 with heap := s3.heap.push { cls := .type "slice", data := .fields #[vl, .none, vu] } }
  refine tail_any (ops := [.ref a, .ref s3.heap.objs.size]) ht.isList.typeIs slot_list_getitem.lookup ?_ (by with_unfolding_all rfl)
  refine wpAny_getItem_list_slice ht.isList (Heap.IsSliceOf.new ..) pl .none pu (by simp) ?_ (by rw [List.size_toArray] <;> omega)
  rw [pick_evens]
  refine ⟨.ref _, _, I4.laid (t' := s3.toks) (o := .lst (evens xs)) (fun b ob q => Heap.get?_push_of_some _ q) (Nat.le_refl _) ?_, rfl, q _ (I4.hok.fresh (Nat.le_refl _))⟩
  exact ⟨Nat.le_trans (evens_len xs) hz, _, 0, vals_evens r, Heap.get?_push_size _ rfl⟩
section
variable {K : PySem.W.Frag} {W : SC} {O O' : Own} {k m n : Nat} {G G0 H : Hp} {Rs : RL} {R : SR} {te ta tb : TE} {t : TS} {D : Ends} {α : Type} {e : α → SR} {xs : List α} {p : Addr} {i : Nat} {κ : CloD}
theorem eln_even (ha : EL W O k te Rs (Lst e xs)) : ELN W O k (tEven K te (tPart (tC (.int 0))) (tPart (tC (.int 2)))) Rs e (evens xs) := fun σ G H n Q sl w hn kk => ha σ G H n _ sl w hn fun v G2 H2 s2 w2 ⟨a, vs, hv, h1, h2, h3⟩ => by
  subst hv
  exact ⟨0, rfl, 2, rfl, rfl, rfl, a, vs, rfl, SqL.of (w2.r.ex h1), fun p hp => kk p G2 _ s2 (w2.own hp rfl ⟨evens vs, rfl, Nat.le_trans (evens_len vs) h2, al_evens h3⟩)⟩
theorem el_lastT {a : α} (ha : EL W O k ta Rs (Sq K e xs)) (h : xs.getLast? = some a) : EL W O k (tOp (rIx K) ta (tUn (rU fun i => .int (-i)) (tC (.int 1)))) Rs (e a) := fun σ G H n Q sl w hn kk => ha σ G H n _ sl w hn fun v G2 H2 s2 w2 p => by
  rcases p with ⟨ad, vs, rfl, h1, h2, h3⟩ | ⟨ad, vs, rfl, h1, h2, h3⟩
  · obtain ⟨u, hu, pu⟩ := h3.get' (by rw [← List.getLast?_eq_getElem?]; exact h)
    exact ⟨1, rfl, .inl ⟨ad, vs, _, u, rfl, rfl, SqL.of (w2.r.ex h1), Gd.atI_last (by rw [List.getLast?_eq_getElem?, h3.len]; exact hu), kk u G2 H2 s2 w2 pu⟩⟩
  · obtain ⟨u, hu, pu⟩ := h3.get' (by rw [← List.getLast?_eq_getElem?]; exact h)
    exact ⟨1, rfl, .inr (.inl ⟨ad, vs, _, u, rfl, rfl, w2.r.seqT h1, Gd.atI_last (by rw [List.getLast?_eq_getElem?, h3.len]; exact hu), kk u G2 H2 s2 w2 pu⟩)⟩
theorem el_tupO (hi : Rs[i]? = some (some (cst (.ref p)))) (hO : (p, OL e xs) ∈ O) : EL W O 0 (tCB (rTupOf K) (tCons (tVar i) tNil)) Rs (Tpl K e xs) := fun σ G H n Q sl w hn kk => by
  obtain ⟨v, h1, hv⟩ := sl.get i _ hi
  obtain rfl : v = .ref p := hv
  obtain ⟨_, _, _, o, h4, _, vs, rfl, h6, h7⟩ := w.o _ hO
  refine ⟨_, h1, p, vs, rfl, .inl ⟨SqL.of h4, fun l hl => ?_⟩⟩
  have s2 := Same.new (o := .tup vs) (w.r.free hl)
  exact kk (.ref l) _ _ s2 (w.new (o := .tup vs) hl rfl) ⟨l, vs, rfl, SqT.of upd_same, h6, h7.st s2⟩
theorem el_lenO (hi : Rs[i]? = some (some (cst (.ref p)))) (hO : (p, OL e xs) ∈ O) : EL W O 0 (tCB (rLen K) (tCons (tVar i) tNil)) Rs (I (xs.length : Nat)) := fun σ G H n Q sl w hn kk => by
  obtain ⟨v, h1, hv⟩ := sl.get i _ hi
  obtain rfl : v = .ref p := hv
  obtain ⟨_, _, _, o, h4, _, vs, rfl, h6, h7⟩ := w.o _ hO
  exact ⟨_, h1, p, vs, rfl, .inl (SqL.of h4), kk _ G H (Same.refl G) w (by show V.int _ = V.int _; rw [h7.len])⟩
end
def rIsiTL (K : PySem.W.Frag) : List V → Hp → VK → Prop := fun xs H Q => ∃ (f : Addr) (F : LF) (tp : Addr) (cs : List V) (us : List Value) (b : Bool), xs = [.ref f, .ref tp] ∧ H f = some (LamO f F) ∧ H tp = some (.tup cs) ∧ Paired ClsV cs us ∧ PySem.W.kitAny K (.type "function") us = some b ∧ Q (.bl b) H
theorem call_isiTL {X : Cx} {K : PySem.W.Frag} (hK : X.K = K := by rfl) : CallR X (.builtin "isinstance") (rIsiTL K) := by
  subst hK
  intro pins s σ H xs us Q I r h
  obtain ⟨f, F, tp, cs, ws, b, rfl, hf, hT, k, e, q⟩ := h
  obtain ⟨u1, u2, rfl, r1, r2⟩ := vals2 r
  cases (show u1 = Value.ref f from r1)
  cases (show u2 = Value.ref tp from r2)
  obtain ⟨_, its, rv, o, h1, h2, n, h3⟩ := (show ObjOk X.prog X.w H s.heap tp (.tup cs) from I.hok tp _ hT)
  have e3 := ClsV.all k rv
  subst e3
  obtain ⟨oc', od', dt, sl⟩ := o
  simp only at h2 h3
  subst h2 h3
  obtain ⟨od, sl2, pm, ctv, ho⟩ := lamO_at I.hok hf
  exact PySem.W.kia_tup PySem.FnT.kitx_fn I.kIn ⟨_, ho, rfl⟩ h1 e (fun z => nomatch z) fun tk => ⟨.bl b, H, I.tok tk, rfl, q⟩
section
variable {K : PySem.W.Frag} {W : SC} {O O' : Own} {k m n : Nat} {G G0 H : Hp} {Rs : RL} {R : SR} {te ta tb : TE} {t : TS} {D : Ends} {α : Type} {e : α → SR} {xs : List α} {p : Addr} {i : Nat} {κ : CloD}
theorem el_isLam {CM CE : Addr} {r : Bool} (h : EL W O k te Rs (LamV κ)) (hk : PySem.W.kitAny K (.type "function") [.type "int", .type "str", .type "list", .type "tuple", .type "dict", .ref CM, .ref CE] = some r) : EL W O k (tCB (rIsiTL K) (tCons te (tCons (tTup (tCons (tC (.ty "int")) (tCons (tC (.ty "str")) (tCons (tC (.ty "list")) (tCons (tC (.ty "tuple")) (tCons (tC (.ty "dict")) (tCons (tC (.ref CM)) (tCons (tC (.ref CE)) tNil)))))))) tNil))) Rs (B r) := fun σ G H n Q sl w hn kk => h σ G H n _ sl w hn fun v G2 H2 s2 w2 ⟨h1, h2, h3⟩ => by
  subst h1
  refine ⟨(by show 7 ≤ sizeLine; decide), fun p' hp => ?_⟩
  have s3 := Same.new (o := .tup [.ty "int", .ty "str", .ty "list", .ty "tuple", .ty "dict", .ref CM, .ref CE]) (w2.r.free hp)
  have w3 := w2.new (o := .tup [.ty "int", .ty "str", .ty "list", .ty "tuple", .ty "dict", .ref CM, .ref CE]) hp rfl
  exact ⟨κ.f, κ.F, p', _, _, r, rfl, w3.r.ex (s3 _ _ h2), upd_same, .cons (.ty _) (.cons (.ty _) (.cons (.ty _) (.cons (.ty _) (.cons (.ty _) (.cons (.own CM) (.cons (.own CE) .nil)))))), hk, kk _ _ _ (s2.trans s3) w3 rfl⟩
theorem eil_tx {x : Str} (h : EL W O k te Rs (Tx x)) (hl : x.length ≤ sizeLine) : EIL W O k (iStr te) Rs Sg x.cps.toList := fun σ G H n Q sl w hn kk => h σ G H n _ sl w hn fun v G2 H2 s2 w2 p => by
  obtain rfl : v = .str x := p
  have hl' : x.cps.size ≤ sizeLine := hl
  exact ⟨x, rfl, kk _ G2 H2 s2 w2
    { len := by rw [Array.length_toList]; exact hl'
      goes := fun i G3 H3 hi _ _ _ => by rw [Array.length_toList] at hi; exact hi
      stops := fun G3 H3 _ _ _ => by rw [Array.length_toList]; exact Nat.le_refl x.cps.size
      yields := fun i c G3 H3 x H' hc _ _ _ y => by
        obtain ⟨rfl, c', h1, rfl⟩ := y
        rw [Array.getElem?_toList] at hc
        rw [hc] at h1
        cases h1
        exact ⟨G3, Go.refl _ _, rfl⟩ }⟩
theorem el_ord {c : Nat} (h : EL W O k te Rs (Sg c)) : EL W O k (tCB (fun xs H Q => ∃ x : Str, xs = [.str x] ∧ x.length = 1 ∧ Q (.int (x.cps.getD 0 0 : Nat)) H) (tCons te tNil)) Rs (I (c : Nat)) := fun σ G H n Q sl w hn kk => h σ G H n _ sl w hn fun v G2 H2 s2 w2 p => by
  obtain rfl : v = .str ⟨#[c]⟩ := p
  exact ⟨_, rfl, rfl, kk _ G2 H2 s2 w2 rfl⟩
def repTu (ss : List Str) : Str := tupleText (ss.map reprText)
theorem repTu_len {ss : List Str} (ho : ∀ s ∈ ss, okS s = true) (hf : FewS ss) : (repTu ss).length ≤ sizeLine := by
  have q1 := fmt_text (ss.map reprText)
  have q2 := few_sum (ss := ss) fun z hz => ⟨ho z hz, hf.2 z hz⟩
  have q3 := hf.1
  have hm : ss.length * 10002 ≤ 1000 * 10002 := Nat.mul_le_mul_right 10002 q3
  have hsz : sizeLine = 16777216 := sizeLine_eq
  have q4 : piled (ss.map reprText) ≤ ((ss.map reprText).map (·.length)).sum + 2 * (ss.map reprText).length := by
    clear q1 q2 q3 hm hf ho
    induction ss with
    | nil => exact Nat.zero_le _
    | cons s ss ih =>
      show _ ≤ _
      simp only [piled, List.map_cons, List.sum_cons, List.length_cons] at ih ⊢
      omega
  rw [List.length_map] at q4
  unfold repTu
  omega
theorem rpv_tstr {ss : List Str} {v : V} {G : Hp} (h : (Tpl K S ss).p v G) (hf : FewS ss) : RpV K (gsOf []) 1 v (repTu ss) G := by
  obtain ⟨a, vs, rfl, ha, _, al⟩ := h
  intro X pins σ H s hK I r u ru
  subst hK
  cases (show u = Value.ref a from ru)
  obtain ⟨its, rv, ⟨o, ho, hc, k, hd⟩, _⟩ := I.tuple (r.seqT ha)
  have hok := al_okS al
  have hv := al_str al
  have hvl := al.len
  refine RX.tuple (d := 0) ho hc hd (fun z => ?_) (rks_of (by rw [List.length_map, ← hvl, rv.length]) fun i y hy => ?_) (repTu_len hok hf)
  · have z : ((([] : List Code).any fun c => tupGuardF (.ref a) (c, default)) = true) := z
    cases z
  · obtain ⟨v', e1, e2⟩ := vals_at rv (by simpa using hy)
    rw [hv, List.getElem?_map] at e1
    cases e3 : ss[i]? with
    | none => rw [e3] at e1; cases e1
    | some q =>
      rw [e3] at e1
      obtain rfl : V.str q = v' := Option.some.inj e1
      obtain ⟨tk, rfl⟩ : ∃ tk, y = Value.str q tk := e2
      refine ⟨reprText q, by rw [List.getElem?_map, e3]; rfl, (RX.str q tk ?_).k⟩
      have hm := List.mem_of_getElem? e3
      have := repr_len (hok q hm)
      have := hf.2 q hm
      have hsz : sizeLine = 16777216 := sizeLine_eq
      omega
theorem el_reprTS {ss : List Str} (h : EL W O k te Rs (Tpl K S ss)) (hf : FewS ss) : EL W O k (tCB (rRpX K []) (tCons te tNil)) Rs (Tx (repTu ss)) := fun σ G H n Q sl w hn kk => h σ G H n _ sl w hn fun v G2 H2 s2 w2 p => ⟨v, repTu ss, G2, rfl, w2.r, RpV.le (d := 1) (rpv_tstr p hf) (by decide), kk _ G2 H2 s2 w2 rfl⟩
end
end Gd
-- part LA
set_option Elab.async false
set_option linter.all false
set_option maxRecDepth 100000
set_option maxHeartbeats 1000000
namespace Gd
open PySem PySem.Spec PyProof.Rows L2 Clo
universe u
inductive Ans where
  | no
  | str (s : Str)
  | odd (R : SR)
def Ans.R : Ans → SR
  | .no => N
  | .str s => S s
  | .odd R => R
structure OddA (K : PySem.W.Frag) (R : SR) : Prop where
  nn : ∀ v G, R.p v G → v ≠ V.non
  ns : ∀ v b G H, Rel b G H → R.p v G → ∃ tt, TyY K H v tt ∧ PySem.W.kitOne K tt (.type "str") = some false
def Ans.Ok (K : PySem.W.Frag) : Ans → Prop
  | .odd R => OddA K R
  | _ => True
def whyA (ps : List (Str × Str)) (said : List Str) : Ans → Option Str
  | .no => some "nothing"
  | .odd _ => some "wrong"
  | .str s => if (s, said.getLastD "") ∈ ps then (if said.length % 2 = 0 ∧ s ∈ evens said then some "again" else none) else some "wrong"
theorem whyA_str {ps : List (Str × Str)} {said : List Str} {s : Str} : whyA ps said (.str s) = if (s, said.getLastD "") ∈ ps then (if said.length % 2 = 0 ∧ s ∈ evens said then some ("again" : Str) else none) else some ("wrong" : Str) := rfl
def turnA (D Op : List Str → Ans) (said : List Str) : Ans := if said.length % 2 = 1 then Op said else D said
def grownT (said : List Str) : Ans → List Str
  | .str s => said ++ [s]
  | _ => said
def talkS (D Op : List Str → Ans) (s0 : Str) : Nat → List Str
  | 0 => [s0]
  | t + 1 => grownT (talkS D Op s0 t) (turnA D Op (talkS D Op s0 t))
structure TalkE (ps : List (Str × Str)) (D Op : List Str → Ans) (s0 : Str) (T : Nat) (w : Str) : Prop where
  go : ∀ t, t < T → whyA ps (talkS D Op s0 t) (turnA D Op (talkS D Op s0 t)) = none
  e : whyA ps (talkS D Op s0 T) (turnA D Op (talkS D Op s0 T)) = some w
  len : T ≤ 100
theorem whyA_cg {ps qs : List (Str × Str)} (h : ∀ p, p ∈ ps ↔ p ∈ qs) {said : List Str} : ∀ {a : Ans}, whyA ps said a = whyA qs said a
  | .no => rfl
  | .odd _ => rfl
  | .str s => by
    rw [whyA_str, whyA_str]
    by_cases z : (s, said.getLastD "") ∈ ps
    · rw [if_pos z, if_pos ((h _).mp z)]
    · rw [if_neg z, if_neg fun q => z ((h _).mpr q)]
theorem TalkE.cg {ps qs : List (Str × Str)} {D Op : List Str → Ans} {s0 : Str} {T : Nat} {w : Str} (h : ∀ p, p ∈ ps ↔ p ∈ qs) (t : TalkE ps D Op s0 T w) : TalkE qs D Op s0 T w := ⟨fun i hi => (whyA_cg h).symm.trans (t.go i hi), (whyA_cg h).symm.trans t.e, t.len⟩
theorem why_none {ps : List (Str × Str)} {said : List Str} {a : Ans} (h : whyA ps said a = none) : ∃ s, a = .str s ∧ (s, said.getLastD "") ∈ ps ∧ (said.length % 2 = 0 → s ∉ evens said) := by
  cases a with
  | no => cases h
  | odd R => cases h
  | str s =>
    rw [whyA_str] at h
    by_cases z : (s, said.getLastD "") ∈ ps
    · rw [if_pos z] at h
      by_cases y : said.length % 2 = 0 ∧ s ∈ evens said
      · rw [if_pos y] at h
        cases h
      · exact ⟨s, rfl, z, fun e m => y ⟨e, m⟩⟩
    · rw [if_neg z] at h
      cases h
theorem evens_snoc {α : Type} {a : α} : ∀ xs : List α, evens (xs ++ [a]) = if xs.length % 2 = 0 then evens xs ++ [a] else evens xs
  | [] => rfl
  | [x] => rfl
  | x :: y :: r => by
    show x :: evens (r ++ [a]) = _
    rw [evens_snoc r]
    have e : (x :: y :: r).length % 2 = r.length % 2 := by simp only [List.length_cons]; omega
    rw [e]
    split <;> rfl
theorem evens_mem {α : Type} {a : α} : ∀ {xs : List α}, a ∈ evens xs → a ∈ xs
  | [], h => h
  | [x], h => h
  | x :: y :: r, h => by
    rcases List.mem_cons.mp (show a ∈ x :: evens r from h) with rfl | h
    · exact List.mem_cons_self ..
    · exact List.mem_cons_of_mem _ (List.mem_cons_of_mem _ (evens_mem h))
theorem evens_length {α : Type} : ∀ xs : List α, (evens xs).length = (xs.length + 1) / 2
  | [] => by simp [evens]
  | [x] => by simp [evens]
  | x :: y :: r => by
    show (evens r).length + 1 = _
    rw [evens_length r]
    simp only [List.length_cons]
    omega
structure SaidOk (ns : List Str) (ps : List (Str × Str)) (s0 : Str) (said : List Str) : Prop where
  ne : said ≠ []
  sub : ∀ x ∈ said, x ∈ ns
  nd : (evens said).Nodup
section
variable {ns : List Str} {ps : List (Str × Str)} {D Op : List Str → Ans} {s0 : Str} {T : Nat} {w : Str}
theorem talk_inv (h0 : s0 ∈ ns) (hp : ∀ p ∈ ps, p.1 ∈ ns ∧ p.2 ∈ ns) : ∀ t, (∀ i, i < t → whyA ps (talkS D Op s0 i) (turnA D Op (talkS D Op s0 i)) = none) → SaidOk ns ps s0 (talkS D Op s0 t) ∧ (talkS D Op s0 t).length = t + 1
  | 0, _ => ⟨⟨by simp [talkS], fun x hx => by
      obtain rfl := List.mem_singleton.mp (show x ∈ [s0] from hx)
      exact h0, by show [s0].Nodup; simp⟩, rfl⟩
  | t + 1, h => by
    obtain ⟨i1, i2⟩ := talk_inv h0 hp t fun i hi => h i (by omega)
    obtain ⟨s, e, hs, hn⟩ := why_none (h t (by omega))
    have eg : talkS D Op s0 (t + 1) = talkS D Op s0 t ++ [s] := by
      show grownT (talkS D Op s0 t) (turnA D Op (talkS D Op s0 t)) = _
      rw [e]
      rfl
    rw [eg]
    refine ⟨⟨by simp, fun x hx => ?_, ?_⟩, by rw [List.length_append, i2]; rfl⟩
    · rcases List.mem_append.mp hx with hx | hx
      · exact i1.sub x hx
      · obtain rfl := List.mem_singleton.mp hx
        exact (hp _ hs).1
    · rw [evens_snoc]
      split
      · rename_i he
        exact List.nodup_append.mpr ⟨i1.nd, by simp, fun a ha b hb z => by
          obtain rfl := List.mem_singleton.mp hb
          subst z
          exact hn he ha⟩
      · exact i1.nd
theorem talk_step (t : TalkE ps D Op s0 T w) {i : Nat} (hi : i < T) : ∃ s, turnA D Op (talkS D Op s0 i) = .str s ∧ talkS D Op s0 (i + 1) = talkS D Op s0 i ++ [s] := by
  obtain ⟨s, e, _⟩ := why_none (t.go i hi)
  refine ⟨s, e, ?_⟩
  show grownT (talkS D Op s0 i) (turnA D Op (talkS D Op s0 i)) = _
  rw [e]
  rfl
theorem talk_at (t : TalkE ps D Op s0 T w) (h0 : s0 ∈ ns) (hp : ∀ p ∈ ps, p.1 ∈ ns ∧ p.2 ∈ ns) {i : Nat} (hi : i ≤ T) : SaidOk ns ps s0 (talkS D Op s0 i) ∧ (talkS D Op s0 i).length = i + 1 := talk_inv h0 hp i fun j hj => t.go j (by omega)
theorem talk_ends (nd : ns.Nodup) (hn : ns.length ≤ 40) (h0 : s0 ∈ ns) (hp : ∀ p ∈ ps, p.1 ∈ ns ∧ p.2 ∈ ns) : ∃ T w, TalkE ps D Op s0 T w := by
  by_cases h : ∃ t, t ≤ 100 ∧ whyA ps (talkS D Op s0 t) (turnA D Op (talkS D Op s0 t)) ≠ none
  · have key : ∀ n t, t ≤ n → n ≤ 100 → whyA ps (talkS D Op s0 t) (turnA D Op (talkS D Op s0 t)) ≠ none → ∃ T, T ≤ 100 ∧ whyA ps (talkS D Op s0 T) (turnA D Op (talkS D Op s0 T)) ≠ none ∧ ∀ i, i < T → whyA ps (talkS D Op s0 i) (turnA D Op (talkS D Op s0 i)) = none := by
      intro n
      induction n with
      | zero => exact fun t h1 _ h2 => ⟨t, by omega, h2, fun i hi => by omega⟩
      | succ n ih =>
        intro t h1 h3 h2
        by_cases z : ∃ i, i < t ∧ whyA ps (talkS D Op s0 i) (turnA D Op (talkS D Op s0 i)) ≠ none
        · obtain ⟨i, z1, z2⟩ := z
          exact ih i (by omega) (by omega) z2
        · exact ⟨t, by omega, h2, fun i hi => Decidable.byContradiction fun y => z ⟨i, hi, y⟩⟩
    obtain ⟨t, h1, h2⟩ := h
    obtain ⟨T, a1, a2, a3⟩ := key t t (Nat.le_refl _) h1 h2
    obtain ⟨w, hw⟩ := Option.ne_none_iff_exists'.mp a2
    exact ⟨T, w, a3, hw, a1⟩
  · exfalso
    have hz : ∀ t, t ≤ 100 → whyA ps (talkS D Op s0 t) (turnA D Op (talkS D Op s0 t)) = none := fun t ht => Decidable.byContradiction fun z => h ⟨t, ht, z⟩
    obtain ⟨i1, i2⟩ := talk_inv (D := D) (Op := Op) h0 hp 100 fun i hi => hz i (by omega)
    have := nodup_len i1.nd fun x hx => i1.sub x (evens_mem hx)
    rw [evens_length, i2] at this
    omega
end
def whoT (said : List Str) : Str := if said.length % 2 = 1 then "defender" else "opposer"
end Gd
-- part N5
set_option Elab.async false
set_option linter.all false
set_option maxRecDepth 100000
set_option maxHeartbeats 1000000
-- part X2a
set_option Elab.async false
set_option linter.all false
set_option maxRecDepth 100000
set_option maxHeartbeats 1000000
-- part J1
set_option Elab.async false
set_option linter.all false
set_option maxRecDepth 100000
set_option maxHeartbeats 1000000
namespace Gd
open PySem PySem.Spec PyProof.Rows
variable {ns : List Str} {ps : List (Str × Str)} {lot L l ms : List Str} {s x m : Str} {d : Deb}
def fob (d : Deb) (ms : List Str) (m : Str) : Option Str := (tosP d.2 m).find? fun o => (tosP d.2 o).all fun z => decide (z ∈ ms)
def fdP (d : Deb) (ms : List Str) : List (Str × Str) := ms.filterMap fun m => (fob d ms m).map fun o => (m, o)
def notL (d : Deb) : List Str := d.1.filter fun s => !decide (s ∈ leastP d)
def gdP (d : Deb) : List (Str × Str) := fdP d (notL d)
theorem fm_len {α β : Type} {f : α → Option β} : ∀ {xs : List α}, (xs.filterMap f).length ≤ xs.length ∧ ((xs.filterMap f).length = xs.length ↔ xs.all (fun a => (f a).isSome) = true)
  | [] => ⟨Nat.le_refl _, by simp⟩
  | a :: xs => by
    obtain ⟨h1, h2⟩ := fm_len (f := f) (xs := xs)
    cases e : f a with
    | none =>
      rw [List.filterMap_cons_none e]
      refine ⟨Nat.le_trans h1 (Nat.le_succ _), ?_⟩
      rw [List.all_cons, e]
      constructor
      · intro h
        rw [List.length_cons] at h
        omega
      · intro h
        cases h
    | some b =>
      rw [List.filterMap_cons_some e, List.length_cons, List.length_cons, List.all_cons, e]
      refine ⟨by omega, ?_⟩
      rw [Option.isSome_some, Bool.true_and, ← h2]
      omega
end Gd
-- part Gd83
set_option Elab.async false
set_option linter.all false
set_option maxRecDepth 100000
set_option maxHeartbeats 2000000
namespace Gd
open PySem PySem.Spec PyProof.Rows L2
structure Mds (Re : Nat → Value → Value → Prop) (lo : Addr) (h : Heap) (as : List Addr) : Prop where
  up : as.Pairwise (· < ·)
  ge : ∀ a ∈ as, lo ≤ a
  at_ : ∀ (j : Nat) (a : Addr), as[j]? = some a → ∃ x y, Re j x y ∧ IsTupOf2 h a x y
section
variable {P : Program} {w : World} {A : Around} {s : Shared} {R : Result → Shared → Prop} {S I : Addr} {wr : List Addr} {n : Nat} {Re : Nat → Value → Value → Prop} {St : Nat → Heap → Prop} {lo : Addr}
theorem Mds.lt {h : Heap} {as : List Addr} (m : Mds Re lo h as) {a : Addr} (ha : a ∈ as) : a < h.objs.size := by
  obtain ⟨j, e⟩ := List.mem_iff_getElem?.mp ha
  obtain ⟨_, _, _, t⟩ := m.at_ j a e
  exact Heap.lt_size t
end
end Gd
-- part Gd84
set_option Elab.async false
set_option linter.all false
set_option maxRecDepth 100000
set_option maxHeartbeats 2000000
-- part BL
set_option Elab.async false
set_option linter.all false
set_option maxRecDepth 100000
set_option maxHeartbeats 1000000
namespace Gd
open PySem PySem.Spec PyProof.Rows L2
universe u
section
variable {P : Program} {w : World} {K : PySem.W.Frag} {mg : Str → Option Value} {base : Heap} {aL : Addr} {Tb : List (Addr × Str)}
theorem el_isiY {W : SC} {O : Own} {k : Nat} {Rs : RL} {R : SR} {ta : TE} {t : String} {r : Bool} (ha : EL W O k ta Rs R) (ht : ∀ v b G H, Rel b G H → R.p v G → ∃ tt, TyY K H v tt ∧ PySem.W.kitOne K tt (.type t) = some r) : EL W O k (tCB (rIsiY K) (tCons ta (tCons (tC (.ty t)) tNil))) Rs (B r) := el_f1 (fun a => tCB (rIsiY K) (tCons a (tCons (tC (.ty t)) tNil))) ha fun _ _ _ p => ev_isiY (ev_cR' p) ht
end
end Gd
-- part Gd94
set_option Elab.async false
set_option linter.all false
set_option maxRecDepth 100000
set_option maxHeartbeats 1000000
namespace Gd
open PySem PySem.Spec PyProof.Rows L2
open PySem.RpX
open Classical in
universe u
inductive AlK {α : Type} (e : α → SR) : List (Key × α) → List (Key × V) → Hp → Prop
  | nil {G : Hp} : AlK e [] [] G
  | cons {G : Hp} {k : Key} {a : α} {as : List (Key × α)} {v : V} {vs : List (Key × V)} : (e a).p v G → AlK e as vs G → AlK e ((k, a) :: as) ((k, v) :: vs) G
theorem AlK.st {α : Type} {e : α → SR} {G G' : Hp} (s : Same G G') : ∀ {as : List (Key × α)} {vs : List (Key × V)}, AlK e as vs G → AlK e as vs G'
  | _, _, .nil => .nil
  | _, _, .cons h t => .cons ((e _).st s h) (AlK.st s t)
theorem AlK.keys {α : Type} {e : α → SR} {G : Hp} : ∀ {as : List (Key × α)} {vs : List (Key × V)}, AlK e as vs G → vs.map (·.1) = as.map (·.1)
  | _, _, .nil => rfl
  | _, _, .cons h t => by rw [List.map_cons, List.map_cons, AlK.keys t]
def keyFit (m : Nat) : Key → Prop
  | .inl i => i.natAbs.log2 < 1920 ∧ (Str.ofString (toString i)).length ≤ m
  | .inr s => 10 * s.length + 10 ≤ m ∧ okS s = true
def kTx : Key → Str
  | .inl i => Str.ofString (toString i)
  | .inr s => reprText s
theorem keyFit.len {m : Nat} : ∀ {k : Key}, keyFit m k → (kTx k).length ≤ m
  | .inl _, h => h.2
  | .inr s, ⟨h1, h2⟩ => by
    have := repr_len h2
    have h1 : 10 * s.length + 10 ≤ m := h1
    show (reprText s).length ≤ m
    omega
end Gd
-- part BJ
set_option Elab.async false
set_option linter.all false
set_option maxRecDepth 100000
set_option maxHeartbeats 1000000
-- part Gd95
set_option Elab.async false
set_option linter.all false
set_option maxRecDepth 100000
set_option maxHeartbeats 1000000
namespace Gd
open PySem PySem.Spec PyProof.Rows L2
universe u
section
variable {K : PySem.W.Frag} {b : Bool} {σ : L2.St} {G H : Hp} {td te ta tb : TE} {α : Type} {e : α → SR} {kv : List (Key × α)}
theorem AlK.any {as : List (Key × α)} (k : Key) : ∀ {vs : List (Key × V)}, AlK e as vs G → (vs.any fun p => decide (p.1 = k)) = as.any fun p => decide (p.1 = k) := by
  intro vs h
  induction h with
  | nil => rfl
  | cons _ _ ih => rw [List.any_cons, List.any_cons, ih]
theorem AlK.val {as : List (Key × α)} {k : Key} {a : α} : ∀ {vs : List (Key × V)}, AlK e as vs G → (as.map (·.1)).Nodup → (k, a) ∈ as → ∃ v, valV vs k = some v ∧ (e a).p v G := by
  intro vs h
  induction h with
  | nil => intro _ q; cases q
  | @cons G k' a' as v vs hv _ ih =>
    intro nd q
    rw [List.map_cons] at nd
    obtain ⟨n1, n2⟩ := List.nodup_cons.mp nd
    rcases List.mem_cons.mp q with q | q
    · obtain ⟨rfl, rfl⟩ := Prod.mk.inj q
      exact ⟨v, valV_pos rfl, hv⟩
    · have z : k' ≠ k := fun z => n1 (List.mem_map.mpr ⟨(k, a), q, z.symm⟩)
      obtain ⟨w, h1, h2⟩ := ih n2 q
      exact ⟨w, by rw [valV_neg z]; exact h1, h2⟩
end
end Gd
-- part J2
set_option Elab.async false
set_option linter.all false
set_option maxRecDepth 100000
set_option maxHeartbeats 1000000
namespace Gd
open PySem PySem.Spec PyProof.Rows L2
universe u
abbrev s_first_doubt : Stmt := topS 25
theorem sc_first_doubt : FnScope ["debate", "members", "found", "member", "objector", "one"] ["debate", "members"] (defScope s_first_doubt) := ⟨rfl, rfl, rfl, by decide +kernel, rfl, by decide +kernel, by decide +kernel⟩
abbrev s_greatest_doubt : Stmt := topS 26
theorem sc_greatest_doubt : FnScope ["debate", "least", "statement"] ["debate"] (defScope s_greatest_doubt) := ⟨rfl, rfl, rfl, by decide +kernel, rfl, by decide +kernel, by decide +kernel⟩
def fdQ (d : Deb) (ms xs : List Str) : List (Str × Str) := xs.filterMap fun m => (fob d ms m).map fun o => (m, o)
theorem fdQ_keys {d : Deb} {ms : List Str} : ∀ {xs : List Str} {q : Str × Str}, q ∈ fdQ d ms xs → q.1 ∈ xs
  | xs, q, h => by
    obtain ⟨a, h1, h2⟩ := List.mem_filterMap.mp h
    obtain ⟨o, _, rfl⟩ := Option.map_eq_some_iff.mp h2
    exact h1
theorem fdQ_snoc {d : Deb} {ms xs : List Str} {m : Str} : fdQ d ms (xs ++ [m]) = fdQ d ms xs ++ (match fob d ms m with | some o => [(m, o)] | none => []) := by
  unfold fdQ
  rw [List.filterMap_append]
  congr 1
  cases h : fob d ms m <;> simp [h]
def headO (m : Str) : Option Str → List (Str × Str)
  | some o => [(m, o)]
  | none => []
def obT (d : Deb) (ms : List Str) (o : Str) : Bool := (tosP d.2 o).all fun z => decide (z ∈ ms)
theorem find_snoc {α : Type} {p : α → Bool} {xs : List α} {a : α} : (xs ++ [a]).find? p = match xs.find? p with
    | some b => some b
    | none => if p a = true then some a else none := by
  rw [List.find?_append]
  cases xs.find? p with
  | some b => rfl
  | none =>
    show ([a].find? p) = _
    rw [List.find?_cons]
    cases p a <;> rfl
theorem lookup_out {kv : List (Str × Str)} {s : Str} (h : ∀ q ∈ kv, q.1 ≠ s) : kv.lookup s = none := List.lookup_eq_none_iff.mpr fun q hq => bne_iff_ne.mpr (Ne.symm (h q hq))
section
variable {P : Program} {w : World} {K : PySem.W.Frag} {mg : Str → Option Value} {base : Heap} {aL : Addr} {Tb : List (Addr × Str)}
def sp_first (K : PySem.W.Frag) (C : Addr) (Tb : List (Addr × Str)) : Sp := spMO Tb (fun i : Deb × List Str => [DB K C i.1, Sq K S i.2]) okM (fun i => ODct S (fdP i.1 i.2))
theorem ok_first_doubt {C : Addr} (F : Fn K mg "first_doubt" s_first_doubt ["debate", "members"]) (T : Txt K mg aL) (DC : DCls K C) : C8.Cal P w K mg base 1 "first_doubt" (sp_first K C Tb) [] := by
  refine cal_of F sc_first_doubt (fun vs H Q E h => spMO_len h fun _ => rfl) (fun f cdv A outer s H vs Q E hr h => ?_)
  have hu := hu_of hr
  have hu64 := hu64_of hr
  obtain ⟨⟨d, ms⟩, st, c, n, O, G, w0, hn, ⟨hd, hm, nd⟩, al, k⟩ := h
  have hd : okB d := hd
  have hm : ∀ x ∈ ms, x ∈ d.1 := hm
  have nd : ms.Nodup := nd
  have hml : ms.length ≤ 1000 := Nat.le_trans (nodup_len nd hm) hd.l1
  refine ⟨_, (pss_cons (ps_set (i := 2) sc_first_doubt.nd rfl (by first | exact Or.inl rfl | exact Or.inr rfl) pe_dnewK)
      (pss_cons (ps_for PassesOwn.never rfl (pi_seqK (K := K) (pv 1)) (pg_name (i := 3) sc_first_doubt.nd rfl (by first | exact Or.inl rfl | exact Or.inr rfl)) (pss_one (ps_for PassesOwn.never rfl (pi_seqK (K := K) (pe_dget hu (pe_fldK (K := K) (pv 0) rfl) (pv 3) (fun _ _ => rfl))) (pg_name (i := 4) sc_first_doubt.nd rfl (by first | exact Or.inl rfl | exact Or.inr rfl)) (pss_one (ps_if (PW.pt (pw_and (pt_cmp (pc_dnotin hu (pv 3) (pv 2))) (pw_and1 (pt_val (pe_callB (call_allK (K := K) rfl) rfl T.all boot_all (pa_cons (pe_lc (own := [("one", 5)]) rfl sc_first_doubt.nd (pi_seqK (K := K) (pe_dget hu (pe_fldK (K := K) (pv 0) rfl) (pv 4) (fun _ _ => rfl))) (blkOk_by (by kernel_rfl)) (fun _ _ _ _ _ => (pg_name (i := 5) sc_first_doubt.nd rfl (by first | exact Or.inl rfl | exact Or.inr rfl))) (fun _ _ _ _ _ => pts_nil) (fun _ _ _ _ _ => (pe_cmpR (op_inK (K := K)) (pv 5) (pv 1) (by with_unfolding_all rfl)))) pa_nil)))))) (pss_one (ps_dput hu (pv 2) (pv 3) (pv 4) rfl)) pss_nil)))))
      (pss_one (ps_ret (pv 2))))), ?_⟩
  refine (?_ : HL ⟨st, c, Tb⟩ G n O [some (DB K C d), some (Sq K S ms), none, none, none, none] _ _) _ _ ⟨G, Same.refl G, by have h := slots_start (N := ["debate", "members", "found", "member", "objector", "one"]) al; rw [alr_len al] at h; exact h, w0⟩
  refine hl_setN (k := 0) (elo_dnewD (e := S)) fun p => ?_
  dsimp only [List.set]
  refine hl_for (k := 0) (e := S) (xs := ms) (δ := List (Str × Str)) (fun i kv => kv = fdQ d ms (ms.take i)) (fun kv => (p, ODct S kv) :: O) (fun _ => [some (DB K C d), some (Sq K S ms), some (cst (.ref p)), none, none, none]) 0 (eil_sq (el_var (i := 1) rfl)) [] rfl rfl (fun G => (.eq (.eq (.eq (.no (.no (.no .nil))))))) ?_ ?_ (by omega)
  · rintro i m kv E' G1 hi rfl hrt s1 kn hn1
    have hmm : m ∈ ms := List.mem_of_getElem? hi
    have hmd := hm m hmm
    have hnt : m ∉ ms.take i := nodup_take nd hi
    have hq : ∀ q ∈ fdQ d ms (ms.take i), q.1 ≠ m := fun q hq e => hnt (e ▸ fdQ_keys hq)
    have hql : (fdQ d ms (ms.take i)).length ≤ 1000 := Nat.le_trans fm_len.1 (by rw [List.length_take]; omega)
    have esnoc : fdQ d ms (ms.take (i + 1)) = fdQ d ms (ms.take i) ++ headO m ((tosP d.2 m).find? (obT d ms)) := by
      rw [take_succ hi, fdQ_snoc]
      congr 1
    refine ⟨_, _, gl_name, ?_⟩
    dsimp only [List.set]
    refine hl_last ?_
    refine hl_for (k := 0) (e := S) (xs := tosP d.2 m) (δ := List (Str × Str)) (fun j kv => kv = fdQ d ms (ms.take i) ++ headO m (((tosP d.2 m).take j).find? (obT d ms))) (fun kv => (p, ODct S kv) :: O) (fun _ => [some (DB K C d), some (Sq K S ms), some (cst (.ref p)), some (S m), none, none]) 0 (eil_sq (el_sqL (el_dget (k := 0) (m := 0) (el_dbT DC (el_var (i := 0) rfl)) (el_var (i := 3) rfl) (lookup_map hmd)))) (fdQ d ms (ms.take i)) (by rw [List.take_zero]; show _ = _ ++ []; rw [List.append_nil]) rfl (fun G => (.eq (.eq (.eq (.eq (.no (.no .nil))))))) ?_ ?_ (by omega)
    · rintro j o kv E2 G2 hj rfl hrt2 s2 kn2 hn2
      have hod : o ∈ d.1 := (hd.pm _ (mem_tosP.mp (List.mem_of_getElem? hj))).1
      refine ⟨_, _, gl_name, ?_⟩
      dsimp only [List.set]
      refine hl_last ?_
      have hnext : ((tosP d.2 m).take (j + 1)).find? (obT d ms) = match ((tosP d.2 m).take j).find? (obT d ms) with
          | some b => some b
          | none => if obT d ms o = true then some o else none := by
        rw [take_succ hj, find_snoc]
        all_goals (cases ((tosP d.2 m).take j).find? (obT d ms) <;> rfl)
      generalize ((tosP d.2 m).take j).find? (obT d ms) = fo at *
      refine hl_if (k := 0) (c := !decide (m ∈ (fdQ d ms (ms.take i) ++ headO m fo).map (·.1)) && obT d ms o) (etl_lendS (O := O) (Rs' := [some (DB K C d), some (Sq K S ms), some (Dct S (fdQ d ms (ms.take i) ++ headO m fo)), some (S m), some (S o), none]) [(p, ODct S (fdQ d ms (ms.take i) ++ headO m fo))] rfl (fun G h => (.eq (.eq (.cv ?_ (.eq (.eq (.no .nil))))))) fun F => etl_and (k := 0) (m := 0) (etl_test (el_notinK (el_var (i := 3) rfl) (el_ks (el_var (i := 2) rfl)))) fun _ => etl_B (el_allL (p := fun z => decide (z ∈ ms)) (eln_map0 (e := S) (eil_sq (el_sqL (el_dget (k := 0) (m := 0) (el_dbT DC (el_var (i := 0) rfl)) (el_var (i := 4) rfl) (lookup_map hod)))) (fun _ _ => gl_name) fun z hz O' => el_in (k := 0) (m := 0) (el_var (i := 5) rfl) (el_var (i := 1) rfl)))) (fun hc => ?_) (fun hc => ?_)
      · intro v hv
        obtain rfl : v = .ref p := hv
        obtain ⟨o, h1, h2⟩ := h _ (List.mem_cons_self ..)
        exact od_dct o G h2 h1
      · rw [Bool.and_eq_true, Bool.not_eq_true', decide_eq_false_iff_not] at hc
        have hfo : fo = none := by
          cases fo with
          | none => rfl
          | some b => exact absurd (List.mem_map.mpr ⟨(m, b), List.mem_append_right _ (List.mem_singleton.mpr rfl), rfl⟩) hc.1
        subst hfo
        refine hl_last ?_
        refine hl_putD (i := 2) (k := 0) (m := 0) (a := o) rfl (el_var (i := 4) rfl) (el_var (i := 3) rfl) (lookup_out fun q h => ?_) ?_ ?_
        · rcases List.mem_append.mp h with h | h
          · exact hq q h
          · cases h
        · rw [List.length_append]
          show _ + 0 ≤ _
          omega
        · refine hl_nx fun σ9 H9 a9 => hl_nx (fun σ H a => ?_) σ9 H9 a9
          refine kn2 _ σ H ?_ ((a.weak fun G => (.eq (.eq (.eq (.eq (.no (.no .nil))))))).le (by omega))
          rw [hnext, if_pos hc.2, List.append_assoc]
          rfl
      · refine hl_nx fun σ9 H9 a9 => hl_nx (fun σ H a => ?_) σ9 H9 a9
        refine kn2 _ σ H ?_ ((a.weak fun G => (.eq (.eq (.eq (.eq (.no (.no .nil))))))).le (by omega))
        rw [hnext]
        cases fo with
        | some b => rfl
        | none =>
          have hnm : m ∉ (fdQ d ms (ms.take i) ++ headO m none).map (fun q : Str × Str => q.1) := by
            show m ∉ (fdQ d ms (ms.take i) ++ ([] : List (Str × Str))).map (fun q : Str × Str => q.1)
            rw [List.append_nil]
            intro h
            obtain ⟨q, h1, h2⟩ := List.mem_map.mp h
            exact hq q h1 h2
          have : obT d ms o = false := by
            cases e : obT d ms o with
            | false => rfl
            | true =>
              rw [e, decide_eq_false hnm] at hc
              cases hc
          rw [this]
          rfl
    · rintro _ rfl
      rw [List.take_length]
      exact hl_nx fun σ H a => kn _ σ H esnoc.symm ((a.weak fun G => (.eq (.eq (.eq (.no (.no (.no .nil))))))).le (by omega))
  · rintro _ rfl
    rw [List.take_length]
    exact hl_retO (i := 2) rfl fun G2 H2 s2 w2 => k p G2 H2 s2 (w2.le (by omega))
def sp_grd (K : PySem.W.Frag) (C : Addr) (Tb : List (Addr × Str)) : Sp := spMO Tb (fun d : Deb => [DB K C d]) okB (fun d => ODct S (gdP d))
theorem ok_greatest_doubt {C : Addr} (F : Fn K mg "greatest_doubt" s_greatest_doubt ["debate"]) (T : Txt K mg aL) (DC : DCls K C) (c_least_lot : C8.Cal P w K mg base 3 "least_lot" (sp_least_lot K C Tb) []) (c_first_doubt : C8.Cal P w K mg base 1 "first_doubt" (sp_first K C Tb) []) : C8.Cal P w K mg base 4 "greatest_doubt" (sp_grd K C Tb) [] := by
  refine cal_of F sc_greatest_doubt (fun vs H Q E h => spMO_len h fun _ => rfl) (fun f cdv A outer s H vs Q E hr h => ?_)
  have hu := hu_of hr
  have hu64 := hu64_of hr
  obtain ⟨d, st, c, n, O, G, w0, hn, hd, al, k⟩ := h
  have hd : okB d := hd
  refine ⟨_, (pss_cons (ps_set (i := 1) sc_greatest_doubt.nd rfl (by first | exact Or.inl rfl | exact Or.inr rfl) (C8.pe_c c_least_lot hr (by first | decide | omega) rfl (pa_cons (pv 0) pa_nil)))
      (pss_one (ps_ret (C8.pe_c c_first_doubt hr (by first | decide | omega) rfl (pa_cons (pv 0) (pa_cons (pe_lc (own := [("statement", 2)]) rfl sc_greatest_doubt.nd (pi_seqK (K := K) (pe_fldK (K := K) (pv 0) rfl)) (blkOk_by (by kernel_rfl)) (fun _ _ _ _ _ => (pg_name (i := 2) sc_greatest_doubt.nd rfl (by first | exact Or.inl rfl | exact Or.inr rfl))) (fun _ _ _ _ _ => (pts_one (pt_cmpR (op_notInK (K := K)) (pv 2) (pv 1) (by with_unfolding_all rfl)))) (fun _ _ _ _ _ => (pv 2))) pa_nil)))))), ?_⟩
  refine (?_ : HL ⟨st, c, Tb⟩ G n O [some (DB K C d), none, none] _ _) _ _ ⟨G, Same.refl G, by have h := slots_start (N := ["debate", "least", "statement"]) al; rw [alr_len al] at h; exact h, w0⟩
  refine hl_set (k := 0) (R := Lst S (leastP d)) (ELN.el (elo_least (W := ⟨st, c, Tb⟩) (k := 0) (el_var (i := 0) rfl) hd)) ?_
  dsimp only [List.set]
  exact hl_retN (k := 0) (elo_callm (W := ⟨st, c, Tb⟩) (ι := Deb × List Str) (pre := fun i => [DB K C i.1, Sq K S i.2]) (ok := okM) (post := fun i => ODct S (fdP i.1 i.2)) (d, notL d) (eal_cons (k := 0) (m := 0) (el_var (i := 0) rfl) (eal_cons (k := 0) (m := 0) (el_sqL (ELN.el (ELN.eq (eln_lc0 (e := S) (er := S) (xs := d.1) (fn := fun s => s) (p := fun s => !decide (s ∈ leastP d)) (eil_sq (el_sqL (el_dbS DC (el_var (i := 0) rfl)))) (fun _ _ => gl_name) (fun a ha O' => etl_test (el_notin (k := 0) (m := 0) (el_var (i := 2) rfl) (el_sqL (el_var (i := 1) rfl)))) fun s _ _ O' => el_var (i := 2) rfl) (by rw [List.map_id']; rfl)))) eal_nil)) ⟨hd, fun m hm => (List.mem_filter.mp hm).1, hd.nd.sublist List.filter_sublist⟩) fun p G2 H2 s2 w2 => k p G2 H2 s2 (w2.le (by omega))
end
end Gd
-- part Gd86
set_option Elab.async false
set_option linter.all false
set_option maxRecDepth 100000
set_option maxHeartbeats 2000000
namespace Gd
open PySem PySem.Spec PyProof.Rows L2
universe u
section
variable {K : PySem.W.Frag} {W : SC} {O Ob : Own} {n k m : Nat} {G0 G H G2 H2 : Hp} {Rs : RL} {R R' : SR} {te ta tb to ty : TE} {t u : TS} {E : Ends} {p d z D : Addr} {i j : Nat} {l : List Str} {α β : Type} {e : α → SR}
theorem hl_while {tt : TT} {tb' : TS} {δ : Type} (P : Nat → δ → Prop) (Of : δ → Own) (Rf : δ → RL) (c : δ → Bool) (z : Nat) (d0 : δ) (h0 : P 0 d0) (hO : Of d0 = O) (hR : ∀ G, Slk G Rs (Rf d0)) (ht : ∀ i d, P i d → ETL W (Of d) 0 tt (Rf d) (c d))
    (hb : ∀ (i : Nat) (d : δ) (E' : Ends) (G1 : Hp), P i d → c d = true → i < z → E'.rt = E.rt → Same G0 G1 → (∀ d' σ H, P (i + 1) d' → At W G1 n (Of d') (Rf d') σ H → E'.nx σ H) → HL W G1 n (Of d) (Rf d) tb' E') (hz : ∀ d, P z d → c d = false) (hd : ∀ i d, P i d → i ≤ z → c d = false → HL W G0 n (Of d) (Rf d) u E) (hn : n ≤ 1000000 := by omega) : HL W G0 n O Rs (tSeq (tWhile tt tb') u) E := fun σ H ⟨G, s, sl, w⟩ => by
  refine ⟨fun y σ H => ∃ i, y = z - i ∧ i ≤ z ∧ ∃ d, P i d ∧ ∃ G', Same G0 G' ∧ Slots G' σ (Rf d) ∧ Wd W n (Of d) G' H, ⟨z, 0, rfl, Nat.zero_le _, d0, h0, G, s, sl.weak (hR G), by rw [hO]; exact w⟩, ?_⟩
  rintro y σ' H' ⟨i, rfl, hi, d, hP, G', s0, sl', w'⟩
  refine ht i d hP σ' G' H' n _ sl' w' hn fun b G2 H2 s2 w2 eb => ?_
  subst eb
  by_cases hc : c d = true
  · rw [if_pos hc]
    have hlt : i < z := by
      rcases Nat.lt_or_ge i z with h | h
      · exact h
      · obtain rfl : i = z := by omega
        rw [hz d hP] at hc
        cases hc
    refine ⟨fun σ H => ∃ d, P (i + 1) d ∧ ∃ G', Same G0 G' ∧ Slots G' σ (Rf d) ∧ Wd W n (Of d) G' H, fun σ H h2 => ⟨z - (i + 1), by omega, i + 1, rfl, hlt, h2⟩, ?_⟩
    exact hb i d { E with nx := fun σ H => ∃ d, P (i + 1) d ∧ ∃ G', Same G0 G' ∧ Slots G' σ (Rf d) ∧ Wd W n (Of d) G' H, ct := fun σ H => ∃ d, P (i + 1) d ∧ ∃ G', Same G0 G' ∧ Slots G' σ (Rf d) ∧ Wd W n (Of d) G' H, bk := u E } G2 hP hc hlt rfl (s0.trans s2) (fun d' σ H hP' ⟨G, z1, z2, z3⟩ => ⟨d', hP', G, (s0.trans s2).trans z1, z2, z3⟩) σ' H2 ⟨G2, Same.refl _, sl'.st s2, w2⟩
  · have hc : c d = false := by simpa using hc
    rw [if_neg (by rw [hc]; decide)]
    exact hd i d hP hi hc σ' H2 ⟨G2, s0.trans s2, sl'.st s2, w2⟩
end
end Gd
-- part Gk1
set_option Elab.async false
set_option linter.all false
set_option maxRecDepth 100000
set_option maxHeartbeats 2000000
-- part Gk2
set_option Elab.async false
set_option linter.all false
set_option maxRecDepth 100000
set_option maxHeartbeats 2000000
-- part Gd88
set_option Elab.async false
set_option linter.all false
set_option maxRecDepth 100000
set_option maxHeartbeats 1000000
-- part Gk3
set_option Elab.async false
set_option linter.all false
set_option maxRecDepth 100000
set_option maxHeartbeats 2000000
-- part Gk4
set_option Elab.async false
set_option linter.all false
set_option maxRecDepth 100000
set_option maxHeartbeats 2000000
namespace Gd
open PySem PySem.Spec PyProof.Rows L2
universe u
def CalXA (P : Program) (w : World) (K : PySem.W.Frag) (mg : Str → Option Value) (base : Heap) (k : Nat) (ps : List Str) (sp : Sp) (f : Addr) : Prop := ∃ fd : FuncData, FnOk P w K mg base (L2.CX P w) k f fd ps sp ∧ PySem.W.keepIn K (.ref f) = true ∧ Binds K fd ps []
theorem CalX.at {P : Program} {w : World} {K : PySem.W.Frag} {mg : Str → Option Value} {base : Heap} {k : Nat} {x : Str} {ps : List Str} {sp : Sp} {f : Addr} (c : CalX P w K mg base k x ps sp) (h : mg x = some (.ref f)) : CalXA P w K mg base k ps sp f := by
  obtain ⟨g, fd, F, hm, kp, b⟩ := c
  cases h.symm.trans hm
  exact ⟨fd, F, kp, b⟩
end Gd
-- part Gk5
set_option Elab.async false
set_option linter.all false
set_option maxRecDepth 100000
set_option maxHeartbeats 2000000
namespace Gd
open PySem PySem.Spec PyProof.Rows L2
universe u
section
variable {K : PySem.W.Frag} {W : SC} {O : Own} {n k m : Nat} {G0 G H : Hp} {Rs : RL} {R : SR} {Ra Rb : OR} {te ta tb tc to : TE} {tr : TA} {t u : TS} {D : Ends} {α β : Type} {e : α → SR} {f : β → SR} {xs : List α} {p z : Addr} {i j : Nat} {C : Addr}
abbrev cA : Addr → SR := fun a => cst (.ref a)
theorem hl_setC {Cx : SR → Own → Prop} (h : ELC W O k te Rs Cx) (q : ∀ R Oz, Cx R Oz → HL W G0 (n + k) (Oz ++ O) (Rs.set i (some R)) u D) (hn : n + k ≤ 1000000 := by omega) : HL W G0 n O Rs (tSeq (tAsg te (gName i)) u) D := fun σ H ⟨G, s, sl, w⟩ =>
  h σ G H n _ sl w hn fun R Oz v G2 H2 hc s2 pv w2 => q R Oz hc _ _ ⟨G2, s.trans s2, (sl.st s2).set (R := R) pv, w2⟩
theorem el_ifR {c : Bool} {R1 R2 : SR} {tt : TT} (h : ETL W O k tt Rs c) (h1 : c = true → EL W O m ta Rs R1) (h2 : c = false → EL W O m tb Rs R2) : EL W O (k + m) (tIf tt ta tb) Rs (if c = true then R1 else R2) := by
  cases c with
  | true => exact el_if h h1 fun z => by cases z
  | false => exact el_if h (fun z => by cases z) h2
end
end Gd
-- part LB
set_option Elab.async false
set_option linter.all false
set_option maxRecDepth 100000
set_option maxHeartbeats 1000000
namespace Gd
open PySem PySem.Spec PyProof.Rows L2 Clo
universe u
abbrev s_is_function : Stmt := topS 10
theorem sc_is_function : FnScope ["thing"] ["thing"] (defScope s_is_function) := ⟨rfl, rfl, rfl, by decide +kernel, rfl, by decide +kernel, by decide +kernel⟩
abbrev s_check_talker : Stmt := topS 31
theorem sc_check_talker : FnScope ["thing"] ["thing"] (defScope s_check_talker) := ⟨rfl, rfl, rfl, by decide +kernel, rfl, by decide +kernel, by decide +kernel⟩
abbrev s_why_lost : Stmt := topS 32
theorem sc_why_lost : FnScope ["debate", "said", "thing"] ["debate", "said", "thing"] (defScope s_why_lost) := ⟨rfl, rfl, rfl, by decide +kernel, rfl, by decide +kernel, by decide +kernel⟩
abbrev s_run_talk : Stmt := topS 33
theorem sc_run_talk : FnScope ["debate", "statement", "defender", "opposer", "said", "talker", "thing", "why"] ["debate", "statement", "defender", "opposer"] (defScope s_run_talk) := ⟨rfl, rfl, rfl, by decide +kernel, rfl, by decide +kernel, by decide +kernel⟩
abbrev s_least_talk : Stmt := topS 34
theorem sc_least_talk : FnScope ["debate", "statement", "defender", "opposer", "wanted"] ["debate", "statement", "defender", "opposer"] (defScope s_least_talk) := ⟨rfl, rfl, rfl, by decide +kernel, rfl, by decide +kernel, by decide +kernel⟩
def okt (ns said : List Str) : Prop := said ≠ [] ∧ (∀ x ∈ said, x ∈ ns) ∧ said.length ≤ 500
section
variable {P : Program} {w : World} {K : PySem.W.Frag} {mg : Str → Option Value} {base : Heap} {aL : Addr} {Tb : List (Addr × Str)}
structure FunC (K : PySem.W.Frag) (mg : Str → Option Value) (CM CE : Addr) : Prop where
  m : ∃ u, mg "Made" = some u ∧ RelV (.ref CM) u
  e : ∃ u, mg "DebateError" = some u ∧ RelV (.ref CE) u
  fm : PySem.W.kitOne K (.type "function") (.ref CM) = some false
  fe : PySem.W.kitOne K (.type "function") (.ref CE) = some false
theorem kit_fun {CM CE : Addr} (FC : FunC K mg CM CE) : PySem.W.kitAny K (.type "function") [.type "int", .type "str", .type "list", .type "tuple", .type "dict", .ref CM, .ref CE] = some false := by
  have h1 := FC.fm
  have h2 := FC.fe
  exact kitAny_all _ fun u hu => by
    simp only [List.mem_cons, List.not_mem_nil, or_false] at hu
    rcases hu with rfl | rfl | rfl | rfl | rfl | rfl | rfl
    · exact kit_ty (by decide +kernel)
    · exact kit_ty (by decide +kernel)
    · exact kit_ty (by decide +kernel)
    · exact kit_ty (by decide +kernel)
    · exact kit_ty (by decide +kernel)
    · exact h1
    · exact h2
def sp_is_fun (K : PySem.W.Frag) (Tb : List (Addr × Str)) : Sp := spM Tb (fun κ : CloD => [LamV κ]) (fun _ => True) (fun _ => B true)
theorem ok_is_fun {CM CE : Addr} (F : Fn K mg "is_function" s_is_function ["thing"]) (T : Txt K mg aL) (FC : FunC K mg CM CE) : C8.Cal P w K mg base 1 "is_function" (sp_is_fun K Tb) [] := by
  refine cal_of F sc_is_function (fun vs H Q E h => spM_len h fun _ => rfl) (fun f cdv A outer s H vs Q E hr h => ?_)
  obtain ⟨κ, st, c, n, O, G, w0, hn, _, al, k⟩ := h
  have v_Made := FC.m
  have v_DebateError := FC.e
  refine ⟨_, (pss_one (ps_ret (pe_and (pe_cmpR op_notN (pv 0) pe_non (nomark _)) (pe_one (pe_not (pe_callB (call_isiTL (K := K)) rfl T.isinstance boot_isinstance (pa_cons (pv 0) (pa_cons (pe_tup (pa_cons (pe_bltn (v := .ty "int") rfl T.int boot_int rfl) (pa_cons (pe_bltn (v := .ty "str") rfl T.str boot_str rfl) (pa_cons (pe_bltn (v := .ty "list") rfl T.list boot_list rfl) (pa_cons (pe_bltn (v := .ty "tuple") rfl T.tuple boot_tuple rfl) (pa_cons (pe_bltn (v := .ty "dict") rfl T.dict boot_dict rfl) (pa_cons (C8.pe_gc rfl v_Made) (pa_cons (C8.pe_gc rfl v_DebateError) pa_nil)))))))) pa_nil)))))))), ?_⟩
  refine (?_ : HL ⟨st, c, Tb⟩ G n O [some (LamV κ)] _ _) _ _ ⟨G, Same.refl G, by have h := slots_start (N := ["thing"]) al; rw [alr_len al] at h; exact h, w0⟩
  exact hl_ret (k := 0) (R := B true) (EL.eq (el_and (k := 0) (m := 0) (el_notN (c := false) (el_var (i := 0) rfl) fun v G h => by rw [h.1]; rfl) fun _ => el_not (el_isLam (r := false) (el_var (i := 0) rfl) (kit_fun FC))) rfl) fun v G2 H2 s2 w2 p => k v G2 H2 s2 (w2.le (by omega)) p
def sp_ck_talker (K : PySem.W.Frag) (Tb : List (Addr × Str)) : Sp := spM Tb (fun κ : CloD => [LamV κ]) (fun _ => True) (fun _ => N)
theorem ok_check_talker (F : Fn K mg "check_talker" s_check_talker ["thing"]) (T : Txt K mg aL) (c_is_function : C8.Cal P w K mg base 1 "is_function" (sp_is_fun K Tb) []) : C8.Cal P w K mg base 2 "check_talker" (sp_ck_talker K Tb) [] := by
  refine cal_of F sc_check_talker (fun vs H Q E h => spM_len h fun _ => rfl) (fun f cdv A outer s H vs Q E hr h => ?_)
  obtain ⟨κ, st, c, n, O, G, w0, hn, _, al, k⟩ := h
  refine ⟨_, (pss_one (ps_if (pt_not (pt_val (C8.pe_c c_is_function hr (by first | decide | omega) rfl (pa_cons (pv 0) pa_nil)))) (pss_one ps_never) pss_nil)), ?_⟩
  refine (?_ : HL ⟨st, c, Tb⟩ G n O [some (LamV κ)] _ _) _ _ ⟨G, Same.refl G, by have h := slots_start (N := ["thing"]) al; rw [alr_len al] at h; exact h, w0⟩
  refine hl_last ?_
  refine hl_ifF (k := 0) (etl_notT (etl_B (el_callm (W := ⟨st, c, Tb⟩) (k := 0) (ι := CloD) (pre := fun κ => [LamV κ]) (ok := fun _ => True) (post := fun _ => B true) κ (eal_cons (k := 0) (m := 0) (el_var (i := 0) rfl) eal_nil) trivial))) ?_
  exact hl_nx fun σ H ⟨G2, s2, _, w2⟩ => k .non G2 H s2 (w2.le (by omega)) rfl
def sp_why (K : PySem.W.Frag) (C : Addr) (Tb : List (Addr × Str)) : Sp := spM Tb (fun i : Deb × List Str × Ans => [DB K C i.1, Lst S i.2.1, i.2.2.R]) (fun i => okB i.1 ∧ okt i.1.1 i.2.1 ∧ i.2.2.Ok K) (fun i => Op S (whyA i.1.2 i.2.1 i.2.2))
theorem fmod2 (n : Nat) : ((n : Int).fmod 2) = ((n % 2 : Nat) : Int) := by
  rw [Int.fmod_eq_emod_of_nonneg _ (by decide)]
  omega
theorem last_get {xs : List Str} (h : xs ≠ []) : xs.getLast? = some (xs.getLastD "") := by
  rw [List.getLastD_eq_getLast?, List.getLast?_eq_some_getLast h]
  rfl
theorem last_mem {xs : List Str} (h : xs ≠ []) : xs.getLastD "" ∈ xs := by
  have := last_get h
  exact List.mem_of_getLast? this
theorem ok_why_lost {C : Addr} (F : Fn K mg "why_lost" s_why_lost ["debate", "said", "thing"]) (T : Txt K mg aL) (DC : DCls K C) : C8.Cal P w K mg base 1 "why_lost" (sp_why K C Tb) [] := by
  refine cal_of F sc_why_lost (fun vs H Q E h => spM_len h fun _ => rfl) (fun f cdv A outer s H vs Q E hr h => ?_)
  have hu := hu_of hr
  obtain ⟨⟨d, said, a⟩, st, c, n, O, G, w0, hn, ⟨hd, ⟨ho1, ho2, ho3⟩, ha⟩, al, k⟩ := h
  have hd : okB d := hd
  have ho1 : said ≠ [] := ho1
  have ho2 : ∀ x ∈ said, x ∈ d.1 := ho2
  have ho3 : said.length ≤ 500 := ho3
  have ha : a.Ok K := ha
  have k : ∀ v G2 H2, Same G G2 → Wd ⟨st, c, Tb⟩ n O G2 H2 → (Op S (whyA d.2 said a)).p v G2 → Q v H2 := k
  have hlm := ho2 _ (last_mem ho1)
  refine ⟨_, (pss_cons (ps_if (pt_cmpR op_isN (pv 2) pe_non (nomark _)) (pss_one (ps_ret pe_str)) pss_nil)
      (pss_cons (ps_if (PW.pt (pw_or (pt_not (pt_val (pe_callB (call_isiY (K := K)) rfl T.isinstance boot_isinstance (pa_cons (pv 2) (pa_cons (pe_bltn (v := .ty "str") rfl T.str boot_str rfl) pa_nil))))) (pw_or1 (pt_cmpR (op_notInK (K := K)) (pv 2) (pe_dget hu (pe_fldK (K := K) (pv 0) rfl) (pe_ix (ix_K (K := K)) (pv 1) (pe_un un_neg pe_int) (fun _ _ => rfl)) (fun _ _ => rfl)) (by with_unfolding_all rfl))))) (pss_one (ps_ret pe_str)) pss_nil)
      (pss_one (ps_ret (pe_ifExp (PW.pt (pw_and (pt_cmpR op_eq (pe_op op_modN (pe_callB (call_lenK (K := K)) rfl T.len PySem.boot_len (pa_cons (pv 1) pa_nil)) pe_int) pe_int (nomark _)) (pw_and1 (pt_cmpR (op_inK (K := K)) (pv 2) (pe_even (K := K) (pv 1) (po_some pe_int) (po_some pe_int)) (by with_unfolding_all rfl))))) pe_str pe_non))))), ?_⟩
  refine (?_ : HL ⟨st, c, Tb⟩ G n O [some (DB K C d), some (Lst S said), some a.R] _ _) _ _ ⟨G, Same.refl G, by have h := slots_start (N := ["debate", "said", "thing"]) al; rw [alr_len al] at h; exact h, w0⟩
  cases a with
  | no =>
    refine hl_ifT (k := 0) (ETL.eq (etl_test (el_isN (c := true) (el_var (i := 2) rfl) fun v G h => decide_eq_true h)) rfl) ?_
    refine hl_last ?_
    exact hl_retD (k := 0) (R := S "nothing") (el_str (i := "nothing")) fun v G3 H3 s3 w3 p3 => k v G3 H3 s3 (w3.le (by omega)) p3
  | odd R =>
    have hR : OddA K R := ha
    refine hl_ifF (k := 0) (ETL.eq (etl_test (el_isN (c := false) (el_var (i := 2) rfl) fun v G h => decide_eq_false (hR.nn v G h))) rfl) ?_
    refine hl_ifT (k := 0) (ETL.eq (etl_or (k := 0) (m := 0) (d := true) (etl_not (etl_B (el_isiY (el_var (i := 2) rfl) hR.ns))) fun h => by cases h) rfl) ?_
    refine hl_last ?_
    exact hl_retD (k := 0) (R := S "wrong") (el_str (i := "wrong")) fun v G3 H3 s3 w3 p3 => k v G3 H3 s3 (w3.le (by omega)) p3
  | str x =>
    refine hl_ifF (k := 0) (ETL.eq (etl_test (el_isN (c := false) (el_var (i := 2) rfl) fun v G h => decide_eq_false fun z => by rw [h.1] at z; cases z)) rfl) ?_
    have hmem : x ∈ tosP d.2 (said.getLastD "") ↔ (x, said.getLastD "") ∈ d.2 := mem_tosP
    refine hl_if (k := 0) (c := !decide (x ∈ tosP d.2 (said.getLastD ""))) (ETL.eq (etl_or (k := 0) (m := 0) (d := !decide (x ∈ tosP d.2 (said.getLastD ""))) (etl_not (etl_B (el_isiY (r := true) (el_var (i := 2) rfl) (tyY_ty hty_S)))) fun _ => etl_test (el_notin (k := 0) (m := 0) (el_var (i := 2) rfl) (el_sqL (el_dget (k := 0) (m := 0) (el_dbT DC (el_var (i := 0) rfl)) (el_lastT (el_sqL (el_var (i := 1) rfl)) (last_get ho1)) (lookup_map hlm))))) (by simp)) (fun hc => ?_) (fun hc => ?_)
    · have hc : x ∉ tosP d.2 (said.getLastD "") := by simpa using hc
      refine hl_last ?_
      refine hl_retD (k := 0) (R := S "wrong") (el_str (i := "wrong")) fun v G3 H3 s3 w3 p3 => k v G3 H3 s3 (w3.le (by omega)) ?_
      rw [whyA_str, if_neg fun z => hc (hmem.mpr z)]
      exact p3
    · have hc : x ∈ tosP d.2 (said.getLastD "") := by simpa using hc
      refine hl_last ?_
      refine hl_retD (k := 0) (R := if (decide (said.length % 2 = 0) && decide (x ∈ evens said)) = true then S "again" else N) (el_ifR (k := 0) (m := 0) (etl_and (k := 0) (m := 0) (ETL.eq (etl_test (el_eqI (k := 0) (m := 0) (el_modI (k := 0) (m := 0) (y := 2) (el_len (el_sqL (el_var (i := 1) rfl))) el_int (by decide)) el_int)) (by rw [fmod2, decide_eq_decide]; omega)) fun _ => etl_test (el_in (k := 0) (m := 0) (el_var (i := 2) rfl) (el_sqL (ELN.el (eln_even (el_var (i := 1) rfl)))))) (fun _ => el_str (i := "again")) fun _ => el_non) fun v G3 H3 s3 w3 p3 => k v G3 H3 s3 (w3.le (by omega)) ?_
      rw [whyA_str, if_pos (hmem.mp hc)]
      by_cases z : said.length % 2 = 0 ∧ x ∈ evens said
      · rw [if_pos z]
        rw [if_pos (by simp [z.1, z.2])] at p3
        exact p3
      · rw [if_neg z]
        rw [if_neg (by simpa using z)] at p3
        exact p3
structure okTk (K : PySem.W.Frag) (Tk : CloD → (List Str → Ans) → Prop) (ns : List Str) (ps : List (Str × Str)) (s0 : Str) (κ1 κ2 : CloD) (D Op : List Str → Ans) (T : Nat) (wy : Str) : Prop where
  t1 : Tk κ1 D
  t2 : Tk κ2 Op
  a1 : ∀ said, okt ns said → (D said).Ok K
  a2 : ∀ said, okt ns said → (Op said).Ok K
  hs : s0 ∈ ns
  pm : ∀ p ∈ ps, p.1 ∈ ns ∧ p.2 ∈ ns
  e : TalkE ps D Op s0 T wy
theorem okTk.okt {K : PySem.W.Frag} {Tk : CloD → (List Str → Ans) → Prop} {ns : List Str} {ps : List (Str × Str)} {s0 : Str} {κ1 κ2 : CloD} {D Op : List Str → Ans} {T : Nat} {wy : Str} (h : okTk K Tk ns ps s0 κ1 κ2 D Op T wy) {i : Nat} (hi : i ≤ T) : Gd.okt ns (talkS D Op s0 i) ∧ (talkS D Op s0 i).length = i + 1 := by
  obtain ⟨h1, h2⟩ := talk_at h.e h.hs h.pm hi
  have := h.e.len
  exact ⟨⟨h1.ne, h1.sub, by omega⟩, h2⟩
def spTalk (K : PySem.W.Frag) (Tb : List (Addr × Str)) (Tk : List Str → CloD → (List Str → Ans) → Prop) {β : Type} (pb : β → SR) (nsO : β → List Str) (psO : β → List (Str × Str)) (okb : β → Prop) : Sp := fun vs H Q _ => ∃ (b : β) (s0 : Str) (κ1 κ2 : CloD) (D Op : List Str → Ans) (T : Nat) (wy : Str) (st c : Addr) (n : Nat) (O O' : Own) (G : Hp), O.Perm (κ1.own ++ (κ2.own ++ O')) ∧ Wd ⟨st, c, Tb⟩ n O G H ∧ n ≤ 1000000 ∧ okb b ∧ okTk K (Tk (nsO b)) (nsO b) (psO b) s0 κ1 κ2 D Op T wy ∧ AlR [pb b, S s0, LamV κ1, LamV κ2] vs G ∧
  ∀ v p G2 H2, Same G G2 → (Tr K cA S S (p, whoT (talkS D Op s0 T), wy)).p v G2 → Wd ⟨st, c, Tb⟩ n ((p, OL S (talkS D Op s0 T)) :: O) G2 H2 → Q v H2
section
variable {W : SC} {O O' : Own} {n k m : Nat} {G0 G H : Hp} {Rs : RL} {Ra : OR} {te ta tb tc : TE} {tr : TA} {t : TS} {D : Ends} {p : Addr} {i : Nat} {x y : Str}
theorem hl_retTr1 (hi : Rs[i]? = some (some (cst (.ref p)))) (hb : EL W ((p, Ra) :: O) k tb Rs (S x)) (hc : EL W ((p, Ra) :: O) m tc Rs (S y)) (q : ∀ v G H, Same G0 G → Wd W (n + (k + m)) ((p, Ra) :: O) G H → (Tr K cA S S (p, x, y)).p v G → D.rt v H) (hn : n + (k + m) ≤ 1000000 := by omega) : HL W G0 n ((p, Ra) :: O) Rs (tRet (tTup (tCons (tVar i) (tCons tb (tCons tc tNil))))) D := fun σ H ⟨G, s, sl, w⟩ => by
  obtain ⟨v, h1, hv⟩ := sl.get i _ hi
  obtain rfl : v = .ref p := hv
  exact ⟨_, h1, hb σ G H n _ sl w (by omega) fun v1 G2 H2 s2 w2 p1 => hc σ G2 H2 (n + k) _ (sl.st s2) w2 (by omega) fun v2 G3 H3 s3 w3 p2 => ⟨(by show 3 ≤ sizeLine; decide), fun a ha => by
    have s5 := Same.new (o := .tup [.ref p, v1, v2]) (w3.r.free ha)
    exact q (.ref a) _ _ (((s.trans s2).trans s3).trans s5) ((w3.new (o := .tup [.ref p, v1, v2]) ha rfl).eq (by omega)) ⟨a, _, v1, v2, rfl, SqT.of upd_same, rfl, (S x).st (s3.trans s5) p1, (S y).st s5 p2⟩⟩⟩
theorem hl_retC {Cx : SR → Own → Prop} (h : ELC W O k te Rs Cx) (q : ∀ R Oz v G H, Cx R Oz → Same G0 G → R.p v G → Wd W (n + k) (Oz ++ O) G H → D.rt v H) (hn : n + k ≤ 1000000 := by omega) : HL W G0 n O Rs (tRet te) D := fun σ H ⟨G, s, sl, w⟩ =>
  h σ G H n _ sl w hn fun R Oz v G2 H2 hc s2 pv w2 => q R Oz v G2 H2 hc (s.trans s2) pv w2
def TalkC (K : PySem.W.Frag) (said : List Str) (wy : Str) : SR → Own → Prop := fun R Oz => ∃ p : Addr, R = Tr K cA S S (p, whoT said, wy) ∧ Oz = [(p, OL S said)]
theorem elc_talk {Tk : List Str → CloD → (List Str → Ans) → Prop} {β : Type} {pb : β → SR} {nsO : β → List Str} {psO : β → List (Str × Str)} {okb : β → Prop} {E : XK} {b : β} {s0 : Str} {κ1 κ2 : CloD} {Dd Op : List Str → Ans} {T : Nat} {wy : Str} (ha : EAL W O k tr Rs [pb b, S s0, LamV κ1, LamV κ2]) (hO : O.Perm (κ1.own ++ (κ2.own ++ O'))) (hb : okb b) (hok : okTk K (Tk (nsO b)) (nsO b) (psO b) s0 κ1 κ2 Dd Op T wy) : ELC W O k (tCall (spTalk K W.tb Tk pb nsO psO okb) [] E tr) Rs (TalkC K (talkS Dd Op s0 T) wy) := fun σ G H n Q sl w hn kk => ha σ G H n _ sl w hn fun vs G2 H2 s2 w2 al =>
  ⟨b, s0, κ1, κ2, Dd, Op, T, wy, W.s, W.c, n + k, O, O', G2, hO, w2, by omega, hb, hok, by rw [List.append_nil]; exact al, fun v p G3 H3 s3 pv w3 => kk _ _ v G3 H3 ⟨p, rfl, rfl⟩ (s2.trans s3) pv w3⟩
theorem op_free {o : Option Str} {v : V} {G G' : Hp} (h : (Gd.Op S o).p v G) : (Gd.Op S o).p v G' := by
  cases o with
  | none => exact h
  | some s => exact h
end
end
end Gd
-- part LC
set_option Elab.async false
set_option linter.all false
set_option maxRecDepth 100000
set_option maxHeartbeats 1000000
namespace Gd
open PySem PySem.Spec PyProof.Rows L2 Clo
universe u
section
variable {P : Program} {w : World} {K : PySem.W.Frag} {mg : Str → Option Value} {base : Heap} {aL : Addr} {Tb : List (Addr × Str)}
abbrev TkA (P : Program) (w : World) (K : PySem.W.Frag) (mg : Str → Option Value) (base : Heap) (Tb : List (Addr × Str)) (ns : List Str) (κ : CloD) (A : List Str → Ans) : Prop := TkZ P w K mg base Tb 3 κ (okt ns) (fun said => (A said).R)
abbrev sp_talk (P : Program) (w : World) (K : PySem.W.Frag) (mg : Str → Option Value) (base : Heap) (C : Addr) (Tb : List (Addr × Str)) : Sp := spTalk K Tb (TkA P w K mg base Tb) (DB K C) (·.1) (·.2) okB
theorem turn_sel {ns : List Str} {ps : List (Str × Str)} {s0 : Str} {κ1 κ2 : CloD} {D Oq : List Str → Ans} {T : Nat} {wy : Str} {O O' : Own} (h : okTk K (TkA P w K mg base Tb ns) ns ps s0 κ1 κ2 D Oq T wy) (hO : O.Perm (κ1.own ++ (κ2.own ++ O'))) (said : List Str) (hs : okt ns said) : ∃ κ A O2, TkA P w K mg base Tb ns κ A ∧ O.Perm (κ.own ++ O2) ∧ turnA D Oq said = A said ∧ (if decide (said.length % 2 = 1) = true then LamV κ2 else LamV κ1) = LamV κ ∧ (A said).Ok K := by
  by_cases hp : said.length % 2 = 1
  · refine ⟨κ2, Oq, κ1.own ++ O', h.t2, hO.trans ?_, if_pos hp, by rw [decide_eq_true hp, if_pos rfl], h.a2 _ hs⟩
    rw [← List.append_assoc, ← List.append_assoc]
    exact List.perm_append_comm.append_right _
  · exact ⟨κ1, D, κ2.own ++ O', h.t1, hO, if_neg hp, by rw [decide_eq_false hp, if_neg Bool.false_ne_true], h.a1 _ hs⟩
theorem el_stD0 {C : Addr} {W : SC} {O : Own} {k m : Nat} {Rs : RL} {ta tb : TE} {E : XK} {d : Deb} {x : Str} (h1 : EL W O k ta Rs (DB K C d)) (h2 : EL W O m tb Rs (S x)) (hx : x ∈ d.1) : EL W O (k + (m + 0)) (tCall (sp_stmt K C) [] E (tCons ta (tCons tb tNil))) Rs (S x) := el_call (ι := Deb × Str) (pre := fun i => [DB K C i.1, S i.2]) (ok := fun i => i.2 ∈ i.1.1) (post := fun i => S i.2) (d, x) (eal_cons h1 (eal_cons h2 eal_nil)) hx
theorem ok_run_talk {C : Addr} (F : Fn K mg "run_talk" s_run_talk ["debate", "statement", "defender", "opposer"]) (T : Txt K mg aL) (c_why_lost : C8.Cal P w K mg base 1 "why_lost" (sp_why K C Tb) []) : CalZ P w K mg base 5 "run_talk" (sp_talk P w K mg base C Tb) := by
  refine calZ_of F sc_run_talk (fun vs H Q E h => ?_) (fun f cdv A outer s H vs Q E hg hr h => ?_)
  · obtain ⟨b, s0, κ1, κ2, D, Oq, T, wy, st, c, n, O, O', G, _, _, _, _, _, al, _⟩ := h
    exact alr_len al
  have hu := hu_of hr
  obtain ⟨d, s0, κ1, κ2, D, Oq, T1, wy, st, c, n, O, O', G, hO, w0, hn, hd, hok, al, k⟩ := h
  have hd : okB d := hd
  have hok : okTk K (TkA P w K mg base Tb d.1) d.1 d.2 s0 κ1 κ2 D Oq T1 wy := hok
  have hT := hok.e.len
  refine ⟨_, (pss_cons (ps_set (i := 4) sc_run_talk.nd rfl (by first | exact Or.inl rfl | exact Or.inr rfl) (pe_lst (pa_cons (pv 1) pa_nil)))
      (pss_one (ps_while PassesOwn.never (pt_val pe_bl) (pss_cons (ps_set (i := 5) sc_run_talk.nd rfl (by first | exact Or.inl rfl | exact Or.inr rfl) (pe_ifExp (pt_cmpR op_eq (pe_op op_modN (pe_callB (call_lenK (K := K)) rfl T.len PySem.boot_len (pa_cons (pv 4) pa_nil)) pe_int) pe_int (nomark _)) (pv 3) (pv 2)))
      (pss_cons (ps_set (i := 6) sc_run_talk.nd rfl (by first | exact Or.inl rfl | exact Or.inr rfl) (Clo.pe_callVZ (k := 3) (i := 5) hg hr (by first | decide | omega) rfl (by first | exact Or.inl rfl | exact Or.inr (Or.inl rfl) | exact Or.inr (Or.inr rfl)) (pa_cons (pe_callTy (call_tupK (K := K)) rfl T.tuple boot_tuple (pa_cons (pv 4) pa_nil)) pa_nil)))
      (pss_cons (ps_set (i := 7) sc_run_talk.nd rfl (by first | exact Or.inl rfl | exact Or.inr rfl) (C8.pe_c c_why_lost hr (by first | decide | omega) rfl (pa_cons (pv 0) (pa_cons (pv 4) (pa_cons (pv 6) pa_nil)))))
      (pss_cons (ps_if (pt_cmpR op_notN (pv 7) pe_non (nomark _)) (pss_one (ps_ret (pe_tup (pa_cons (pv 4) (pa_cons (pe_ifExp (pt_cmpR op_eq (pe_op op_modN (pe_callB (call_lenK (K := K)) rfl T.len PySem.boot_len (pa_cons (pv 4) pa_nil)) pe_int) pe_int (nomark _)) pe_str pe_str) (pa_cons (pv 7) pa_nil)))))) pss_nil)
      (pss_one (ps_expr (pe_bmK (K := K) PySem.F.plainAttrs_list PySem.F.slot_list_append PySem.F.type_list_append mt_append (pv 4) (pa_cons (pv 6) pa_nil))))))))))), ?_⟩
  refine (?_ : HL ⟨st, c, Tb⟩ G n O [some (DB K C d), some (S s0), some (LamV κ1), some (LamV κ2), none, none, none, none] _ _) _ _ ⟨G, Same.refl G, by have h := slots_start (N := ["debate", "statement", "defender", "opposer", "said", "talker", "thing", "why"]) al; rw [alr_len al] at h; exact h, w0⟩
  refine hl_setN (k := 0) (eln_lst (e := S) [s0] (eal_cons (k := 0) (m := 0) (el_var (i := 1) rfl) eal_nil) (by show 1 ≤ 100000; decide)) fun p => ?_
  dsimp only [List.set]
  refine hl_last ?_
  refine hl_forever (δ := Nat) (fun i e => e = i ∧ i ≤ T1) (fun e => (p, OL S (talkS D Oq s0 e)) :: O) (fun _ => [some (DB K C d), some (S s0), some (LamV κ1), some (LamV κ2), some (cst (.ref p)), none, none, none]) (T1 + 1) 0 ⟨rfl, Nat.zero_le _⟩ rfl (fun G => (.eq (.eq (.eq (.eq (.eq (.no (.no (.no .nil))))))))) (fun _ => etl_test el_bl) ?_ (Nat.succ_pos _)
  rintro i e E1 G1 ⟨rfl, hi⟩ _ hrt s1 kn
  obtain ⟨hot, hlen⟩ := hok.okt hi
  obtain ⟨κ, A1, O2, htk, hO2, hturn, hsel, hAok⟩ := turn_sel hok hO (talkS D Oq s0 e) hot
  generalize hsd : talkS D Oq s0 e = said at *
  refine hl_set (k := 0) (R := LamV κ) (EL.eq (el_ifR (k := 0) (m := 0) (c := decide (said.length % 2 = 1)) (ETL.eq (etl_test (el_eqI (k := 0) (m := 0) (el_modI (k := 0) (m := 0) (y := 2) (el_lenO (e := S) (p := p) (i := 4) rfl (List.mem_cons_self ..)) el_int (by decide)) el_int)) (by rw [fmod2, decide_eq_decide]; omega)) (fun _ => el_var (i := 3) rfl) fun _ => el_var (i := 2) rfl) hsel) ?_
  dsimp only [List.set]
  refine hl_set (k := 0) (R := (A1 said).R) (el_tk (W := ⟨st, c, Tb⟩) (k := 0) (said := said) htk ((List.Perm.cons _ hO2).trans List.perm_middle.symm) rfl (el_tupO (e := S) (p := p) (i := 4) rfl (List.mem_cons_self ..)) hot) ?_
  dsimp only [List.set]
  obtain ⟨o, ho⟩ : ∃ o, whyA d.2 said (A1 said) = o := ⟨_, rfl⟩
  refine hl_set (k := 0) (R := Op S o) (eg_lendS (O := O) [(p, OL S said)] (Rs' := [some (DB K C d), some (S s0), some (LamV κ1), some (LamV κ2), some (Lst S said), some (LamV κ), some (A1 said).R, none]) (fun G hG => .eq (.eq (.eq (.eq (.cv (fun v h => by
    obtain ⟨_, g1, vs, rfl, q1, a1⟩ := hG _ (List.mem_cons_self ..)
    obtain rfl : v = .ref p := h
    exact ⟨p, vs, rfl, g1, q1, a1⟩) (.eq (.eq (.no .nil)))))))) (fun v G G' h => op_free h) fun F => EL.eq (el_callm (W := ⟨st, c, Tb⟩) (k := 0) (ι := Deb × List Str × Ans) (pre := fun i => [DB K C i.1, Lst S i.2.1, i.2.2.R]) (ok := fun i => okB i.1 ∧ okt i.1.1 i.2.1 ∧ i.2.2.Ok K) (post := fun i => Op S (whyA i.1.2 i.2.1 i.2.2)) (d, said, A1 said) (eal_cons (k := 0) (m := 0) (el_var (i := 0) rfl) (eal_cons (k := 0) (m := 0) (el_var (i := 4) rfl) (eal_cons (k := 0) (m := 0) (el_var (i := 6) rfl) eal_nil))) ⟨hd, hot, hAok⟩) (by show Op S (whyA d.2 said (A1 said)) = _; rw [ho])) ?_
  dsimp only [List.set]
  have hnn : ∀ (x : Str) v G, (S x).p v G → v ≠ V.non := fun x v G h z => by rw [h.1] at z; cases z
  rcases Nat.lt_or_ge e T1 with hlt | hge
  · have hno := hok.e.go e hlt
    obtain ⟨x, hx, hstep⟩ := talk_step hok.e hlt
    rw [hsd] at hno hx hstep
    rw [hturn] at hno hx
    obtain rfl : o = none := ho.symm.trans hno
    refine hl_ifF (k := 0) (ETL.eq (etl_test (el_notNO (f := S) (o := none) (el_var (i := 7) rfl) hnn)) rfl) ?_
    refine hl_last ?_
    refine hl_push (k := 0) (e := S) (a := x) (i := 4) rfl (EL.eq (el_var (i := 6) rfl) (by rw [hx]; rfl)) (by omega) ?_
    exact hl_nx fun σ H z => kn (e + 1) σ H ⟨rfl, hlt⟩ (by omega) (by rw [hstep]; exact (z.weak fun G => (.eq (.eq (.eq (.eq (.eq (.no (.no (.no .nil))))))))).le (by omega))
  · obtain rfl : e = T1 := Nat.le_antisymm hi hge
    have hwy := hok.e.e
    rw [hsd, hturn] at hwy
    obtain rfl : o = some wy := ho.symm.trans hwy
    refine hl_ifT (k := 0) (ETL.eq (etl_test (el_notNO (f := S) (o := some wy) (el_var (i := 7) rfl) hnn)) rfl) ?_
    refine hl_last ?_
    refine hl_retTr1 (K := K) (k := 0) (m := 0) (x := whoT said) (y := wy) (i := 4) rfl (EL.eq (el_ifR (k := 0) (m := 0) (R1 := S "defender") (R2 := S "opposer") (c := decide (said.length % 2 = 1)) (ETL.eq (etl_test (el_eqI (k := 0) (m := 0) (el_modI (k := 0) (m := 0) (y := 2) (el_lenO (e := S) (p := p) (i := 4) rfl (List.mem_cons_self ..)) el_int (by decide)) el_int)) (by rw [fmod2, decide_eq_decide]; omega)) (fun _ => el_str (i := "defender")) fun _ => el_str (i := "opposer")) ?_) (el_var (i := 7) rfl) fun v G2 H2 s2 w2 pv => ?_
    · unfold whoT
      by_cases hp : said.length % 2 = 1
      · rw [decide_eq_true hp, if_pos rfl, if_pos hp]
      · rw [decide_eq_false hp, if_neg Bool.false_ne_true, if_neg hp]
    · show E1.rt v H2
      rw [hrt]
      rw [hsd] at k
      exact k v p G2 H2 (s1.trans s2) pv (w2.le (by omega))
theorem elN_ck {W : SC} {O : Own} {k : Nat} {Rs : RL} {ta : TE} {E : XK} {κ : CloD} (h : EL W O k ta Rs (LamV κ)) : EL W O (k + 0) (tCall (sp_ck_talker K W.tb) [] E (tCons ta tNil)) Rs N := el_callm (ι := CloD) (pre := fun κ => [LamV κ]) (ok := fun _ => True) (post := fun _ => N) κ (eal_cons h eal_nil) trivial
theorem ok_least_talk {C : Addr} (F : Fn K mg "least_talk" s_least_talk ["debate", "statement", "defender", "opposer"]) (T : Txt K mg aL) (c_checked_statement : C8.Cal P w K mg base 1 "checked_statement" (sp_stmt K C) []) (c_check_talker : C8.Cal P w K mg base 2 "check_talker" (sp_ck_talker K Tb) []) (z_run_talk : CalZ P w K mg base 5 "run_talk" (sp_talk P w K mg base C Tb)) : CalZ P w K mg base 6 "least_talk" (sp_talk P w K mg base C Tb) := by
  refine calZ_of F sc_least_talk (fun vs H Q E h => ?_) (fun f cdv A outer s H vs Q E hg hr h => ?_)
  · obtain ⟨b, s0, κ1, κ2, D, Oq, T, wy, st, c, n, O, O', G, _, _, _, _, _, al, _⟩ := h
    exact alr_len al
  have hu := hu_of hr
  obtain ⟨d, s0, κ1, κ2, D, Oq, T1, wy, st, c, n, O, O', G, hO, w0, hn, hd, hok, al, k⟩ := h
  have hd : okB d := hd
  have hok : okTk K (TkA P w K mg base Tb d.1) d.1 d.2 s0 κ1 κ2 D Oq T1 wy := hok
  refine ⟨_, (pss_cons (ps_set (i := 4) sc_least_talk.nd rfl (by first | exact Or.inl rfl | exact Or.inr rfl) (C8.pe_c c_checked_statement hr (by first | decide | omega) rfl (pa_cons (pv 0) (pa_cons (pv 1) pa_nil))))
      (pss_cons (ps_expr (C8.pe_c c_check_talker hr (by first | decide | omega) rfl (pa_cons (pv 2) pa_nil)))
      (pss_cons (ps_expr (C8.pe_c c_check_talker hr (by first | decide | omega) rfl (pa_cons (pv 3) pa_nil)))
      (pss_one (ps_ret (pe_cZ z_run_talk hg hr (by first | decide | omega) rfl (pa_cons (pv 0) (pa_cons (pv 4) (pa_cons (pv 2) (pa_cons (pv 3) pa_nil)))))))))), ?_⟩
  refine (?_ : HL ⟨st, c, Tb⟩ G n O [some (DB K C d), some (S s0), some (LamV κ1), some (LamV κ2), none] _ _) _ _ ⟨G, Same.refl G, by have h := slots_start (N := ["debate", "statement", "defender", "opposer", "wanted"]) al; rw [alr_len al] at h; exact h, w0⟩
  refine hl_set (k := 0) (R := S s0) (el_stD0 (W := ⟨st, c, Tb⟩) (k := 0) (m := 0) (el_var (i := 0) rfl) (el_var (i := 1) rfl) hok.hs) ?_
  dsimp only [List.set]
  refine hl_drop (k := 0) (elN_ck (W := ⟨st, c, Tb⟩) (k := 0) (el_var (i := 2) rfl)) ?_
  refine hl_drop (k := 0) (elN_ck (W := ⟨st, c, Tb⟩) (k := 0) (el_var (i := 3) rfl)) ?_
  refine hl_retC (k := 0) (Cx := TalkC K (talkS D Oq s0 T1) wy) (elc_talk (W := ⟨st, c, Tb⟩) (k := 0) (b := d) (eal_cons (k := 0) (m := 0) (el_var (i := 0) rfl) (eal_cons (k := 0) (m := 0) (el_var (i := 4) rfl) (eal_cons (k := 0) (m := 0) (el_var (i := 2) rfl) (eal_cons (k := 0) (m := 0) (el_var (i := 3) rfl) eal_nil)))) hO hd hok) fun R Oz v G2 H2 hc s2 pv w2 => ?_
  obtain ⟨p, rfl, rfl⟩ := hc
  exact k v p G2 H2 s2 pv (w2.le (by omega))
end
end Gd
-- part LD
set_option Elab.async false
set_option linter.all false
set_option maxRecDepth 100000
set_option maxHeartbeats 1000000
namespace Gd
open PySem PySem.Spec PyProof.Rows L2 Clo
universe u
abbrev s_rk_why : Stmt := topS 44
theorem sc_rk_why : FnScope ["_law_pairs", "_law_said", "_law_thing"] ["_law_pairs", "_law_said", "_law_thing"] (defScope s_rk_why) := ⟨rfl, rfl, rfl, by decide +kernel, rfl, by decide +kernel, by decide +kernel⟩
abbrev s_rk_run : Stmt := topS 45
theorem sc_rk_run : FnScope ["_law_pairs", "_law_statement", "_law_defender", "_law_opposer", "_law_said", "_law_turn", "_law_thing", "_law_why"] ["_law_pairs", "_law_statement", "_law_defender", "_law_opposer"] (defScope s_rk_run) := ⟨rfl, rfl, rfl, by decide +kernel, rfl, by decide +kernel, by decide +kernel⟩
abbrev s_digest : Stmt := topS 54
theorem sc_digest : FnScope ["_law_thing", "_law_seed", "_law_number", "_law_sign"] ["_law_thing", "_law_seed"] (defScope s_digest) := ⟨rfl, rfl, rfl, by decide +kernel, rfl, by decide +kernel, by decide +kernel⟩
abbrev s_rk_tells : Stmt := topS 46
theorem sc_rk_tells : FnScope ["_law_pairs", "_law_said", "_law_seed", "_law_odd", "_law_rest", "_law_some", "_law_number"] ["_law_pairs", "_law_said", "_law_seed", "_law_odd", "_law_rest"] (defScope s_rk_tells) := ⟨rfl, rfl, rfl, by decide +kernel, rfl, by decide +kernel, by decide +kernel⟩
def dgF (n : Int) (c : Nat) : Int := (n * 131 + (c : Int)).fmod 1000000007
def dig (t : Str) (seed : Int) : Int := t.cps.toList.foldl dgF (seed + 17)
def telP (ps : List (Str × Str)) (seed : Int) (odd : Ans) (rest : Nat) (said : List Str) : Ans :=
  let some := lobj ps (said.getLastD "")
  let nb := dig (repTu said) seed
  if (decide (some = []) || decide (nb.fmod (rest : Int) = 1)) = true then odd else .str (some.getD ((nb.fdiv 7).fmod (some.length : Int)).toNat "")
section
variable {P : Program} {w : World} {K : PySem.W.Frag} {mg : Str → Option Value} {base : Heap} {aL : Addr} {Tb : List (Addr × Str)}
def sp_rk_why (K : PySem.W.Frag) (Tb : List (Addr × Str)) : Sp := spM Tb (fun i : List (Str × Str) × List Str × Ans => [Lst (PP K) i.1, Lst S i.2.1, i.2.2.R]) (fun i => i.2.1 ≠ [] ∧ i.2.2.Ok K) (fun i => Op S (whyA i.1 i.2.1 i.2.2))
theorem ok_rk_why (F : Fn K mg "_law_rk_why" s_rk_why ["_law_pairs", "_law_said", "_law_thing"]) (T : Txt K mg aL) : C8.Cal P w K mg base 1 "_law_rk_why" (sp_rk_why K Tb) [] := by
  refine cal_of F sc_rk_why (fun vs H Q E h => spM_len h fun _ => rfl) (fun f cdv A outer s H vs Q E hr h => ?_)
  have hu := hu_of hr
  have hu64 := hu64_of hr
  have hu65 := hu65_of hr
  obtain ⟨⟨ps, said, a⟩, st, c, n, O, G, w0, hn, ⟨ho1, ha⟩, al, k⟩ := h
  have ho1 : said ≠ [] := ho1
  have ha : a.Ok K := ha
  have k : ∀ v G2 H2, Same G G2 → Wd ⟨st, c, Tb⟩ n O G2 H2 → (Op S (whyA ps said a)).p v G2 → Q v H2 := k
  refine ⟨_, (pss_cons (ps_if (pt_cmpR op_isN (pv 2) pe_non (nomark _)) (pss_one (ps_ret pe_str)) pss_nil)
      (pss_cons (ps_if (PW.pt (pw_or (pt_not (pt_val (pe_callB (call_isiY (K := K)) rfl T.isinstance boot_isinstance (pa_cons (pv 2) (pa_cons (pe_bltn (v := .ty "str") rfl T.str boot_str rfl) pa_nil))))) (pw_or1 (pt_cmpR (op_notInDK (K := K) hu65) (pe_tup (pa_cons (pv 2) (pa_cons (pe_ix (ix_K (K := K)) (pv 1) (pe_un un_neg pe_int) (fun _ _ => rfl)) pa_nil))) (pv 0) (by with_unfolding_all rfl))))) (pss_one (ps_ret pe_str)) pss_nil)
      (pss_one (ps_ret (pe_ifExp (PW.pt (pw_and (pt_cmpR op_eq (pe_op op_modN (pe_callB (call_lenK (K := K)) rfl T.len PySem.boot_len (pa_cons (pv 1) pa_nil)) pe_int) pe_int (nomark _)) (pw_and1 (pt_cmpR (op_inK (K := K)) (pv 2) (pe_even (K := K) (pv 1) (po_some pe_int) (po_some pe_int)) (by with_unfolding_all rfl))))) pe_str pe_non))))), ?_⟩
  refine (?_ : HL ⟨st, c, Tb⟩ G n O [some (Lst (PP K) ps), some (Lst S said), some a.R] _ _) _ _ ⟨G, Same.refl G, by have h := slots_start (N := ["_law_pairs", "_law_said", "_law_thing"]) al; rw [alr_len al] at h; exact h, w0⟩
  cases a with
  | no =>
    refine hl_ifT (k := 0) (ETL.eq (etl_test (el_isN (c := true) (el_var (i := 2) rfl) fun v G h => decide_eq_true h)) rfl) ?_
    refine hl_last ?_
    exact hl_retD (k := 0) (R := S "nothing") (el_str (i := "nothing")) fun v G3 H3 s3 w3 p3 => k v G3 H3 s3 (w3.le (by omega)) p3
  | odd R =>
    have hR : OddA K R := ha
    refine hl_ifF (k := 0) (ETL.eq (etl_test (el_isN (c := false) (el_var (i := 2) rfl) fun v G h => decide_eq_false (hR.nn v G h))) rfl) ?_
    refine hl_ifT (k := 0) (ETL.eq (etl_or (k := 0) (m := 0) (d := true) (etl_not (etl_B (el_isiY (el_var (i := 2) rfl) hR.ns))) fun h => by cases h) rfl) ?_
    refine hl_last ?_
    exact hl_retD (k := 0) (R := S "wrong") (el_str (i := "wrong")) fun v G3 H3 s3 w3 p3 => k v G3 H3 s3 (w3.le (by omega)) p3
  | str x =>
    refine hl_ifF (k := 0) (ETL.eq (etl_test (el_isN (c := false) (el_var (i := 2) rfl) fun v G h => decide_eq_false fun z => by rw [h.1] at z; cases z)) rfl) ?_
    refine hl_if (k := 0) (c := !decide ((x, said.getLastD "") ∈ ps)) (ETL.eq (etl_or (k := 0) (m := 0) (d := !decide ((x, said.getLastD "") ∈ ps)) (etl_not (etl_B (el_isiY (r := true) (el_var (i := 2) rfl) (tyY_ty hty_S)))) fun _ => etl_test (EL.eq (el_notinD (e := PP K) (enc_pr enc_S enc_S) (eqE_pr eqE_S eqE_S) (x := (x, said.getLastD "")) (el_pr (k := 0) (m := 0) (e := S) (f := S) (el_var (i := 2) rfl) (el_lastT (el_sqL (el_var (i := 1) rfl)) (last_get ho1))) (el_var (i := 0) rfl)) (congrArg (fun b => B !b) (decide_eq_decide.mpr Iff.rfl)))) (by simp)) (fun hc => ?_) (fun hc => ?_)
    · have hc : (x, said.getLastD "") ∉ ps := by simpa using hc
      refine hl_last ?_
      refine hl_retD (k := 0) (R := S "wrong") (el_str (i := "wrong")) fun v G3 H3 s3 w3 p3 => k v G3 H3 s3 (w3.le (by omega)) ?_
      rw [whyA_str, if_neg hc]
      exact p3
    · have hc : (x, said.getLastD "") ∈ ps := by simpa using hc
      refine hl_last ?_
      refine hl_retD (k := 0) (R := if (decide (said.length % 2 = 0) && decide (x ∈ evens said)) = true then S "again" else N) (el_ifR (k := 0) (m := 0) (etl_and (k := 0) (m := 0) (ETL.eq (etl_test (el_eqI (k := 0) (m := 0) (el_modI (k := 0) (m := 0) (y := 2) (el_len (el_sqL (el_var (i := 1) rfl))) el_int (by decide)) el_int)) (by rw [fmod2, decide_eq_decide]; omega)) fun _ => etl_test (el_in (k := 0) (m := 0) (el_var (i := 2) rfl) (el_sqL (ELN.el (eln_even (el_var (i := 1) rfl)))))) (fun _ => el_str (i := "again")) fun _ => el_non) fun v G3 H3 s3 w3 p3 => k v G3 H3 s3 (w3.le (by omega)) ?_
      rw [whyA_str, if_pos hc]
      by_cases z : said.length % 2 = 0 ∧ x ∈ evens said
      · rw [if_pos z]
        rw [if_pos (by simp [z.1, z.2])] at p3
        exact p3
      · rw [if_neg z]
        rw [if_neg (by simpa using z)] at p3
        exact p3
def sp_digest (K : PySem.W.Frag) (Tb : List (Addr × Str)) : Sp := spM Tb (fun i : List Str × Int => [Tpl K S i.1, I i.2]) (fun i => FewS i.1 ∧ (∀ s ∈ i.1, okS s = true)) (fun i => I (dig (repTu i.1) i.2))
theorem ok_digest (F : Fn K mg "_law_digest" s_digest ["_law_thing", "_law_seed"]) (T : Txt K mg aL) : CalZ P w K mg base 1 "_law_digest" (sp_digest K Tb) := by
  refine calZ_of F sc_digest (fun vs H Q E h => spM_len h fun _ => rfl) (fun f cdv A outer s H vs Q E hg hr h => ?_)
  have hu64 := hu64_of hr
  obtain ⟨⟨said, seed⟩, st, c, n, O, G, w0, hn, ⟨hf, ho⟩, al, k⟩ := h
  have hf : FewS said := hf
  have ho : ∀ s ∈ said, okS s = true := ho
  have k : ∀ v G2 H2, Same G G2 → Wd ⟨st, c, Tb⟩ n O G2 H2 → (I (dig (repTu said) seed)).p v G2 → Q v H2 := k
  refine ⟨_, (pss_cons (ps_set (i := 2) sc_digest.nd rfl (by first | exact Or.inl rfl | exact Or.inr rfl) (pe_op op_add (pv 1) pe_int))
      (pss_cons (ps_for PassesOwn.never rfl (pi_str (pe_callB (call_rpX (K := K) hg hu64) rfl T.repr boot_repr (pa_cons (pv 0) pa_nil))) (pg_name (i := 3) sc_digest.nd rfl (by first | exact Or.inl rfl | exact Or.inr rfl)) (pss_one (ps_set (i := 2) sc_digest.nd rfl (by first | exact Or.inl rfl | exact Or.inr rfl) (pe_op op_modN (pe_callTy call_int1 rfl T.int boot_int (pa_cons (pe_op op_add (pe_op op_mul (pv 2) pe_int) (pe_callB call_ord rfl T.ord boot_ord (pa_cons (pv 3) pa_nil))) pa_nil)) pe_int))))
      (pss_one (ps_ret (pv 2))))), ?_⟩
  refine (?_ : HL ⟨st, c, Tb⟩ G n O [some (Tpl K S said), some (I seed), none, none] _ _) _ _ ⟨G, Same.refl G, by have h := slots_start (N := ["_law_thing", "_law_seed", "_law_number", "_law_sign"]) al; rw [alr_len al] at h; exact h, w0⟩
  refine hl_set (k := 0) (R := I (seed + 17)) (el_addI (k := 0) (m := 0) (el_var (i := 1) rfl) el_int) ?_
  dsimp only [List.set]
  have hsz := repTu_len ho hf
  have hsz2 : (repTu said).cps.toList.length ≤ sizeLine := by rw [Array.length_toList]; exact hsz
  refine hl_for (k := 0) (e := Sg) (xs := (repTu said).cps.toList) (δ := Int) (fun i d => d = ((repTu said).cps.toList.take i).foldl dgF (seed + 17)) (fun _ => O) (fun d => [some (Tpl K S said), some (I seed), some (I d), none]) 0 (eil_tx (el_reprTS (el_var (i := 0) rfl) hf) hsz) (seed + 17) rfl rfl (fun G => (.eq (.eq (.eq (.no .nil))))) ?_ ?_ (by omega)
  · rintro i sg d E1 G1 hx rfl hrt s1 kn hn1
    refine ⟨_, _, gl_name, ?_⟩
    dsimp only [List.set]
    refine hl_last ?_
    refine hl_set (k := 0) (R := I (dgF (((repTu said).cps.toList.take i).foldl dgF (seed + 17)) sg)) (el_modI (k := 0) (m := 0) (y := 1000000007) (el_intI (el_addI (k := 0) (m := 0) (el_mulI (k := 0) (m := 0) (el_var (i := 2) rfl) el_int (.inr ⟨by decide, by decide⟩)) (el_ord (el_var (i := 3) rfl)))) el_int (by decide)) ?_
    dsimp only [List.set]
    refine hl_nx fun σ H z => kn _ σ H ?_ ((z.weak fun G => (.eq (.eq (.eq (.no .nil))))).le (by omega))
    rw [take_succ hx, List.foldl_append]
    rfl
  · rintro d rfl
    refine hl_ret (k := 0) (R := I (dig (repTu said) seed)) (EL.eq (el_var (i := 2) rfl) ?_) fun v G2 H2 s2 w2 p => k v G2 H2 s2 (w2.le (by omega)) p
    unfold dig
    rw [List.take_length]
end
end Gd
-- part LE
set_option Elab.async false
set_option linter.all false
set_option maxRecDepth 100000
set_option maxHeartbeats 1000000
namespace Gd
open PySem PySem.Spec PyProof.Rows L2 Clo
universe u
section
variable {P : Program} {w : World} {K : PySem.W.Frag} {mg : Str → Option Value} {base : Heap} {aL : Addr} {Tb : List (Addr × Str)}
theorem el_fdivI {W : SC} {O : Own} {k m : Nat} {Rs : RL} {ta tb : TE} {x y : Int} (ha : EL W O k ta Rs (I x)) (hb : EL W O m tb Rs (I y)) (h : CDivN x y) : EL W O (k + m) (tOp (rI CDivN fun i j => .int (i.fdiv j)) ta tb) Rs (I (x.fdiv y)) := el_o2 ha hb fun _ _ _ _ p q => ev_divI (ev_cR' p) (ev_cR' q) h
structure okTe (i : List (Str × Str) × List Str × Int × Ans × Nat) : Prop where
  ne : i.2.1 ≠ []
  few : FewS i.2.1
  ok : ∀ s ∈ i.2.1, okS s = true
  r : 1 ≤ i.2.2.2.2
def sp_tells (K : PySem.W.Frag) (Tb : List (Addr × Str)) : Sp := spM Tb (fun i : List (Str × Str) × List Str × Int × Ans × Nat => [Lst (PP K) i.1, Tpl K S i.2.1, I i.2.2.1, i.2.2.2.1.R, I (i.2.2.2.2 : Nat)]) okTe (fun i => (telP i.1 i.2.2.1 i.2.2.2.1 i.2.2.2.2 i.2.1).R)
theorem ok_tells (F : Fn K mg "_law_rk_tells" s_rk_tells ["_law_pairs", "_law_said", "_law_seed", "_law_odd", "_law_rest"]) (T : Txt K mg aL) (c_d_objectors : C8.Cal P w K mg base 1 "_law_d_objectors" (sp_d_objectors K) []) (z_digest : CalZ P w K mg base 1 "_law_digest" (sp_digest K Tb)) : CalZ P w K mg base 2 "_law_rk_tells" (sp_tells K Tb) := by
  refine calZ_of F sc_rk_tells (fun vs H Q E h => spM_len h fun _ => rfl) (fun f cdv A outer s H vs Q E hg hr h => ?_)
  have hu64 := hu64_of hr
  obtain ⟨⟨ps, said, seed, odd, rest⟩, st, c, n, O, G, w0, hn, hok, al, k⟩ := h
  have h1 : said ≠ [] := hok.ne
  have h4 : 1 ≤ rest := hok.r
  have k : ∀ v G2 H2, Same G G2 → Wd ⟨st, c, Tb⟩ n O G2 H2 → (telP ps seed odd rest said).R.p v G2 → Q v H2 := k
  refine ⟨_, (pss_cons (ps_par (i := 5) (j := 6) rfl sc_rk_tells.nd rfl rfl (by decide) rfl rfl (pa_cons (C8.pe_c c_d_objectors hr (by first | decide | omega) rfl (pa_cons (pv 0) (pa_cons (pe_ix (ix_K (K := K)) (pv 1) (pe_un un_neg pe_int) (fun _ _ => rfl)) pa_nil))) (pa_cons (pe_callTy call_int1 rfl T.int boot_int (pa_cons (pe_cZ z_digest hg hr (by first | decide | omega) rfl (pa_cons (pv 1) (pa_cons (pv 2) pa_nil))) pa_nil)) pa_nil)) rfl)
      (pss_one (ps_ret (pe_ifExp (PW.pt (pw_or (pt_cmpR (op_eqDK (K := K) hu64) (pv 5) (pe_lst pa_nil) (nomark _)) (pw_or1 (pt_cmpR op_eq (pe_op op_modN (pv 6) (pv 4)) pe_int (nomark _))))) (pv 3) (pe_ix (ix_K (K := K)) (pv 5) (pe_op op_modN (pe_op op_fdivN (pv 6) pe_int) (pe_callB (call_lenK (K := K)) rfl T.len PySem.boot_len (pa_cons (pv 5) pa_nil))) (fun _ _ => rfl)))))), ?_⟩
  refine (?_ : HL ⟨st, c, Tb⟩ G n O [some (Lst (PP K) ps), some (Tpl K S said), some (I seed), some odd.R, some (I (rest : Nat)), none, none] _ _) _ _ ⟨G, Same.refl G, by have h := slots_start (N := ["_law_pairs", "_law_said", "_law_seed", "_law_odd", "_law_rest", "_law_some", "_law_number"]) al; rw [alr_len al] at h; exact h, w0⟩
  refine hl_par (k := 0) (m := 0) (R1 := Lst S (lobj ps (said.getLastD ""))) (R2 := I (dig (repTu said) seed)) (el_call (ι := List (Str × Str) × Str) (post := fun i => Lst S (lobj i.1 i.2)) (ps, said.getLastD "") (eal_cons (k := 0) (m := 0) (el_var (i := 0) rfl) (eal_cons (k := 0) (m := 0) (el_lastT (el_sqT (el_var (i := 1) rfl)) (last_get h1)) eal_nil)) trivial) (el_intI (el_callm (W := ⟨st, c, Tb⟩) (k := 0) (ι := List Str × Int) (pre := fun i => [Tpl K S i.1, I i.2]) (ok := fun i => FewS i.1 ∧ (∀ s ∈ i.1, okS s = true)) (post := fun i => I (dig (repTu i.1) i.2)) (said, seed) (eal_cons (k := 0) (m := 0) (el_var (i := 1) rfl) (eal_cons (k := 0) (m := 0) (el_var (i := 2) rfl) eal_nil)) ⟨hok.few, hok.ok⟩)) ?_
  dsimp only [List.set]
  generalize hs : lobj ps (said.getLastD "") = sm
  generalize hd : dig (repTu said) seed = nb
  refine hl_ret (k := 0) (R := (telP ps seed odd rest said).R) (EL.eq (el_ifR (k := 0) (m := 0) (R1 := odd.R) (R2 := S (sm.getD ((nb.fdiv 7).fmod (sm.length : Int)).toNat "")) (c := decide (sm = []) || decide (nb.fmod (rest : Int) = 1)) (etl_or (k := 0) (m := 0) (etl_test (el_eqD (e := Lst S) (enc_lst enc_S) (eqE_lst eqE_S) (el_var (i := 5) rfl) (ELN.el (eln_lst (e := S) [] eal_nil (Nat.zero_le _))))) fun _ => etl_test (el_eqI (k := 0) (m := 0) (el_modI (k := 0) (m := 0) (el_var (i := 6) rfl) (el_var (i := 4) rfl) (by omega)) el_int)) (fun _ => el_var (i := 3) rfl) fun hc => ?_) ?_) fun v G2 H2 s2 w2 p => k v G2 H2 s2 (w2.le (by omega)) p
  · have hne : sm ≠ [] := fun z => by rw [decide_eq_true z] at hc; cases hc
    have hpos : 0 < sm.length := List.length_pos_iff.mpr hne
    have g1 := Int.fmod_nonneg_of_pos (nb.fdiv 7) (show (0 : Int) < (sm.length : Int) by omega)
    have g2 := Int.fmod_lt_of_pos (nb.fdiv 7) (show (0 : Int) < (sm.length : Int) by omega)
    refine el_ixL (k := 0) (m := 0) (e := S) (j := ((nb.fdiv 7).fmod (sm.length : Int)).toNat) (el_var (i := 5) rfl) (el_modI (k := 0) (m := 0) (el_fdivI (k := 0) (m := 0) (el_var (i := 6) rfl) el_int ⟨by decide, by decide⟩) (el_len (el_sqL (el_var (i := 5) rfl))) (by omega)) (by omega) ?_
    have hlt : ((nb.fdiv 7).fmod (sm.length : Int)).toNat < sm.length := by omega
    rw [List.getElem?_eq_getElem hlt, List.getD_eq_getElem?_getD, List.getElem?_eq_getElem hlt]
    rfl
  · unfold telP
    rw [hs, hd]
    show _ = Ans.R (if (decide (sm = []) || decide (nb.fmod (rest : Int) = 1)) = true then odd else .str (sm.getD ((nb.fdiv 7).fmod (sm.length : Int)).toNat ""))
    split <;> rfl
abbrev sp_rk_run (P : Program) (w : World) (K : PySem.W.Frag) (mg : Str → Option Value) (base : Heap) (Tb : List (Addr × Str)) : Sp := spTalk K Tb (TkA P w K mg base Tb) (fun b : List Str × List (Str × Str) => Lst (PP K) b.2) (·.1) (·.2) (fun _ => True)
theorem ok_rk_run (F : Fn K mg "_law_rk_run" s_rk_run ["_law_pairs", "_law_statement", "_law_defender", "_law_opposer"]) (T : Txt K mg aL) (c_rk_why : C8.Cal P w K mg base 1 "_law_rk_why" (sp_rk_why K Tb) []) : CalZ P w K mg base 5 "_law_rk_run" (sp_rk_run P w K mg base Tb) := by
  refine calZ_of F sc_rk_run (fun vs H Q E h => ?_) (fun f cdv A outer s H vs Q E hg hr h => ?_)
  · obtain ⟨b, s0, κ1, κ2, D, Oq, T, wy, st, c, n, O, O', G, _, _, _, _, _, al, _⟩ := h
    exact alr_len al
  have hu := hu_of hr
  obtain ⟨⟨ns, ps⟩, s0, κ1, κ2, D, Oq, T1, wy, st, c, n, O, O', G, hO, w0, hn, _, hok, al, k⟩ := h
  have hok : okTk K (TkA P w K mg base Tb ns) ns ps s0 κ1 κ2 D Oq T1 wy := hok
  have hT := hok.e.len
  refine ⟨_, (pss_cons (ps_set (i := 4) sc_rk_run.nd rfl (by first | exact Or.inl rfl | exact Or.inr rfl) (pe_lst (pa_cons (pv 1) pa_nil)))
      (pss_cons (ps_for PassesOwn.never rfl (pi_range1 rfl T.range (pa_cons pe_int pa_nil)) (pg_name (i := 5) sc_rk_run.nd rfl (by first | exact Or.inl rfl | exact Or.inr rfl)) (pss_cons (ps_set (i := 6) sc_rk_run.nd rfl (by first | exact Or.inl rfl | exact Or.inr rfl) (pe_ifExp (pt_cmpR op_eq (pe_op op_modN (pe_callB (call_lenK (K := K)) rfl T.len PySem.boot_len (pa_cons (pv 4) pa_nil)) pe_int) pe_int (nomark _)) (Clo.pe_callVZ (k := 3) (i := 3) hg hr (by first | decide | omega) rfl (by first | exact Or.inl rfl | exact Or.inr (Or.inl rfl) | exact Or.inr (Or.inr rfl)) (pa_cons (pe_callTy (call_tupK (K := K)) rfl T.tuple boot_tuple (pa_cons (pv 4) pa_nil)) pa_nil)) (Clo.pe_callVZ (k := 3) (i := 2) hg hr (by first | decide | omega) rfl (by first | exact Or.inl rfl | exact Or.inr (Or.inl rfl) | exact Or.inr (Or.inr rfl)) (pa_cons (pe_callTy (call_tupK (K := K)) rfl T.tuple boot_tuple (pa_cons (pv 4) pa_nil)) pa_nil))))
      (pss_cons (ps_set (i := 7) sc_rk_run.nd rfl (by first | exact Or.inl rfl | exact Or.inr rfl) (C8.pe_c c_rk_why hr (by first | decide | omega) rfl (pa_cons (pv 0) (pa_cons (pv 4) (pa_cons (pv 6) pa_nil)))))
      (pss_cons (ps_if (pt_cmpR op_notN (pv 7) pe_non (nomark _)) (pss_one (ps_ret (pe_tup (pa_cons (pv 4) (pa_cons (pe_ix (ix_K (K := K)) (pe_lst (pa_cons pe_str (pa_cons pe_str pa_nil))) (pe_op op_modN (pe_callB (call_lenK (K := K)) rfl T.len PySem.boot_len (pa_cons (pv 4) pa_nil)) pe_int) (fun _ _ => rfl)) (pa_cons (pv 7) pa_nil)))))) pss_nil)
      (pss_one (ps_expr (pe_bmK (K := K) PySem.F.plainAttrs_list PySem.F.slot_list_append PySem.F.type_list_append mt_append (pv 4) (pa_cons (pv 6) pa_nil))))))))
      (pss_one (ps_ret pe_non)))), ?_⟩
  refine (?_ : HL ⟨st, c, Tb⟩ G n O [some (Lst (PP K) ps), some (S s0), some (LamV κ1), some (LamV κ2), none, none, none, none] _ _) _ _ ⟨G, Same.refl G, by have h := slots_start (N := ["_law_pairs", "_law_statement", "_law_defender", "_law_opposer", "_law_said", "_law_turn", "_law_thing", "_law_why"]) al; rw [alr_len al] at h; exact h, w0⟩
  refine hl_setN (k := 0) (eln_lst (e := S) [s0] (eal_cons (k := 0) (m := 0) (el_var (i := 1) rfl) eal_nil) (by show 1 ≤ 100000; decide)) fun p => ?_
  dsimp only [List.set]
  refine hl_for (k := 0) (e := fun i : Nat => I (0 + (i : Nat))) (xs := List.range 200) (δ := Nat) (fun i e => e = i ∧ i ≤ T1) (fun e => (p, OL S (talkS D Oq s0 e)) :: O) (fun _ => [some (Lst (PP K) ps), some (S s0), some (LamV κ1), some (LamV κ2), some (cst (.ref p)), none, none, none]) 0 (eil_range1 (i := 200) el_int (by decide) (by decide)) 0 ⟨rfl, Nat.zero_le _⟩ rfl (fun G => (.eq (.eq (.eq (.eq (.eq (.no (.no (.no .nil))))))))) ?_ ?_ (by rw [List.length_range]; omega)
  · rintro i ix e E1 G1 hx ⟨rfl, hi⟩ hrt s1 kn hn1
    refine ⟨_, _, gl_name, ?_⟩
    dsimp only [List.set]
    obtain ⟨hot, hlen⟩ := hok.okt hi
    generalize hsd : talkS D Oq s0 e = said at *
    have hpm : ((said.length : Nat) : Int).fmod 2 = 1 ↔ said.length % 2 = 1 := by rw [fmod2]; omega
    have hAok : (turnA D Oq said).Ok K := by
      unfold turnA
      split
      · exact hok.a2 _ hot
      · exact hok.a1 _ hot
    have hperm2 : ((p, OL S said) :: O).Perm (κ2.own ++ ((p, OL S said) :: (κ1.own ++ O'))) := (List.Perm.cons _ (hO.trans (by
      rw [← List.append_assoc, ← List.append_assoc]
      exact List.perm_append_comm.append_right _))).trans List.perm_middle.symm
    have hperm1 : ((p, OL S said) :: O).Perm (κ1.own ++ ((p, OL S said) :: (κ2.own ++ O'))) := (List.Perm.cons _ hO).trans List.perm_middle.symm
    refine hl_set (k := 0) (R := (turnA D Oq said).R) (EL.eq (el_ifR (k := 0) (m := 0) (R1 := (Oq said).R) (R2 := (D said).R) (c := decide (said.length % 2 = 1)) (ETL.eq (etl_test (el_eqI (k := 0) (m := 0) (el_modI (k := 0) (m := 0) (y := 2) (el_lenO (e := S) (p := p) (i := 4) rfl (List.mem_cons_self ..)) el_int (by decide)) el_int)) (by rw [decide_eq_decide]; exact hpm)) (fun _ => el_tk (W := ⟨st, c, Tb⟩) (k := 0) (said := said) hok.t2 hperm2 rfl (el_tupO (e := S) (p := p) (i := 4) rfl (List.mem_cons_self ..)) hot) fun _ => el_tk (W := ⟨st, c, Tb⟩) (k := 0) (said := said) hok.t1 hperm1 rfl (el_tupO (e := S) (p := p) (i := 4) rfl (List.mem_cons_self ..)) hot) ?_) ?_
    · unfold turnA
      by_cases hp : said.length % 2 = 1
      · rw [decide_eq_true hp, if_pos rfl, if_pos hp]
      · rw [decide_eq_false hp, if_neg Bool.false_ne_true, if_neg hp]
    dsimp only [List.set]
    obtain ⟨o, ho⟩ : ∃ o, whyA ps said (turnA D Oq said) = o := ⟨_, rfl⟩
    refine hl_set (k := 0) (R := Op S o) (eg_lendS (O := O) [(p, OL S said)] (Rs' := [some (Lst (PP K) ps), some (S s0), some (LamV κ1), some (LamV κ2), some (Lst S said), none, some (turnA D Oq said).R, none]) (fun G hG => .eq (.eq (.eq (.eq (.cv (fun v h => by
      obtain ⟨_, g1, vs, rfl, q1, a1⟩ := hG _ (List.mem_cons_self ..)
      obtain rfl : v = .ref p := h
      exact ⟨p, vs, rfl, g1, q1, a1⟩) (.no (.eq (.no .nil)))))))) (fun v G G' h => op_free h) fun F => EL.eq (el_callm (W := ⟨st, c, Tb⟩) (k := 0) (ι := List (Str × Str) × List Str × Ans) (pre := fun i => [Lst (PP K) i.1, Lst S i.2.1, i.2.2.R]) (ok := fun i => i.2.1 ≠ [] ∧ i.2.2.Ok K) (post := fun i => Op S (whyA i.1 i.2.1 i.2.2)) (ps, said, turnA D Oq said) (eal_cons (k := 0) (m := 0) (el_var (i := 0) rfl) (eal_cons (k := 0) (m := 0) (el_var (i := 4) rfl) (eal_cons (k := 0) (m := 0) (el_var (i := 6) rfl) eal_nil))) ⟨hot.1, hAok⟩) (by show Op S (whyA ps said (turnA D Oq said)) = _; rw [ho])) ?_
    dsimp only [List.set]
    have hnn : ∀ (x : Str) v G, (S x).p v G → v ≠ V.non := fun x v G h z => by rw [h.1] at z; cases z
    rcases Nat.lt_or_ge e T1 with hlt | hge
    · have hno := hok.e.go e hlt
      obtain ⟨x, hx2, hstep⟩ := talk_step hok.e hlt
      rw [hsd] at hno hx2 hstep
      obtain rfl : o = none := ho.symm.trans hno
      refine hl_ifF (k := 0) (ETL.eq (etl_test (el_notNO (f := S) (o := none) (el_var (i := 7) rfl) hnn)) rfl) ?_
      refine hl_last ?_
      refine hl_push (k := 0) (e := S) (a := x) (i := 4) rfl (EL.eq (el_var (i := 6) rfl) (by rw [hx2]; rfl)) (by omega) ?_
      exact hl_nx fun σ H z => kn (e + 1) σ H ⟨rfl, hlt⟩ (by rw [hstep]; exact (z.weak fun G => (.eq (.eq (.eq (.eq (.eq (.no (.no (.no .nil))))))))).le (by omega))
    · obtain rfl : e = T1 := Nat.le_antisymm hi hge
      have hwy := hok.e.e
      rw [hsd] at hwy
      obtain rfl : o = some wy := ho.symm.trans hwy
      refine hl_ifT (k := 0) (ETL.eq (etl_test (el_notNO (f := S) (o := some wy) (el_var (i := 7) rfl) hnn)) rfl) ?_
      refine hl_last ?_
      refine hl_retTr1 (K := K) (k := 0) (m := 0) (x := whoT said) (y := wy) (i := 4) rfl (el_ixL (k := 0) (m := 0) (e := S) (j := said.length % 2) (ELN.el (eln_lst (e := S) ["opposer", "defender"] (eal_cons (k := 0) (m := 0) (el_str (i := "opposer")) (eal_cons (k := 0) (m := 0) (el_str (i := "defender")) eal_nil)) (by show 2 ≤ 100000; decide))) (el_modI (k := 0) (m := 0) (y := 2) (el_lenO (e := S) (p := p) (i := 4) rfl (List.mem_cons_self ..)) el_int (by decide)) (fmod2 _) ?_) (el_var (i := 7) rfl) fun v G2 H2 s2 w2 pv => ?_
      · unfold whoT
        rcases Nat.mod_two_eq_zero_or_one said.length with z | z
        · rw [z, if_neg (by decide)]
          rfl
        · rw [z, if_pos rfl]
          rfl
      · show E1.rt v H2
        rw [hrt]
        rw [hsd] at k
        exact k v p G2 H2 (s1.trans s2) pv (w2.le (by omega))
  · rintro e ⟨rfl, hi⟩
    rw [List.length_range] at hi
    omega
end
end Gd
-- part Gm3
set_option Elab.async false
set_option linter.all false
set_option maxRecDepth 100000
set_option maxHeartbeats 2000000
namespace Gd
open PySem PySem.Spec PyProof.Rows L2 Clo
universe u
def retE (s : Stmt) : Expr := match (defBody s).getLast? with
  | some (.Return (some e) _) => e
  | _ => .Constant .none 0 ⟨0, 0, 0, 0⟩
def lamPar : Expr → Arguments
  | .Lambda p _ _ _ => p
  | _ => ⟨[], [], none, [], [], none, []⟩
def lamBody : Expr → Expr
  | .Lambda _ b _ _ => b
  | e => e
def lamSc : Expr → Scope
  | .Lambda _ _ s _ => s
  | _ => ⟨.function, [], false, false, []⟩
theorem free_by {sc d : Scope} (h : (sc.names.all fun y => !decide (y.2 = .free) || decide (d.names.lookup y.1 = some .cell)) = true) : ∀ y ∈ sc.names, y.2 = .free → d.names.lookup y.1 = some .cell ∨ d.names.lookup y.1 = some .free := fun y hy e => by
  have := List.all_eq_true.mp h y hy
  rw [decide_eq_true e] at this
  exact .inl (by simpa using this)
section
variable {W : SC} {n m k : Nat} {O O' : Own} {G G0 G2 H H2 H0 : Hp} {Rs : RL} {σ : L2.St}
theorem cellsL_zip {cells : List (Str × Addr)} : ∀ {cl : List (Str × Addr)} {js : List Nat} {us : List V}, js.length = cl.length → us.length = cl.length → (∀ p ∈ cl, cells.lookup p.1 = some p.2) → (∀ q ∈ js.zip us, σ[q.1]? = some (some q.2)) → cellsL cells (cl.map (·.1)) js σ = (cl.zip us).map fun p => (p.1.2, p.2)
  | [], js, us, _, _, _, _ => by simp [cellsL]
  | p :: cl, [], us, h, _, _, _ => by cases h
  | p :: cl, j :: js, [], _, h, _, _ => by cases h
  | p :: cl, j :: js, u :: us, h1, h2, h3, h4 => by
    have ih := cellsL_zip (cl := cl) (js := js) (us := us) (by simpa using h1) (by simpa using h2) (fun q hq => h3 q (List.mem_cons_of_mem _ hq)) fun q hq => h4 q (List.mem_cons_of_mem _ hq)
    have e1 := h3 p (List.mem_cons_self ..)
    have e2 : σ[j]? = some (some u) := h4 (j, u) (List.mem_cons_self ..)
    unfold cellsL at ih ⊢
    rw [List.map_cons, List.zip_cons_cons, List.filterMap_cons]
    have e3 : ((cells.lookup (p.1, j).1).bind fun a => (NdefX.slotAt σ (p.1, j).2).map fun v => (a, v)) = some (p.2, u) := by
      show ((cells.lookup p.1).bind fun a => (NdefX.slotAt σ j).map fun v => (a, v)) = some (p.2, u)
      rw [e1, show NdefX.slotAt σ j = some u by unfold NdefX.slotAt; rw [e2]]
      rfl
    rw [e3, ih]
    rfl
theorem slots_pick (sl : Slots G σ Rs) : ∀ {js : List Nat} {RR : List SR}, js.length = RR.length → (∀ q ∈ js.zip RR, Rs[q.1]? = some (some q.2)) → ∃ us : List V, us.length = js.length ∧ AlR RR us G ∧ ∀ q ∈ js.zip us, σ[q.1]? = some (some q.2)
  | [], [], _, _ => ⟨[], rfl, .nil, fun q hq => by cases hq⟩
  | [], _ :: _, h, _ => by cases h
  | _ :: _, [], h, _ => by cases h
  | j :: js, R :: RR, h, hq => by
    obtain ⟨us, a1, a2, a3⟩ := slots_pick sl (js := js) (RR := RR) (by simpa using h) fun q hm => hq q (List.mem_cons_of_mem _ hm)
    obtain ⟨v, e1, e2⟩ := sl.get j R (hq (j, R) (List.mem_cons_self ..))
    refine ⟨v :: us, by simp [a1], .cons e2 a2, fun q hm => ?_⟩
    rcases List.mem_cons.mp hm with rfl | hm
    · exact e1
    · exact a3 q hm
theorem hlr_lam {mk : Addr → LF} {cells cl : List (Str × Addr)} {fr : List Str} {js : List Nat} {RR : List SR} {N0 : L2.St → Hp → Prop} {R0 Q : VK} (hmk : ∀ c, (mk c).c = c) (hcl : ∀ c, (mk c).cl = cl) (hfr : fr = cl.map (·.1)) (h1 : js.length = cl.length) (h2 : RR.length = cl.length) (hl : ∀ p ∈ cl, cells.lookup p.1 = some p.2) (hR : ∀ q ∈ js.zip RR, Rs[q.1]? = some (some q.2)) (nd : (cl.map (·.1)).Nodup) (nd2 : (cl.map (·.2)).Nodup)
    (k : ∀ κ : CloD, κ.cl = cl → κ.RR = RR → κ.Ok → κ.F = mk κ.c → ∀ G2 H2, Same G0 G2 → (LamV κ).p (.ref κ.f) G2 → Wd W n (κ.own ++ O) G2 H2 → Q (.ref κ.f) H2) (a : At W G0 n O Rs σ H) : rRet (tLamV W.tb mk) { nx := N0, r0 := R0, r1 := fun v σ H' => (∀ p ∈ cellsL cells fr js σ, H' p.1 = none ∧ H0 p.1 = none) → Q v (tellL (cellsL cells fr js σ) H') } σ H := by
  obtain ⟨G, s, sl, w⟩ := a
  obtain ⟨us, a1, a2, a3⟩ := slots_pick sl (h1.trans h2.symm) hR
  have hcs := cellsL_zip (cells := cells) (σ := σ) h1 (a1.trans h1) hl a3
  rw [← hfr] at hcs
  refine lamV_gives hmk w fun f c G2 H2 s2 w2 hf hc hn => ?_
  rw [hcs] at hn ⊢
  let κ : CloD := ⟨f, c, (mk c).qual, (mk c).params, (mk c).body, (mk c).scope, cl, RR⟩
  have eF : κ.F = mk c := by
    have e1 := hmk c
    have e2 := hcl c
    show (⟨(mk c).qual, (mk c).params, (mk c).body, (mk c).scope, cl, c⟩ : LF) = mk c
    cases hm : mk c with
    | mk a b d e g i =>
      rw [hm] at e1 e2
      simp only at e1 e2
      subst e1 e2
      rfl
  have ok : κ.Ok := ⟨h2, nd⟩
  refine k κ rfl rfl ok eF G2 _ (s.trans s2) ⟨rfl, ?_, hc⟩ (Wd.tell (κ := κ) w2 ok nd2 (a2.st s2) fun a ha => ?_)
  · show G2 f = some (LamO f κ.F)
    rw [eF]
    exact hf
  · obtain ⟨p, hp, rfl⟩ := List.mem_map.mp ha
    obtain ⟨i, hi⟩ := List.getElem?_of_mem hp
    have hlt := (List.getElem?_eq_some_iff.mp hi).1
    have hu : i < us.length := by rw [a1, h1]; exact hlt
    exact (hn (p.2, us[i]) (List.mem_map.mpr ⟨(p, us[i]), List.mem_of_getElem? (List.getElem?_zip_eq_some.mpr ⟨hi, List.getElem?_eq_getElem hu⟩), rfl⟩)).1
theorem calR_of {P : Program} {w : World} {K : PySem.W.Frag} {mg : Str → Option Value} {base : Heap} {x : Str} {st : Stmt} {N ps fr : List Str} {js : List Nat} {k : Nat} {sp : Sp} {c : Addr} (F : FnL K mg x st ps c) (S : FnScope N ps (defScope st)) (hfr : ∀ p ∈ fr.zip js, N[p.2]? = some p.1 ∧ (defScope st).names.lookup p.1 = some .cell) (len : ∀ vs H Q E, sp vs H Q E → vs.length = ps.length)
    (hbody : ∀ (f : Addr) (A : Around) (outer : List Env) (s : Shared) (H : Hp) (vs : List V) (Q : VK) (E : XK), Room k (A.deeper (envOfC x (defScope st) s.heap.objs.size f (.ref c))) → sp vs H Q E →
      ∃ t, PSR (cxOf C8.CX0 P w K mg base N x (defScope st) f (.ref c) A outer s H E) (defBody st) t ∧ t { nx := fun _ H' => Q .non H', r0 := Q, r1 := fun v σ H' => (∀ p ∈ cellsL (cellsFrom (s.heap.objs.size + 1) (defScope st).names []) fr js σ, H' p.1 = none ∧ H p.1 = none) → Q v (tellL (cellsL (cellsFrom (s.heap.objs.size + 1) (defScope st).names []) fr js σ) H') } (L2.start N vs) H) : C8.Cal P w K mg base (k + 1) x sp [] := by
  obtain ⟨f, oc, od, kV, doc, pm, an, ct, osl, lk, hcd, h2, kp, h3⟩ := F
  exact ⟨f, _, ps, [], fnR_of lk hcd S hfr len fun A outer s H vs Q E hr hsp => hbody f A outer s H vs Q E hr hsp, h2, kp, h3, .nil⟩
def HLR (W : SC) (G0 : Hp) (n : Nat) (O : Own) (Rs : RL) (u : TSR) (D : EndsR) : Prop := ∀ σ H, At W G0 n O Rs σ H → u D σ H
theorem hlr_cons {t : TS} {u : TSR} {D : EndsR} (h : ∀ t2, (∀ m Rs2 , HLR W G0 m O Rs2 u D → HL W G0 m O Rs2 t2 { nx := u D, rt := D.r0 }) → HL W G0 n O Rs (tSeq t t2) { nx := u D, rt := D.r0 }) : HLR W G0 n O Rs (rSeq t u) D := fun σ H a => by
  have := h tNext fun m Rs2 z => hl_nx fun σ H b => z σ H b
  exact this σ H a
end
def spLC {ι : Type u} (Tb : List (Addr × Str)) (pre : ι → List SR) (ok : ι → Prop) (cost : ι → Nat) (C : ι → SR → Own → Prop) : Sp := fun vs H Q _ => ∃ (i : ι) (s c : Addr) (n : Nat) (O : Own) (G : Hp) (rest : List V), vs = .ref s :: rest ∧ Wd ⟨s, c, Tb⟩ n O G H ∧ n + cost i ≤ 1000000 ∧ ok i ∧ AlR (pre i) rest G ∧ ∀ R Oz v G2 H2, C i R Oz → Same G G2 → R.p v G2 → Wd ⟨s, c, Tb⟩ (n + cost i) (Oz ++ O) G2 H2 → Q v H2
theorem spLC_len {ι : Type u} {Tb : List (Addr × Str)} {pre : ι → List SR} {ok : ι → Prop} {cost : ι → Nat} {C : ι → SR → Own → Prop} {vs : List V} {H : Hp} {Q : VK} {E : XK} {l : Nat} (h : spLC Tb pre ok cost C vs H Q E) (hn : ∀ i, (pre i).length + 1 = l) : vs.length = l := by
  obtain ⟨i, s, c, n, O, G, rest, rfl, _, _, _, al, _⟩ := h
  rw [List.length_cons, alr_len al, hn]
section
variable {W : SC} {O : Own} {k : Nat} {Rs : RL} {tr : TA} {ι : Type u} {pre : ι → List SR} {ok : ι → Prop} {cost : ι → Nat} {C : ι → SR → Own → Prop} {E : XK} {j : Nat}
theorem elc_calll (i : ι) (hs : Rs[j]? = some (some (cst (.ref W.s)))) (ha : EAL W O k tr Rs (pre i)) (hok : ok i) : ELC W O (k + cost i) (tCall (spLC W.tb pre ok cost C) [] E (tCons (tVar j) tr)) Rs (C i) := fun σ G H n Q sl w hn kk => by
  obtain ⟨v, h1, hv⟩ := sl.get j _ hs
  obtain rfl : v = .ref W.s := hv
  exact ⟨_, h1, ha σ G H n _ sl w (by omega) fun vs G2 H2 s2 w2 al => ⟨i, W.s, W.c, n + k, O, G2, vs ++ [], rfl, w2, by omega, hok, by rw [List.append_nil]; exact al, fun R Oz v G3 H3 hc s3 pv w3 => kk R Oz v G3 H3 hc (s2.trans s3) pv (w3.eq (by omega))⟩⟩
end
end Gd
-- part LF
set_option Elab.async false
set_option linter.all false
set_option maxRecDepth 100000
set_option maxHeartbeats 1000000
namespace Gd
open PySem PySem.Spec PyProof.Rows L2 Clo
universe u
abbrev s_rk_talker : Stmt := topS 47
theorem sc_rk_talker : FnScope ["_law_stream", "_law_pairs", "_law_seed", "_law_odd", "_law_rest"] ["_law_stream", "_law_pairs"] (defScope s_rk_talker) := ⟨rfl, rfl, rfl, by decide +kernel, rfl, by decide +kernel, by decide +kernel⟩
section
variable {P : Program} {w : World} {K : PySem.W.Frag} {mg : Str → Option Value} {base : Heap} {aL : Addr} {Tb : List (Addr × Str)}
theorem okt_few {ns said : List Str} (hns : ∀ x ∈ ns, okS x = true ∧ x.length ≤ 12) (h : okt ns said) : FewS said ∧ ∀ s ∈ said, okS s = true := by
  obtain ⟨_, h2, h3⟩ := h
  exact ⟨⟨by omega, fun s hs => by have := (hns s (h2 s hs)).2; omega⟩, fun s hs => (hns s (h2 s hs)).1⟩
abbrev clT (a1 a2 a3 a4 : Addr) : List (Str × Addr) := [("_law_seed", a1), ("_law_rest", a2), ("_law_pairs", a3), ("_law_odd", a4)]
abbrev lamT : Expr := retE s_rk_talker
theorem lok_talker {κ : CloD} {ns : List Str} {ps : List (Str × Str)} {seed : Int} {odd : Ans} {rest : Nat} {q : Str} {c a1 a2 a3 a4 : Addr} (z_rk_tells : CalZ P w K mg base 2 "_law_rk_tells" (sp_tells K Tb)) (hns : ∀ x ∈ ns, okS x = true ∧ x.length ≤ 12) (h1 : 1 ≤ rest)
    (eF : κ.F = ⟨q, lamPar lamT, lamBody lamT, lamSc lamT, clT a1 a2 a3 a4, c⟩) (hRR : κ.RR = [I seed, I (rest : Nat), Lst (PP K) ps, odd.R]) (hcl : κ.cl = clT a1 a2 a3 a4) : LOkZ P w K mg base 3 κ.f κ.F ["_law_said"] (κ.cl.map (·.1)) (spV Tb κ.RR (fun said : List Str => [Tpl K S said]) (fun said _ => okt ns said) (fun said => (telP ps seed odd rest said).R)) := by
  rw [eF, hRR, hcl]
  refine lok_ofZ (N := ["_law_said", "_law_seed", "_law_rest", "_law_pairs", "_law_odd"]) (NdefX.nscope_by (by kernel_rfl)) (fun pm ctv us h => ?_) (fun ws vs H Q E h => ?_) (fun A outer s H vs ws Q E hg hr hwl h => ?_)
  · match us, h with
    | [u], _ => rfl
  · obtain ⟨i, st, c, n, O, G, us, _, _, _, _, _, al, _⟩ := h
    exact alr_len al
  · obtain ⟨said, st, c, n, O, G, us, rfl, al2, w0, hn, hot, al, k⟩ := h
    have hot : okt ns said := hot
    obtain ⟨hf, ho⟩ := okt_few hns hot
    refine ⟨_, (pe_cZ z_rk_tells hg hr (by first | decide | omega) rfl (pa_cons (pv 3) (pa_cons (pv 0) (pa_cons (pv 1) (pa_cons (pv 4) (pa_cons (pv 2) pa_nil)))))), ?_⟩
    have sl := slots_startF (N := ["_law_said", "_law_seed", "_law_rest", "_law_pairs", "_law_odd"]) al al2
    rw [alr_len al, alr_len al2] at sl
    refine (el_callm (W := ⟨st, c, Tb⟩) (O := O) (Rs := [some (Tpl K S said), some (I seed), some (I (rest : Nat)), some (Lst (PP K) ps), some odd.R]) (k := 0) (ι := List (Str × Str) × List Str × Int × Ans × Nat) (pre := fun i => [Lst (PP K) i.1, Tpl K S i.2.1, I i.2.2.1, i.2.2.2.1.R, I (i.2.2.2.2 : Nat)]) (ok := okTe) (post := fun i => (telP i.1 i.2.2.1 i.2.2.2.1 i.2.2.2.2 i.2.1).R) (ps, said, seed, odd, rest) (eal_cons (k := 0) (m := 0) (el_var (i := 3) rfl) (eal_cons (k := 0) (m := 0) (el_var (i := 0) rfl) (eal_cons (k := 0) (m := 0) (el_var (i := 1) rfl) (eal_cons (k := 0) (m := 0) (el_var (i := 4) rfl) (eal_cons (k := 0) (m := 0) (el_var (i := 2) rfl) eal_nil))))) ⟨hot.1, hf, ho, h1⟩ : EL _ _ _ _ _ _) _ G H n _ sl w0 (by omega) fun v G2 H2 s2 w2 pv => ?_
    exact k v G2 H2 s2 (w2.le (by omega)) pv
def TlkC (P : Program) (w : World) (K : PySem.W.Frag) (mg : Str → Option Value) (base : Heap) (Tb : List (Addr × Str)) (ns : List Str) : SR → Own → Prop := fun R Oz => ∃ (κ : CloD) (A : List Str → Ans), TkA P w K mg base Tb ns κ A ∧ (∀ said, okt ns said → (A said).Ok K) ∧ R = LamV κ ∧ Oz = κ.own
def sp_talker (P : Program) (w : World) (K : PySem.W.Frag) (mg : Str → Option Value) (base : Heap) (Tb : List (Addr × Str)) : Sp := spLC Tb (fun i : List Str × List (Str × Str) => [Lst (PP K) i.2]) (fun i => ∀ x ∈ i.1, okS x = true ∧ x.length ≤ 12) (fun _ => 3) (fun i => TlkC P w K mg base Tb i.1)
def oddsK (K : PySem.W.Frag) : List Ans := [.no, .odd (I 5), .str "none", .odd (B true), .odd (Lst S []), .odd (Tpl K S ["a"]), .odd (Dct S []), .str "B"]
theorem odd_ty {R : SR} {T : String} (h : HasTy K R T) (hk : kitB T "str" = some false := by decide +kernel) (hn : ∀ v G, R.p v G → v ≠ V.non) : OddA K R := ⟨hn, tyY_ty h hk⟩
theorem oddsK_ok {a : Ans} (h : a ∈ oddsK K) : a.Ok K := by
  simp only [oddsK, List.mem_cons, List.not_mem_nil, or_false] at h
  rcases h with rfl | rfl | rfl | rfl | rfl | rfl | rfl | rfl
  · trivial
  · exact odd_ty hty_I (hn := fun v G h z => by rw [show v = V.int 5 from h] at z; cases z)
  · trivial
  · exact odd_ty hty_B (hn := fun v G h z => by rw [show v = V.bl true from h] at z; cases z)
  · exact odd_ty hty_lst (hn := fun v G ⟨_, _, h, _⟩ z => by rw [h] at z; cases z)
  · exact odd_ty hty_tpl (hn := fun v G ⟨_, _, h, _⟩ z => by rw [h] at z; cases z)
  · exact odd_ty hty_Dct (hn := fun v G ⟨_, _, h, _⟩ z => by rw [h] at z; cases z)
  · trivial
theorem ok_rk_talker {cc Pt : Addr} (F : FnL K mg "_law_rk_talker" s_rk_talker ["_law_stream", "_law_pairs"] cc) (T : Txt K mg aL) (c_draw : C8.Cal P w K mg base 1 "_law_draw" sp_draw []) (c_pick : C8.Cal P w K mg base 2 "_law_pick" (sp_pick K) []) (z_rk_tells : CalZ P w K mg base 2 "_law_rk_tells" (sp_tells K Tb)) (TB : LamX.TabB base mg cc Pt) (hmT : (Pt, ("_law_rk_talker" : Str) ++ ".<locals>." ++ "<lambda>") ∈ Tb) (hmu : ∀ p ∈ Tb, p.1 = Pt → p.2 = ("_law_rk_talker" : Str) ++ ".<locals>." ++ "<lambda>") : C8.Cal P w K mg base 3 "_law_rk_talker" (sp_talker P w K mg base Tb) [] := by
  refine calR_of (fr := ["_law_seed", "_law_rest", "_law_pairs", "_law_odd"]) (js := [2, 4, 1, 3]) F sc_rk_talker (by decide +kernel) (fun vs H Q E h => spLC_len h fun _ => rfl) (fun f A outer s H vs Q E hr h => ?_)
  have hu := hu_of hr
  have hu64 := hu64_of hr
  obtain ⟨⟨ns, ps⟩, st, c, n, O, G, rest, rfl, w0, hn, hns, al, k⟩ := h
  obtain ⟨v1, rfl, hv1⟩ := alr1 al
  have hn : n + 3 ≤ 1000000 := hn
  have hns : ∀ x ∈ ns, okS x = true ∧ x.length ≤ 12 := hns
  refine ⟨_, (psr_cons (ps_asg (pe_tup (pa_cons (C8.pe_c c_draw hr (by first | decide | omega) rfl (pa_cons (pv 0) (pa_cons pe_int pa_nil))) (pa_cons (C8.pe_c c_pick hr (by first | decide | omega) rfl (pa_cons (pv 0) (pa_cons (pe_lst (pa_cons pe_non (pa_cons pe_int (pa_cons pe_str (pa_cons pe_bl (pa_cons (pe_lst pa_nil) (pa_cons (pe_tup (pa_cons pe_str pa_nil)) (pa_cons pe_dnewK (pa_cons pe_str pa_nil))))))))) pa_nil))) pa_nil))) (pg_tupK (K := K) (n := 2) rfl (pgs_cons (pg_name (i := 2) sc_rk_talker.nd rfl (by first | exact Or.inl rfl | exact Or.inr rfl)) (pgs_cons (pg_name (i := 3) sc_rk_talker.nd rfl (by first | exact Or.inl rfl | exact Or.inr rfl)) pgs_nil))))
      (psr_cons (ps_set (i := 4) sc_rk_talker.nd rfl (by first | exact Or.inl rfl | exact Or.inr rfl) (C8.pe_c c_pick hr (by first | decide | omega) rfl (pa_cons (pv 0) (pa_cons (pe_lst (pa_cons pe_int (pa_cons pe_int (pa_cons pe_int pa_nil)))) pa_nil))))
      (psr_ret (pe_lamV TB rfl hmT hmu rfl (free_by (d := defScope s_rk_talker) (by decide +kernel)))))), ?_⟩
  refine (?_ : HLR ⟨st, c, Tb⟩ G n O [some (cst (.ref st)), some (Lst (PP K) ps), none, none, none] _ _) _ _ ⟨G, Same.refl G, slots_start (N := ["_law_stream", "_law_pairs", "_law_seed", "_law_odd", "_law_rest"]) (vs := [.ref st, v1]) (Ls := [cst (.ref st), Lst (PP K) ps]) (.cons rfl (.cons hv1 .nil)), w0⟩
  refine hlr_cons fun t2 hk => ?_
  refine hl_asgX (k := 2) (P := fun q : Nat × Ans => q.1 < 99991 ∧ q.2 ∈ oddsK K) (e := fun q : Nat × Ans => Pr K (fun d : Nat => I (d : Nat)) Ans.R (q.1, q.2)) (el_prXX (k := 1) (m := 1) (P := fun d : Nat => d < 99991) (P' := (· ∈ oddsK K)) (e := fun d : Nat => I (d : Nat)) (f := Ans.R) (fa := fun d => d) (fb := fun a => a) (el_drw (k := 0) (z := 99991) rfl el_int (by decide) (by decide)) (el_pck (k := 0) (e := Ans.R) (xs := oddsK K) rfl (el_sqL (ELN.el (eln_lst (e := Ans.R) (oddsK K) (eal_cons (k := 0) (m := 0) el_non (eal_cons (k := 0) (m := 0) el_int (eal_cons (k := 0) (m := 0) (el_str (i := "none")) (eal_cons (k := 0) (m := 0) el_bl (eal_cons (k := 0) (m := 0) (ELN.el (eln_lst (e := S) [] eal_nil (by simp))) (eal_cons (k := 0) (m := 0) (el_tpl (e := S) ["a"] (eal_cons (k := 0) (m := 0) (el_str (i := "a")) eal_nil) (by simp)) (eal_cons (k := 0) (m := 0) (el_dnew0 (e := S)) (eal_cons (k := 0) (m := 0) (el_str (i := "B")) eal_nil)))))))) (by simp [oddsK])))) (by simp [oddsK]) (by simp [oddsK]))) (fun q => gl_pr gl_name gl_name) fun ⟨sd, oa⟩ ⟨g1, g2⟩ => ?_
  dsimp only [List.set]
  have g2 : oa ∈ oddsK K := g2
  refine hk _ _ ?_
  refine hlr_cons fun t2 hk => ?_
  refine hl_setX (k := 1) (P := fun r : Nat => r ∈ [3, 9, 400]) (e := fun r : Nat => I (r : Nat)) (el_pck (k := 0) (e := fun r : Nat => I (r : Nat)) (xs := [3, 9, 400]) rfl (el_sqL (ELN.el (eln_lst (e := fun r : Nat => I (r : Nat)) [3, 9, 400] (eal_cons (k := 0) (m := 0) el_int (eal_cons (k := 0) (m := 0) el_int (eal_cons (k := 0) (m := 0) el_int eal_nil))) (by simp)))) (by simp) (by simp)) fun rs hrs => ?_
  dsimp only [List.set]
  have hrs1 : 1 ≤ rs := by
    simp only [List.mem_cons, List.not_mem_nil, or_false] at hrs
    omega
  refine hk _ _ ?_
  intro σ2 H2 a
  refine hlr_lam (cl := clT (s.heap.objs.size + 1 + 1 + 1 + 1) (s.heap.objs.size + 1 + 1 + 1) (s.heap.objs.size + 1) (s.heap.objs.size + 1 + 1)) (RR := [I (sd : Nat), I (rs : Nat), Lst (PP K) ps, oa.R]) (fun c => rfl) (fun c => rfl) rfl rfl rfl ?_ ?_ ?_ ?_ (fun κ e1 e2 e3 e4 G2 H3 s2 pv w2 => ?_) a
  · intro p hp
    simp only [clT, List.mem_cons, List.not_mem_nil, or_false] at hp
    rcases hp with rfl | rfl | rfl | rfl <;> rfl
  · intro p hp
    simp only [List.zip_cons_cons, List.zip_nil_left, List.zip_nil_right, List.mem_cons, List.not_mem_nil, or_false] at hp
    rcases hp with rfl | rfl | rfl | rfl <;> rfl
  · show (["_law_seed", "_law_rest", "_law_pairs", "_law_odd"] : List Str).Nodup
    decide +kernel
  · show [s.heap.objs.size + 1 + 1 + 1 + 1, s.heap.objs.size + 1 + 1 + 1, s.heap.objs.size + 1, s.heap.objs.size + 1 + 1].Nodup
    simp only [List.nodup_cons, List.mem_cons, List.not_mem_nil, or_false, not_false_eq_true, List.nodup_nil, and_true, not_or]
    omega
  · refine k (LamV κ) κ.own (.ref κ.f) G2 H3 ⟨κ, telP ps (sd : Nat) oa rs, ⟨e3, _, lok_talker (q := ("_law_rk_talker" : Str) ++ ".<locals>." ++ "<lambda>") z_rk_tells hns hrs1 (e4.trans rfl) e2 e1⟩, fun said hs => ?_, rfl, rfl⟩ s2 pv (w2.le (by show _ ≤ n + 3; omega))
    unfold telP
    dsimp only
    split
    · exact oddsK_ok g2
    · trivial
end
end Gd
-- part Gm4
set_option Elab.async false
set_option linter.all false
set_option maxRecDepth 100000
set_option maxHeartbeats 2000000
namespace Gd
open PySem PySem.Spec PyProof.Rows L2 Clo PySem.W
universe u
def encIS (q : Int × Str) : PyData := .tuple [.int q.1, .str q.2]
def minQ (q : Int × Str) (qs : List (Int × Str)) : Int × Str := qs.foldl (fun a y => if dataLt (encIS y) (encIS a) then y else a) q
theorem minQ_enc : ∀ (qs : List (Int × Str)) (q : Int × Str), minD (encIS q) (qs.map encIS) = encIS (minQ q qs)
  | [], q => rfl
  | y :: qs, q => by
    show (qs.map encIS).foldl _ (if dataLt (encIS y) (encIS q) then encIS y else encIS q) = encIS (qs.foldl _ (if dataLt (encIS y) (encIS q) then y else q))
    have := minQ_enc qs (if dataLt (encIS y) (encIS q) then y else q)
    unfold minD minQ at this
    rw [← this]
    congr 1
    split <;> rfl
theorem alike_IS (a b : Int × Str) : alike (encIS a) (encIS b) = true := by simp [alike, alikeAll, encIS]
theorem dataLt_IS (a b : Int × Str) : dataLt (encIS a) (encIS b) = true → a.1 ≤ b.1 := by
  unfold encIS
  rw [dataLt_pair (by simp [alike]) (by simp [alike]), dataLt_int]
  simp only [PyData.eqv, beq_iff_eq]
  by_cases h : a.1 = b.1
  · intro _
    omega
  · rw [if_neg h]
    intro z
    have := of_decide_eq_true z
    omega
theorem dataLt_IS2 (a b : Int × Str) (h : a.1 < b.1) : dataLt (encIS a) (encIS b) = true := by
  unfold encIS
  rw [dataLt_pair (by simp [alike]) (by simp [alike]), dataLt_int]
  simp only [PyData.eqv, beq_iff_eq]
  rw [if_neg (by omega)]
  exact decide_eq_true h
theorem minQ_mem : ∀ (qs : List (Int × Str)) (q : Int × Str), minQ q qs ∈ q :: qs
  | [], q => List.mem_cons_self ..
  | y :: qs, q => by
    show minQ (if dataLt (encIS y) (encIS q) then y else q) qs ∈ _
    have := minQ_mem qs (if dataLt (encIS y) (encIS q) then y else q)
    rcases List.mem_cons.mp this with e | h
    · rw [e]
      split
      · exact List.mem_cons_of_mem _ (List.mem_cons_self ..)
      · exact List.mem_cons_self ..
    · exact List.mem_cons_of_mem _ (List.mem_cons_of_mem _ h)
theorem minQ_le : ∀ (qs : List (Int × Str)) (q : Int × Str), ∀ y ∈ q :: qs, (minQ q qs).1 ≤ y.1
  | [], q, y, h => by
    obtain rfl := List.mem_singleton.mp h
    exact Int.le_refl _
  | z :: qs, q, y, h => by
    have ih := minQ_le qs (if dataLt (encIS z) (encIS q) then z else q)
    show (minQ (if dataLt (encIS z) (encIS q) then z else q) qs).1 ≤ y.1
    have hm := ih _ (List.mem_cons_self ..)
    have hz : (if dataLt (encIS z) (encIS q) then z else q).1 ≤ z.1 ∧ (if dataLt (encIS z) (encIS q) then z else q).1 ≤ q.1 := by
      by_cases c : dataLt (encIS z) (encIS q) = true
      · rw [if_pos c]
        exact ⟨Int.le_refl _, dataLt_IS _ _ c⟩
      · rw [if_neg c]
        refine ⟨?_, Int.le_refl _⟩
        refine Int.not_lt.mp fun l => c (dataLt_IS2 _ _ l)
    rcases List.mem_cons.mp h with rfl | h
    · exact Int.le_trans hm hz.2
    · rcases List.mem_cons.mp h with rfl | h
      · exact Int.le_trans hm hz.1
      · exact ih y (List.mem_cons_of_mem _ h)
theorem depth_IS : ∀ qs : List (Int × Str), PyData.depthAll (qs.map encIS) ≤ 10
  | [] => by simp [PyData.depthAll]
  | q :: qs => by
    have := depth_IS qs
    simp only [List.map_cons, PyData.depthAll, encIS, PyData.depth]
    omega
theorem reads_all {h : Heap} : ∀ {us : List Value} {ds : List PyData}, EachIs (fun u d => ∃ as, Reads h u d as) us ds → ∃ as, ReadsAll h us ds as
  | _, _, .nil => ⟨[], .nil⟩
  | _, _, .cons ⟨as, r⟩ t => by
    obtain ⟨bs, t⟩ := reads_all t
    exact ⟨as ++ bs, .cons r t⟩
theorem each_at {α β : Type} {R : α → β → Prop} : ∀ {xs : List α} {ys : List β} {i : Nat} {x : α}, EachIs R xs ys → xs[i]? = some x → ∃ y, ys[i]? = some y ∧ R x y
  | _, _, i, x, .nil, h => by simp at h
  | _, _, 0, x, .cons r t, h => by
    simp at h
    subst h
    exact ⟨_, rfl, r⟩
  | _, _, i + 1, x, .cons r t, h => by
    obtain ⟨y, h1, h2⟩ := each_at t (by simpa using h)
    exact ⟨y, by simpa using h1, h2⟩
def rMinP (K : PySem.W.Frag) : List V → Hp → VK → Prop := fun vs H Q => ∃ (a : Addr) (xs : List V) (q : Int × Str) (qs : List (Int × Str)) (R : V → Int × Str → Prop), vs = [.ref a] ∧ SqL K H a xs ∧ EachIs R xs (q :: qs) ∧ EachIs (fun v b => Dp K H v (encIS b)) xs (q :: qs) ∧ ∀ v, R v (minQ q qs) → Q v H
theorem call_minP {X : Cx} {K : PySem.W.Frag} (hc : X.calm = true) (hu : X.A.units + 64 < cLine) (hK : X.K = K := by rfl) : CallR X (.builtin "min") (rMinP K) := by
  subst hK
  intro pins s σ H vs us Q I r h
  obtain ⟨a, xs, q, qs, R, rfl, hs, e, ed, kq⟩ := h
  obtain ⟨its, rv, pl, hl⟩ := I.list hs
  rw [Vals.ref1 r]
  have er : EachIs (fun u b => ∃ as, Reads s.heap u (encIS b) as) its (q :: qs) := (each_up rv ed).mono fun u b ⟨v, r, d⟩ => Dp.reads I (encIS b) v u d r
  obtain ⟨as, ra⟩ := reads_all (PySem.W.each_map (R := fun u d => ∃ as, Reads s.heap u d as) encIS er)
  have hd := depth_IS (q :: qs)
  refine min_list_data (I.ok.hd hc) pl.isList (x := encIS q) (xs := qs.map encIS) (as := as) ra ⟨fun x hx y hy => ?_, fun x hx => ?_⟩ (by show X.A.units + 1 + PyData.depthAll ((q :: qs).map encIS) < cLine; omega) fun i v h' tk bs hv hr hk => ?_
  · obtain ⟨x', _, rfl⟩ := List.mem_map.mp (show x ∈ (q :: qs).map encIS from hx)
    obtain ⟨y', _, rfl⟩ := List.mem_map.mp (show y ∈ (q :: qs).map encIS from hy)
    exact alike_IS x' y'
  · obtain ⟨x', _, rfl⟩ := List.mem_map.mp (show x ∈ (q :: qs).map encIS from hx)
    intro z
    cases z
  · rw [minQ_enc] at hr
    have hv : its[i]? = some v := by simpa using hv
    obtain ⟨b, hb, bs2, hrb⟩ := each_at er hv
    have hrb2 := PyProof.Rows.Reads.keeps hk hrb
    have eq := alike_unique _ _ _ _ _ (alike_IS b (minQ q qs)) hrb2 hr
    have eqb : b = minQ q qs := by
      obtain ⟨b1, b2⟩ := b
      unfold encIS at eq
      injection eq with eq
      injection eq with e1 e2
      injection e1 with e1
      injection e2 with e2 e3
      injection e2 with e2
      exact Prod.ext e1 e2
    subst eqb
    obtain ⟨z, h1, h2⟩ := each_at (each_up rv e) hv
    rw [hb] at h1
    obtain rfl := Option.some.inj h1
    obtain ⟨v0, rv0, hR⟩ := h2
    exact ⟨v0, H, I.kept hk, rv0, kq v0 hR⟩
section
variable {K : PySem.W.Frag} {W : SC} {O : Own} {k : Nat} {Rs : RL} {te : TE}
theorem el_minP {q : Int × Str} {qs : List (Int × Str)} (h : EL W O k te Rs (Lst (Pr K I S) (q :: qs))) : EL W O k (tCB (rMinP K) (tCons te tNil)) Rs (Pr K I S (minQ q qs)) := fun σ G H n Q sl w hn kk => h σ G H n _ sl w hn fun v G2 H2 s2 w2 ⟨a, vs, hv, h1, h2, h3⟩ => by
  subst hv
  exact ⟨a, vs, q, qs, fun v b => (Pr K I S b).p v G2, rfl, SqL.of (w2.r.ex h1), al_each (e := Pr K I S) (fun _ _ h => h) h3, al_each (e := Pr K I S) (fun v b h => w2.r.dp (encIS b) v ((enc_pr enc_I enc_S).h h)) h3, fun v hp => kk v G2 H2 s2 w2 hp⟩
end
end Gd
-- part LG
set_option Elab.async false
set_option linter.all false
set_option maxRecDepth 100000
set_option maxHeartbeats 1000000
namespace Gd
open PySem PySem.Spec PyProof.Rows L2 Clo
universe u
abbrev s_answer_to : Stmt := topS 35
theorem sc_answer_to : FnScope ["debate", "ranked", "objector", "some", "one"] ["debate", "ranked", "objector"] (defScope s_answer_to) := ⟨rfl, rfl, rfl, by decide +kernel, rfl, by decide +kernel, by decide +kernel⟩
abbrev s_defender_by : Stmt := topS 36
theorem sc_defender_by : FnScope ["debate", "ranked"] ["debate"] (defScope s_defender_by) := ⟨rfl, rfl, rfl, by decide +kernel, rfl, by decide +kernel, by decide +kernel⟩
abbrev s_opposer_by : Stmt := topS 37
theorem sc_opposer_by : FnScope ["debate", "known"] ["debate"] (defScope s_opposer_by) := ⟨rfl, rfl, rfl, by decide +kernel, rfl, by decide +kernel, by decide +kernel⟩
def ansO : Option Str → Ans
  | none => .no
  | some s => .str s
theorem ansO_R (o : Option Str) : (ansO o).R = Op S o := by cases o <;> rfl
theorem ansO_ok {K : PySem.W.Frag} (o : Option Str) : (ansO o).Ok K := by cases o <;> trivial
def ansL (ps : List (Str × Str)) (rk : List (Str × Int)) (o : Str) : List (Int × Str) := ((tosP ps o).filter fun z => decide (z ∈ rk.map (·.1))).map fun z => ((rk.lookup z).getD 0, z)
def headQ : List (Int × Str) → Option Str
  | [] => none
  | q :: qs => some (minQ q qs).2
def ansQ (d : Deb) (o : Str) : Option Str := headQ (ansL d.2 (ranksP d) o)
section
variable {P : Program} {w : World} {K : PySem.W.Frag} {mg : Str → Option Value} {base : Heap} {aL : Addr} {Tb : List (Addr × Str)}
def sp_answer_to (K : PySem.W.Frag) (C : Addr) (Tb : List (Addr × Str)) : Sp := spM Tb (fun i : Deb × Str => [DB K C i.1, Dct I (ranksP i.1), S i.2]) (fun i => okB i.1 ∧ i.2 ∈ i.1.1) (fun i => Op S (ansQ i.1 i.2))
theorem lookup_memJ {kv : List (Str × Int)} {z : Str} (h : z ∈ kv.map (·.1)) : kv.lookup z = some ((kv.lookup z).getD 0) := by
  cases e : kv.lookup z with
  | some v => rfl
  | none =>
    obtain ⟨p, hp, rfl⟩ := List.mem_map.mp h
    exact absurd rfl (List.lookup_eq_none_iff.mp e p hp |> bne_iff_ne.mp)
theorem ok_answer_to {C : Addr} (F : Fn K mg "answer_to" s_answer_to ["debate", "ranked", "objector"]) (T : Txt K mg aL) (DC : DCls K C) : C8.Cal P w K mg base 1 "answer_to" (sp_answer_to K C Tb) [] := by
  refine cal_of F sc_answer_to (fun vs H Q E h => spM_len h fun _ => rfl) (fun f cdv A outer s H vs Q E hr h => ?_)
  have hu := hu_of hr
  have hu64 := hu64_of hr
  obtain ⟨⟨d, o⟩, st, c, n, O, G, w0, hn, ⟨hd, ho⟩, al, k⟩ := h
  have hd : okB d := hd
  have ho : o ∈ d.1 := ho
  have k : ∀ v G2 H2, Same G G2 → Wd ⟨st, c, Tb⟩ n O G2 H2 → (Op S (ansQ d o)).p v G2 → Q v H2 := k
  refine ⟨_, (pss_cons (ps_setLc (i := 3) (own := [("one", 4)]) rfl sc_answer_to.nd rfl rfl (sw_true rfl rfl rfl (by decide +kernel)) (pi_seqK (K := K) (pe_dget hu (pe_fldK (K := K) (pv 0) rfl) (pv 2) (fun _ _ => rfl))) (blkOk_by (by kernel_rfl)) (fun _ _ _ _ _ => (pg_name (i := 4) sc_answer_to.nd rfl (by first | exact Or.inl rfl | exact Or.inr rfl))) (fun _ _ _ _ _ => (pts_one (pt_cmp (pc_din hu (pv 4) (pv 1))))) (fun _ _ _ _ _ => (pe_tup (pa_cons (pe_dget hu (pv 1) (pv 4) (fun _ _ => rfl)) (pa_cons (pv 4) pa_nil)))))
      (pss_one (ps_ret (pe_ifExp (pt_cmpR (op_neDK (K := K) hu64) (pv 3) (pe_lst pa_nil) (nomark _)) (pe_ix (ix_K (K := K)) (pe_callB (call_minP (K := K) rfl hu64) rfl T.min boot_min (pa_cons (pv 3) pa_nil)) pe_int (fun _ _ => rfl)) pe_non)))), ?_⟩
  refine (?_ : HL ⟨st, c, Tb⟩ G n O [some (DB K C d), some (Dct I (ranksP d)), some (S o), none, none] _ _) _ _ ⟨G, Same.refl G, by have h := slots_start (N := ["debate", "ranked", "objector", "some", "one"]) al; rw [alr_len al] at h; exact h, w0⟩
  refine hl_set (k := 0) (R := Lst (Pr K I S) (ansL d.2 (ranksP d) o)) (ELN.el (eln_lc0 (e := S) (er := Pr K I S) (xs := tosP d.2 o) (fn := fun z => (((ranksP d).lookup z).getD 0, z)) (p := fun z => decide (z ∈ (ranksP d).map (·.1))) (eil_sq (el_sqL (el_dget (k := 0) (m := 0) (el_dbT DC (el_var (i := 0) rfl)) (el_var (i := 2) rfl) (lookup_map ho)))) (fun _ _ => gl_name) (fun z _ O' => etl_test (el_inK (k := 0) (m := 0) (el_var rfl) (el_ks (el_var (i := 1) rfl)))) fun z _ hz O' => el_pr (k := 0) (m := 0) (e := I) (f := S) (el_dget (k := 0) (m := 0) (el_var (i := 1) rfl) (el_var rfl) (lookup_memJ (of_decide_eq_true hz))) (el_var rfl))) ?_
  dsimp only [List.set]
  unfold ansQ at k
  generalize ansL d.2 (ranksP d) o = qs at k
  cases qs with
  | nil =>
    refine hl_ret (k := 0) (R := N) (EL.eq (el_ifR (k := 0) (m := 0) (c := false) (R1 := N) (R2 := N) (ETL.eq (etl_test (el_neD (e := Pr K I S |> Lst) (enc_lst (enc_pr enc_I enc_S)) (eqE_lst (eqE_pr eqE_I eqE_S)) (el_var (i := 3) rfl) (ELN.el (eln_lst (e := Pr K I S) [] eal_nil (Nat.zero_le _))))) (by simp)) (fun h => by cases h) fun _ => el_non) rfl) fun v G2 H2 s2 w2 p => k v G2 H2 s2 (w2.le (by omega)) p
  | cons q qs =>
    refine hl_ret (k := 0) (R := S (minQ q qs).2) (EL.eq (el_ifR (k := 0) (m := 0) (c := true) (R1 := S (minQ q qs).2) (R2 := N) (ETL.eq (etl_test (el_neD (e := Pr K I S |> Lst) (enc_lst (enc_pr enc_I enc_S)) (eqE_lst (eqE_pr eqE_I eqE_S)) (el_var (i := 3) rfl) (ELN.el (eln_lst (e := Pr K I S) [] eal_nil (Nat.zero_le _))))) (by simp)) (fun _ => el_ixP2 (x := (minQ q qs).1) (y := (minQ q qs).2) (e := I) (f := S) (el_minP (el_var (i := 3) rfl))) fun h => by cases h) rfl) fun v G2 H2 s2 w2 p => k v G2 H2 s2 (w2.le (by omega)) p
abbrev clD (a1 a2 : Addr) : List (Str × Addr) := [("ranked", a1), ("debate", a2)]
abbrev lamD : Expr := retE s_defender_by
def dfnP (d : Deb) (said : List Str) : Ans := ansO (ansQ d (said.getLastD ""))
theorem lok_defender {C : Addr} {κ : CloD} {d : Deb} {q : Str} {c a1 a2 : Addr} (DC : DCls K C) (hd : okB d) (c_answer_to : C8.Cal P w K mg base 1 "answer_to" (sp_answer_to K C Tb) [])
    (eF : κ.F = ⟨q, lamPar lamD, lamBody lamD, lamSc lamD, clD a1 a2, c⟩) (hRR : κ.RR = [Dct I (ranksP d), DB K C d]) (hcl : κ.cl = clD a1 a2) : LOkZ P w K mg base 3 κ.f κ.F ["said"] (κ.cl.map (·.1)) (spV Tb κ.RR (fun said : List Str => [Tpl K S said]) (fun said _ => okt d.1 said) (fun said => (dfnP d said).R)) := by
  rw [eF, hRR, hcl]
  refine LOkZ.mono (j := 2) (lok_ofZ (N := ["said", "ranked", "debate"]) (NdefX.nscope_by (by kernel_rfl)) (fun pm ctv us h => ?_) (fun ws vs H Q E h => ?_) (fun A outer s H vs ws Q E hg hr hwl h => ?_)) (by decide)
  · match us, h with
    | [u], _ => rfl
  · obtain ⟨i, st, c, n, O, G, us, _, _, _, _, _, al, _⟩ := h
    exact alr_len al
  · obtain ⟨said, st, c, n, O, G, us, rfl, al2, w0, hn, hot, al, k⟩ := h
    have hu := hu_of hr
    have hot : okt d.1 said := hot
    have hlm := hot.2.1 _ (last_mem hot.1)
    refine ⟨_, (pe_ifExp (pt_cmp (pc_din hu (pe_ix (ix_K (K := K)) (pv 0) (pe_un un_neg pe_int) (fun _ _ => rfl)) (pe_fldK (K := K) (pv 2) rfl))) (C8.pe_c c_answer_to hr (by first | decide | omega) rfl (pa_cons (pv 2) (pa_cons (pv 1) (pa_cons (pe_ix (ix_K (K := K)) (pv 0) (pe_un un_neg pe_int) (fun _ _ => rfl)) pa_nil)))) pe_non), ?_⟩
    have sl := slots_startF (N := ["said", "ranked", "debate"]) al al2
    rw [alr_len al, alr_len al2] at sl
    refine (EL.eq (el_ifR (k := 0) (m := 0) (c := true) (R1 := Op S (ansQ d (said.getLastD ""))) (R2 := N) (W := ⟨st, c, Tb⟩) (O := O) (Rs := [some (Tpl K S said), some (Dct I (ranksP d)), some (DB K C d)]) (ETL.eq (etl_test (el_inK (k := 0) (m := 0) (el_lastT (el_sqT (el_var (i := 0) rfl)) (last_get hot.1)) (el_ks (el_dbT DC (el_var (i := 2) rfl))))) (by rw [dbT_ks]; exact decide_eq_true hlm)) (fun _ => el_callm (W := ⟨st, c, Tb⟩) (k := 0) (ι := Deb × Str) (pre := fun i => [DB K C i.1, Dct I (ranksP i.1), S i.2]) (ok := fun i => okB i.1 ∧ i.2 ∈ i.1.1) (post := fun i => Op S (ansQ i.1 i.2)) (d, said.getLastD "") (eal_cons (k := 0) (m := 0) (el_var (i := 2) rfl) (eal_cons (k := 0) (m := 0) (el_var (i := 1) rfl) (eal_cons (k := 0) (m := 0) (el_lastT (el_sqT (el_var (i := 0) rfl)) (last_get hot.1)) eal_nil))) ⟨hd, hlm⟩) fun h => by cases h) (R' := (dfnP d said).R) ((ansO_R _).symm) : EL _ _ _ _ _ _) _ G H n _ sl w0 (by omega) fun v G2 H2 s2 w2 pv => ?_
    exact k v G2 H2 s2 (w2.le (by omega)) pv
end
end Gd
-- part LH
set_option Elab.async false
set_option linter.all false
set_option maxRecDepth 100000
set_option maxHeartbeats 1000000
namespace Gd
open PySem PySem.Spec PyProof.Rows L2 Clo
universe u
abbrev s_winning_defender : Stmt := topS 38
theorem sc_winning_defender : FnScope ["debate", "statement"] ["debate", "statement"] (defScope s_winning_defender) := ⟨rfl, rfl, rfl, by decide +kernel, rfl, by decide +kernel, by decide +kernel⟩
abbrev s_winning_opposer : Stmt := topS 39
theorem sc_winning_opposer : FnScope ["debate", "statement"] ["debate", "statement"] (defScope s_winning_opposer) := ⟨rfl, rfl, rfl, by decide +kernel, rfl, by decide +kernel, by decide +kernel⟩
section
variable {W : SC} {O : Own} {k m : Nat} {Rs : RL} {ta tb : TE} {tt : TT} {R : SR} {Cx : SR → Own → Prop}
theorem elc_ifT (h : ETL W O k tt Rs true) (h1 : ELC W O m ta Rs Cx) : ELC W O (k + m) (tIf tt ta tb) Rs Cx := fun σ G H n Q sl w hn kk => h σ G H n _ sl w (by omega) fun b G2 H2 s2 w2 e => by
  subst e
  exact h1 σ G2 H2 (n + k) Q (sl.st s2) w2 (by omega) fun R Oz v G3 H3 hc s3 p w3 => kk R Oz v G3 H3 hc (s2.trans s3) p (w3.eq (by omega))
theorem elc_ifF (h : ETL W O k tt Rs false) (h1 : EL W O m tb Rs R) (hc : Cx R []) : ELC W O (k + m) (tIf tt ta tb) Rs Cx := fun σ G H n Q sl w hn kk => h σ G H n _ sl w (by omega) fun b G2 H2 s2 w2 e => by
  subst e
  exact h1 σ G2 H2 (n + k) Q (sl.st s2) w2 (by omega) fun v G3 H3 s3 w3 p => kk R [] v G3 H3 hc (s2.trans s3) p (by rw [List.nil_append]; exact w3.eq (by omega))
end
def oppP (d : Deb) (said : List Str) : Ans := ansO ((gdP d).lookup (said.getLastD ""))
section
variable {P : Program} {w : World} {K : PySem.W.Frag} {mg : Str → Option Value} {base : Heap} {aL : Addr} {Tb : List (Addr × Str)}
def TkC (P : Program) (w : World) (K : PySem.W.Frag) (mg : Str → Option Value) (base : Heap) (Tb : List (Addr × Str)) (ns : List Str) (A : List Str → Ans) : SR → Own → Prop := fun R Oz => ∃ κ : CloD, TkA P w K mg base Tb ns κ A ∧ R = LamV κ ∧ Oz = κ.own
def sp_defender_by (P : Program) (w : World) (K : PySem.W.Frag) (mg : Str → Option Value) (base : Heap) (C : Addr) (Tb : List (Addr × Str)) : Sp := spC Tb (fun d : Deb => [DB K C d]) okB (fun d => TkC P w K mg base Tb d.1 (dfnP d))
theorem ok_defender_by {C cc Pt : Addr} (F : FnL K mg "defender_by" s_defender_by ["debate"] cc) (T : Txt K mg aL) (DC : DCls K C) (c_known_ranks : C8.Cal P w K mg base 4 "known_ranks" (sp_known_ranks K C Tb) []) (c_answer_to : C8.Cal P w K mg base 1 "answer_to" (sp_answer_to K C Tb) []) (TB : LamX.TabB base mg cc Pt) (hmT : (Pt, ("defender_by" : Str) ++ ".<locals>." ++ "<lambda>") ∈ Tb) (hmu : ∀ p ∈ Tb, p.1 = Pt → p.2 = ("defender_by" : Str) ++ ".<locals>." ++ "<lambda>") : C8.Cal P w K mg base 5 "defender_by" (sp_defender_by P w K mg base C Tb) [] := by
  refine calR_of (fr := ["ranked", "debate"]) (js := [1, 0]) F sc_defender_by (by decide +kernel) (fun vs H Q E h => spC_len h fun _ => rfl) (fun f A outer s H vs Q E hr h => ?_)
  obtain ⟨d, st, c, n, O, G, w0, hn, hd, al, k⟩ := h
  have hd : okB d := hd
  refine ⟨_, (psr_cons (ps_set (i := 1) sc_defender_by.nd rfl (by first | exact Or.inl rfl | exact Or.inr rfl) (C8.pe_c c_known_ranks hr (by first | decide | omega) rfl (pa_cons (pv 0) pa_nil)))
      (psr_ret (pe_lamV TB rfl hmT hmu rfl (free_by (d := defScope s_defender_by) (by decide +kernel))))), ?_⟩
  refine (?_ : HLR ⟨st, c, Tb⟩ G n O [some (DB K C d), none] _ _) _ _ ⟨G, Same.refl G, by have h := slots_start (N := ["debate", "ranked"]) al; rw [alr_len al] at h; exact h, w0⟩
  refine hlr_cons fun t2 hk => ?_
  refine hl_set (k := 0) (R := Dct I (ranksP d)) (elo_dct (elo_ranks (W := ⟨st, c, Tb⟩) (k := 0) (el_var (i := 0) rfl) hd)) ?_
  dsimp only [List.set]
  refine hk _ _ ?_
  intro σ2 H2 a
  refine hlr_lam (cl := clD (s.heap.objs.size + 1 + 1) (s.heap.objs.size + 1)) (RR := [Dct I (ranksP d), DB K C d]) (fun c => rfl) (fun c => rfl) rfl rfl rfl ?_ ?_ ?_ ?_ (fun κ e1 e2 e3 e4 G2 H3 s2 pv w2 => ?_) a
  · intro p hp
    simp only [clD, List.mem_cons, List.not_mem_nil, or_false] at hp
    rcases hp with rfl | rfl <;> rfl
  · intro p hp
    simp only [List.zip_cons_cons, List.zip_nil_left, List.zip_nil_right, List.mem_cons, List.not_mem_nil, or_false] at hp
    rcases hp with rfl | rfl <;> rfl
  · show (["ranked", "debate"] : List Str).Nodup
    decide +kernel
  · show [s.heap.objs.size + 1 + 1, s.heap.objs.size + 1].Nodup
    simp only [List.nodup_cons, List.mem_cons, List.not_mem_nil, or_false, not_false_eq_true, List.nodup_nil, and_true, not_or]
    omega
  · exact k (LamV κ) κ.own (.ref κ.f) G2 H3 ⟨κ, ⟨e3, _, lok_defender (q := ("defender_by" : Str) ++ ".<locals>." ++ "<lambda>") DC hd c_answer_to (e4.trans rfl) e2 e1⟩, rfl, rfl⟩ s2 pv (w2.le (by omega))
abbrev clO (a1 : Addr) : List (Str × Addr) := [("known", a1)]
abbrev lamO : Expr := retE s_opposer_by
theorem lok_opposer {κ : CloD} {d : Deb} {q : Str} {c a1 : Addr}
    (eF : κ.F = ⟨q, lamPar lamO, lamBody lamO, lamSc lamO, clO a1, c⟩) (hRR : κ.RR = [Dct S (gdP d)]) (hcl : κ.cl = clO a1) : LOkZ P w K mg base 3 κ.f κ.F ["said"] (κ.cl.map (·.1)) (spV Tb κ.RR (fun said : List Str => [Tpl K S said]) (fun said _ => okt d.1 said) (fun said => (oppP d said).R)) := by
  rw [eF, hRR, hcl]
  refine LOkZ.mono (j := 1) (lok_ofZ (N := ["said", "known"]) (NdefX.nscope_by (by kernel_rfl)) (fun pm ctv us h => ?_) (fun ws vs H Q E h => ?_) (fun A outer s H vs ws Q E hg hr hwl h => ?_)) (by decide)
  · match us, h with
    | [u], _ => rfl
  · obtain ⟨i, st, c, n, O, G, us, _, _, _, _, _, al, _⟩ := h
    exact alr_len al
  · obtain ⟨said, st, c, n, O, G, us, rfl, al2, w0, hn, hot, al, k⟩ := h
    have hu := hu_of hr
    have hot : okt d.1 said := hot
    refine ⟨_, (pe_dget1 hu (pv 1) (pe_ix (ix_K (K := K)) (pv 0) (pe_un un_neg pe_int) (fun _ _ => rfl)) ⟨rfl, rfl, rfl, rfl⟩), ?_⟩
    have sl := slots_startF (N := ["said", "known"]) al al2
    rw [alr_len al, alr_len al2] at sl
    refine (EL.eq (el_dget1 (k := 0) (m := 0) (W := ⟨st, c, Tb⟩) (O := O) (Rs := [some (Tpl K S said), some (Dct S (gdP d))]) (er := S) (el_var (i := 1) rfl) (el_lastT (el_sqT (el_var (i := 0) rfl)) (last_get hot.1))) (R' := (oppP d said).R) ((ansO_R _).symm) : EL _ _ _ _ _ _) _ G H n _ sl w0 (by omega) fun v G2 H2 s2 w2 pv => ?_
    exact k v G2 H2 s2 (w2.le (by omega)) pv
def sp_opposer_by (P : Program) (w : World) (K : PySem.W.Frag) (mg : Str → Option Value) (base : Heap) (C : Addr) (Tb : List (Addr × Str)) : Sp := spC Tb (fun d : Deb => [DB K C d]) okB (fun d => TkC P w K mg base Tb d.1 (oppP d))
theorem ok_opposer_by {C cc Pt : Addr} (F : FnL K mg "opposer_by" s_opposer_by ["debate"] cc) (T : Txt K mg aL) (c_greatest_doubt : C8.Cal P w K mg base 4 "greatest_doubt" (sp_grd K C Tb) []) (TB : LamX.TabB base mg cc Pt) (hmT : (Pt, ("opposer_by" : Str) ++ ".<locals>." ++ "<lambda>") ∈ Tb) (hmu : ∀ p ∈ Tb, p.1 = Pt → p.2 = ("opposer_by" : Str) ++ ".<locals>." ++ "<lambda>") : C8.Cal P w K mg base 5 "opposer_by" (sp_opposer_by P w K mg base C Tb) [] := by
  refine calR_of (fr := ["known"]) (js := [1]) F sc_opposer_by (by decide +kernel) (fun vs H Q E h => spC_len h fun _ => rfl) (fun f A outer s H vs Q E hr h => ?_)
  obtain ⟨d, st, c, n, O, G, w0, hn, hd, al, k⟩ := h
  have hd : okB d := hd
  refine ⟨_, (psr_cons (ps_set (i := 1) sc_opposer_by.nd rfl (by first | exact Or.inl rfl | exact Or.inr rfl) (C8.pe_c c_greatest_doubt hr (by first | decide | omega) rfl (pa_cons (pv 0) pa_nil)))
      (psr_ret (pe_lamV TB rfl hmT hmu rfl (free_by (d := defScope s_opposer_by) (by decide +kernel))))), ?_⟩
  refine (?_ : HLR ⟨st, c, Tb⟩ G n O [some (DB K C d), none] _ _) _ _ ⟨G, Same.refl G, by have h := slots_start (N := ["debate", "known"]) al; rw [alr_len al] at h; exact h, w0⟩
  refine hlr_cons fun t2 hk => ?_
  refine hl_set (k := 0) (R := Dct S (gdP d)) (elo_dct (elo_callm (W := ⟨st, c, Tb⟩) (k := 0) (ι := Deb) (pre := fun d => [DB K C d]) (ok := okB) (post := fun d => ODct S (gdP d)) d (eal_cons (k := 0) (m := 0) (el_var (i := 0) rfl) eal_nil) hd)) ?_
  dsimp only [List.set]
  refine hk _ _ ?_
  intro σ2 H2 a
  refine hlr_lam (cl := clO (s.heap.objs.size + 1)) (RR := [Dct S (gdP d)]) (fun c => rfl) (fun c => rfl) rfl rfl rfl ?_ ?_ ?_ ?_ (fun κ e1 e2 e3 e4 G2 H3 s2 pv w2 => ?_) a
  · intro p hp
    simp only [clO, List.mem_cons, List.not_mem_nil, or_false] at hp
    subst hp
    rfl
  · intro p hp
    simp only [List.zip_cons_cons, List.zip_nil_left, List.zip_nil_right, List.mem_cons, List.not_mem_nil, or_false] at hp
    subst hp
    rfl
  · show (["known"] : List Str).Nodup
    decide +kernel
  · show [s.heap.objs.size + 1].Nodup
    simp
  · exact k (LamV κ) κ.own (.ref κ.f) G2 H3 ⟨κ, ⟨e3, _, lok_opposer (q := ("opposer_by" : Str) ++ ".<locals>." ++ "<lambda>") (e4.trans rfl) e2 e1⟩, rfl, rfl⟩ s2 pv (w2.le (by omega))
def isRk (d : Deb) (s : Str) : Bool := decide (s ∈ (ranksP d).map (·.1))
def WdC (P : Program) (w : World) (K : PySem.W.Frag) (mg : Str → Option Value) (base : Heap) (Tb : List (Addr × Str)) (b : Bool) (ns : List Str) (A : List Str → Ans) : SR → Own → Prop := fun R Oz => if b = true then TkC P w K mg base Tb ns A R Oz else R = N ∧ Oz = []
def sp_winning (P : Program) (w : World) (K : PySem.W.Frag) (mg : Str → Option Value) (base : Heap) (C : Addr) (Tb : List (Addr × Str)) (A : Deb → List Str → Ans) (neg : Bool) : Sp := spC Tb (fun i : Deb × Str => [DB K C i.1, S i.2]) (fun i => okB i.1 ∧ i.2 ∈ i.1.1) (fun i => WdC P w K mg base Tb (isRk i.1 i.2 != neg) i.1.1 (A i.1))
theorem ok_winning_defender {C : Addr} (F : Fn K mg "winning_defender" s_winning_defender ["debate", "statement"]) (T : Txt K mg aL) (c_checked_statement : C8.Cal P w K mg base 1 "checked_statement" (sp_stmt K C) []) (c_known_ranks : C8.Cal P w K mg base 4 "known_ranks" (sp_known_ranks K C Tb) []) (c_defender_by : C8.Cal P w K mg base 5 "defender_by" (sp_defender_by P w K mg base C Tb) []) : C8.Cal P w K mg base 6 "winning_defender" (sp_winning P w K mg base C Tb dfnP false) [] := by
  refine cal_of F sc_winning_defender (fun vs H Q E h => spC_len h fun _ => rfl) (fun f cdv A outer s H vs Q E hr h => ?_)
  have hu := hu_of hr
  obtain ⟨⟨d, x⟩, st, c, n, O, G, w0, hn, ⟨hd, hx⟩, al, k⟩ := h
  have hd : okB d := hd
  have hx : x ∈ d.1 := hx
  refine ⟨_, (pss_one (ps_ret (pe_ifExp (pt_cmp (pc_din hu (C8.pe_c c_checked_statement hr (by first | decide | omega) rfl (pa_cons (pv 0) (pa_cons (pv 1) pa_nil))) (C8.pe_c c_known_ranks hr (by first | decide | omega) rfl (pa_cons (pv 0) pa_nil)))) (C8.pe_c c_defender_by hr (by first | decide | omega) rfl (pa_cons (pv 0) pa_nil)) pe_non))), ?_⟩
  refine (?_ : HL ⟨st, c, Tb⟩ G n O [some (DB K C d), some (S x)] _ _) _ _ ⟨G, Same.refl G, by have h := slots_start (N := ["debate", "statement"]) al; rw [alr_len al] at h; exact h, w0⟩
  have htst : ∀ {b : Bool}, isRk d x = b → ETL ⟨st, c, Tb⟩ O 0 (tTest (tDIn (tCall (sp_stmt K C) [] C8.E0 (tCons (tVar 0) (tCons (tVar 1) tNil))) (tCall (sp_known_ranks K C Tb) [] C8.E0 (tCons (tVar 0) tNil)))) [some (DB K C d), some (S x)] b := fun {b} e => ETL.eq (etl_test (el_inK (k := 0) (m := 0) (el_stD0 (W := ⟨st, c, Tb⟩) (k := 0) (m := 0) (el_var (i := 0) rfl) (el_var (i := 1) rfl) hx) (el_ks (elo_dct (elo_ranks (W := ⟨st, c, Tb⟩) (k := 0) (el_var (i := 0) rfl) hd))))) e
  cases hb : isRk d x with
  | true =>
    refine hl_retC (k := 0) (Cx := TkC P w K mg base Tb d.1 (dfnP d)) (elc_ifT (k := 0) (m := 0) (htst hb) (elc_callm (W := ⟨st, c, Tb⟩) (k := 0) (ι := Deb) (pre := fun d => [DB K C d]) (ok := okB) (Cs := fun d => TkC P w K mg base Tb d.1 (dfnP d)) d (eal_cons (k := 0) (m := 0) (el_var (i := 0) rfl) eal_nil) hd)) fun R Oz v G2 H2 hc s2 pv w2 => ?_
    exact k R Oz v G2 H2 (by show WdC P w K mg base Tb (isRk d x != false) d.1 (dfnP d) R Oz; rw [hb]; exact hc) s2 pv (w2.le (by omega))
  | false =>
    refine hl_retC (k := 0) (Cx := fun R Oz => R = N ∧ Oz = []) (elc_ifF (k := 0) (m := 0) (htst hb) el_non ⟨rfl, rfl⟩) fun R Oz v G2 H2 hc s2 pv w2 => ?_
    exact k R Oz v G2 H2 (by show WdC P w K mg base Tb (isRk d x != false) d.1 (dfnP d) R Oz; rw [hb]; exact hc) s2 pv (w2.le (by omega))
theorem ok_winning_opposer {C : Addr} (F : Fn K mg "winning_opposer" s_winning_opposer ["debate", "statement"]) (T : Txt K mg aL) (c_checked_statement : C8.Cal P w K mg base 1 "checked_statement" (sp_stmt K C) []) (c_known_ranks : C8.Cal P w K mg base 4 "known_ranks" (sp_known_ranks K C Tb) []) (c_opposer_by : C8.Cal P w K mg base 5 "opposer_by" (sp_opposer_by P w K mg base C Tb) []) : C8.Cal P w K mg base 6 "winning_opposer" (sp_winning P w K mg base C Tb oppP true) [] := by
  refine cal_of F sc_winning_opposer (fun vs H Q E h => spC_len h fun _ => rfl) (fun f cdv A outer s H vs Q E hr h => ?_)
  have hu := hu_of hr
  obtain ⟨⟨d, x⟩, st, c, n, O, G, w0, hn, ⟨hd, hx⟩, al, k⟩ := h
  have hd : okB d := hd
  have hx : x ∈ d.1 := hx
  refine ⟨_, (pss_one (ps_ret (pe_ifExp (pt_cmp (pc_dnotin hu (C8.pe_c c_checked_statement hr (by first | decide | omega) rfl (pa_cons (pv 0) (pa_cons (pv 1) pa_nil))) (C8.pe_c c_known_ranks hr (by first | decide | omega) rfl (pa_cons (pv 0) pa_nil)))) (C8.pe_c c_opposer_by hr (by first | decide | omega) rfl (pa_cons (pv 0) pa_nil)) pe_non))), ?_⟩
  refine (?_ : HL ⟨st, c, Tb⟩ G n O [some (DB K C d), some (S x)] _ _) _ _ ⟨G, Same.refl G, by have h := slots_start (N := ["debate", "statement"]) al; rw [alr_len al] at h; exact h, w0⟩
  have htst : ∀ {b : Bool}, (!isRk d x) = b → ETL ⟨st, c, Tb⟩ O 0 (tTest (tDNotIn (tCall (sp_stmt K C) [] C8.E0 (tCons (tVar 0) (tCons (tVar 1) tNil))) (tCall (sp_known_ranks K C Tb) [] C8.E0 (tCons (tVar 0) tNil)))) [some (DB K C d), some (S x)] b := fun {b} e => ETL.eq (etl_test (el_notinK (k := 0) (m := 0) (el_stD0 (W := ⟨st, c, Tb⟩) (k := 0) (m := 0) (el_var (i := 0) rfl) (el_var (i := 1) rfl) hx) (el_ks (elo_dct (elo_ranks (W := ⟨st, c, Tb⟩) (k := 0) (el_var (i := 0) rfl) hd))))) e
  cases hb : isRk d x with
  | false =>
    refine hl_retC (k := 0) (Cx := TkC P w K mg base Tb d.1 (oppP d)) (elc_ifT (k := 0) (m := 0) (htst (by rw [hb]; rfl)) (elc_callm (W := ⟨st, c, Tb⟩) (k := 0) (ι := Deb) (pre := fun d => [DB K C d]) (ok := okB) (Cs := fun d => TkC P w K mg base Tb d.1 (oppP d)) d (eal_cons (k := 0) (m := 0) (el_var (i := 0) rfl) eal_nil) hd)) fun R Oz v G2 H2 hc s2 pv w2 => ?_
    exact k R Oz v G2 H2 (by show WdC P w K mg base Tb (isRk d x != true) d.1 (oppP d) R Oz; rw [hb]; exact hc) s2 pv (w2.le (by omega))
  | true =>
    refine hl_retC (k := 0) (Cx := fun R Oz => R = N ∧ Oz = []) (elc_ifF (k := 0) (m := 0) (htst (by rw [hb]; rfl)) el_non ⟨rfl, rfl⟩) fun R Oz v G2 H2 hc s2 pv w2 => ?_
    exact k R Oz v G2 H2 (by show WdC P w K mg base Tb (isRk d x != true) d.1 (oppP d) R Oz; rw [hb]; exact hc) s2 pv (w2.le (by omega))
def sp_winX (K : PySem.W.Frag) (C CB : Addr) (Tb : List (Addr × Str)) : Sp := spXM Tb (fun i : Deb × SR => [DB K C i.1, i.2]) (fun i => okB i.1 ∧ StX K i.1.1 i.2) CB "thing" (fun i => i.2)
theorem ox_winning_defender {C CB : Addr} (F : Fn K mg "winning_defender" s_winning_defender ["debate", "statement"]) (T : Txt K mg aL) (x_checked_statement : CalX P w K mg base 3 "checked_statement" ["debate", "statement"] (sp_stmtX K C CB)) (c_known_ranks : C8.Cal P w K mg base 4 "known_ranks" (sp_known_ranks K C Tb) []) (c_defender_by : C8.Cal P w K mg base 5 "defender_by" (sp_defender_by P w K mg base C Tb) []) : CalX P w K mg base 6 "winning_defender" ["debate", "statement"] (sp_winX K C CB Tb) := by
  refine calX_of F sc_winning_defender (fun vs H Q E h => spXM_len h fun _ => rfl) (fun f cdv A outer s H vs Q E hr h => ?_)
  have hu := hu_of hr
  obtain ⟨⟨d, R⟩, st, c, n, O, G, w0, hn, ⟨hd, hA⟩, al, k⟩ := h
  have hA : StX K d.1 R := hA
  refine ⟨_, (pss_one (ps_ret (pe_ifExp (pt_cmp (pc_din hu (pe_cx x_checked_statement hr (by first | decide | omega) rfl (passes_call (takes_of rfl rfl rfl rfl) (fun _ _ _ _ h => h)) (pa_cons (pv 0) (pa_cons (pv 1) pa_nil))) (C8.pe_c c_known_ranks hr (by first | decide | omega) rfl (pa_cons (pv 0) pa_nil)))) (C8.pe_c c_defender_by hr (by first | decide | omega) rfl (pa_cons (pv 0) pa_nil)) pe_non))), ?_⟩
  have sl := slots_start (N := ["debate", "statement"]) al
  rw [alr_len al] at sl
  show tCall (sp_stmtX K C CB) [] _ (tCons (tVar 0) (tCons (tVar 1) tNil)) _ _ _
  exact xr_callF (W := ⟨st, c, Tb⟩) (O := O) (Rs := [some (DB K C d), some R]) (G0 := G) (n := n) (ι := Deb × SR) (val := fun i => i.2) (d, R) (eal_cons (el_var (i := 0) rfl) (eal_cons (el_var (i := 1) rfl) eal_nil)) hA ⟨G, Same.refl G, sl, w0⟩ (by omega) fun v e G2 H2 s2 w2 pv hd => k v e G2 H2 s2 (w2.le (by omega)) pv hd
theorem ox_winning_opposer {C CB : Addr} (F : Fn K mg "winning_opposer" s_winning_opposer ["debate", "statement"]) (T : Txt K mg aL) (x_checked_statement : CalX P w K mg base 3 "checked_statement" ["debate", "statement"] (sp_stmtX K C CB)) (c_known_ranks : C8.Cal P w K mg base 4 "known_ranks" (sp_known_ranks K C Tb) []) (c_opposer_by : C8.Cal P w K mg base 5 "opposer_by" (sp_opposer_by P w K mg base C Tb) []) : CalX P w K mg base 6 "winning_opposer" ["debate", "statement"] (sp_winX K C CB Tb) := by
  refine calX_of F sc_winning_opposer (fun vs H Q E h => spXM_len h fun _ => rfl) (fun f cdv A outer s H vs Q E hr h => ?_)
  have hu := hu_of hr
  obtain ⟨⟨d, R⟩, st, c, n, O, G, w0, hn, ⟨hd, hA⟩, al, k⟩ := h
  have hA : StX K d.1 R := hA
  refine ⟨_, (pss_one (ps_ret (pe_ifExp (pt_cmp (pc_dnotin hu (pe_cx x_checked_statement hr (by first | decide | omega) rfl (passes_call (takes_of rfl rfl rfl rfl) (fun _ _ _ _ h => h)) (pa_cons (pv 0) (pa_cons (pv 1) pa_nil))) (C8.pe_c c_known_ranks hr (by first | decide | omega) rfl (pa_cons (pv 0) pa_nil)))) (C8.pe_c c_opposer_by hr (by first | decide | omega) rfl (pa_cons (pv 0) pa_nil)) pe_non))), ?_⟩
  have sl := slots_start (N := ["debate", "statement"]) al
  rw [alr_len al] at sl
  show tCall (sp_stmtX K C CB) [] _ (tCons (tVar 0) (tCons (tVar 1) tNil)) _ _ _
  exact xr_callF (W := ⟨st, c, Tb⟩) (O := O) (Rs := [some (DB K C d), some R]) (G0 := G) (n := n) (ι := Deb × SR) (val := fun i => i.2) (d, R) (eal_cons (el_var (i := 0) rfl) (eal_cons (el_var (i := 1) rfl) eal_nil)) hA ⟨G, Same.refl G, sl, w0⟩ (by omega) fun v e G2 H2 s2 w2 pv hd => k v e G2 H2 s2 (w2.le (by omega)) pv hd
end
end Gd
-- part LI
set_option Elab.async false
set_option linter.all false
set_option maxRecDepth 100000
set_option maxHeartbeats 1000000
namespace Gd
open PySem PySem.Spec PyProof.Rows L2 Clo
universe u
section
variable {ns : List Str} {ps : List (Str × Str)} {s0 : Str} {said : List Str} {o x : Str}
theorem rk_down (hx : x ∈ (lranks ns ps).map (·.1)) (ho : (o, x) ∈ ps) : ∃ z, (z, o) ∈ ps ∧ z ∈ (lranks ns ps).map (·.1) ∧ rkv (lranks ns ps) z < rkv (lranks ns ps) x := by
  obtain ⟨k, h1, _, h3, _⟩ := rkv_stg hx
  cases k with
  | zero =>
    have h3 : x ∈ aP ns ps [] := h3
    obtain ⟨m, hm, _⟩ := lans_iff.mp (mem_aP.mp h3).2 o ho
    cases hm
  | succ j =>
    have h3 : x ∈ aP ns ps (stg ns ps j) := h3
    obtain ⟨z, hz, hzo⟩ := lans_iff.mp (mem_aP.mp h3).2 o ho
    have hk : z ∈ (lranks ns ps).map (·.1) := mem_lranks.mpr (stg_sub_top hz)
    have := (rkv_le (n := j) hk).mpr hz
    exact ⟨z, hzo, hk, by omega⟩
theorem ans_spec (nd : ns.Nodup) (hx : x ∈ (lranks ns ps).map (·.1)) (ho : (o, x) ∈ ps) : ∃ z, ansQ (mkD (ns, ps)) o = some z ∧ (z, o) ∈ ps ∧ z ∈ (lranks ns ps).map (·.1) ∧ rkv (lranks ns ps) z < rkv (lranks ns ps) x := by
  obtain ⟨z, h1, h2, h3⟩ := rk_down hx ho
  have hm : (((lranks ns ps).lookup z).getD 0, z) ∈ ansL (mkD (ns, ps)).2 (ranksP (mkD (ns, ps))) o := by
    unfold ansL
    rw [ranks_law nd]
    exact List.mem_map.mpr ⟨z, List.mem_filter.mpr ⟨mem_tosP.mpr (mem_srt.mpr h1), decide_eq_true h2⟩, rfl⟩
  unfold ansQ
  cases e : ansL (mkD (ns, ps)).2 (ranksP (mkD (ns, ps))) o with
  | nil => rw [e] at hm; cases hm
  | cons q qs =>
    rw [e] at hm
    have g1 := minQ_mem qs q
    have g2 := minQ_le qs q _ hm
    rw [← e] at g1
    unfold ansL at g1
    rw [ranks_law nd] at g1
    obtain ⟨y, hy, ey⟩ := List.mem_map.mp g1
    obtain ⟨y1, y2⟩ := List.mem_filter.mp hy
    refine ⟨y, by show some (minQ q qs).2 = some y; rw [← ey], mem_srt.mp (mem_tosP.mp y1), of_decide_eq_true y2, ?_⟩
    rw [← ey] at g2
    have g2 : rkv (lranks ns ps) y ≤ rkv (lranks ns ps) z := g2
    omega
structure OddI (ns : List Str) (ps : List (Str × Str)) (said : List Str) : Prop where
  odd : said.length % 2 = 1
  sub : ∀ x ∈ said, x ∈ ns
  pw : (evens said).Pairwise fun a b => rkv (lranks ns ps) b < rkv (lranks ns ps) a
  rk : ∀ x ∈ evens said, x ∈ (lranks ns ps).map (·.1)
theorem evens_last : ∀ {xs : List Str}, xs.length % 2 = 1 → (evens xs).getLastD "" = xs.getLastD "" ∧ evens xs ≠ []
  | [], h => by cases h
  | [x], _ => ⟨rfl, by simp [evens]⟩
  | x :: y :: r, h => by
    have hr : r.length % 2 = 1 := by simp only [List.length_cons] at h; omega
    obtain ⟨h1, h2⟩ := evens_last hr
    have hne : r ≠ [] := fun z => by rw [z] at hr; cases hr
    refine ⟨?_, by simp [evens]⟩
    show (x :: evens r).getLastD "" = _
    rw [List.getLastD_eq_getLast?, List.getLastD_eq_getLast?, List.getLast?_cons_of_ne_nil h2, List.getLast?_cons_cons, List.getLast?_cons_of_ne_nil hne, ← List.getLastD_eq_getLast?, ← List.getLastD_eq_getLast?]
    exact h1
theorem OddI.base (h : s0 ∈ (lranks ns ps).map (·.1)) (hn : s0 ∈ ns) : OddI ns ps [s0] := ⟨rfl, fun x hx => by obtain rfl := List.mem_singleton.mp hx; exact hn, by simp [evens], fun x hx => by obtain rfl := List.mem_singleton.mp hx; exact h⟩
theorem OddI.ne (h : OddI ns ps said) : said ≠ [] := fun z => by have := h.odd; rw [z] at this; cases this
theorem OddI.last (h : OddI ns ps said) : said.getLastD "" ∈ (lranks ns ps).map (·.1) := by
  obtain ⟨h1, h2⟩ := evens_last h.odd
  rw [← h1]
  exact h.rk _ (last_mem h2)
theorem OddI.nd (h : OddI ns ps said) : (evens said).Nodup := h.pw.imp fun {a b} hab e => by subst e; omega
theorem OddI.len (h : OddI ns ps said) : said.length ≤ 2 * ns.length := by
  have := nodup_len h.nd fun x hx => h.sub x (evens_mem hx)
  rw [evens_length] at this
  have := h.odd
  omega
theorem pw_last {xs : List Str} {r : Str → Int} (h : xs.Pairwise fun a b => r b < r a) (hne : xs ≠ []) : ∀ a ∈ xs, r (xs.getLastD "") ≤ r a := by
  intro a ha
  obtain ⟨ys, y, rfl⟩ : ∃ ys y, xs = ys ++ [y] := ⟨xs.dropLast, xs.getLast hne, (List.dropLast_concat_getLast hne).symm⟩
  have e : (ys ++ [y]).getLastD "" = y := by rw [List.getLastD_eq_getLast?, List.getLast?_append]; rfl
  rw [e]
  obtain ⟨_, _, h3⟩ := List.pairwise_append.mp h
  rcases List.mem_append.mp ha with ha | ha
  · exact Int.le_of_lt (h3 a ha y (List.mem_singleton_self _))
  · obtain rfl := List.mem_singleton.mp ha
    exact Int.le_refl _
theorem last_snoc {xs : List Str} {y : Str} : (xs ++ [y]).getLastD "" = y := by rw [List.getLastD_eq_getLast?, List.getLast?_append]; rfl
theorem OddI.step (nd : ns.Nodup) (hp : ∀ p ∈ ps, p.1 ∈ ns ∧ p.2 ∈ ns) (h : OddI ns ps said) (ho : (o, said.getLastD "") ∈ ps) : ∃ z, dfnP (mkD (ns, ps)) (said ++ [o]) = .str z ∧ whyA ps (said ++ [o]) (.str z) = none ∧ OddI ns ps (said ++ [o] ++ [z]) := by
  obtain ⟨z, h1, h2, h3, h4⟩ := ans_spec nd h.last ho
  have hodd := h.odd
  obtain ⟨e1, e2⟩ := evens_last hodd
  have hev : evens (said ++ [o]) = evens said := by rw [evens_snoc, if_neg (by omega)]
  have hlt : ∀ a ∈ evens said, rkv (lranks ns ps) z < rkv (lranks ns ps) a := fun a ha => by
    have := pw_last (r := rkv (lranks ns ps)) h.pw e2 a ha
    rw [e1] at this
    omega
  have hzn : z ∉ evens said := fun hz => by
    have := hlt z hz
    omega
  refine ⟨z, ?_, ?_, ?_⟩
  · unfold dfnP
    rw [last_snoc, h1]
    rfl
  · rw [whyA_str, last_snoc, if_pos h2, if_neg fun q => hzn (by rw [← hev]; exact q.2)]
  · have hev2 : evens (said ++ [o] ++ [z]) = evens said ++ [z] := by
      rw [evens_snoc, if_pos (by rw [List.length_append]; show (said.length + 1) % 2 = 0; omega), hev]
    refine ⟨by rw [List.length_append, List.length_append]; show (said.length + 1 + 1) % 2 = 1; omega, fun y hy => ?_, ?_, fun y hy => ?_⟩
    · rcases List.mem_append.mp hy with hy | hy
      · rcases List.mem_append.mp hy with hy | hy
        · exact h.sub y hy
        · obtain rfl := List.mem_singleton.mp hy
          exact (hp _ ho).1
      · obtain rfl := List.mem_singleton.mp hy
        exact (hp _ h2).1
    · rw [hev2]
      exact List.pairwise_append.mpr ⟨h.pw, by simp, fun a ha b hb => by
        obtain rfl := List.mem_singleton.mp hb
        exact hlt a ha⟩
    · rw [hev2] at hy
      rcases List.mem_append.mp hy with hy | hy
      · exact h.rk y hy
      · obtain rfl := List.mem_singleton.mp hy
        exact h3
theorem defender_wins {Oq : List Str → Ans} {T : Nat} {w : Str} (nd : ns.Nodup) (hp : ∀ p ∈ ps, p.1 ∈ ns ∧ p.2 ∈ ns) (hn : s0 ∈ ns) (h : s0 ∈ (lranks ns ps).map (·.1)) (t : TalkE ps (dfnP (mkD (ns, ps))) Oq s0 T w) : whoT (talkS (dfnP (mkD (ns, ps))) Oq s0 T) = "defender" := by
  have key : ∀ i, i ≤ T → (i % 2 = 0 → OddI ns ps (talkS (dfnP (mkD (ns, ps))) Oq s0 i)) ∧ (i % 2 = 1 → ∃ sd o, talkS (dfnP (mkD (ns, ps))) Oq s0 i = sd ++ [o] ∧ OddI ns ps sd ∧ (o, sd.getLastD "") ∈ ps) := by
    intro i
    induction i with
    | zero => exact fun _ => ⟨fun _ => OddI.base h hn, fun z => by cases z⟩
    | succ i ih =>
      intro hi
      obtain ⟨i1, i2⟩ := ih (by omega)
      have hno := t.go i (by omega)
      obtain ⟨s, es, estep⟩ := talk_step t (show i < T by omega)
      rw [es] at hno
      obtain ⟨s', e', hs', _⟩ := why_none hno
      obtain rfl : s = s' := by injection e'
      rcases Nat.mod_two_eq_zero_or_one i with z | z
      · have I := i1 z
        exact ⟨fun y => by omega, fun _ => ⟨_, s, estep, I, hs'⟩⟩
      · obtain ⟨sd, o, e1, I, ho⟩ := i2 z
        obtain ⟨y, g1, g2, g3⟩ := I.step nd hp ho
        refine ⟨fun _ => ?_, fun y => by omega⟩
        have hturn : turnA (dfnP (mkD (ns, ps))) Oq (talkS (dfnP (mkD (ns, ps))) Oq s0 i) = .str y := by
          rw [e1]
          unfold turnA
          rw [if_neg (by rw [List.length_append]; have := I.odd; show ¬ (sd.length + 1) % 2 = 1; omega)]
          exact g1
        rw [hturn] at es
        obtain rfl : y = s := by injection es
        rw [estep, e1]
        exact g3
  obtain ⟨k1, k2⟩ := key T (Nat.le_refl _)
  rcases Nat.mod_two_eq_zero_or_one T with z | z
  · unfold whoT
    rw [if_pos (k1 z).odd]
  · exfalso
    obtain ⟨sd, o, e1, I, ho⟩ := k2 z
    obtain ⟨y, g1, g2, g3⟩ := I.step nd hp ho
    have he := t.e
    have hturn : turnA (dfnP (mkD (ns, ps))) Oq (talkS (dfnP (mkD (ns, ps))) Oq s0 T) = .str y := by
      rw [e1]
      unfold turnA
      rw [if_neg (by rw [List.length_append]; have := I.odd; show ¬ (sd.length + 1) % 2 = 1; omega)]
      exact g1
    rw [hturn, e1, g2] at he
    cases he
theorem isRk_law (nd : ns.Nodup) {x : Str} : isRk (mkD (ns, ps)) x = decide (x ∈ (lranks ns ps).map (·.1)) := by
  unfold isRk
  rw [ranks_law nd]
end
end Gd
-- part Gd96
set_option Elab.async false
set_option linter.all false
set_option maxRecDepth 100000
set_option maxHeartbeats 1000000
namespace Gd
open PySem PySem.Spec PyProof.Rows L2
universe u
section
variable {K : PySem.W.Frag} {W : SC} {O : Own} {n k m : Nat} {G0 : Hp} {Rs : RL} {te ta tb : TE} {u : TS} {E : Ends} {α A : Type} {e : α → SR} {kv : List (Key × α)} {i j : Nat} {p : Addr}
theorem hl_parNa {R : OR} {R2 : SR} (h1 : ELO W O k ta Rs R) (h2 : ∀ p, EL W ((p, R) :: O) m tb Rs R2) (q : ∀ p, HL W G0 (n + (k + m)) ((p, R) :: O) ((Rs.set i (some (cst (.ref p)))).set j (some R2)) u E) (hn : n + (k + m) ≤ 1000000 := by omega) : HL W G0 n O Rs (tSeq (tPar i j (tCons ta (tCons tb tNil))) u) E := fun σ H ⟨G, s, sl, w⟩ =>
  h1 σ G H n _ sl w (by omega) fun v G2 H2 s2 w2 => h2 v σ G2 H2 (n + k) _ (sl.st s2) w2 (by omega) fun z G3 H3 s3 w3 pz => ⟨_, _, rfl, q v _ _ ⟨G3, (s.trans s2).trans s3, ((sl.st (s2.trans s3)).set (R := cst (.ref v)) rfl).set pz, w3.eq (by omega)⟩⟩
end
end Gd
-- part LJ
set_option Elab.async false
set_option linter.all false
set_option maxRecDepth 100000
set_option maxHeartbeats 1000000
namespace Gd
open PySem PySem.Spec PyProof.Rows L2 Clo
universe u
abbrev s_wins : Stmt := topS 62
theorem sc_wins : FnScope ["_law_pairs", "_law_defender", "_law_name", "_law_waiting", "_law_many", "_law_said", "_law_one", "_law_thing"] ["_law_pairs", "_law_defender", "_law_name"] (defScope s_wins) := ⟨rfl, rfl, rfl, by decide +kernel, rfl, by decide +kernel, by decide +kernel⟩
section
variable {X : Cx}
theorem pe_bm0L {K : PySem.W.Frag} {T : String} {name : Str} {id : String} {r : V → List V → Hp → VK → Prop} {o : Expr} {to : TE} {apos cpos : Pos} (pa : PlainAttrs T) (slot : Slot T name id) (hty : typeOf (.builtin id) = pure (.type "method_descriptor")) (hm : MtR X id r) (ho : PE X o to)
    (hbase : attributeBase o name X.env (eval o X.env) = eval o X.env := by rfl) (hline : (apos.endLine == cpos.line) = true := by rfl) (hK : X.K = K := by rfl) : PE X (.Call (.Attribute o name apos) [] [] cpos) (tBM0 K T r to) := by
  subst hK
  exact pe_bm0 pa slot hty hm ho hbase hline
end
section
variable {K : PySem.W.Frag} {W : SC} {O : Own} {n k : Nat} {G0 : Hp} {Rs : RL} {R2 : SR} {tb : TE} {u : TS} {D : Ends} {α : Type} {e : α → SR} {xs : List α} {a : α} {p : Addr} {i j1 j2 : Nat}
theorem hl_popPar (hi : Rs[i]? = some (some (cst (.ref p)))) (h2 : EL W ((p, OL e xs) :: O) k tb Rs R2) (q : HL W G0 (n + k) ((p, OL e xs) :: O) ((Rs.set j1 (some (e a))).set j2 (some R2)) u D) (hn : n + k ≤ 1000000 := by omega) : HL W G0 n ((p, OL e (xs ++ [a])) :: O) Rs (tSeq (tPar j1 j2 (tCons (tBM0 K "list" rPop (tVar i)) (tCons tb tNil))) u) D := fun σ H ⟨G, s, sl, w⟩ => by
  obtain ⟨v, h1, hv⟩ := sl.get i _ hi
  obtain rfl : v = .ref p := hv
  obtain ⟨_, _, _, o, w4, _, vs, rfl, g6, al⟩ := w.o _ (List.mem_cons_self ..)
  have hlen := al.len
  have hl : vs.length = xs.length + 1 := by rw [hlen, List.length_append]; rfl
  obtain ⟨y, hy, py⟩ := al.get' (show (xs ++ [a])[xs.length]? = some a by simp)
  have hdrop : vs.dropLast = vs.take xs.length := by rw [List.dropLast_eq_take, hl]; rfl
  have al2 : Al e xs (vs.take xs.length) G := by
    have := al.take xs.length
    rw [List.take_left] at this
    exact this
  have w2 : Wd W n ((p, OL e xs) :: O) G (upd H p (.lst vs.dropLast)) := w.put (R' := OL e xs) (o := .lst vs.dropLast) (fun u ⟨_, e, _⟩ => by rw [e]; rfl) rfl ⟨_, rfl, by rw [List.length_dropLast]; omega, by rw [hdrop]; exact al2⟩
  refine ⟨_, h1, .inl ⟨rfl, vs, SqL.of w4⟩, p, vs, y, rfl, rfl, w4, by rw [hl]; exact hy, ?_⟩
  exact h2 σ G _ n _ sl w2 hn fun z G3 H3 s3 w3 p2 => ⟨y, z, rfl, q _ _ ⟨G3, s.trans s3, ((sl.st s3).set ((e a).st s3 py)).set p2, w3⟩⟩
end
section
variable {P : Program} {w : World} {K : PySem.W.Frag} {mg : Str → Option Value} {base : Heap} {aL : Addr} {Tb : List (Addr × Str)}
structure okWin (ns : List Str) (ps : List (Str × Str)) (s0 : Str) : Prop where
  nd : ns.Nodup
  l : ns.length ≤ 12
  pm : ∀ p ∈ ps, p.1 ∈ ns ∧ p.2 ∈ ns
  pn : ps.Nodup
  hs : s0 ∈ ns
  rk : s0 ∈ (lranks ns ps).map (·.1)
theorem lobj_len {ns : List Str} {ps : List (Str × Str)} (h : ∀ p ∈ ps, p.1 ∈ ns ∧ p.2 ∈ ns) (nd : ps.Nodup) (s : Str) : (lobj ps s).length ≤ ns.length := by
  refine nodup_len ?_ fun x hx => (h _ (mem_lobj.mp hx)).1
  unfold lobj
  refine srt_nodup.mpr ?_
  unfold tosP
  unfold List.Nodup
  rw [List.pairwise_map]
  refine List.Pairwise.imp_of_mem (fun {a b} ha hb hne z => hne ?_) (nd.filter fun p => decide (p.2 = s))
  have e1 := of_decide_eq_true (List.mem_filter.mp ha).2
  have e2 := of_decide_eq_true (List.mem_filter.mp hb).2
  exact Prod.ext z (e1.trans e2.symm)
def spWin (P : Program) (w : World) (K : PySem.W.Frag) (mg : Str → Option Value) (base : Heap) (Tb : List (Addr × Str)) : Sp := fun vs H Q _ => ∃ (ns : List Str) (ps : List (Str × Str)) (s0 : Str) (κ : CloD) (st c : Addr) (n : Nat) (O O' : Own) (G : Hp), O.Perm (κ.own ++ O') ∧ Wd ⟨st, c, Tb⟩ n O G H ∧ n ≤ 1000000 ∧ okWin ns ps s0 ∧ TkA P w K mg base Tb ns κ (dfnP (mkD (ns, ps))) ∧ AlR [Lst (PP K) ps, LamV κ, S s0] vs G ∧ ∀ v G2 H2, Same G G2 → (B true).p v G2 → Wd ⟨st, c, Tb⟩ n O G2 H2 → Q v H2
theorem el_win {W : SC} {O O' : Own} {k : Nat} {Rs : RL} {tr : TA} {E : XK} {ns : List Str} {ps : List (Str × Str)} {s0 : Str} {κ : CloD} (ha : EAL W O k tr Rs [Lst (PP K) ps, LamV κ, S s0]) (hO : O.Perm (κ.own ++ O')) (hok : okWin ns ps s0) (tk : TkA P w K mg base W.tb ns κ (dfnP (mkD (ns, ps)))) : EL W O k (tCall (spWin P w K mg base W.tb) [] E tr) Rs (B true) := fun σ G H n Q sl w0 hn kk => ha σ G H n _ sl w0 hn fun vs G2 H2 s2 w2 al =>
  ⟨ns, ps, s0, κ, W.s, W.c, n + k, O, O', G2, hO, w2, by omega, hok, tk, by rw [List.append_nil]; exact al, fun v G3 H3 s3 pv w3 => kk v G3 H3 (s2.trans s3) w3 pv⟩
theorem ok_wins (F : Fn K mg "_law_wins" s_wins ["_law_pairs", "_law_defender", "_law_name"]) (T : Txt K mg aL) (c_d_objectors : C8.Cal P w K mg base 1 "_law_d_objectors" (sp_d_objectors K) []) (c_rk_why : C8.Cal P w K mg base 1 "_law_rk_why" (sp_rk_why K Tb) []) : CalZ P w K mg base 5 "_law_wins" (spWin P w K mg base Tb) := by
  refine calZ_of F sc_wins (fun vs H Q E h => ?_) (fun f cdv A outer s H vs Q E hg hr h => ?_)
  · obtain ⟨ns, ps, s0, κ, st, c, n, O, O', G, _, _, _, _, _, al, _⟩ := h
    exact alr_len al
  have hu := hu_of hr
  have hu64 := hu64_of hr
  obtain ⟨ns, ps, s0, κ, st, c, n, O, O', G, hO, w0, hn, hok, tk, al, k⟩ := h
  have hl12 := hok.l
  refine ⟨_, (pss_cons (ps_par (i := 3) (j := 4) rfl sc_wins.nd rfl rfl (by decide) rfl rfl (pa_cons (pe_lst (pa_cons (pe_tup (pa_cons (pv 2) pa_nil)) pa_nil)) (pa_cons pe_int pa_nil)) rfl)
      (pss_cons (ps_while PassesOwn.never (pt_cmpR (op_neDK (K := K) hu64) (pv 3) (pe_lst pa_nil) (nomark _)) (pss_cons (ps_par (i := 5) (j := 4) rfl sc_wins.nd rfl rfl (by decide) rfl rfl (pa_cons (pe_bm0L (K := K) PySem.F.plainAttrs_list PySem.F.slot_list_pop PySem.F.type_list_pop mt_pop (pv 3)) (pa_cons (pe_op op_add (pv 4) pe_int) pa_nil)) rfl)
      (pss_cons (ps_if (pt_cmpR op_gt (pv 4) pe_int (nomark _)) (pss_one (ps_ret pe_bl)) pss_nil)
      (pss_one (ps_for PassesOwn.never rfl (pi_seqK (K := K) (C8.pe_c c_d_objectors hr (by first | decide | omega) rfl (pa_cons (pv 0) (pa_cons (pe_ix (ix_K (K := K)) (pv 5) (pe_un un_neg pe_int) (fun _ _ => rfl)) pa_nil)))) (pg_name (i := 6) sc_wins.nd rfl (by first | exact Or.inl rfl | exact Or.inr rfl)) (pss_cons (ps_set (i := 7) sc_wins.nd rfl (by first | exact Or.inl rfl | exact Or.inr rfl) (Clo.pe_callVZ (k := 3) (i := 1) hg hr (by first | decide | omega) rfl (by first | exact Or.inl rfl | exact Or.inr (Or.inl rfl) | exact Or.inr (Or.inr rfl)) (pa_cons (pe_op (op_catK (K := K)) (pv 5) (pe_tup (pa_cons (pv 6) pa_nil))) pa_nil)))
      (pss_cons (ps_if (pt_cmpR op_notN (C8.pe_c c_rk_why hr (by first | decide | omega) rfl (pa_cons (pv 0) (pa_cons (pe_callTy (call_listK (K := K)) rfl T.list boot_list (pa_cons (pe_op (op_catK (K := K)) (pv 5) (pe_tup (pa_cons (pv 6) pa_nil))) pa_nil)) (pa_cons (pv 7) pa_nil)))) pe_non (nomark _)) (pss_one (ps_ret pe_bl)) pss_nil)
      (pss_one (ps_expr (pe_bmK (K := K) PySem.F.plainAttrs_list PySem.F.slot_list_append PySem.F.type_list_append mt_append (pv 3) (pa_cons (pe_op (op_catK (K := K)) (pv 5) (pe_tup (pa_cons (pv 6) (pa_cons (pv 7) pa_nil)))) pa_nil)))))))))))
      (pss_one (ps_ret pe_bl)))), ?_⟩
  refine (?_ : HL ⟨st, c, Tb⟩ G n O [some (Lst (PP K) ps), some (LamV κ), some (S s0), none, none, none, none, none] _ _) _ _ ⟨G, Same.refl G, by have h := slots_start (N := ["_law_pairs", "_law_defender", "_law_name", "_law_waiting", "_law_many", "_law_said", "_law_one", "_law_thing"]) al; rw [alr_len al] at h; exact h, w0⟩
  refine hl_parNa (k := 0) (m := 0) (R := OL (Tpl K S) [[s0]]) (R2 := I 0) (eln_lst (e := Tpl K S) [[s0]] (eal_cons (k := 0) (m := 0) (el_tpl (e := S) [s0] (eal_cons (k := 0) (m := 0) (el_var (i := 2) rfl) eal_nil) (by show 1 ≤ 100000; decide)) eal_nil) (by show 1 ≤ 100000; decide)) (fun p => el_int) fun p => ?_
  dsimp only [List.set]
  refine hl_while (δ := List (List Str) × Nat) (fun i d => d.2 = i ∧ i ≤ 3000 ∧ (∀ sd ∈ d.1, OddI ns ps sd) ∧ d.1.length ≤ 1 + i * 12) (fun d => (p, OL (Tpl K S) d.1) :: O) (fun d => [some (Lst (PP K) ps), some (LamV κ), some (S s0), some (cst (.ref p)), some (I (d.2 : Nat)), none, none, none]) (fun d => !decide (d.1 = [])) 3001 ([[s0]], 0) ⟨rfl, by decide, fun sd h => by obtain rfl := List.mem_singleton.mp h; exact OddI.base hok.rk hok.hs, by show 1 ≤ _; omega⟩ rfl (fun G => (.eq (.eq (.eq (.eq (.eq (.no (.no (.no .nil))))))))) (fun i d _ => etl_lendL (i := 3) rfl fun F => etl_test (el_neD (e := Lst (Tpl K S)) (enc_lst (enc_tpl enc_S)) (eqE_lst (eqE_tpl eqE_S)) (el_var (i := 3) rfl) (ELN.el (eln_lst (e := Tpl K S) [] eal_nil (Nat.zero_le _))))) ?_ (fun d h => by have := h.2.1; omega) ?_
  · rintro i ⟨wt, mn⟩ E1 G1 ⟨rfl, hi3, hall, hlen⟩ hc hlt hrt s1 kn
    have hall : ∀ sd ∈ wt, OddI ns ps sd := hall
    have hlen : wt.length ≤ 1 + mn * 12 := hlen
    have hc : wt ≠ [] := by simpa using hc
    obtain ⟨ys, sd, rfl⟩ : ∃ ys sd, wt = ys ++ [sd] := ⟨wt.dropLast, wt.getLast hc, (List.dropLast_concat_getLast hc).symm⟩
    have hsd : OddI ns ps sd := hall sd (by simp)
    have hsl := hsd.len
    refine hl_popPar (k := 0) (e := Tpl K S) (xs := ys) (a := sd) (i := 3) (R2 := I ((mn + 1 : Nat) : Nat)) rfl (EL.eq (el_addI (k := 0) (m := 0) (el_var (i := 4) rfl) el_int) (by congr 1)) ?_
    dsimp only [List.set]
    refine hl_if (k := 0) (c := decide (3000 < mn + 1)) (ETL.eq (etl_test (el_gtI (k := 0) (m := 0) (el_var (i := 4) rfl) el_int)) (by rw [decide_eq_decide]; omega)) (fun h => ?_) (fun h => ?_)
    · refine hl_last ?_
      refine hl_retD (k := 0) (R := B true) el_bl fun v G3 H3 s3 w3 p3 => ?_
      show E1.rt v H3
      rw [hrt]
      exact k v G3 H3 (s1.trans s3) p3 ((w3.drop (List.sublist_cons_self ..)).le (by omega))
    · have h := of_decide_eq_false h
      have hyl : ys.length ≤ mn * 12 := by
        rw [List.length_append] at hlen
        have : ys.length + 1 ≤ 1 + mn * 12 := hlen
        omega
      have hob := lobj_len hok.pm hok.pn (sd.getLastD "")
      refine hl_last ?_
      refine hl_for (k := 0) (e := S) (xs := lobj ps (sd.getLastD "")) (δ := List (List Str)) (fun j d => (∀ x ∈ d, OddI ns ps x) ∧ d.length ≤ ys.length + j) (fun d => (p, OL (Tpl K S) d) :: O) (fun _ => [some (Lst (PP K) ps), some (LamV κ), some (S s0), some (cst (.ref p)), some (I ((mn + 1 : Nat) : Nat)), some (Tpl K S sd), none, none]) 0 (eil_sq (el_sqL (el_call (ι := List (Str × Str) × Str) (pre := fun i => [Lst (PP K) i.1, S i.2]) (ok := fun _ => True) (post := fun i => Lst S (lobj i.1 i.2)) (ps, sd.getLastD "") (eal_cons (k := 0) (m := 0) (el_var (i := 0) rfl) (eal_cons (k := 0) (m := 0) (el_lastT (el_sqT (el_var (i := 5) rfl)) (last_get hsd.ne)) eal_nil)) trivial))) ys ⟨fun x hx => hall x (List.mem_append_left _ hx), Nat.le_refl _⟩ rfl (fun G => (.eq (.eq (.eq (.eq (.eq (.eq (.no (.no .nil))))))))) ?_ ?_ (by omega)
      · rintro j one d E2 G2 hone ⟨hd1, hd2⟩ hrt2 s2 kn2 hn2
        have hone2 : (one, sd.getLastD "") ∈ ps := mem_lobj.mp (List.mem_of_getElem? hone)
        have hjl : j < (lobj ps (sd.getLastD "")).length := (List.getElem?_eq_some_iff.mp hone).1
        obtain ⟨z, g1, g2, g3⟩ := hsd.step hok.nd hok.pm hone2
        have hot : okt ns (sd ++ [one]) := ⟨by simp, fun x hx => g3.sub x (List.mem_append_left _ hx), by rw [List.length_append]; show sd.length + 1 ≤ 500; omega⟩
        have hperm : ((p, OL (Tpl K S) d) :: O).Perm (κ.own ++ ((p, OL (Tpl K S) d) :: O')) := (List.Perm.cons _ hO).trans List.perm_middle.symm
        refine ⟨_, _, gl_name, ?_⟩
        dsimp only [List.set]
        refine hl_set (k := 0) (R := S z) (EL.eq (el_tk (W := ⟨st, c, Tb⟩) (k := 0) (said := sd ++ [one]) tk hperm rfl (el_catT (k := 0) (m := 0) (el_var (i := 5) rfl) (el_tpl (e := S) [one] (eal_cons (k := 0) (m := 0) (el_var (i := 6) rfl) eal_nil) (by show 1 ≤ 100000; decide)) (by show sd.length + 1 ≤ 100000; omega)) hot) (by rw [g1]; rfl)) ?_
        dsimp only [List.set]
        have hnn : ∀ (x : Str) v G, (S x).p v G → v ≠ V.non := fun x v G h z => by rw [h.1] at z; cases z
        refine hl_ifF (k := 0) (ETL.eq (etl_test (el_notNO (f := S) (o := none) (EL.eq (el_callm (W := ⟨st, c, Tb⟩) (k := 0) (ι := List (Str × Str) × List Str × Ans) (pre := fun i => [Lst (PP K) i.1, Lst S i.2.1, i.2.2.R]) (ok := fun i => i.2.1 ≠ [] ∧ i.2.2.Ok K) (post := fun i => Op S (whyA i.1 i.2.1 i.2.2)) (ps, sd ++ [one], .str z) (eal_cons (k := 0) (m := 0) (el_var (i := 0) rfl) (eal_cons (k := 0) (m := 0) (ELN.el (eln_list (el_sqT (el_catT (k := 0) (m := 0) (el_var (i := 5) rfl) (el_tpl (e := S) [one] (eal_cons (k := 0) (m := 0) (el_var (i := 6) rfl) eal_nil) (by show 1 ≤ 100000; decide)) (by show sd.length + 1 ≤ 100000; omega))))) (eal_cons (k := 0) (m := 0) (el_var (i := 7) rfl) eal_nil))) ⟨by simp, trivial⟩) (by show Op S (whyA ps (sd ++ [one]) (.str z)) = _; rw [g2])) hnn)) rfl) ?_
        refine hl_last ?_
        refine hl_push (k := 0) (e := Tpl K S) (a := sd ++ [one, z]) (i := 3) rfl (el_catT (k := 0) (m := 0) (el_var (i := 5) rfl) (el_tpl (e := S) [one, z] (eal_cons (k := 0) (m := 0) (el_var (i := 6) rfl) (eal_cons (k := 0) (m := 0) (el_var (i := 7) rfl) eal_nil)) (by show 2 ≤ 100000; decide)) (by show sd.length + 2 ≤ 100000; omega)) (by omega) ?_
        refine hl_nx fun σ H q => kn2 _ σ H ⟨fun x hx => ?_, by rw [List.length_append]; show d.length + 1 ≤ _; omega⟩ ((q.weak fun G => (.eq (.eq (.eq (.eq (.eq (.eq (.no (.no .nil))))))))).le (by omega))
        rcases List.mem_append.mp hx with hx | hx
        · exact hd1 x hx
        · obtain rfl := List.mem_singleton.mp hx
          have : sd ++ [one, z] = sd ++ [one] ++ [z] := by simp
          rw [this]
          exact g3
      · rintro d ⟨hd1, hd2⟩
        exact hl_nx fun σ H q => kn (d, mn + 1) σ H ⟨rfl, by omega, hd1, by show d.length ≤ 1 + (mn + 1) * 12; omega⟩ ((q.weak fun G => (.eq (.eq (.eq (.eq (.eq (.no (.no (.no .nil))))))))).le (by omega))
  · rintro i ⟨wt, mn⟩ _ _ _
    exact hl_ret (k := 0) (R := B true) el_bl fun v G2 H2 s2 w2 p3 => k v G2 H2 s2 p3 ((w2.drop (List.sublist_cons_self ..)).le (by omega))
end
end Gd
-- part F1
set_option Elab.async false
set_option linter.all false
set_option maxRecDepth 100000
set_option maxHeartbeats 1000000
namespace Gd
open PySem PySem.Spec PyProof.Rows L2
abbrev s_met : Stmt := topS 61
theorem sc_met : FnScope ["_law_ask", "e"] ["_law_ask"] (defScope s_met) := ⟨rfl, rfl, rfl, by decide +kernel, rfl, by decide +kernel, by decide +kernel⟩
section
variable {X : Cx}
theorem pe_met {q : Str} {c Pt C : Addr} {Tb : List (Addr × Str)} {j : Nat} {params : Arguments} {body : Expr} {scope : Scope} {t : XK → TE} {p lpos pos : Pos} (F : Fn X.K X.mg "_law_met" s_met ["_law_ask"]) (Ex : ExC X.prog X.w X.K X.mg X.base "NoStatement" C "thing") (TB : LamX.TabB X.base X.mg c Pt) (hmT : (Pt, q ++ "<lambda>") ∈ Tb) (hmu : ∀ p ∈ Tb, p.1 = Pt → p.2 = q ++ "<lambda>") (hg : Gl X "_law_met") (hcode : X.env.code = .ref c)
    (hr : Room j X.A) (hj : 8 ≤ j) (L : LamX.LamS X.env.scope scope) (hbody : ∀ (A : Around) (outer : List Env) (s : Shared) (H : Hp) (E : XK) (f c' : Addr), Room 6 (A.deeper (LamX.lamEnv X scope s.heap.objs.size f c')) → PE (LamX.lamCx X A outer s H E scope f c') body (t E))
    (hdef : defaultsOf params X.env = ([], []) := by rfl) (hbind : ∀ (q : Str) (cl : List (Str × Addr)) (pm cv ctv : Value), bindArgs (PySem.W.kla_fn "<lambda>" q params body scope cl pm cv ctv) ⟨[], []⟩ = pure [] := by intros; rfl) (hq : X.env.qual = q := by rfl) :
    PE X (.Call (.Name "_law_met" p) [.Lambda params body scope lpos] [] pos) (LamX.tLam Tb (TMet C "thing" "told" "none") t) := by
  obtain ⟨g, fd, ⟨⟨oc, od, kV, doc, pm, an, cdv, ct, osl, rfl, lk, hcd⟩, kp⟩, hm, hb⟩ := F
  subst hq
  exact LamX.pe_lamcall (k := 6) hg hm kp lk hcd hb sc_met rfl (.inl rfl) (met_gives (a := "_law_ask") (en := "e") Ex rfl (by decide) (by decide) rfl (by decide) (by decide) fun _ => rfl) TB hcode hmT hmu (hr.mono hj) L hdef hbind hbody
end
end Gd
-- part P14a
set_option Elab.async false
set_option linter.all false
set_option maxRecDepth 100000
set_option maxHeartbeats 1000000
namespace Gd
open PySem PySem.Spec PyProof.Rows L2
section
variable {P : Program} {w : World} {K : PySem.W.Frag} {mg : Str → Option Value} {base : Heap} {aL : Addr}
def sp_start (K : PySem.W.Frag) : Sp := fun vs H Q _ => ∃ (a : Addr) (ns : List Int), vs = [.ref a] ∧ SqL K H a (ns.map V.int) ∧ ns.length ≤ 63 ∧ ∀ s c H2, H s = none → H c = none → Same H H2 → s ≠ c → H2 s = some (.lst [.ref c, .int 0, .int 0, .int 11]) → H2 c = some (.lst (ns.map V.int)) → Q (.ref s) H2
theorem ok_start (F : Fn K mg "_law_start" s_start ["_law_script"]) (T : Txt K mg aL) : C8.Cal P w K mg base 1 "_law_start" (sp_start K) [] := by
  refine cal_of F sc_start (fun vs H Q E h => ?_) (fun f cdv A outer s H vs Q E hr h => ?_)
  · obtain ⟨_, _, rfl, _⟩ := h
    rfl
  obtain ⟨a, ns, rfl, hS, hl, k⟩ := h
  refine ⟨_, (pss_one (ps_ret (pe_lst (pa_cons (pe_callTy (call_listK (K := K)) rfl T.list boot_list (pa_cons (pv 0) pa_nil)) (pa_cons pe_int (pa_cons pe_int (pa_cons pe_int pa_nil))))))), ?_⟩
  refine ⟨.ref a, rfl, a, ns.map V.int, rfl, .inl hS, fun c hc => ⟨by show 4 ≤ sizeLine; decide, fun s hs => ?_⟩⟩
  have nsc : s ≠ c := fun e => by rw [e, upd_same] at hs; cases hs
  have hs0 : H s = none := by rw [upd_ne nsc] at hs; exact hs
  exact k s c _ hs0 hc ((Same.new hc).trans (Same.new hs)) nsc upd_same (by rw [upd_ne nsc.symm]; exact upd_same)
end
end Gd
-- part LK
set_option Elab.async false
set_option linter.all false
set_option maxRecDepth 100000
set_option maxHeartbeats 1000000
namespace Gd
open PySem PySem.Spec PyProof.Rows L2 Clo
universe u
abbrev s_law : Stmt := topS 63
theorem sc_law : FnScope ["_law_script", "_law_stream", "_law_turn", "_law_names", "_law_pairs", "_law_debate", "_law_ranked", "_law_twin", "_law_name", "_law_defender", "_law_other", "_law_opposer", "_law_told", "_law_due", "_law_again", "_law_odd", "_law_found"] ["_law_script"] (defScope s_law) := ⟨rfl, rfl, rfl, by decide +kernel, rfl, by decide +kernel, by decide +kernel⟩
section
variable {K : PySem.W.Frag} {W : SC} {O : Own} {n k m : Nat} {G0 : Hp} {Rs : RL} {ta tb te : TE} {u : TS} {D : Ends} {i j : Nat}
theorem el_eqB {x y : Bool} (ha : EL W O k ta Rs (B x)) (hb : EL W O m tb Rs (B y)) : EL W O (k + m) (tOp rEq ta tb) Rs (B (decide (x = y))) := el_o2 ha hb fun _ _ _ _ p q => ev_opP (ev_cR' p) (ev_cR' q) fun u v G1 H1 a r p q => by
    obtain rfl : u = _ := p
    obtain rfl : v = _ := q
    refine ⟨_, ?_, fun Q hQ => ⟨rfl, hQ⟩⟩
    show V.bl _ = V.bl _
    cases x <;> cases y <;> rfl
theorem hl_parC {C1 C2 : SR → Own → Prop} (h1 : ELC W O k ta Rs C1) (h2 : ∀ O1, ELC W (O1 ++ O) m tb Rs C2) (q : ∀ R1 O1 R2 O2, C1 R1 O1 → C2 R2 O2 → HL W G0 (n + (k + m)) (O2 ++ (O1 ++ O)) ((Rs.set i (some R1)).set j (some R2)) u D) (hn : n + (k + m) ≤ 1000000 := by omega) : HL W G0 n O Rs (tSeq (tPar i j (tCons ta (tCons tb tNil))) u) D := fun σ H ⟨G, s, sl, w⟩ =>
  h1 σ G H n _ sl w (by omega) fun R1 O1 v G2 H2 hc1 s2 pv w2 => h2 O1 σ G2 H2 (n + k) _ (sl.st s2) w2 (by omega) fun R2 O2 z G3 H3 hc2 s3 pz w3 => ⟨_, _, rfl, q R1 O1 R2 O2 hc1 hc2 _ _ ⟨G3, (s.trans s2).trans s3, ((sl.st (s2.trans s3)).set (R := R1) (R1.st s3 pv)).set (R := R2) pz, w3.eq (by omega)⟩⟩
abbrev TalkR (K : PySem.W.Frag) (said : List Str) (wy : Str) : SR := Tpl K (fun R : SR => R) [Lst S said, S (whoT said), S wy]
theorem elc_tr {said : List Str} {wy : Str} (h : ELC W O k te Rs (TalkC K said wy)) : EL W O k te Rs (TalkR K said wy) := fun σ G H n Q sl w hn kk => h σ G H n _ sl w hn fun R Oz v G2 H2 hc s2 pv w2 => by
  obtain ⟨p, rfl, rfl⟩ := hc
  obtain ⟨o1, q1, q2, s3, w3⟩ := Wd.freeze (p := p) (R := OL S said) (O := O) w2
  refine kk v _ _ (s2.trans s3) w3 ?_
  obtain ⟨a, v1, w1, z1, rfl, ht, e1, e2, e3⟩ := (Tr K cA S S (p, whoT said, wy)).st s3 pv
  obtain rfl : v1 = .ref p := e1
  exact ⟨a, [.ref p, w1, z1], rfl, ht, by show 3 ≤ sizeLine; decide, .cons (ol_lst o1 _ ((OL S said).st s3 q2) upd_same) (.cons e2 (.cons e3 .nil))⟩
theorem sm_talk {At' : SR → Prop} {said : List Str} {wy : Str} : SmN K At' 5 (TalkR K said wy) := SmS.t fun R hR => by
  simp only [List.mem_cons, List.not_mem_nil, or_false] at hR
  rcases hR with rfl | rfl | rfl
  · exact SmS.l fun x _ => SmS.s x
  · exact SmS.s _
  · exact SmS.s _
end
theorem okt_srt {ns : List Str} : okt (srt PyData.str ns) = okt ns := by
  funext said
  unfold okt
  rw [show (∀ x ∈ said, x ∈ srt PyData.str ns) = (∀ x ∈ said, x ∈ ns) from propext ⟨fun h x hx => mem_srt.mp (h x hx), fun h x hx => mem_srt.mpr (h x hx)⟩]
theorem names10_len12 : ∀ s ∈ names10, s.length ≤ 12 := by decide +kernel
section
variable {P : Program} {w : World} {K : PySem.W.Frag} {mg : Str → Option Value} {base : Heap} {aL : Addr}
def oddsT (K : PySem.W.Frag) (ns : List Str) : List SR := [N, I 5, S "none", B true, Tpl K S ["a"], Dct S [], Lst S ns]
theorem oddsT_are {ns cs : List Str} (hg : ∀ y ∈ cs, y ∈ names10) : ∀ R ∈ oddsT K ns, StX K cs R := by
  intro R hR
  simp only [oddsT, List.mem_cons, List.not_mem_nil, or_false] at hR
  rcases hR with rfl | rfl | rfl | rfl | rfl | rfl | rfl
  · exact .odd _ (tyY_ty hty_N)
  · exact .odd _ (tyY_ty hty_I)
  · exact .no _ fun h => absurd (hg _ h) (by decide +kernel)
  · exact .odd _ (tyY_ty hty_B)
  · exact .odd _ (tyY_ty hty_tpl)
  · exact .odd _ (tyY_ty hty_Dct)
  · exact .odd _ (tyY_ty hty_lst)
theorem oddsT_sm {C : Addr} {ns : List Str} : ∀ R ∈ oddsT K ns, SmN K (AtD K C) 3 R := by
  intro R hR
  simp only [oddsT, List.mem_cons, List.not_mem_nil, or_false] at hR
  rcases hR with rfl | rfl | rfl | rfl | rfl | rfl | rfl
  · exact SmS.a .n
  · exact SmS.i _
  · exact SmS.s _
  · exact SmS.b _
  · exact SmS.t fun x _ => SmS.s x
  · exact SmS.d (fun p hp => by cases hp) (SmS.l fun x hx => by cases hx)
  · exact SmS.l fun x _ => SmS.s x
def sp_law11 (K : PySem.W.Frag) (Tb : List (Addr × Str)) : Sp := fun vs H Q _ => ∃ (a : Addr) (ns : List Int), vs = [.ref a] ∧ SqL K H a (ns.map V.int) ∧ ns.length ≤ 63 ∧ LamX.Tabs Tb H ∧ ∀ H', Q (.bl true) H'
theorem ok_lawX {C cc Pt CB : Addr} {Tb : List (Addr × Str)} {f : Addr} {oc : Value} {od : Option Addr} {kV doc pm : Value} {an : Option Addr} {ct : Value} {osl : Array (Option Value)} (lk : K.lookup f = some ⟨oc, od, .func (PySem.W.fnOf "law" "law" (defArgs s_law) (defBody s_law) (defScope s_law) .none kV doc pm an (.ref cc) ct), osl⟩) (hcd : PySem.W.codeIn K (.ref cc) "law" = true) (T : Txt K mg aL)
    (c_start : C8.Cal P w K mg base 1 "_law_start" (sp_start K) []) (c_mixed : C8.Cal P w K mg base 2 "_law_mixed" (sp_mixed K) []) (c_rk_debate : C8.Cal P w K mg base 4 "_law_rk_debate" (sp_rk_debate K Tb) []) (c_rk_made : C8.Cal P w K mg base 7 "_law_rk_made" (sp_rk_made K C Tb) []) (c_rk_ranks : C8.Cal P w K mg base 4 "_law_rk_ranks" (sp_rk_ranks K Tb) [])
    (c_rk_talker : C8.Cal P w K mg base 3 "_law_rk_talker" (sp_talker P w K mg base Tb) []) (z_rk_run : CalZ P w K mg base 5 "_law_rk_run" (sp_rk_run P w K mg base Tb)) (z_wins : CalZ P w K mg base 5 "_law_wins" (spWin P w K mg base Tb)) (z_least_talk : CalZ P w K mg base 6 "least_talk" (sp_talk P w K mg base C Tb))
    (c_winning_defender : C8.Cal P w K mg base 6 "winning_defender" (sp_winning P w K mg base C Tb dfnP false) []) (c_winning_opposer : C8.Cal P w K mg base 6 "winning_opposer" (sp_winning P w K mg base C Tb oppP true) [])
    (c_same : C8.Cal P w K mg base 11 "_law_same" (sp_sameX K (AtD K C) 5) []) (m_Debate : C8.Mak P w K mg base 5 "Debate" C (sp_initD K C Tb) [])
    (F_met : Fn K mg "_law_met" s_met ["_law_ask"]) (e_NoStatement : ExC P w K mg base "NoStatement" CB "thing") (x_winning_defender : CalX P w K mg base 6 "winning_defender" ["debate", "statement"] (sp_winX K C CB Tb)) (x_winning_opposer : CalX P w K mg base 6 "winning_opposer" ["debate", "statement"] (sp_winX K C CB Tb)) (TB : LamX.TabB base mg cc Pt) (hmT : (Pt, ("law" : Str) ++ ".<locals>." ++ "<lambda>") ∈ Tb) (hmu : ∀ p ∈ Tb, p.1 = Pt → p.2 = ("law" : Str) ++ ".<locals>." ++ "<lambda>") : FnZ P w K mg base 14 f (PySem.W.fnOf "law" "law" (defArgs s_law) (defBody s_law) (defScope s_law) .none kV doc pm an (.ref cc) ct) ["_law_script"] (sp_law11 K Tb) := by
  refine fnZL_of (k := 13) lk hcd sc_law (fun vs H Q E h => ?_) (fun A outer s H vs Q E hg hr h => ?_)
  · obtain ⟨_, _, rfl, _⟩ := h
    rfl
  obtain ⟨a, ns, rfl, hS, hl, t0, k⟩ := h
  have hu64 := hu64_of hr
  have hu := hu_of hr
  refine ⟨_, (pss_cons (ps_set (i := 1) sc_law.nd rfl (by first | exact Or.inl rfl | exact Or.inr rfl) (C8.pe_c c_start hr (by first | decide | omega) rfl (pa_cons (pv 0) pa_nil)))
      (pss_cons (ps_for PassesOwn.never rfl (pi_range1 rfl T.range (pa_cons pe_int pa_nil)) (pg_name (i := 2) sc_law.nd rfl (by first | exact Or.inl rfl | exact Or.inr rfl)) (pss_cons (ps_asg (C8.pe_c c_rk_debate hr (by first | decide | omega) rfl (pa_cons (pv 1) (pa_cons pe_int pa_nil))) (pg_tupK (K := K) (n := 2) rfl (pgs_cons (pg_name (i := 3) sc_law.nd rfl (by first | exact Or.inl rfl | exact Or.inr rfl)) (pgs_cons (pg_name (i := 4) sc_law.nd rfl (by first | exact Or.inl rfl | exact Or.inr rfl)) pgs_nil))))
      (pss_cons (ps_asg (pe_tup (pa_cons (C8.pe_c c_rk_made hr (by first | decide | omega) rfl (pa_cons (pv 1) (pa_cons (pe_tup (pa_cons (pv 3) (pa_cons (pv 4) pa_nil))) pa_nil))) (pa_cons (C8.pe_c c_rk_ranks hr (by first | decide | omega) rfl (pa_cons (pv 3) (pa_cons (pv 4) pa_nil))) pa_nil))) (pg_tupK (K := K) (n := 2) rfl (pgs_cons (pg_name (i := 5) sc_law.nd rfl (by first | exact Or.inl rfl | exact Or.inr rfl)) (pgs_cons (pg_name (i := 6) sc_law.nd rfl (by first | exact Or.inl rfl | exact Or.inr rfl)) pgs_nil))))
      (pss_cons (ps_set (i := 7) sc_law.nd rfl (by first | exact Or.inl rfl | exact Or.inr rfl) (C8.pe_mk m_Debate hr (by first | decide | omega) rfl (pa_cons (C8.pe_c c_mixed hr (by first | decide | omega) rfl (pa_cons (pv 1) (pa_cons (pv 3) pa_nil))) (pa_cons (C8.pe_c c_mixed hr (by first | decide | omega) rfl (pa_cons (pv 1) (pa_cons (pv 4) pa_nil))) pa_nil))))
      (pss_cons (ps_for PassesOwn.never rfl (pi_seqK (K := K) (pv 3)) (pg_name (i := 8) sc_law.nd rfl (by first | exact Or.inl rfl | exact Or.inr rfl)) (pss_cons (ps_par (i := 9) (j := 10) rfl sc_law.nd rfl rfl (by decide) rfl rfl (pa_cons (C8.pe_c c_winning_defender hr (by first | decide | omega) rfl (pa_cons (pv 5) (pa_cons (pv 8) pa_nil))) (pa_cons (C8.pe_c c_winning_opposer hr (by first | decide | omega) rfl (pa_cons (pv 5) (pa_cons (pv 8) pa_nil))) pa_nil)) rfl)
      (pss_cons (ps_if (PW.pt (pw_or (pt_cmpR op_ne (pe_cmpR op_isN (pv 9) pe_non (nomark _)) (pe_cmp (pc_dnotin hu (pv 8) (pv 6))) (nomark _)) (pw_or1 (pt_cmpR op_eq (pe_cmpR op_isN (pv 10) pe_non (nomark _)) (pe_cmp (pc_dnotin hu (pv 8) (pv 6))) (nomark _))))) (pss_one (ps_ret pe_bl)) pss_nil)
      (pss_one (ps_if (pt_cmpR op_notN (pv 9) pe_non (nomark _)) (pss_cons (ps_if (pt_not (pt_val (pe_cZ z_wins hg hr (by first | decide | omega) rfl (pa_cons (pv 4) (pa_cons (pv 9) (pa_cons (pv 8) pa_nil)))))) (pss_one (ps_ret pe_bl)) pss_nil)
      (pss_cons (ps_set (i := 11) sc_law.nd rfl (by first | exact Or.inl rfl | exact Or.inr rfl) (C8.pe_c c_rk_talker hr (by first | decide | omega) rfl (pa_cons (pv 1) (pa_cons (pv 4) pa_nil))))
      (pss_cons (ps_par (i := 12) (j := 13) rfl sc_law.nd rfl rfl (by decide) rfl rfl (pa_cons (pe_cZ z_least_talk hg hr (by first | decide | omega) rfl (pa_cons (pv 5) (pa_cons (pv 8) (pa_cons (pv 9) (pa_cons (pv 11) pa_nil))))) (pa_cons (pe_cZ z_rk_run hg hr (by first | decide | omega) rfl (pa_cons (pv 4) (pa_cons (pv 8) (pa_cons (pv 9) (pa_cons (pv 11) pa_nil))))) pa_nil)) rfl)
      (pss_cons (ps_if (PW.pt (pw_or (pt_not (pt_val (C8.pe_c c_same hr (by first | decide | omega) rfl (pa_cons (pv 12) (pa_cons (pv 13) pa_nil))))) (pw_or1 (pt_cmpR op_ne (pe_ix (ix_K (K := K)) (pv 12) pe_int (fun _ _ => rfl)) pe_str (nomark _))))) (pss_one (ps_ret pe_bl)) pss_nil)
      (pss_cons (ps_set (i := 14) sc_law.nd rfl (by first | exact Or.inl rfl | exact Or.inr rfl) (C8.pe_c c_winning_defender hr (by first | decide | omega) rfl (pa_cons (pv 7) (pa_cons (pv 8) pa_nil))))
      (pss_one (ps_if (pt_not (pt_val (C8.pe_c c_same hr (by first | decide | omega) rfl (pa_cons (pe_cZ z_least_talk hg hr (by first | decide | omega) rfl (pa_cons (pv 5) (pa_cons (pv 8) (pa_cons (pv 14) (pa_cons (pv 11) pa_nil))))) (pa_cons (pv 13) pa_nil))))) (pss_one (ps_ret pe_bl)) pss_nil))))))) pss_nil)))))
      (pss_one (ps_for PassesOwn.never rfl (pi_seqK (K := K) (pe_tup (pa_cons pe_non (pa_cons pe_int (pa_cons pe_str (pa_cons pe_bl (pa_cons (pe_tup (pa_cons pe_str pa_nil)) (pa_cons pe_dnewK (pa_cons (pv 3) pa_nil))))))))) (pg_name (i := 15) sc_law.nd rfl (by first | exact Or.inl rfl | exact Or.inr rfl)) (pss_cons (ps_set (i := 16) sc_law.nd rfl (by first | exact Or.inl rfl | exact Or.inr rfl) (pe_lst (pa_cons (pe_met (q := "law" ++ ".<locals>.") F_met e_NoStatement TB hmT hmu rfl rfl hr (by first | decide | omega) (LamX.lamS_by (sc := defScope s_law) (by decide +kernel)) (fun A outer s H E f c' hl => (pe_lx x_winning_defender hl (by first | decide | omega) rfl (pa_cons (pv 5) (pa_cons (pv 15) pa_nil))))) pa_nil)))
      (pss_cons (ps_expr (pe_bmK (K := K) PySem.F.plainAttrs_list PySem.F.slot_list_append PySem.F.type_list_append mt_append (pv 16) (pa_cons (pe_met (q := "law" ++ ".<locals>.") F_met e_NoStatement TB hmT hmu rfl rfl hr (by first | decide | omega) (LamX.lamS_by (sc := defScope s_law) (by decide +kernel)) (fun A outer s H E f c' hl => (pe_lx x_winning_opposer hl (by first | decide | omega) rfl (pa_cons (pv 5) (pa_cons (pv 15) pa_nil))))) pa_nil)))
      (pss_one (ps_if (pt_not (pt_val (C8.pe_c c_same hr (by first | decide | omega) rfl (pa_cons (pv 16) (pa_cons (pe_op op_rep (pe_lst (pa_cons (pe_tup (pa_cons pe_str (pa_cons (pv 15) pa_nil))) pa_nil)) pe_int) pa_nil))))) (pss_one (ps_ret pe_bl)) pss_nil)))))))))))
      (pss_one (ps_ret pe_bl)))), ?_⟩
  refine ⟨_, rfl, a, ns, rfl, hS, hl, fun st c H1 hs hc s1 ne e1 e2 => ?_⟩
  refine gName_I ?_
  have a0 : At ⟨st, c, Tb⟩ (fun _ => none) 0 [] [none, some (cst (.ref st)), none, none, none, none, none, none, none, none, none, none, none, none, none, none, none] ([some (.ref a), some (.ref st), none, none, none, none, none, none, none, none, none, none, none, none, none, none, none]) H1 := ⟨fun _ => none, Same.refl _, ⟨rfl, fun i R e => by
    match i with
    | 0 => cases e
    | 1 => obtain rfl : cst (.ref st) = R := Option.some.inj (Option.some.inj e); exact ⟨_, rfl, rfl⟩
    | i + 2 =>
      have e : (List.replicate 15 (none : Option SR))[i]? = some (some R) := e
      rw [List.getElem?_replicate] at e
      split at e <;> cases e⟩, ⟨fun _ _ h => (by cases h), NoTb.none, t0.ext s1, ⟨ne, rfl, rfl, ns, 0, 11, 0, e1, e2, by decide, by decide, by decide, by decide, hl⟩, List.nodup_nil, fun q hq => (by cases hq)⟩⟩
  refine (?_ : HL ⟨st, c, Tb⟩ (fun _ => none) 0 [] [none, some (cst (.ref st)), none, none, none, none, none, none, none, none, none, none, none, none, none, none, none] _ _) _ _ a0
  clear a0
  refine hl_for (xs := List.range 4) (δ := Unit) (fun _ _ => True) (fun _ => []) (fun _ => [none, some (cst (.ref st)), none, none, none, none, none, none, none, none, none, none, none, none, none, none, none]) 2000 (eil_range1 (i := 4) el_int (by decide) (by decide)) () trivial rfl (fun G => (.no (.eq (.no (.no (.no (.no (.no (.no (.no (.no (.no (.no (.no (.no (.no (.no (.no .nil)))))))))))))))))) ?_ ?_ (by rw [List.length_range]; decide)
  · rintro i t dz D' G1 ht _ hrt s1 kn hn1
    refine ⟨_, _, gl_name, ?_⟩
    dsimp only [List.set]
    refine hl_asgX (k := 1100) (Rf := fun x => [none, some (cst (.ref st)), some (I (0 + (t : Nat))), some (Lst S x.1), some (Lst (PP K) x.2), none, none, none, none, none, none, none, none, none, none, none, none]) (el_rkd (z := 7) rfl (by decide) (by decide)) (fun x => gl_pr gl_name gl_name) fun ⟨ns, ps⟩ ⟨hR, hn0, hg⟩ => ?_
    dsimp only
    have hg : goodN ns := hg
    obtain ⟨⟨hnm, nd⟩, hnl, hps⟩ := id hR
    have nd : ns.Nodup := nd
    have hnl : ns.length ≤ 7 := hnl
    have hpl : ps.length ≤ 300 := hps.2.2
    have hpn : ps.Nodup := hps.1
    have hpm : ∀ p ∈ ps, p.1 ∈ ns ∧ p.2 ∈ ns := hps.2.1
    have hD : okD (ns, ps) := okR_D hR (by decide)
    have hps2 : (ns, ps).2.length = ps.length := rfl
    have hi4 : i < 4 := by
      have := (List.getElem?_eq_some_iff.mp ht).1
      rwa [List.length_range] at this
    refine hl_know 3 rfl fun hok => ?_
    have hB := okB_mk hD hok
    have hN : okN ns := ⟨nd, hok, by omega⟩
    have h12 : ∀ x ∈ ns, okS x = true ∧ x.length ≤ 12 := fun x hx => ⟨hok x hx, names10_len12 x (hg.2 x hx)⟩
    have h12d : ∀ x ∈ (mkD (ns, ps)).1, okS x = true ∧ x.length ≤ 12 := fun x hx => h12 x (mem_srt.mp hx)
    refine hl_asg (el_pr (e := DB K C) (f := Dct I) (x := mkD (ns, ps)) (y := lranks ns ps) (el_made' (W := ⟨st, c, Tb⟩) rfl (el_pr (el_var rfl) (el_var rfl)) hD) (el_rkr (W := ⟨st, c, Tb⟩) (k := 0) (m := 0) (el_var (i := 3) rfl) (el_var (i := 4) rfl) hN)) (gl_pr gl_name gl_name) ?_
    dsimp only [List.set]
    refine hl_set (k := 310) (R := DB K C (mkD (ns, ps))) (EG.le (el_mkDX (W := ⟨st, c, Tb⟩) (P := fun q : List Str × List (Str × Str) => q.1.Perm ns ∧ q.2.Perm ps) (f := fun q => q) (eal_XX (P := fun ys : List Str => ys.Perm ns) (P' := fun ys : List (Str × Str) => ys.Perm ps) (f := fun ys => Sq K S ys) (g := fun ys => Sq K (Pq K) ys) ((el_mix rfl (el_sqL (el_var (i := 3) rfl)) (by omega)).is fun v G ⟨ys, hy, hv⟩ => ⟨ys, hy, .inl hv⟩) ((el_mix rfl (el_sqL (el_var (i := 4) rfl)) (by omega)).is fun v G ⟨ys, hy, hv⟩ => ⟨ys, hy, pq_of hv⟩)) fun q hq => ⟨okD_perm hq.1 hq.2 hD, mkD_perm hq.1 hq.2⟩) (by omega)) ?_
    dsimp only [List.set]
    refine hl_for (k := 0) (e := S) (xs := ns) (δ := Unit) (fun _ _ => True) (fun _ => []) (fun _ => [none, some (cst (.ref st)), none, some (Lst S ns), some (Lst (PP K) ps), some (DB K C (mkD (ns, ps))), some (Dct I (lranks ns ps)), some (DB K C (mkD (ns, ps))), none, none, none, none, none, none, none, none, none]) 3 (eil_sq (el_sqL (el_var (i := 3) rfl))) () trivial rfl (fun G => (.no (.eq (.no (.eq (.eq (.eq (.eq (.eq (.no (.no (.no (.no (.no (.no (.no (.no (.no .nil)))))))))))))))))) ?_ ?_ (by omega)
    · rintro i2 x d2 D2 G2 hx _ hrt2 s2 kn2 hn2
      have hx : x ∈ ns := List.mem_of_getElem? hx
      have hxd : x ∈ (mkD (ns, ps)).1 := mem_srt.mpr hx
      refine ⟨_, _, gl_name, ?_⟩
      dsimp only [List.set]
      have hrk := isRk_law (ns := ns) (ps := ps) nd (x := x)
      refine hl_parC (k := 0) (m := 0) (elc_callm (W := ⟨st, c, Tb⟩) (k := 0) (ι := Deb × Str) (pre := fun i => [DB K C i.1, S i.2]) (ok := fun i => okB i.1 ∧ i.2 ∈ i.1.1) (Cs := fun i => WdC P w K mg base Tb (isRk i.1 i.2 != false) i.1.1 (dfnP i.1)) (mkD (ns, ps), x) (eal_cons (k := 0) (m := 0) (el_var (i := 5) rfl) (eal_cons (k := 0) (m := 0) (el_var (i := 8) rfl) eal_nil)) ⟨hB, hxd⟩) (fun O1 => elc_callm (W := ⟨st, c, Tb⟩) (k := 0) (ι := Deb × Str) (pre := fun i => [DB K C i.1, S i.2]) (ok := fun i => okB i.1 ∧ i.2 ∈ i.1.1) (Cs := fun i => WdC P w K mg base Tb (isRk i.1 i.2 != true) i.1.1 (oppP i.1)) (mkD (ns, ps), x) (eal_cons (k := 0) (m := 0) (el_var (i := 5) rfl) (eal_cons (k := 0) (m := 0) (el_var (i := 8) rfl) eal_nil)) ⟨hB, hxd⟩) fun R1 O1 R2 O2 hc1 hc2 => ?_
      dsimp only [List.set]
      have hc1 : WdC P w K mg base Tb (isRk (mkD (ns, ps)) x != false) (mkD (ns, ps)).1 (dfnP (mkD (ns, ps))) R1 O1 := hc1
      have hc2 : WdC P w K mg base Tb (isRk (mkD (ns, ps)) x != true) (mkD (ns, ps)).1 (oppP (mkD (ns, ps))) R2 O2 := hc2
      have hlam : ∀ (κ : CloD) v G, (LamV κ).p v G → decide (v = V.non) = false := fun κ v G h => decide_eq_false fun z => by rw [h.1] at z; cases z
      cases hb : isRk (mkD (ns, ps)) x with
      | false =>
        rw [hb] at hc1 hc2
        obtain ⟨rfl, rfl⟩ := hc1
        obtain ⟨κ2, tk2, rfl, rfl⟩ := hc2
        rw [hb] at hrk
        refine hl_ifF (k := 0) (etl_orF (k := 0) (m := 0) (ETL.eq (etl_test (el_neB (k := 0) (m := 0) (y := !decide (x ∈ (lranks ns ps).map (·.1))) (el_isN (c := true) (el_var (i := 9) rfl) fun v G h => decide_eq_true h) (el_notinK (k := 0) (m := 0) (el_var (i := 8) rfl) (el_ks (el_var (i := 6) rfl))))) (by rw [← hrk]; rfl)) (ETL.eq (etl_test (el_eqB (k := 0) (m := 0) (y := !decide (x ∈ (lranks ns ps).map (·.1))) (el_isN (c := false) (el_var (i := 10) rfl) (hlam _)) (el_notinK (k := 0) (m := 0) (el_var (i := 8) rfl) (el_ks (el_var (i := 6) rfl))))) (by rw [← hrk]; rfl))) ?_
        refine hl_last ?_
        refine hl_ifF (k := 0) (ETL.eq (etl_test (el_notN (c := true) (el_var (i := 9) rfl) fun v G h => decide_eq_true h)) rfl) ?_
        exact hl_nx fun σ H a => kn2 () σ H trivial (((a.drop (List.nil_sublist _)).weak fun G => (.no (.eq (.no (.eq (.eq (.eq (.eq (.eq (.no (.no (.no (.no (.no (.no (.no (.no (.no .nil)))))))))))))))))).le (by omega))
      | true =>
        rw [hb] at hc1 hc2
        obtain ⟨κ1, tk1, rfl, rfl⟩ := hc1
        obtain ⟨rfl, rfl⟩ := hc2
        rw [hb] at hrk
        have hxr : x ∈ (lranks ns ps).map (·.1) := of_decide_eq_true hrk.symm
        have tk1' : TkA P w K mg base Tb ns κ1 (dfnP (mkD (ns, ps))) := by
          have h := tk1
          rw [show (mkD (ns, ps)).1 = srt PyData.str ns from rfl] at h
          unfold TkA at h
          rw [okt_srt] at h
          exact h
        refine HL.perm (O' := κ1.own) ?_ (by simp)
        refine hl_ifF (k := 0) (etl_orF (k := 0) (m := 0) (ETL.eq (etl_test (el_neB (k := 0) (m := 0) (y := !decide (x ∈ (lranks ns ps).map (·.1))) (el_isN (c := false) (el_var (i := 9) rfl) (hlam _)) (el_notinK (k := 0) (m := 0) (el_var (i := 8) rfl) (el_ks (el_var (i := 6) rfl))))) (by rw [← hrk]; rfl)) (ETL.eq (etl_test (el_eqB (k := 0) (m := 0) (y := !decide (x ∈ (lranks ns ps).map (·.1))) (el_isN (c := true) (el_var (i := 10) rfl) fun v G h => decide_eq_true h) (el_notinK (k := 0) (m := 0) (el_var (i := 8) rfl) (el_ks (el_var (i := 6) rfl))))) (by rw [← hrk]; rfl))) ?_
        refine hl_last ?_
        refine hl_ifT (k := 0) (ETL.eq (etl_test (el_notN (c := false) (el_var (i := 9) rfl) (hlam _))) rfl) ?_
        refine hl_ifF (k := 0) (etl_notT (etl_B (el_win (W := ⟨st, c, Tb⟩) (O' := []) (ns := ns) (ps := ps) (s0 := x) (κ := κ1) (eal_cons (k := 0) (m := 0) (el_var (i := 4) rfl) (eal_cons (k := 0) (m := 0) (el_var (i := 9) rfl) (eal_cons (k := 0) (m := 0) (el_var (i := 8) rfl) eal_nil))) (by rw [List.append_nil]) ⟨nd, by omega, hpm, hpn, hx, hxr⟩ tk1'))) ?_
        refine hl_setC (k := 0 + 3) (elc_calll (W := ⟨st, c, Tb⟩) (j := 1) (k := 0) (ι := List Str × List (Str × Str)) (pre := fun i => [Lst (PP K) i.2]) (ok := fun i => ∀ x ∈ i.1, okS x = true ∧ x.length ≤ 12) (cost := fun _ => 3) (C := fun i => TlkC P w K mg base Tb i.1) ((mkD (ns, ps)).1, ps) rfl (eal_cons (k := 0) (m := 0) (el_var (i := 4) rfl) eal_nil) h12d) fun R4 O4 hc4 => ?_
        obtain ⟨κ4, A4, tk4, ok4, rfl, rfl⟩ := hc4
        dsimp only [List.set]
        obtain ⟨Tm, wy, te⟩ := talk_ends (D := dfnP (mkD (ns, ps))) (Op := A4) nd (by omega) hx hpm
        have hwho := defender_wins nd hpm hx hxr te
        have te2 : TalkE (mkD (ns, ps)).2 (dfnP (mkD (ns, ps))) A4 x Tm wy := te.cg fun p => mem_srt.symm
        generalize hsd : talkS (dfnP (mkD (ns, ps))) A4 x Tm = said at *
        have hokD : ∀ κ, TkA P w K mg base Tb (mkD (ns, ps)).1 κ (dfnP (mkD (ns, ps))) → okTk K (TkA P w K mg base Tb (mkD (ns, ps)).1) (mkD (ns, ps)).1 (mkD (ns, ps)).2 x κ κ4 (dfnP (mkD (ns, ps))) A4 Tm wy := fun κ tk => ⟨tk, tk4, fun _ _ => ansO_ok _, ok4, hxd, hB.pm, te2⟩
        have hokL : okTk K (TkA P w K mg base Tb (mkD (ns, ps)).1) (mkD (ns, ps)).1 ps x κ1 κ4 (dfnP (mkD (ns, ps))) A4 Tm wy := ⟨tk1, tk4, fun _ _ => ansO_ok _, ok4, hxd, fun p hp => ⟨mem_srt.mpr (hpm p hp).1, mem_srt.mpr (hpm p hp).2⟩, te⟩
        have hp1 : (κ4.own ++ κ1.own).Perm (κ1.own ++ (κ4.own ++ [])) := by rw [List.append_nil]; exact List.perm_append_comm
        refine hl_par (k := 0) (m := 0) (R1 := TalkR K said wy) (R2 := TalkR K said wy) (hsd ▸ elc_tr (elc_talk (W := ⟨st, c, Tb⟩) (k := 0) (b := mkD (ns, ps)) (eal_cons (k := 0) (m := 0) (el_var (i := 5) rfl) (eal_cons (k := 0) (m := 0) (el_var (i := 8) rfl) (eal_cons (k := 0) (m := 0) (el_var (i := 9) rfl) (eal_cons (k := 0) (m := 0) (el_var (i := 11) rfl) eal_nil)))) hp1 hB (hokD κ1 tk1))) (hsd ▸ elc_tr (elc_talk (W := ⟨st, c, Tb⟩) (k := 0) (b := ((mkD (ns, ps)).1, ps)) (eal_cons (k := 0) (m := 0) (el_var (i := 4) rfl) (eal_cons (k := 0) (m := 0) (el_var (i := 8) rfl) (eal_cons (k := 0) (m := 0) (el_var (i := 9) rfl) (eal_cons (k := 0) (m := 0) (el_var (i := 11) rfl) eal_nil)))) hp1 trivial hokL)) ?_
        dsimp only [List.set]
        refine hl_ifF (k := 0) (etl_orF (k := 0) (m := 0) (etl_notT (etl_B (el_sameD (n := 5) (R := TalkR K said wy) (el_var (i := 12) rfl) (el_var (i := 13) rfl) sm_talk))) (ETL.eq (etl_test (el_neS (k := 0) (m := 0) (x := whoT said) (y := "defender") (el_ixT (k := 0) (m := 0) (j := 1) (e := fun R : SR => R) (xs := [Lst S said, S (whoT said), S wy]) (a := S (whoT said)) (el_var (i := 12) rfl) el_int rfl rfl) (el_str (i := "defender")))) (by rw [hwho]; rfl))) ?_
        refine hl_setC (k := 0) (elc_callm (W := ⟨st, c, Tb⟩) (k := 0) (ι := Deb × Str) (pre := fun i => [DB K C i.1, S i.2]) (ok := fun i => okB i.1 ∧ i.2 ∈ i.1.1) (Cs := fun i => WdC P w K mg base Tb (isRk i.1 i.2 != false) i.1.1 (dfnP i.1)) (mkD (ns, ps), x) (eal_cons (k := 0) (m := 0) (el_var (i := 7) rfl) (eal_cons (k := 0) (m := 0) (el_var (i := 8) rfl) eal_nil)) ⟨hB, hxd⟩) fun R3 O3 hc3 => ?_
        have hc3 : WdC P w K mg base Tb (isRk (mkD (ns, ps)) x != false) (mkD (ns, ps)).1 (dfnP (mkD (ns, ps))) R3 O3 := hc3
        rw [hb] at hc3
        obtain ⟨κ3, tk3, rfl, rfl⟩ := hc3
        dsimp only [List.set]
        refine hl_last ?_
        refine hl_ifF (k := 0) (etl_notT (etl_B (el_sameD (n := 5) (R := TalkR K said wy) (hsd ▸ elc_tr (elc_talk (W := ⟨st, c, Tb⟩) (k := 0) (b := mkD (ns, ps)) (eal_cons (k := 0) (m := 0) (el_var (i := 5) rfl) (eal_cons (k := 0) (m := 0) (el_var (i := 8) rfl) (eal_cons (k := 0) (m := 0) (el_var (i := 14) rfl) (eal_cons (k := 0) (m := 0) (el_var (i := 11) rfl) eal_nil)))) (List.Perm.refl _) hB (hokD κ3 tk3))) (el_var (i := 13) rfl) sm_talk))) ?_
        exact hl_nx fun σ H a => kn2 () σ H trivial (((a.drop (List.nil_sublist _)).weak fun G => (.no (.eq (.no (.eq (.eq (.eq (.eq (.eq (.no (.no (.no (.no (.no (.no (.no (.no (.no .nil)))))))))))))))))).le (by omega))
    · rintro _ _
      refine hl_last ?_
      refine hl_for (k := 0) (e := fun R : SR => R) (xs := oddsT K ns) (δ := Unit) (fun _ _ => True) (fun _ => []) (fun _ => [none, some (cst (.ref st)), none, some (Lst S ns), none, some (DB K C (mkD (ns, ps))), none, none, none, none, none, none, none, none, none, none, none]) 0 (eil_sq (el_sqT (el_tpl (oddsT K ns) (eal_cons (k := 0) (m := 0) el_non (eal_cons (k := 0) (m := 0) el_int (eal_cons (k := 0) (m := 0) (el_str (i := "none")) (eal_cons (k := 0) (m := 0) el_bl (eal_cons (k := 0) (m := 0) (el_tpl (e := S) ["a"] (eal_cons (k := 0) (m := 0) (el_str (i := "a")) eal_nil) (by simp)) (eal_cons (k := 0) (m := 0) el_dnew0 (eal_cons (k := 0) (m := 0) (el_var (i := 3) rfl) eal_nil))))))) (by show 7 ≤ 100000; decide)))) () trivial rfl (fun G => (.no (.eq (.no (.eq (.no (.eq (.no (.no (.no (.no (.no (.no (.no (.no (.no (.no (.no .nil)))))))))))))))))) ?_ ?_ (by omega)
      · rintro i2 R d2 D2 G2 hx _ hrt2 s2 kn2 hn2
        have hR := List.mem_of_getElem? hx
        have hStX : StX K (mkD (ns, ps)).1 R := oddsT_are (fun y hy => hg.2 y (mem_srt.mp hy)) R hR
        refine ⟨_, _, gl_name, ?_⟩
        dsimp only [List.set]
        refine hl_setN (k := 0) (eln_lst (e := fun R : SR => R) [PW K "none" R] (eal_cons (k := 0) (m := 0) (el_metX (W := ⟨st, c, Tb⟩) (ι := Deb × SR) (val := fun i => i.2) (mkD (ns, ps), R) (eal_cons (k := 0) (m := 0) (el_var (i := 5) rfl) (eal_cons (k := 0) (m := 0) (el_var (i := 15) rfl) eal_nil)) ⟨hB, hStX⟩) eal_nil) (by show 1 ≤ 100000; decide)) fun p => ?_
        dsimp only [List.set]
        refine hl_push (i := 16) (k := 0) (e := fun R : SR => R) (a := PW K "none" R) rfl (el_metX (W := ⟨st, c, Tb⟩) (ι := Deb × SR) (val := fun i => i.2) (mkD (ns, ps), R) (eal_cons (k := 0) (m := 0) (el_var (i := 5) rfl) (eal_cons (k := 0) (m := 0) (el_var (i := 15) rfl) eal_nil)) ⟨hB, hStX⟩) (by show 1 ≤ 100000; decide) ?_
        refine hl_frzL (i := 16) rfl ?_
        dsimp only [List.set]
        refine hl_last ?_
        refine hl_ifF (k := 0) (etl_notT (etl_B (el_sameD (n := 5) (R := Lst (fun R : SR => R) [PW K "none" R, PW K "none" R]) (el_var (i := 16) rfl) (ELN.el (eln_twice (e := fun R : SR => R) (a := PW K "none" R) (ELN.el (eln_lst (e := fun R : SR => R) [PW K "none" R] (eal_cons (k := 0) (m := 0) (el_pr (k := 0) (m := 0) (e := S) (f := fun R : SR => R) (x := "none") (y := R) el_str (el_var (i := 15) rfl)) eal_nil) (by show 1 ≤ 100000; decide))))) (SmS.l fun R' hR' => ?_)))) ?_
        · have : R' = PW K "none" R := by
            simp only [List.mem_cons, List.not_mem_nil, or_false, or_self] at hR'
            exact hR'
          rw [this]
          exact SmS.p (SmS.s _) (oddsT_sm R hR)
        · exact hl_nx fun σ H a => kn2 () σ H trivial ((a.weak fun G => (.no (.eq (.no (.eq (.no (.eq (.no (.no (.no (.no (.no (.no (.no (.no (.no (.no (.no .nil)))))))))))))))))).le (by omega))
      · rintro _ _
        exact hl_nx fun σ H a => kn () σ H trivial ((a.weak fun G => (.no (.eq (.no (.no (.no (.no (.no (.no (.no (.no (.no (.no (.no (.no (.no (.no (.no .nil)))))))))))))))))).le (by omega))
  · rintro _ _
    rw [List.length_range]
    refine hl_ret (k := 0) (R := B true) el_bl fun v G2 H2 s2 w2 p => ?_
    obtain rfl : v = .bl true := p
    exact k H2
end
end Gd
-- part R1
set_option Elab.async false
set_option linter.all false
set_option maxRecDepth 100000
set_option maxHeartbeats 4000000
namespace Gd
open PySem PySem.Spec PyProof.Rows L2
theorem all_mk {l : PySem.W.OpenLaw} {w : World} {K : PySem.W.Frag} {h : Heap} {mg : Str → Option Value} {fa cc0 Pt0 cc1 Pt1 cc2 Pt2 cc3 Pt3 C CB CM CE : Addr} (X : K.In h) (G : h.Ns mainGlobals mg) (hfa : mg "law" = some (.ref fa)) (TT0 : h.get? Pt0 = some (PySem.W.tabObj #[])) (TT1 : h.get? Pt1 = some (PySem.W.tabObj #[])) (TT2 : h.get? Pt2 = some (PySem.W.tabObj #[])) (TT3 : h.get? Pt3 = some (PySem.W.tabObj #[]))
    {t1 t2 : Tok}
    {f0 : Addr} {od0 an0 : Option Addr} {sl0 : Array (Option Value)} {oc0 kV0 dc0 pm0 cd0 ct0 : Value}
    {f1 : Addr} {od1 an1 : Option Addr} {sl1 : Array (Option Value)} {oc1 kV1 dc1 pm1 cd1 ct1 : Value}
    {f2 : Addr} {od2 an2 : Option Addr} {sl2 : Array (Option Value)} {oc2 kV2 dc2 pm2 cd2 ct2 : Value}
    {f3 : Addr} {od3 an3 : Option Addr} {sl3 : Array (Option Value)} {oc3 kV3 dc3 pm3 cd3 ct3 : Value}
    {f4 : Addr} {od4 an4 : Option Addr} {sl4 : Array (Option Value)} {oc4 kV4 dc4 pm4 cd4 ct4 : Value}
    {f5 : Addr} {od5 an5 : Option Addr} {sl5 : Array (Option Value)} {oc5 kV5 dc5 pm5 cd5 ct5 : Value}
    {f6 : Addr} {od6 an6 : Option Addr} {sl6 : Array (Option Value)} {oc6 kV6 dc6 pm6 cd6 ct6 : Value}
    {f7 : Addr} {od7 an7 : Option Addr} {sl7 : Array (Option Value)} {oc7 kV7 dc7 pm7 cd7 ct7 : Value}
    {f8 : Addr} {od8 an8 : Option Addr} {sl8 : Array (Option Value)} {oc8 kV8 dc8 pm8 cd8 ct8 : Value}
    {f9 : Addr} {od9 an9 : Option Addr} {sl9 : Array (Option Value)} {oc9 kV9 dc9 pm9 cd9 ct9 : Value}
    {f10 : Addr} {od10 an10 : Option Addr} {sl10 : Array (Option Value)} {oc10 kV10 dc10 pm10 cd10 ct10 : Value}
    {f11 : Addr} {od11 an11 : Option Addr} {sl11 : Array (Option Value)} {oc11 kV11 dc11 pm11 cd11 ct11 : Value}
    {f12 : Addr} {od12 an12 : Option Addr} {sl12 : Array (Option Value)} {oc12 kV12 dc12 pm12 cd12 ct12 : Value}
    {f13 : Addr} {od13 an13 : Option Addr} {sl13 : Array (Option Value)} {oc13 kV13 dc13 pm13 cd13 ct13 : Value}
    {f14 : Addr} {od14 an14 : Option Addr} {sl14 : Array (Option Value)} {oc14 kV14 dc14 pm14 cd14 ct14 : Value}
    {f15 : Addr} {od15 an15 : Option Addr} {sl15 : Array (Option Value)} {oc15 kV15 dc15 pm15 cd15 ct15 : Value}
    {f16 : Addr} {od16 an16 : Option Addr} {sl16 : Array (Option Value)} {oc16 kV16 dc16 pm16 cd16 ct16 : Value}
    {f17 : Addr} {od17 an17 : Option Addr} {sl17 : Array (Option Value)} {oc17 kV17 dc17 pm17 cd17 ct17 : Value}
    {f18 : Addr} {od18 an18 : Option Addr} {sl18 : Array (Option Value)} {oc18 kV18 dc18 pm18 cd18 ct18 : Value}
    {f19 : Addr} {od19 an19 : Option Addr} {sl19 : Array (Option Value)} {oc19 kV19 dc19 pm19 cd19 ct19 : Value}
    {f20 : Addr} {od20 an20 : Option Addr} {sl20 : Array (Option Value)} {oc20 kV20 dc20 pm20 ct20 : Value}
    {f21 : Addr} {od21 an21 : Option Addr} {sl21 : Array (Option Value)} {oc21 kV21 dc21 pm21 ct21 : Value}
    {f22 : Addr} {od22 an22 : Option Addr} {sl22 : Array (Option Value)} {oc22 kV22 dc22 pm22 cd22 ct22 : Value}
    {f23 : Addr} {od23 an23 : Option Addr} {sl23 : Array (Option Value)} {oc23 kV23 dc23 pm23 cd23 ct23 : Value}
    {f24 : Addr} {od24 an24 : Option Addr} {sl24 : Array (Option Value)} {oc24 kV24 dc24 pm24 cd24 ct24 : Value}
    {f25 : Addr} {od25 an25 : Option Addr} {sl25 : Array (Option Value)} {oc25 kV25 dc25 pm25 cd25 ct25 : Value}
    {f26 : Addr} {od26 an26 : Option Addr} {sl26 : Array (Option Value)} {oc26 kV26 dc26 pm26 cd26 ct26 : Value}
    {f27 : Addr} {od27 an27 : Option Addr} {sl27 : Array (Option Value)} {oc27 kV27 dc27 pm27 cd27 ct27 : Value}
    {f28 : Addr} {od28 an28 : Option Addr} {sl28 : Array (Option Value)} {oc28 kV28 dc28 pm28 cd28 ct28 : Value}
    {f29 : Addr} {od29 an29 : Option Addr} {sl29 : Array (Option Value)} {oc29 kV29 dc29 pm29 cd29 ct29 : Value}
    {f30 : Addr} {od30 an30 : Option Addr} {sl30 : Array (Option Value)} {oc30 kV30 dc30 pm30 cd30 ct30 : Value}
    {f31 : Addr} {od31 an31 : Option Addr} {sl31 : Array (Option Value)} {oc31 kV31 dc31 pm31 cd31 ct31 : Value}
    {f32 : Addr} {od32 an32 : Option Addr} {sl32 : Array (Option Value)} {oc32 kV32 dc32 pm32 cd32 ct32 : Value}
    {f33 : Addr} {od33 an33 : Option Addr} {sl33 : Array (Option Value)} {oc33 kV33 dc33 pm33 cd33 ct33 : Value}
    {f34 : Addr} {od34 an34 : Option Addr} {sl34 : Array (Option Value)} {oc34 kV34 dc34 pm34 cd34 ct34 : Value}
    {f35 : Addr} {od35 an35 : Option Addr} {sl35 : Array (Option Value)} {oc35 kV35 dc35 pm35 cd35 ct35 : Value}
    {f36 : Addr} {od36 an36 : Option Addr} {sl36 : Array (Option Value)} {oc36 kV36 dc36 pm36 cd36 ct36 : Value}
    {f37 : Addr} {od37 an37 : Option Addr} {sl37 : Array (Option Value)} {oc37 kV37 dc37 pm37 cd37 ct37 : Value}
    {f38 : Addr} {od38 an38 : Option Addr} {sl38 : Array (Option Value)} {oc38 kV38 dc38 pm38 cd38 ct38 : Value}
    {f39 : Addr} {od39 an39 : Option Addr} {sl39 : Array (Option Value)} {oc39 kV39 dc39 pm39 cd39 ct39 : Value}
    {f40 : Addr} {od40 an40 : Option Addr} {sl40 : Array (Option Value)} {oc40 kV40 dc40 pm40 cd40 ct40 : Value}
    {f41 : Addr} {od41 an41 : Option Addr} {sl41 : Array (Option Value)} {oc41 kV41 dc41 pm41 cd41 ct41 : Value}
    {f42 : Addr} {od42 an42 : Option Addr} {sl42 : Array (Option Value)} {oc42 kV42 dc42 pm42 cd42 ct42 : Value}
    {f43 : Addr} {od43 an43 : Option Addr} {sl43 : Array (Option Value)} {oc43 kV43 dc43 pm43 ct43 : Value}
    {f44 : Addr} {od44 an44 : Option Addr} {sl44 : Array (Option Value)} {oc44 kV44 dc44 pm44 cd44 ct44 : Value}
    {f45 : Addr} {od45 an45 : Option Addr} {sl45 : Array (Option Value)} {oc45 kV45 dc45 pm45 cd45 ct45 : Value}
    {f46 : Addr} {od46 an46 : Option Addr} {sl46 : Array (Option Value)} {oc46 kV46 dc46 pm46 ct46 : Value}
    {fI : Addr} {odMI anMI : Option Addr} {slMI : Array (Option Value)} {ocMI kVMI dcMI pmMI cdMI ctMI : Value}
    {fE : Addr} {odME anME : Option Addr} {slME : Array (Option Value)} {ocME kVME dcME pmME cdME ctME : Value}
    {xBnm xBq : Str} {xBN : Addr} {xBbs xBbm xBsub : List Value} {xBsn : List Str} {xBab : Bool} {xBcol : Option Bool} {xBdd : Option Addr} {xBm0 xBm1 xBm2 xBm3 xBm5 : Option Value}
    {fB : Addr} {odMB anMB : Option Addr} {slMB : Array (Option Value)} {ocMB kVMB dcMB pmMB cdMB ctMB : Value}
    (cH0 : PySem.W.codeHdIn K cc0 Pt0 = true)
    (nP0 : K.lookup Pt0 = none)
    (cH1 : PySem.W.codeHdIn K cc1 Pt1 = true)
    (nP1 : K.lookup Pt1 = none)
    (cH2 : PySem.W.codeHdIn K cc2 Pt2 = true)
    (nP2 : K.lookup Pt2 = none)
    (cH3 : PySem.W.codeHdIn K cc3 Pt3 = true)
    (nP3 : K.lookup Pt3 = none)
    (aC : PySem.W.nsIn K mainGlobals "Debate" = some (some (.ref C)))
    (aI : PySem.W.findIn K (.ref C) "__init__" = some (some (.ref fI)))
    (lI : K.lookup fI = some ⟨ocMI, odMI, .func (PySem.W.fnOf "__init__" "Debate.__init__" (defArgs s_Debate_init) (defBody s_Debate_init) (defScope s_Debate_init) .none kVMI dcMI pmMI anMI cdMI ctMI), slMI⟩)
    (cI : PySem.W.codeIn K cdMI "Debate.__init__" = true)
    (kI : PySem.W.keepIn K (.ref fI) = true)
    (iI : PySem.W.isFn K (.ref fI) = true)
    (aE : PySem.W.findIn K (.ref C) "__eq__" = some (some (.ref fE)))
    (lE : K.lookup fE = some ⟨ocME, odME, .func (PySem.W.fnOf "__eq__" "Debate.__eq__" (defArgs s_Debate_eq) (defBody s_Debate_eq) (defScope s_Debate_eq) .none kVME dcME pmME anME cdME ctME), slME⟩)
    (cE : PySem.W.codeIn K cdME "Debate.__eq__" = true)
    (kE : PySem.W.keepIn K (.ref fE) = true)
    (iE : PySem.W.isFn K (.ref fE) = true)
    (pg : PySem.W.plainGet K C Str.empty = true)
    (hd : PySem.W.hasDictIn K C = true)
    (po : PySem.W.plainOver K C = true)
    (sa : PySem.W.findIn K (.ref C) "__setattr__" = some (some (.builtin "object.__setattr__")))
    (mk : PySem.W.makesIn K C = true)
    (kc : PySem.W.keepIn K (.ref C) = true)
    (nS : PySem.W.findIn K (.ref C) "own_statements" = some none)
    (nO : PySem.W.findIn K (.ref C) "own_objections" = some none)
    (nT : PySem.W.findIn K (.ref C) "own_objectors" = some none)
    (nF : PySem.W.findIn K (.ref C) "own_objected" = some none)
    (cA : PySem.W.findIn K (.ref C) "__class__" = some (some (.builtin "object.__class__")))
    (cN : PySem.W.specialIn K (.builtin "object.__class__") "__get__" = some (some (.builtin "getset_descriptor.__get__")))
    (cT : PySem.W.takesIn K (.builtin "object.__class__") = some true)
    (cM : PySem.W.mroIn K C (.type "object") = some true)
    (cS : PySem.W.kitOne K (.ref C) (.ref C) = some true)
    (ks : PySem.W.kitOne K (.ref C) (.type "str") = some false)
    (kl : PySem.W.kitOne K (.ref C) (.type "list") = some false)
    (kt : PySem.W.kitOne K (.ref C) (.type "tuple") = some false)
    (ki : PySem.W.kitOne K (.ref C) (.type "int") = some false)
    (kd : PySem.W.kitOne K (.ref C) (.type "dict") = some false)
    (xBC : PySem.W.nsIn K mainGlobals "NoStatement" = some (some (.ref CB)))
    (xBL : K.lookup CB = some (excClassObj xBnm xBq CB xBN xBbs xBbm true xBsn xBsub xBab xBcol xBdd xBm0 xBm1 xBm2 xBm3 xBm5 "ValueError.__new__"))
    (xBR : PySem.HandSPX.refsVE xBbm = true)
    (xBS : PySem.W.findIn K (.ref CB) "__setattr__" = some (some (.builtin "object.__setattr__")))
    (xBG : PySem.W.findIn K (.ref CB) "__getattribute__" = some (some (.builtin "BaseException.__getattribute__")))
    (xBH : PySem.W.findIn K (.ref CB) "__getattr__" = some none)
    (xBF : PySem.W.findIn K (.ref CB) "thing" = some none)
    (xBE : PySem.W.subIn K (.ref CB) (.type "BaseException") = some true)
    (xBT : PySem.W.typeIn K (.ref CB) = some (.type "type"))
    (xBK : PySem.W.keepIn K (.ref CB) = true)
    (xBD : PySem.W.hasDictIn K CB = true)
    (xBO : PySem.W.exmOne K (.ref CB) (.ref CB) = some true)
    (aB : PySem.W.findIn K (.ref CB) "__init__" = some (some (.ref fB)))
    (lB : K.lookup fB = some ⟨ocMB, odMB, .func (PySem.W.fnOf "__init__" "NoStatement.__init__" (defArgs s_NoStatement_init) (defBody s_NoStatement_init) (defScope s_NoStatement_init) .none kVMB dcMB pmMB anMB cdMB ctMB), slMB⟩)
    (cB : PySem.W.codeIn K cdMB "NoStatement.__init__" = true)
    (kB : PySem.W.keepIn K (.ref fB) = true)
    (tB : PySem.W.typeIn K (.ref fB) = some (.type "function"))
    (mC : PySem.W.nsIn K mainGlobals "Made" = some (some (.ref CM)))
    (eC : PySem.W.nsIn K mainGlobals "DebateError" = some (some (.ref CE)))
    (kfM : PySem.W.kitOne K (.type "function") (.ref CM) = some false)
    (kfE : PySem.W.kitOne K (.type "function") (.ref CE) = some false)
    (gS : PySem.W.nsIn K mainGlobals "SMALL" = some (some (.str "abcdefghijklmnopqrstuvwxyz" t1)))
    (gF : PySem.W.nsIn K mainGlobals "FIGURES" = some (some (.str "0123456789" t2)))
    (a0 : PySem.W.nsIn K mainGlobals "is_list" = some (some (.ref f0)))
    (l0 : K.lookup f0 = some ⟨oc0, od0, .func (PySem.W.fnOf "is_list" "is_list" (defArgs s_is_list) (defBody s_is_list) (defScope s_is_list) .none kV0 dc0 pm0 an0 cd0 ct0), sl0⟩)
    (c0 : PySem.W.codeIn K cd0 "is_list" = true)
    (k0 : PySem.W.keepIn K (.ref f0) = true)
    (a1 : PySem.W.nsIn K mainGlobals "is_name" = some (some (.ref f1)))
    (l1 : K.lookup f1 = some ⟨oc1, od1, .func (PySem.W.fnOf "is_name" "is_name" (defArgs s_is_name) (defBody s_is_name) (defScope s_is_name) .none kV1 dc1 pm1 an1 cd1 ct1), sl1⟩)
    (c1 : PySem.W.codeIn K cd1 "is_name" = true)
    (k1 : PySem.W.keepIn K (.ref f1) = true)
    (a2 : PySem.W.nsIn K mainGlobals "as_tuples" = some (some (.ref f2)))
    (l2 : K.lookup f2 = some ⟨oc2, od2, .func (PySem.W.fnOf "as_tuples" "as_tuples" (defArgs s_as_tuples) (defBody s_as_tuples) (defScope s_as_tuples) .none kV2 dc2 pm2 an2 cd2 ct2), sl2⟩)
    (c2 : PySem.W.codeIn K cd2 "as_tuples" = true)
    (k2 : PySem.W.keepIn K (.ref f2) = true)
    (a3 : PySem.W.nsIn K mainGlobals "checked_statements" = some (some (.ref f3)))
    (l3 : K.lookup f3 = some ⟨oc3, od3, .func (PySem.W.fnOf "checked_statements" "checked_statements" (defArgs s_checked_statements) (defBody s_checked_statements) (defScope s_checked_statements) .none kV3 dc3 pm3 an3 cd3 ct3), sl3⟩)
    (c3 : PySem.W.codeIn K cd3 "checked_statements" = true)
    (k3 : PySem.W.keepIn K (.ref f3) = true)
    (a4 : PySem.W.nsIn K mainGlobals "is_pair_of" = some (some (.ref f4)))
    (l4 : K.lookup f4 = some ⟨oc4, od4, .func (PySem.W.fnOf "is_pair_of" "is_pair_of" (defArgs s_is_pair_of) (defBody s_is_pair_of) (defScope s_is_pair_of) .none kV4 dc4 pm4 an4 cd4 ct4), sl4⟩)
    (c4 : PySem.W.codeIn K cd4 "is_pair_of" = true)
    (k4 : PySem.W.keepIn K (.ref f4) = true)
    (a5 : PySem.W.nsIn K mainGlobals "checked_objections" = some (some (.ref f5)))
    (l5 : K.lookup f5 = some ⟨oc5, od5, .func (PySem.W.fnOf "checked_objections" "checked_objections" (defArgs s_checked_objections) (defBody s_checked_objections) (defScope s_checked_objections) .none kV5 dc5 pm5 an5 cd5 ct5), sl5⟩)
    (c5 : PySem.W.codeIn K cd5 "checked_objections" = true)
    (k5 : PySem.W.keepIn K (.ref f5) = true)
    (a6 : PySem.W.nsIn K mainGlobals "checked_statement" = some (some (.ref f6)))
    (l6 : K.lookup f6 = some ⟨oc6, od6, .func (PySem.W.fnOf "checked_statement" "checked_statement" (defArgs s_checked_statement) (defBody s_checked_statement) (defScope s_checked_statement) .none kV6 dc6 pm6 an6 cd6 ct6), sl6⟩)
    (c6 : PySem.W.codeIn K cd6 "checked_statement" = true)
    (k6 : PySem.W.keepIn K (.ref f6) = true)
    (a7 : PySem.W.nsIn K mainGlobals "hit_by" = some (some (.ref f7)))
    (l7 : K.lookup f7 = some ⟨oc7, od7, .func (PySem.W.fnOf "hit_by" "hit_by" (defArgs s_hit_by) (defBody s_hit_by) (defScope s_hit_by) .none kV7 dc7 pm7 an7 cd7 ct7), sl7⟩)
    (c7 : PySem.W.codeIn K cd7 "hit_by" = true)
    (k7 : PySem.W.keepIn K (.ref f7) = true)
    (a8 : PySem.W.nsIn K mainGlobals "answered_in" = some (some (.ref f8)))
    (l8 : K.lookup f8 = some ⟨oc8, od8, .func (PySem.W.fnOf "answered_in" "answered_in" (defArgs s_answered_in) (defBody s_answered_in) (defScope s_answered_in) .none kV8 dc8 pm8 an8 cd8 ct8), sl8⟩)
    (c8 : PySem.W.codeIn K cd8 "answered_in" = true)
    (k8 : PySem.W.keepIn K (.ref f8) = true)
    (a9 : PySem.W.nsIn K mainGlobals "least_lot" = some (some (.ref f9)))
    (l9 : K.lookup f9 = some ⟨oc9, od9, .func (PySem.W.fnOf "least_lot" "least_lot" (defArgs s_least_lot) (defBody s_least_lot) (defScope s_least_lot) .none kV9 dc9 pm9 an9 cd9 ct9), sl9⟩)
    (c9 : PySem.W.codeIn K cd9 "least_lot" = true)
    (k9 : PySem.W.keepIn K (.ref f9) = true)
    (a10 : PySem.W.nsIn K mainGlobals "first_doubt" = some (some (.ref f10)))
    (l10 : K.lookup f10 = some ⟨oc10, od10, .func (PySem.W.fnOf "first_doubt" "first_doubt" (defArgs s_first_doubt) (defBody s_first_doubt) (defScope s_first_doubt) .none kV10 dc10 pm10 an10 cd10 ct10), sl10⟩)
    (c10 : PySem.W.codeIn K cd10 "first_doubt" = true)
    (k10 : PySem.W.keepIn K (.ref f10) = true)
    (a11 : PySem.W.nsIn K mainGlobals "greatest_doubt" = some (some (.ref f11)))
    (l11 : K.lookup f11 = some ⟨oc11, od11, .func (PySem.W.fnOf "greatest_doubt" "greatest_doubt" (defArgs s_greatest_doubt) (defBody s_greatest_doubt) (defScope s_greatest_doubt) .none kV11 dc11 pm11 an11 cd11 ct11), sl11⟩)
    (c11 : PySem.W.codeIn K cd11 "greatest_doubt" = true)
    (k11 : PySem.W.keepIn K (.ref f11) = true)
    (a12 : PySem.W.nsIn K mainGlobals "stages" = some (some (.ref f12)))
    (l12 : K.lookup f12 = some ⟨oc12, od12, .func (PySem.W.fnOf "stages" "stages" (defArgs s_stages) (defBody s_stages) (defScope s_stages) .none kV12 dc12 pm12 an12 cd12 ct12), sl12⟩)
    (c12 : PySem.W.codeIn K cd12 "stages" = true)
    (k12 : PySem.W.keepIn K (.ref f12) = true)
    (a13 : PySem.W.nsIn K mainGlobals "known_ranks" = some (some (.ref f13)))
    (l13 : K.lookup f13 = some ⟨oc13, od13, .func (PySem.W.fnOf "known_ranks" "known_ranks" (defArgs s_known_ranks) (defBody s_known_ranks) (defScope s_known_ranks) .none kV13 dc13 pm13 an13 cd13 ct13), sl13⟩)
    (c13 : PySem.W.codeIn K cd13 "known_ranks" = true)
    (k13 : PySem.W.keepIn K (.ref f13) = true)
    (a14 : PySem.W.nsIn K mainGlobals "is_function" = some (some (.ref f14)))
    (l14 : K.lookup f14 = some ⟨oc14, od14, .func (PySem.W.fnOf "is_function" "is_function" (defArgs s_is_function) (defBody s_is_function) (defScope s_is_function) .none kV14 dc14 pm14 an14 cd14 ct14), sl14⟩)
    (c14 : PySem.W.codeIn K cd14 "is_function" = true)
    (k14 : PySem.W.keepIn K (.ref f14) = true)
    (a15 : PySem.W.nsIn K mainGlobals "check_talker" = some (some (.ref f15)))
    (l15 : K.lookup f15 = some ⟨oc15, od15, .func (PySem.W.fnOf "check_talker" "check_talker" (defArgs s_check_talker) (defBody s_check_talker) (defScope s_check_talker) .none kV15 dc15 pm15 an15 cd15 ct15), sl15⟩)
    (c15 : PySem.W.codeIn K cd15 "check_talker" = true)
    (k15 : PySem.W.keepIn K (.ref f15) = true)
    (a16 : PySem.W.nsIn K mainGlobals "why_lost" = some (some (.ref f16)))
    (l16 : K.lookup f16 = some ⟨oc16, od16, .func (PySem.W.fnOf "why_lost" "why_lost" (defArgs s_why_lost) (defBody s_why_lost) (defScope s_why_lost) .none kV16 dc16 pm16 an16 cd16 ct16), sl16⟩)
    (c16 : PySem.W.codeIn K cd16 "why_lost" = true)
    (k16 : PySem.W.keepIn K (.ref f16) = true)
    (a17 : PySem.W.nsIn K mainGlobals "run_talk" = some (some (.ref f17)))
    (l17 : K.lookup f17 = some ⟨oc17, od17, .func (PySem.W.fnOf "run_talk" "run_talk" (defArgs s_run_talk) (defBody s_run_talk) (defScope s_run_talk) .none kV17 dc17 pm17 an17 cd17 ct17), sl17⟩)
    (c17 : PySem.W.codeIn K cd17 "run_talk" = true)
    (k17 : PySem.W.keepIn K (.ref f17) = true)
    (a18 : PySem.W.nsIn K mainGlobals "least_talk" = some (some (.ref f18)))
    (l18 : K.lookup f18 = some ⟨oc18, od18, .func (PySem.W.fnOf "least_talk" "least_talk" (defArgs s_least_talk) (defBody s_least_talk) (defScope s_least_talk) .none kV18 dc18 pm18 an18 cd18 ct18), sl18⟩)
    (c18 : PySem.W.codeIn K cd18 "least_talk" = true)
    (k18 : PySem.W.keepIn K (.ref f18) = true)
    (a19 : PySem.W.nsIn K mainGlobals "answer_to" = some (some (.ref f19)))
    (l19 : K.lookup f19 = some ⟨oc19, od19, .func (PySem.W.fnOf "answer_to" "answer_to" (defArgs s_answer_to) (defBody s_answer_to) (defScope s_answer_to) .none kV19 dc19 pm19 an19 cd19 ct19), sl19⟩)
    (c19 : PySem.W.codeIn K cd19 "answer_to" = true)
    (k19 : PySem.W.keepIn K (.ref f19) = true)
    (a20 : PySem.W.nsIn K mainGlobals "defender_by" = some (some (.ref f20)))
    (l20 : K.lookup f20 = some ⟨oc20, od20, .func (PySem.W.fnOf "defender_by" "defender_by" (defArgs s_defender_by) (defBody s_defender_by) (defScope s_defender_by) .none kV20 dc20 pm20 an20 (.ref cc2) ct20), sl20⟩)
    (c20 : PySem.W.codeIn K (.ref cc2) "defender_by" = true)
    (k20 : PySem.W.keepIn K (.ref f20) = true)
    (a21 : PySem.W.nsIn K mainGlobals "opposer_by" = some (some (.ref f21)))
    (l21 : K.lookup f21 = some ⟨oc21, od21, .func (PySem.W.fnOf "opposer_by" "opposer_by" (defArgs s_opposer_by) (defBody s_opposer_by) (defScope s_opposer_by) .none kV21 dc21 pm21 an21 (.ref cc1) ct21), sl21⟩)
    (c21 : PySem.W.codeIn K (.ref cc1) "opposer_by" = true)
    (k21 : PySem.W.keepIn K (.ref f21) = true)
    (a22 : PySem.W.nsIn K mainGlobals "winning_defender" = some (some (.ref f22)))
    (l22 : K.lookup f22 = some ⟨oc22, od22, .func (PySem.W.fnOf "winning_defender" "winning_defender" (defArgs s_winning_defender) (defBody s_winning_defender) (defScope s_winning_defender) .none kV22 dc22 pm22 an22 cd22 ct22), sl22⟩)
    (c22 : PySem.W.codeIn K cd22 "winning_defender" = true)
    (k22 : PySem.W.keepIn K (.ref f22) = true)
    (a23 : PySem.W.nsIn K mainGlobals "winning_opposer" = some (some (.ref f23)))
    (l23 : K.lookup f23 = some ⟨oc23, od23, .func (PySem.W.fnOf "winning_opposer" "winning_opposer" (defArgs s_winning_opposer) (defBody s_winning_opposer) (defScope s_winning_opposer) .none kV23 dc23 pm23 an23 cd23 ct23), sl23⟩)
    (c23 : PySem.W.codeIn K cd23 "winning_opposer" = true)
    (k23 : PySem.W.keepIn K (.ref f23) = true)
    (a24 : PySem.W.nsIn K mainGlobals "_law_start" = some (some (.ref f24)))
    (l24 : K.lookup f24 = some ⟨oc24, od24, .func (PySem.W.fnOf "_law_start" "_law_start" (defArgs s_start) (defBody s_start) (defScope s_start) .none kV24 dc24 pm24 an24 cd24 ct24), sl24⟩)
    (c24 : PySem.W.codeIn K cd24 "_law_start" = true)
    (k24 : PySem.W.keepIn K (.ref f24) = true)
    (a25 : PySem.W.nsIn K mainGlobals "_law_draw" = some (some (.ref f25)))
    (l25 : K.lookup f25 = some ⟨oc25, od25, .func (PySem.W.fnOf "_law_draw" "_law_draw" (defArgs s_draw) (defBody s_draw) (defScope s_draw) .none kV25 dc25 pm25 an25 cd25 ct25), sl25⟩)
    (c25 : PySem.W.codeIn K cd25 "_law_draw" = true)
    (k25 : PySem.W.keepIn K (.ref f25) = true)
    (a26 : PySem.W.nsIn K mainGlobals "_law_pick" = some (some (.ref f26)))
    (l26 : K.lookup f26 = some ⟨oc26, od26, .func (PySem.W.fnOf "_law_pick" "_law_pick" (defArgs s_pick) (defBody s_pick) (defScope s_pick) .none kV26 dc26 pm26 an26 cd26 ct26), sl26⟩)
    (c26 : PySem.W.codeIn K cd26 "_law_pick" = true)
    (k26 : PySem.W.keepIn K (.ref f26) = true)
    (a27 : PySem.W.nsIn K mainGlobals "_law_mixed" = some (some (.ref f27)))
    (l27 : K.lookup f27 = some ⟨oc27, od27, .func (PySem.W.fnOf "_law_mixed" "_law_mixed" (defArgs s_mixed) (defBody s_mixed) (defScope s_mixed) .none kV27 dc27 pm27 an27 cd27 ct27), sl27⟩)
    (c27 : PySem.W.codeIn K cd27 "_law_mixed" = true)
    (k27 : PySem.W.keepIn K (.ref f27) = true)
    (a28 : PySem.W.nsIn K mainGlobals "_law_same" = some (some (.ref f28)))
    (l28 : K.lookup f28 = some ⟨oc28, od28, .func (PySem.W.fnOf "_law_same" "_law_same" (defArgs s_same) (defBody s_same) (defScope s_same) .none kV28 dc28 pm28 an28 cd28 ct28), sl28⟩)
    (c28 : PySem.W.codeIn K cd28 "_law_same" = true)
    (k28 : PySem.W.keepIn K (.ref f28) = true)
    (a29 : PySem.W.nsIn K mainGlobals "_law_each_once" = some (some (.ref f29)))
    (l29 : K.lookup f29 = some ⟨oc29, od29, .func (PySem.W.fnOf "_law_each_once" "_law_each_once" (defArgs s_each_once) (defBody s_each_once) (defScope s_each_once) .none kV29 dc29 pm29 an29 cd29 ct29), sl29⟩)
    (c29 : PySem.W.codeIn K cd29 "_law_each_once" = true)
    (k29 : PySem.W.keepIn K (.ref f29) = true)
    (a30 : PySem.W.nsIn K mainGlobals "_law_loose" = some (some (.ref f30)))
    (l30 : K.lookup f30 = some ⟨oc30, od30, .func (PySem.W.fnOf "_law_loose" "_law_loose" (defArgs s_loose) (defBody s_loose) (defScope s_loose) .none kV30 dc30 pm30 an30 cd30 ct30), sl30⟩)
    (c30 : PySem.W.codeIn K cd30 "_law_loose" = true)
    (k30 : PySem.W.keepIn K (.ref f30) = true)
    (a31 : PySem.W.nsIn K mainGlobals "_law_digest" = some (some (.ref f31)))
    (l31 : K.lookup f31 = some ⟨oc31, od31, .func (PySem.W.fnOf "_law_digest" "_law_digest" (defArgs s_digest) (defBody s_digest) (defScope s_digest) .none kV31 dc31 pm31 an31 cd31 ct31), sl31⟩)
    (c31 : PySem.W.codeIn K cd31 "_law_digest" = true)
    (k31 : PySem.W.keepIn K (.ref f31) = true)
    (a32 : PySem.W.nsIn K mainGlobals "_law_d_names" = some (some (.ref f32)))
    (l32 : K.lookup f32 = some ⟨oc32, od32, .func (PySem.W.fnOf "_law_d_names" "_law_d_names" (defArgs s_d_names) (defBody s_d_names) (defScope s_d_names) .none kV32 dc32 pm32 an32 cd32 ct32), sl32⟩)
    (c32 : PySem.W.codeIn K cd32 "_law_d_names" = true)
    (k32 : PySem.W.keepIn K (.ref f32) = true)
    (a33 : PySem.W.nsIn K mainGlobals "_law_d_pairs" = some (some (.ref f33)))
    (l33 : K.lookup f33 = some ⟨oc33, od33, .func (PySem.W.fnOf "_law_d_pairs" "_law_d_pairs" (defArgs s_d_pairs) (defBody s_d_pairs) (defScope s_d_pairs) .none kV33 dc33 pm33 an33 cd33 ct33), sl33⟩)
    (c33 : PySem.W.codeIn K cd33 "_law_d_pairs" = true)
    (k33 : PySem.W.keepIn K (.ref f33) = true)
    (a34 : PySem.W.nsIn K mainGlobals "_law_d_objectors" = some (some (.ref f34)))
    (l34 : K.lookup f34 = some ⟨oc34, od34, .func (PySem.W.fnOf "_law_d_objectors" "_law_d_objectors" (defArgs s_d_objectors) (defBody s_d_objectors) (defScope s_d_objectors) .none kV34 dc34 pm34 an34 cd34 ct34), sl34⟩)
    (c34 : PySem.W.codeIn K cd34 "_law_d_objectors" = true)
    (k34 : PySem.W.keepIn K (.ref f34) = true)
    (a35 : PySem.W.nsIn K mainGlobals "_law_d_hits" = some (some (.ref f35)))
    (l35 : K.lookup f35 = some ⟨oc35, od35, .func (PySem.W.fnOf "_law_d_hits" "_law_d_hits" (defArgs s_d_hits) (defBody s_d_hits) (defScope s_d_hits) .none kV35 dc35 pm35 an35 cd35 ct35), sl35⟩)
    (c35 : PySem.W.codeIn K cd35 "_law_d_hits" = true)
    (k35 : PySem.W.keepIn K (.ref f35) = true)
    (a36 : PySem.W.nsIn K mainGlobals "_law_d_answers" = some (some (.ref f36)))
    (l36 : K.lookup f36 = some ⟨oc36, od36, .func (PySem.W.fnOf "_law_d_answers" "_law_d_answers" (defArgs s_d_answers) (defBody s_d_answers) (defScope s_d_answers) .none kV36 dc36 pm36 an36 cd36 ct36), sl36⟩)
    (c36 : PySem.W.codeIn K cd36 "_law_d_answers" = true)
    (k36 : PySem.W.keepIn K (.ref f36) = true)
    (a37 : PySem.W.nsIn K mainGlobals "_law_rk_made" = some (some (.ref f37)))
    (l37 : K.lookup f37 = some ⟨oc37, od37, .func (PySem.W.fnOf "_law_rk_made" "_law_rk_made" (defArgs s_rk_made) (defBody s_rk_made) (defScope s_rk_made) .none kV37 dc37 pm37 an37 cd37 ct37), sl37⟩)
    (c37 : PySem.W.codeIn K cd37 "_law_rk_made" = true)
    (k37 : PySem.W.keepIn K (.ref f37) = true)
    (a38 : PySem.W.nsIn K mainGlobals "_law_rk_debate" = some (some (.ref f38)))
    (l38 : K.lookup f38 = some ⟨oc38, od38, .func (PySem.W.fnOf "_law_rk_debate" "_law_rk_debate" (defArgs s_rk_debate) (defBody s_rk_debate) (defScope s_rk_debate) .none kV38 dc38 pm38 an38 cd38 ct38), sl38⟩)
    (c38 : PySem.W.codeIn K cd38 "_law_rk_debate" = true)
    (k38 : PySem.W.keepIn K (.ref f38) = true)
    (a39 : PySem.W.nsIn K mainGlobals "_law_rk_ranks" = some (some (.ref f39)))
    (l39 : K.lookup f39 = some ⟨oc39, od39, .func (PySem.W.fnOf "_law_rk_ranks" "_law_rk_ranks" (defArgs s_rk_ranks) (defBody s_rk_ranks) (defScope s_rk_ranks) .none kV39 dc39 pm39 an39 cd39 ct39), sl39⟩)
    (c39 : PySem.W.codeIn K cd39 "_law_rk_ranks" = true)
    (k39 : PySem.W.keepIn K (.ref f39) = true)
    (a40 : PySem.W.nsIn K mainGlobals "_law_rk_why" = some (some (.ref f40)))
    (l40 : K.lookup f40 = some ⟨oc40, od40, .func (PySem.W.fnOf "_law_rk_why" "_law_rk_why" (defArgs s_rk_why) (defBody s_rk_why) (defScope s_rk_why) .none kV40 dc40 pm40 an40 cd40 ct40), sl40⟩)
    (c40 : PySem.W.codeIn K cd40 "_law_rk_why" = true)
    (k40 : PySem.W.keepIn K (.ref f40) = true)
    (a41 : PySem.W.nsIn K mainGlobals "_law_rk_run" = some (some (.ref f41)))
    (l41 : K.lookup f41 = some ⟨oc41, od41, .func (PySem.W.fnOf "_law_rk_run" "_law_rk_run" (defArgs s_rk_run) (defBody s_rk_run) (defScope s_rk_run) .none kV41 dc41 pm41 an41 cd41 ct41), sl41⟩)
    (c41 : PySem.W.codeIn K cd41 "_law_rk_run" = true)
    (k41 : PySem.W.keepIn K (.ref f41) = true)
    (a42 : PySem.W.nsIn K mainGlobals "_law_rk_tells" = some (some (.ref f42)))
    (l42 : K.lookup f42 = some ⟨oc42, od42, .func (PySem.W.fnOf "_law_rk_tells" "_law_rk_tells" (defArgs s_rk_tells) (defBody s_rk_tells) (defScope s_rk_tells) .none kV42 dc42 pm42 an42 cd42 ct42), sl42⟩)
    (c42 : PySem.W.codeIn K cd42 "_law_rk_tells" = true)
    (k42 : PySem.W.keepIn K (.ref f42) = true)
    (a43 : PySem.W.nsIn K mainGlobals "_law_rk_talker" = some (some (.ref f43)))
    (l43 : K.lookup f43 = some ⟨oc43, od43, .func (PySem.W.fnOf "_law_rk_talker" "_law_rk_talker" (defArgs s_rk_talker) (defBody s_rk_talker) (defScope s_rk_talker) .none kV43 dc43 pm43 an43 (.ref cc0) ct43), sl43⟩)
    (c43 : PySem.W.codeIn K (.ref cc0) "_law_rk_talker" = true)
    (k43 : PySem.W.keepIn K (.ref f43) = true)
    (a44 : PySem.W.nsIn K mainGlobals "_law_met" = some (some (.ref f44)))
    (l44 : K.lookup f44 = some ⟨oc44, od44, .func (PySem.W.fnOf "_law_met" "_law_met" (defArgs s_met) (defBody s_met) (defScope s_met) .none kV44 dc44 pm44 an44 cd44 ct44), sl44⟩)
    (c44 : PySem.W.codeIn K cd44 "_law_met" = true)
    (k44 : PySem.W.keepIn K (.ref f44) = true)
    (a45 : PySem.W.nsIn K mainGlobals "_law_wins" = some (some (.ref f45)))
    (l45 : K.lookup f45 = some ⟨oc45, od45, .func (PySem.W.fnOf "_law_wins" "_law_wins" (defArgs s_wins) (defBody s_wins) (defScope s_wins) .none kV45 dc45 pm45 an45 cd45 ct45), sl45⟩)
    (c45 : PySem.W.codeIn K cd45 "_law_wins" = true)
    (k45 : PySem.W.keepIn K (.ref f45) = true)
    (a46 : PySem.W.nsIn K mainGlobals "law" = some (some (.ref f46)))
    (l46 : K.lookup f46 = some ⟨oc46, od46, .func (PySem.W.fnOf "law" "law" (defArgs s_law) (defBody s_law) (defScope s_law) .none kV46 dc46 pm46 an46 (.ref cc3) ct46), sl46⟩)
    (c46 : PySem.W.codeIn K (.ref cc3) "law" = true)
    (k46 : PySem.W.keepIn K (.ref f46) = true)
    (nq01 : Pt0 ≠ Pt1)
    (nq02 : Pt0 ≠ Pt2)
    (nq03 : Pt0 ≠ Pt3)
    (nq12 : Pt1 ≠ Pt2)
    (nq13 : Pt1 ≠ Pt3)
    (nq23 : Pt2 ≠ Pt3)
    (zlen : PySem.W.nsIn K mainGlobals "len" = some none)
    (zall : PySem.W.nsIn K mainGlobals "all" = some none)
    (zany : PySem.W.nsIn K mainGlobals "any" = some none)
    (zsorted : PySem.W.nsIn K mainGlobals "sorted" = some none)
    (zisinstance : PySem.W.nsIn K mainGlobals "isinstance" = some none)
    (zlist : PySem.W.nsIn K mainGlobals "list" = some none)
    (ztuple : PySem.W.nsIn K mainGlobals "tuple" = some none)
    (zdict : PySem.W.nsIn K mainGlobals "dict" = some none)
    (zint : PySem.W.nsIn K mainGlobals "int" = some none)
    (zbool : PySem.W.nsIn K mainGlobals "bool" = some none)
    (zstr : PySem.W.nsIn K mainGlobals "str" = some none)
    (zzip : PySem.W.nsIn K mainGlobals "zip" = some none)
    (zrange : PySem.W.nsIn K mainGlobals "range" = some none)
    (zenumerate : PySem.W.nsIn K mainGlobals "enumerate" = some none)
    (zmin : PySem.W.nsIn K mainGlobals "min" = some none)
    (zrepr : PySem.W.nsIn K mainGlobals "repr" = some none)
    (zord : PySem.W.nsIn K mainGlobals "ord" = some none) :
    LawAtZ l w K 14 63 "_law_script" mg fa h := by
  have T : Txt K mg 0 := ⟨PySem.W.mg_none_of X G zlen, PySem.W.mg_none_of X G zall, PySem.W.mg_none_of X G zany, PySem.W.mg_none_of X G zsorted, PySem.W.mg_none_of X G zisinstance, PySem.W.mg_none_of X G zlist, PySem.W.mg_none_of X G ztuple, PySem.W.mg_none_of X G zdict, PySem.W.mg_none_of X G zint, PySem.W.mg_none_of X G zbool, PySem.W.mg_none_of X G zstr, PySem.W.mg_none_of X G zzip, PySem.W.mg_none_of X G zrange, PySem.W.mg_none_of X G zenumerate, PySem.W.mg_none_of X G zmin, PySem.W.mg_none_of X G zrepr, PySem.W.mg_none_of X G zord, ⟨_, PySem.W.mg_of X G gS, ⟨_, rfl⟩⟩, ⟨_, PySem.W.mg_of X G gF, ⟨_, rfl⟩⟩⟩
  have FI := fun_mk (st := s_Debate_init) lI cI kI
  have FE := fun_mk (st := s_Debate_eq) lE cE kE
  have DC : DCls K C := ⟨⟨pg, hd, po, sa⟩, nS, nO, nT, nF⟩
  have IC : C8.InsC K C := ⟨⟨pg, hd, po, sa⟩, cA, cN, cT, cM, cS⟩
  have FB := fun_mk (st := s_NoStatement_init) lB cB kB
  have OXB : OexC K CB := ⟨⟨xBnm, xBq, xBN, xBbs, xBbm, xBsn, xBsub, xBab, xBcol, xBdd, xBm0, xBm1, xBm2, xBm3, xBm5, xBL, xBR⟩, xBS, xBE, xBT, xBK⟩
  have FC : FunC K mg CM CE := ⟨⟨_, PySem.W.mg_of X G mC, rfl⟩, ⟨_, PySem.W.mg_of X G eC, rfl⟩, kfM, kfE⟩
  have F0 : Fn K mg "is_list" s_is_list ["thing"] := ⟨f0, _, fun_mk (st := s_is_list) l0 c0 k0, PySem.W.mg_of X G a0, (fun_mk (st := s_is_list) l0 c0 k0).binds (ps := ["thing"]) fun _ _ _ _ _ _ us hl => match us, hl with | [_], _ => rfl⟩
  have F1 : Fn K mg "is_name" s_is_name ["thing"] := ⟨f1, _, fun_mk (st := s_is_name) l1 c1 k1, PySem.W.mg_of X G a1, (fun_mk (st := s_is_name) l1 c1 k1).binds (ps := ["thing"]) fun _ _ _ _ _ _ us hl => match us, hl with | [_], _ => rfl⟩
  have F2 : Fn K mg "as_tuples" s_as_tuples ["thing"] := ⟨f2, _, fun_mk (st := s_as_tuples) l2 c2 k2, PySem.W.mg_of X G a2, (fun_mk (st := s_as_tuples) l2 c2 k2).binds (ps := ["thing"]) fun _ _ _ _ _ _ us hl => match us, hl with | [_], _ => rfl⟩
  have F3 : Fn K mg "checked_statements" s_checked_statements ["statements"] := ⟨f3, _, fun_mk (st := s_checked_statements) l3 c3 k3, PySem.W.mg_of X G a3, (fun_mk (st := s_checked_statements) l3 c3 k3).binds (ps := ["statements"]) fun _ _ _ _ _ _ us hl => match us, hl with | [_], _ => rfl⟩
  have F4 : Fn K mg "is_pair_of" s_is_pair_of ["thing", "statements"] := ⟨f4, _, fun_mk (st := s_is_pair_of) l4 c4 k4, PySem.W.mg_of X G a4, (fun_mk (st := s_is_pair_of) l4 c4 k4).binds (ps := ["thing", "statements"]) fun _ _ _ _ _ _ us hl => match us, hl with | [_, _], _ => rfl⟩
  have F5 : Fn K mg "checked_objections" s_checked_objections ["objections", "statements"] := ⟨f5, _, fun_mk (st := s_checked_objections) l5 c5 k5, PySem.W.mg_of X G a5, (fun_mk (st := s_checked_objections) l5 c5 k5).binds (ps := ["objections", "statements"]) fun _ _ _ _ _ _ us hl => match us, hl with | [_, _], _ => rfl⟩
  have F6 : Fn K mg "checked_statement" s_checked_statement ["debate", "statement"] := ⟨f6, _, fun_mk (st := s_checked_statement) l6 c6 k6, PySem.W.mg_of X G a6, (fun_mk (st := s_checked_statement) l6 c6 k6).binds (ps := ["debate", "statement"]) fun _ _ _ _ _ _ us hl => match us, hl with | [_, _], _ => rfl⟩
  have F7 : Fn K mg "hit_by" s_hit_by ["debate", "members"] := ⟨f7, _, fun_mk (st := s_hit_by) l7 c7 k7, PySem.W.mg_of X G a7, (fun_mk (st := s_hit_by) l7 c7 k7).binds (ps := ["debate", "members"]) fun _ _ _ _ _ _ us hl => match us, hl with | [_, _], _ => rfl⟩
  have F8 : Fn K mg "answered_in" s_answered_in ["debate", "members"] := ⟨f8, _, fun_mk (st := s_answered_in) l8 c8 k8, PySem.W.mg_of X G a8, (fun_mk (st := s_answered_in) l8 c8 k8).binds (ps := ["debate", "members"]) fun _ _ _ _ _ _ us hl => match us, hl with | [_, _], _ => rfl⟩
  have F9 : Fn K mg "least_lot" s_least_lot ["debate"] := ⟨f9, _, fun_mk (st := s_least_lot) l9 c9 k9, PySem.W.mg_of X G a9, (fun_mk (st := s_least_lot) l9 c9 k9).binds (ps := ["debate"]) fun _ _ _ _ _ _ us hl => match us, hl with | [_], _ => rfl⟩
  have F10 : Fn K mg "first_doubt" s_first_doubt ["debate", "members"] := ⟨f10, _, fun_mk (st := s_first_doubt) l10 c10 k10, PySem.W.mg_of X G a10, (fun_mk (st := s_first_doubt) l10 c10 k10).binds (ps := ["debate", "members"]) fun _ _ _ _ _ _ us hl => match us, hl with | [_, _], _ => rfl⟩
  have F11 : Fn K mg "greatest_doubt" s_greatest_doubt ["debate"] := ⟨f11, _, fun_mk (st := s_greatest_doubt) l11 c11 k11, PySem.W.mg_of X G a11, (fun_mk (st := s_greatest_doubt) l11 c11 k11).binds (ps := ["debate"]) fun _ _ _ _ _ _ us hl => match us, hl with | [_], _ => rfl⟩
  have F12 : Fn K mg "stages" s_stages ["debate"] := ⟨f12, _, fun_mk (st := s_stages) l12 c12 k12, PySem.W.mg_of X G a12, (fun_mk (st := s_stages) l12 c12 k12).binds (ps := ["debate"]) fun _ _ _ _ _ _ us hl => match us, hl with | [_], _ => rfl⟩
  have F13 : Fn K mg "known_ranks" s_known_ranks ["debate"] := ⟨f13, _, fun_mk (st := s_known_ranks) l13 c13 k13, PySem.W.mg_of X G a13, (fun_mk (st := s_known_ranks) l13 c13 k13).binds (ps := ["debate"]) fun _ _ _ _ _ _ us hl => match us, hl with | [_], _ => rfl⟩
  have F14 : Fn K mg "is_function" s_is_function ["thing"] := ⟨f14, _, fun_mk (st := s_is_function) l14 c14 k14, PySem.W.mg_of X G a14, (fun_mk (st := s_is_function) l14 c14 k14).binds (ps := ["thing"]) fun _ _ _ _ _ _ us hl => match us, hl with | [_], _ => rfl⟩
  have F15 : Fn K mg "check_talker" s_check_talker ["thing"] := ⟨f15, _, fun_mk (st := s_check_talker) l15 c15 k15, PySem.W.mg_of X G a15, (fun_mk (st := s_check_talker) l15 c15 k15).binds (ps := ["thing"]) fun _ _ _ _ _ _ us hl => match us, hl with | [_], _ => rfl⟩
  have F16 : Fn K mg "why_lost" s_why_lost ["debate", "said", "thing"] := ⟨f16, _, fun_mk (st := s_why_lost) l16 c16 k16, PySem.W.mg_of X G a16, (fun_mk (st := s_why_lost) l16 c16 k16).binds (ps := ["debate", "said", "thing"]) fun _ _ _ _ _ _ us hl => match us, hl with | [_, _, _], _ => rfl⟩
  have F17 : Fn K mg "run_talk" s_run_talk ["debate", "statement", "defender", "opposer"] := ⟨f17, _, fun_mk (st := s_run_talk) l17 c17 k17, PySem.W.mg_of X G a17, (fun_mk (st := s_run_talk) l17 c17 k17).binds (ps := ["debate", "statement", "defender", "opposer"]) fun _ _ _ _ _ _ us hl => match us, hl with | [_, _, _, _], _ => rfl⟩
  have F18 : Fn K mg "least_talk" s_least_talk ["debate", "statement", "defender", "opposer"] := ⟨f18, _, fun_mk (st := s_least_talk) l18 c18 k18, PySem.W.mg_of X G a18, (fun_mk (st := s_least_talk) l18 c18 k18).binds (ps := ["debate", "statement", "defender", "opposer"]) fun _ _ _ _ _ _ us hl => match us, hl with | [_, _, _, _], _ => rfl⟩
  have F19 : Fn K mg "answer_to" s_answer_to ["debate", "ranked", "objector"] := ⟨f19, _, fun_mk (st := s_answer_to) l19 c19 k19, PySem.W.mg_of X G a19, (fun_mk (st := s_answer_to) l19 c19 k19).binds (ps := ["debate", "ranked", "objector"]) fun _ _ _ _ _ _ us hl => match us, hl with | [_, _, _], _ => rfl⟩
  have F22 : Fn K mg "winning_defender" s_winning_defender ["debate", "statement"] := ⟨f22, _, fun_mk (st := s_winning_defender) l22 c22 k22, PySem.W.mg_of X G a22, (fun_mk (st := s_winning_defender) l22 c22 k22).binds (ps := ["debate", "statement"]) fun _ _ _ _ _ _ us hl => match us, hl with | [_, _], _ => rfl⟩
  have F23 : Fn K mg "winning_opposer" s_winning_opposer ["debate", "statement"] := ⟨f23, _, fun_mk (st := s_winning_opposer) l23 c23 k23, PySem.W.mg_of X G a23, (fun_mk (st := s_winning_opposer) l23 c23 k23).binds (ps := ["debate", "statement"]) fun _ _ _ _ _ _ us hl => match us, hl with | [_, _], _ => rfl⟩
  have F24 : Fn K mg "_law_start" s_start ["_law_script"] := ⟨f24, _, fun_mk (st := s_start) l24 c24 k24, PySem.W.mg_of X G a24, (fun_mk (st := s_start) l24 c24 k24).binds (ps := ["_law_script"]) fun _ _ _ _ _ _ us hl => match us, hl with | [_], _ => rfl⟩
  have F25 : Fn K mg "_law_draw" s_draw ["_law_stream", "_law_many"] := ⟨f25, _, fun_mk (st := s_draw) l25 c25 k25, PySem.W.mg_of X G a25, (fun_mk (st := s_draw) l25 c25 k25).binds (ps := ["_law_stream", "_law_many"]) fun _ _ _ _ _ _ us hl => match us, hl with | [_, _], _ => rfl⟩
  have F26 : Fn K mg "_law_pick" s_pick ["_law_stream", "_law_some"] := ⟨f26, _, fun_mk (st := s_pick) l26 c26 k26, PySem.W.mg_of X G a26, (fun_mk (st := s_pick) l26 c26 k26).binds (ps := ["_law_stream", "_law_some"]) fun _ _ _ _ _ _ us hl => match us, hl with | [_, _], _ => rfl⟩
  have F27 : Fn K mg "_law_mixed" s_mixed ["_law_stream", "_law_some"] := ⟨f27, _, fun_mk (st := s_mixed) l27 c27 k27, PySem.W.mg_of X G a27, (fun_mk (st := s_mixed) l27 c27 k27).binds (ps := ["_law_stream", "_law_some"]) fun _ _ _ _ _ _ us hl => match us, hl with | [_, _], _ => rfl⟩
  have F28 : Fn K mg "_law_same" s_same ["_law_found", "_law_due"] := ⟨f28, _, fun_mk (st := s_same) l28 c28 k28, PySem.W.mg_of X G a28, (fun_mk (st := s_same) l28 c28 k28).binds (ps := ["_law_found", "_law_due"]) fun _ _ _ _ _ _ us hl => match us, hl with | [_, _], _ => rfl⟩
  have F29 : Fn K mg "_law_each_once" s_each_once ["_law_things"] := ⟨f29, _, fun_mk (st := s_each_once) l29 c29 k29, PySem.W.mg_of X G a29, (fun_mk (st := s_each_once) l29 c29 k29).binds (ps := ["_law_things"]) fun _ _ _ _ _ _ us hl => match us, hl with | [_], _ => rfl⟩
  have F30 : Fn K mg "_law_loose" s_loose ["_law_stream", "_law_thing"] := ⟨f30, _, fun_mk (st := s_loose) l30 c30 k30, PySem.W.mg_of X G a30, (fun_mk (st := s_loose) l30 c30 k30).binds (ps := ["_law_stream", "_law_thing"]) fun _ _ _ _ _ _ us hl => match us, hl with | [_, _], _ => rfl⟩
  have F31 : Fn K mg "_law_digest" s_digest ["_law_thing", "_law_seed"] := ⟨f31, _, fun_mk (st := s_digest) l31 c31 k31, PySem.W.mg_of X G a31, (fun_mk (st := s_digest) l31 c31 k31).binds (ps := ["_law_thing", "_law_seed"]) fun _ _ _ _ _ _ us hl => match us, hl with | [_, _], _ => rfl⟩
  have F32 : Fn K mg "_law_d_names" s_d_names ["_law_stream", "_law_many"] := ⟨f32, _, fun_mk (st := s_d_names) l32 c32 k32, PySem.W.mg_of X G a32, (fun_mk (st := s_d_names) l32 c32 k32).binds (ps := ["_law_stream", "_law_many"]) fun _ _ _ _ _ _ us hl => match us, hl with | [_, _], _ => rfl⟩
  have F33 : Fn K mg "_law_d_pairs" s_d_pairs ["_law_stream", "_law_names"] := ⟨f33, _, fun_mk (st := s_d_pairs) l33 c33 k33, PySem.W.mg_of X G a33, (fun_mk (st := s_d_pairs) l33 c33 k33).binds (ps := ["_law_stream", "_law_names"]) fun _ _ _ _ _ _ us hl => match us, hl with | [_, _], _ => rfl⟩
  have F34 : Fn K mg "_law_d_objectors" s_d_objectors ["_law_pairs", "_law_name"] := ⟨f34, _, fun_mk (st := s_d_objectors) l34 c34 k34, PySem.W.mg_of X G a34, (fun_mk (st := s_d_objectors) l34 c34 k34).binds (ps := ["_law_pairs", "_law_name"]) fun _ _ _ _ _ _ us hl => match us, hl with | [_, _], _ => rfl⟩
  have F35 : Fn K mg "_law_d_hits" s_d_hits ["_law_pairs", "_law_lot", "_law_name"] := ⟨f35, _, fun_mk (st := s_d_hits) l35 c35 k35, PySem.W.mg_of X G a35, (fun_mk (st := s_d_hits) l35 c35 k35).binds (ps := ["_law_pairs", "_law_lot", "_law_name"]) fun _ _ _ _ _ _ us hl => match us, hl with | [_, _, _], _ => rfl⟩
  have F36 : Fn K mg "_law_d_answers" s_d_answers ["_law_pairs", "_law_lot", "_law_name"] := ⟨f36, _, fun_mk (st := s_d_answers) l36 c36 k36, PySem.W.mg_of X G a36, (fun_mk (st := s_d_answers) l36 c36 k36).binds (ps := ["_law_pairs", "_law_lot", "_law_name"]) fun _ _ _ _ _ _ us hl => match us, hl with | [_, _, _], _ => rfl⟩
  have F37 : Fn K mg "_law_rk_made" s_rk_made ["_law_stream", "_law_given"] := ⟨f37, _, fun_mk (st := s_rk_made) l37 c37 k37, PySem.W.mg_of X G a37, (fun_mk (st := s_rk_made) l37 c37 k37).binds (ps := ["_law_stream", "_law_given"]) fun _ _ _ _ _ _ us hl => match us, hl with | [_, _], _ => rfl⟩
  have F38 : Fn K mg "_law_rk_debate" s_rk_debate ["_law_stream", "_law_most"] := ⟨f38, _, fun_mk (st := s_rk_debate) l38 c38 k38, PySem.W.mg_of X G a38, (fun_mk (st := s_rk_debate) l38 c38 k38).binds (ps := ["_law_stream", "_law_most"]) fun _ _ _ _ _ _ us hl => match us, hl with | [_, _], _ => rfl⟩
  have F39 : Fn K mg "_law_rk_ranks" s_rk_ranks ["_law_names", "_law_pairs"] := ⟨f39, _, fun_mk (st := s_rk_ranks) l39 c39 k39, PySem.W.mg_of X G a39, (fun_mk (st := s_rk_ranks) l39 c39 k39).binds (ps := ["_law_names", "_law_pairs"]) fun _ _ _ _ _ _ us hl => match us, hl with | [_, _], _ => rfl⟩
  have F40 : Fn K mg "_law_rk_why" s_rk_why ["_law_pairs", "_law_said", "_law_thing"] := ⟨f40, _, fun_mk (st := s_rk_why) l40 c40 k40, PySem.W.mg_of X G a40, (fun_mk (st := s_rk_why) l40 c40 k40).binds (ps := ["_law_pairs", "_law_said", "_law_thing"]) fun _ _ _ _ _ _ us hl => match us, hl with | [_, _, _], _ => rfl⟩
  have F41 : Fn K mg "_law_rk_run" s_rk_run ["_law_pairs", "_law_statement", "_law_defender", "_law_opposer"] := ⟨f41, _, fun_mk (st := s_rk_run) l41 c41 k41, PySem.W.mg_of X G a41, (fun_mk (st := s_rk_run) l41 c41 k41).binds (ps := ["_law_pairs", "_law_statement", "_law_defender", "_law_opposer"]) fun _ _ _ _ _ _ us hl => match us, hl with | [_, _, _, _], _ => rfl⟩
  have F42 : Fn K mg "_law_rk_tells" s_rk_tells ["_law_pairs", "_law_said", "_law_seed", "_law_odd", "_law_rest"] := ⟨f42, _, fun_mk (st := s_rk_tells) l42 c42 k42, PySem.W.mg_of X G a42, (fun_mk (st := s_rk_tells) l42 c42 k42).binds (ps := ["_law_pairs", "_law_said", "_law_seed", "_law_odd", "_law_rest"]) fun _ _ _ _ _ _ us hl => match us, hl with | [_, _, _, _, _], _ => rfl⟩
  have F44 : Fn K mg "_law_met" s_met ["_law_ask"] := ⟨f44, _, fun_mk (st := s_met) l44 c44 k44, PySem.W.mg_of X G a44, (fun_mk (st := s_met) l44 c44 k44).binds (ps := ["_law_ask"]) fun _ _ _ _ _ _ us hl => match us, hl with | [_], _ => rfl⟩
  have F45 : Fn K mg "_law_wins" s_wins ["_law_pairs", "_law_defender", "_law_name"] := ⟨f45, _, fun_mk (st := s_wins) l45 c45 k45, PySem.W.mg_of X G a45, (fun_mk (st := s_wins) l45 c45 k45).binds (ps := ["_law_pairs", "_law_defender", "_law_name"]) fun _ _ _ _ _ _ us hl => match us, hl with | [_, _, _], _ => rfl⟩
  have F43 : FnL K mg "_law_rk_talker" s_rk_talker ["_law_stream", "_law_pairs"] cc0 := ⟨f43, _, _, _, _, _, _, _, _, l43, c43, PySem.W.mg_of X G a43, k43, (fun_mk (st := s_rk_talker) l43 c43 k43).binds (ps := ["_law_stream", "_law_pairs"]) fun _ _ _ _ _ _ us hl => match us, hl with | [_, _], _ => rfl⟩
  have F21 : FnL K mg "opposer_by" s_opposer_by ["debate"] cc1 := ⟨f21, _, _, _, _, _, _, _, _, l21, c21, PySem.W.mg_of X G a21, k21, (fun_mk (st := s_opposer_by) l21 c21 k21).binds (ps := ["debate"]) fun _ _ _ _ _ _ us hl => match us, hl with | [_], _ => rfl⟩
  have F20 : FnL K mg "defender_by" s_defender_by ["debate"] cc2 := ⟨f20, _, _, _, _, _, _, _, _, l20, c20, PySem.W.mg_of X G a20, k20, (fun_mk (st := s_defender_by) l20 c20 k20).binds (ps := ["debate"]) fun _ _ _ _ _ _ us hl => match us, hl with | [_], _ => rfl⟩
  have F46 : FnL K mg "law" s_law ["_law_script"] cc3 := ⟨f46, _, _, _, _, _, _, _, _, l46, c46, PySem.W.mg_of X G a46, k46, (fun_mk (st := s_law) l46 c46 k46).binds (ps := ["_law_script"]) fun _ _ _ _ _ _ us hl => match us, hl with | [_], _ => rfl⟩
  have e := hfa.symm.trans (PySem.W.mg_of X G a46)
  cases e
  refine ⟨PySem.W.fnOf "law" "law" (defArgs s_law) (defBody s_law) (defScope s_law) .none kV46 dc46 pm46 an46 (.ref cc3) ct46, [(cc0, Pt0), (cc1, Pt1), (cc2, Pt2), (cc3, Pt3)], sp_law11 K ([(Pt0, "_law_rk_talker" ++ ".<locals>." ++ "<lambda>"), (Pt1, "opposer_by" ++ ".<locals>." ++ "<lambda>"), (Pt2, "defender_by" ++ ".<locals>." ++ "<lambda>"), (Pt3, "law" ++ ".<locals>." ++ "<lambda>")] : List (Addr × Str)), fun p hp => (by simp only [List.mem_cons, List.not_mem_nil, or_false] at hp; rcases hp with rfl | rfl | rfl | rfl <;> first | exact TT0 | exact TT1 | exact TT2 | exact TT3), fun p hp => (by simp only [List.mem_cons, List.not_mem_nil, or_false] at hp; rcases hp with rfl | rfl | rfl | rfl <;> first | exact nP0 | exact nP1 | exact nP2 | exact nP3), fun p hp => (by simp only [List.mem_cons, List.not_mem_nil, or_false] at hp; rcases hp with rfl | rfl | rfl | rfl <;> first | exact PySem.W.codeHd_of_K X cH0 | exact PySem.W.codeHd_of_K X cH1 | exact PySem.W.codeHd_of_K X cH2 | exact PySem.W.codeHd_of_K X cH3), fun s v => .of_eq rfl, fun H a ns hl _ ht hS => ⟨a, ns, rfl, hS, hl, fun p hp => (by simp only [List.mem_cons, List.not_mem_nil, or_false] at hp; rcases hp with rfl | rfl | rfl | rfl <;> first | exact LamX.TabS.nil (ht (cc0, Pt0) (by simp)) | exact LamX.TabS.nil (ht (cc1, Pt1) (by simp)) | exact LamX.TabS.nil (ht (cc2, Pt2) (by simp)) | exact LamX.TabS.nil (ht (cc3, Pt3) (by simp))), fun _ => rfl⟩, fun base hb hbg tb => ?_⟩
  have HMU0 : ∀ p ∈ ([(Pt0, "_law_rk_talker" ++ ".<locals>." ++ "<lambda>"), (Pt1, "opposer_by" ++ ".<locals>." ++ "<lambda>"), (Pt2, "defender_by" ++ ".<locals>." ++ "<lambda>"), (Pt3, "law" ++ ".<locals>." ++ "<lambda>")] : List (Addr × Str)), p.1 = Pt0 → p.2 = "_law_rk_talker" ++ ".<locals>." ++ "<lambda>" := fun p hp hp2 => by
    simp only [List.mem_cons, List.not_mem_nil, or_false] at hp
    rcases hp with rfl | rfl | rfl | rfl
    · rfl
    · exact absurd hp2 (fun z => nq01 z.symm)
    · exact absurd hp2 (fun z => nq02 z.symm)
    · exact absurd hp2 (fun z => nq03 z.symm)
  have HMU1 : ∀ p ∈ ([(Pt0, "_law_rk_talker" ++ ".<locals>." ++ "<lambda>"), (Pt1, "opposer_by" ++ ".<locals>." ++ "<lambda>"), (Pt2, "defender_by" ++ ".<locals>." ++ "<lambda>"), (Pt3, "law" ++ ".<locals>." ++ "<lambda>")] : List (Addr × Str)), p.1 = Pt1 → p.2 = "opposer_by" ++ ".<locals>." ++ "<lambda>" := fun p hp hp2 => by
    simp only [List.mem_cons, List.not_mem_nil, or_false] at hp
    rcases hp with rfl | rfl | rfl | rfl
    · exact absurd hp2 (fun z => nq01 z)
    · rfl
    · exact absurd hp2 (fun z => nq12 z.symm)
    · exact absurd hp2 (fun z => nq13 z.symm)
  have HMU2 : ∀ p ∈ ([(Pt0, "_law_rk_talker" ++ ".<locals>." ++ "<lambda>"), (Pt1, "opposer_by" ++ ".<locals>." ++ "<lambda>"), (Pt2, "defender_by" ++ ".<locals>." ++ "<lambda>"), (Pt3, "law" ++ ".<locals>." ++ "<lambda>")] : List (Addr × Str)), p.1 = Pt2 → p.2 = "defender_by" ++ ".<locals>." ++ "<lambda>" := fun p hp hp2 => by
    simp only [List.mem_cons, List.not_mem_nil, or_false] at hp
    rcases hp with rfl | rfl | rfl | rfl
    · exact absurd hp2 (fun z => nq02 z)
    · exact absurd hp2 (fun z => nq12 z)
    · rfl
    · exact absurd hp2 (fun z => nq23 z.symm)
  have HMU3 : ∀ p ∈ ([(Pt0, "_law_rk_talker" ++ ".<locals>." ++ "<lambda>"), (Pt1, "opposer_by" ++ ".<locals>." ++ "<lambda>"), (Pt2, "defender_by" ++ ".<locals>." ++ "<lambda>"), (Pt3, "law" ++ ".<locals>." ++ "<lambda>")] : List (Addr × Str)), p.1 = Pt3 → p.2 = "law" ++ ".<locals>." ++ "<lambda>" := fun p hp hp2 => by
    simp only [List.mem_cons, List.not_mem_nil, or_false] at hp
    rcases hp with rfl | rfl | rfl | rfl
    · exact absurd hp2 (fun z => nq03 z)
    · exact absurd hp2 (fun z => nq13 z)
    · exact absurd hp2 (fun z => nq23 z)
    · rfl
  have TB0 := tb (cc0, Pt0) (by simp)
  have TB1 := tb (cc1, Pt1) (by simp)
  have TB2 := tb (cc2, Pt2) (by simp)
  have TB3 := tb (cc3, Pt3) (by simp)
  have c_is_list := ok_is_list (P := l.prog) (w := w) (base := base) F0 T
  have c_is_listF := ok_is_listF (P := l.prog) (w := w) (base := base) F0 T
  have c_is_name := ok_is_name (P := l.prog) (w := w) (base := base) F1 T
  have c_asB := ok_asB (P := l.prog) (w := w) (base := base) F2
  have c_as0 := ok_as0 (P := l.prog) (w := w) (base := base) F2 T c_is_listF c_asB
  have c_as_tuples := ok_as1 (P := l.prog) (w := w) (base := base) F2 T c_is_list c_as0
  have c_checked_statements := ok_checked_statements (P := l.prog) (w := w) (base := base) F3 T c_is_list c_is_name
  have c_is_pair_of := ok_is_pair_of (P := l.prog) (w := w) (base := base) F4 T c_is_list
  have c_checked_objections := ok_checked_objections (P := l.prog) (w := w) (base := base) (Tb := [(Pt0, "_law_rk_talker" ++ ".<locals>." ++ "<lambda>"), (Pt1, "opposer_by" ++ ".<locals>." ++ "<lambda>"), (Pt2, "defender_by" ++ ".<locals>." ++ "<lambda>"), (Pt3, "law" ++ ".<locals>." ++ "<lambda>")]) F5 T c_is_list c_is_pair_of c_as_tuples
  have m_Debate := ok_initD (P := l.prog) (w := w) (base := base) (Tb := [(Pt0, "_law_rk_talker" ++ ".<locals>." ++ "<lambda>"), (Pt1, "opposer_by" ++ ".<locals>." ++ "<lambda>"), (Pt2, "defender_by" ++ ".<locals>." ++ "<lambda>"), (Pt3, "law" ++ ".<locals>." ++ "<lambda>")]) ⟨mk, aI, iI, kc⟩ FI (PySem.W.mg_of X G aC) (FI.binds (ps := ["self", "statements", "objections"]) fun _ _ _ _ _ _ us hl => match us, hl with | [_, _, _], _ => rfl) T DC c_checked_statements c_checked_objections
  have c_hit_by := ok_hit_by (P := l.prog) (w := w) (base := base) F7 T DC
  have c_answered_in := ok_answered_in (P := l.prog) (w := w) (base := base) F8 T DC c_hit_by
  have c_least_lot := ok_least_lot (P := l.prog) (w := w) (base := base) (Tb := [(Pt0, "_law_rk_talker" ++ ".<locals>." ++ "<lambda>"), (Pt1, "opposer_by" ++ ".<locals>." ++ "<lambda>"), (Pt2, "defender_by" ++ ".<locals>." ++ "<lambda>"), (Pt3, "law" ++ ".<locals>." ++ "<lambda>")]) F9 T c_answered_in
  have EXB : ExC l.prog w K mg base "NoStatement" CB "thing" := ⟨PySem.W.mg_of X G xBC, OXB, ⟨xBG, xBH, xBE, xBD⟩, xBF, xBO, fB, _, aB, tB, ok_NoStatement_init FB OXB xBF, FB.binds (ps := ["self", "thing"]) fun _ _ _ _ _ _ us hl => match us, hl with | [_, _], _ => rfl⟩
  have c_checked_statement := ok_checked_statement (P := l.prog) (w := w) (base := base) F6 T DC
  have x_checked_statement := ox_checked_statement (P := l.prog) (w := w) (base := base) F6 T DC EXB
  have c_first_doubt := ok_first_doubt (P := l.prog) (w := w) (base := base) (Tb := [(Pt0, "_law_rk_talker" ++ ".<locals>." ++ "<lambda>"), (Pt1, "opposer_by" ++ ".<locals>." ++ "<lambda>"), (Pt2, "defender_by" ++ ".<locals>." ++ "<lambda>"), (Pt3, "law" ++ ".<locals>." ++ "<lambda>")]) F10 T DC
  have c_greatest_doubt := ok_greatest_doubt (P := l.prog) (w := w) (base := base) (Tb := [(Pt0, "_law_rk_talker" ++ ".<locals>." ++ "<lambda>"), (Pt1, "opposer_by" ++ ".<locals>." ++ "<lambda>"), (Pt2, "defender_by" ++ ".<locals>." ++ "<lambda>"), (Pt3, "law" ++ ".<locals>." ++ "<lambda>")]) F11 T DC c_least_lot c_first_doubt
  have c_stages := ok_stages (P := l.prog) (w := w) (base := base) (Tb := [(Pt0, "_law_rk_talker" ++ ".<locals>." ++ "<lambda>"), (Pt1, "opposer_by" ++ ".<locals>." ++ "<lambda>"), (Pt2, "defender_by" ++ ".<locals>." ++ "<lambda>"), (Pt3, "law" ++ ".<locals>." ++ "<lambda>")]) F12 T DC c_answered_in
  have c_known_ranks := ok_known_ranks (P := l.prog) (w := w) (base := base) (Tb := [(Pt0, "_law_rk_talker" ++ ".<locals>." ++ "<lambda>"), (Pt1, "opposer_by" ++ ".<locals>." ++ "<lambda>"), (Pt2, "defender_by" ++ ".<locals>." ++ "<lambda>"), (Pt3, "law" ++ ".<locals>." ++ "<lambda>")]) F13 T DC c_stages
  have c_each_once := ok_each_onceP (P := l.prog) (w := w) (base := base) F29 T
  have c_draw := ok_draw (P := l.prog) (w := w) (base := base) F25 T
  have c_pick := ok_pick (P := l.prog) (w := w) (base := base) F26 T c_draw
  have c_mixed := ok_mixed (P := l.prog) (w := w) (base := base) F27 T c_draw
  have c_d_names := ok_d_names (P := l.prog) (w := w) (base := base) F32 T c_mixed
  have c_start := ok_start (P := l.prog) (w := w) (base := base) F24 T
  have c_d_pairs := ok_d_pairs (P := l.prog) (w := w) (base := base) (Tb := [(Pt0, "_law_rk_talker" ++ ".<locals>." ++ "<lambda>"), (Pt1, "opposer_by" ++ ".<locals>." ++ "<lambda>"), (Pt2, "defender_by" ++ ".<locals>." ++ "<lambda>"), (Pt3, "law" ++ ".<locals>." ++ "<lambda>")]) F33 T c_draw c_pick c_mixed c_each_once
  have c_loose := ok_loose (P := l.prog) (w := w) (base := base) F30 T c_draw 2
  have c_d_objectors := ok_d_objectors (P := l.prog) (w := w) (base := base) F34 T
  have c_d_hits := ok_d_hits (P := l.prog) (w := w) (base := base) F35 T c_d_objectors
  have c_d_answers := ok_d_answers (P := l.prog) (w := w) (base := base) F36 T c_d_objectors c_d_hits
  have c_rk_made := ok_rk_made (P := l.prog) (w := w) (base := base) (Tb := [(Pt0, "_law_rk_talker" ++ ".<locals>." ++ "<lambda>"), (Pt1, "opposer_by" ++ ".<locals>." ++ "<lambda>"), (Pt2, "defender_by" ++ ".<locals>." ++ "<lambda>"), (Pt3, "law" ++ ".<locals>." ++ "<lambda>")]) F37 T c_loose m_Debate
  have c_rk_debate := ok_rk_debate (P := l.prog) (w := w) (base := base) (Tb := [(Pt0, "_law_rk_talker" ++ ".<locals>." ++ "<lambda>"), (Pt1, "opposer_by" ++ ".<locals>." ++ "<lambda>"), (Pt2, "defender_by" ++ ".<locals>." ++ "<lambda>"), (Pt3, "law" ++ ".<locals>." ++ "<lambda>")]) F38 T c_draw c_pick c_mixed c_each_once c_d_names c_d_pairs
  have c_rk_ranks := ok_rk_ranks (P := l.prog) (w := w) (base := base) (Tb := [(Pt0, "_law_rk_talker" ++ ".<locals>." ++ "<lambda>"), (Pt1, "opposer_by" ++ ".<locals>." ++ "<lambda>"), (Pt2, "defender_by" ++ ".<locals>." ++ "<lambda>"), (Pt3, "law" ++ ".<locals>." ++ "<lambda>")]) F39 T c_d_answers
  have c_is_function := ok_is_fun (P := l.prog) (w := w) (base := base) (Tb := [(Pt0, "_law_rk_talker" ++ ".<locals>." ++ "<lambda>"), (Pt1, "opposer_by" ++ ".<locals>." ++ "<lambda>"), (Pt2, "defender_by" ++ ".<locals>." ++ "<lambda>"), (Pt3, "law" ++ ".<locals>." ++ "<lambda>")]) F14 T FC
  have c_check_talker := ok_check_talker (P := l.prog) (w := w) (base := base) (Tb := [(Pt0, "_law_rk_talker" ++ ".<locals>." ++ "<lambda>"), (Pt1, "opposer_by" ++ ".<locals>." ++ "<lambda>"), (Pt2, "defender_by" ++ ".<locals>." ++ "<lambda>"), (Pt3, "law" ++ ".<locals>." ++ "<lambda>")]) F15 T c_is_function
  have c_why_lost := ok_why_lost (P := l.prog) (w := w) (base := base) (Tb := [(Pt0, "_law_rk_talker" ++ ".<locals>." ++ "<lambda>"), (Pt1, "opposer_by" ++ ".<locals>." ++ "<lambda>"), (Pt2, "defender_by" ++ ".<locals>." ++ "<lambda>"), (Pt3, "law" ++ ".<locals>." ++ "<lambda>")]) F16 T DC
  have z_run_talk := ok_run_talk (P := l.prog) (w := w) (base := base) (Tb := [(Pt0, "_law_rk_talker" ++ ".<locals>." ++ "<lambda>"), (Pt1, "opposer_by" ++ ".<locals>." ++ "<lambda>"), (Pt2, "defender_by" ++ ".<locals>." ++ "<lambda>"), (Pt3, "law" ++ ".<locals>." ++ "<lambda>")]) F17 T c_why_lost
  have z_least_talk := ok_least_talk (P := l.prog) (w := w) (base := base) (Tb := [(Pt0, "_law_rk_talker" ++ ".<locals>." ++ "<lambda>"), (Pt1, "opposer_by" ++ ".<locals>." ++ "<lambda>"), (Pt2, "defender_by" ++ ".<locals>." ++ "<lambda>"), (Pt3, "law" ++ ".<locals>." ++ "<lambda>")]) F18 T c_checked_statement c_check_talker z_run_talk
  have c_rk_why := ok_rk_why (P := l.prog) (w := w) (base := base) (Tb := [(Pt0, "_law_rk_talker" ++ ".<locals>." ++ "<lambda>"), (Pt1, "opposer_by" ++ ".<locals>." ++ "<lambda>"), (Pt2, "defender_by" ++ ".<locals>." ++ "<lambda>"), (Pt3, "law" ++ ".<locals>." ++ "<lambda>")]) F40 T
  have z_digest := ok_digest (P := l.prog) (w := w) (base := base) (Tb := [(Pt0, "_law_rk_talker" ++ ".<locals>." ++ "<lambda>"), (Pt1, "opposer_by" ++ ".<locals>." ++ "<lambda>"), (Pt2, "defender_by" ++ ".<locals>." ++ "<lambda>"), (Pt3, "law" ++ ".<locals>." ++ "<lambda>")]) F31 T
  have z_rk_tells := ok_tells (P := l.prog) (w := w) (base := base) (Tb := [(Pt0, "_law_rk_talker" ++ ".<locals>." ++ "<lambda>"), (Pt1, "opposer_by" ++ ".<locals>." ++ "<lambda>"), (Pt2, "defender_by" ++ ".<locals>." ++ "<lambda>"), (Pt3, "law" ++ ".<locals>." ++ "<lambda>")]) F42 T c_d_objectors z_digest
  have z_rk_run := ok_rk_run (P := l.prog) (w := w) (base := base) (Tb := [(Pt0, "_law_rk_talker" ++ ".<locals>." ++ "<lambda>"), (Pt1, "opposer_by" ++ ".<locals>." ++ "<lambda>"), (Pt2, "defender_by" ++ ".<locals>." ++ "<lambda>"), (Pt3, "law" ++ ".<locals>." ++ "<lambda>")]) F41 T c_rk_why
  have c_rk_talker := ok_rk_talker (P := l.prog) (w := w) (base := base) (Tb := [(Pt0, "_law_rk_talker" ++ ".<locals>." ++ "<lambda>"), (Pt1, "opposer_by" ++ ".<locals>." ++ "<lambda>"), (Pt2, "defender_by" ++ ".<locals>." ++ "<lambda>"), (Pt3, "law" ++ ".<locals>." ++ "<lambda>")]) F43 T c_draw c_pick z_rk_tells TB0 (by simp) HMU0
  have c_answer_to := ok_answer_to (P := l.prog) (w := w) (base := base) (Tb := [(Pt0, "_law_rk_talker" ++ ".<locals>." ++ "<lambda>"), (Pt1, "opposer_by" ++ ".<locals>." ++ "<lambda>"), (Pt2, "defender_by" ++ ".<locals>." ++ "<lambda>"), (Pt3, "law" ++ ".<locals>." ++ "<lambda>")]) F19 T DC
  have c_defender_by := ok_defender_by (P := l.prog) (w := w) (base := base) (Tb := [(Pt0, "_law_rk_talker" ++ ".<locals>." ++ "<lambda>"), (Pt1, "opposer_by" ++ ".<locals>." ++ "<lambda>"), (Pt2, "defender_by" ++ ".<locals>." ++ "<lambda>"), (Pt3, "law" ++ ".<locals>." ++ "<lambda>")]) F20 T DC c_known_ranks c_answer_to TB2 (by simp) HMU2
  have c_opposer_by := ok_opposer_by (P := l.prog) (w := w) (base := base) (Tb := [(Pt0, "_law_rk_talker" ++ ".<locals>." ++ "<lambda>"), (Pt1, "opposer_by" ++ ".<locals>." ++ "<lambda>"), (Pt2, "defender_by" ++ ".<locals>." ++ "<lambda>"), (Pt3, "law" ++ ".<locals>." ++ "<lambda>")]) F21 T c_greatest_doubt TB1 (by simp) HMU1
  have c_winning_defender := ok_winning_defender (P := l.prog) (w := w) (base := base) (Tb := [(Pt0, "_law_rk_talker" ++ ".<locals>." ++ "<lambda>"), (Pt1, "opposer_by" ++ ".<locals>." ++ "<lambda>"), (Pt2, "defender_by" ++ ".<locals>." ++ "<lambda>"), (Pt3, "law" ++ ".<locals>." ++ "<lambda>")]) F22 T c_checked_statement c_known_ranks c_defender_by
  have x_winning_defender := ox_winning_defender (P := l.prog) (w := w) (base := base) (Tb := [(Pt0, "_law_rk_talker" ++ ".<locals>." ++ "<lambda>"), (Pt1, "opposer_by" ++ ".<locals>." ++ "<lambda>"), (Pt2, "defender_by" ++ ".<locals>." ++ "<lambda>"), (Pt3, "law" ++ ".<locals>." ++ "<lambda>")]) F22 T x_checked_statement c_known_ranks c_defender_by
  have c_winning_opposer := ok_winning_opposer (P := l.prog) (w := w) (base := base) (Tb := [(Pt0, "_law_rk_talker" ++ ".<locals>." ++ "<lambda>"), (Pt1, "opposer_by" ++ ".<locals>." ++ "<lambda>"), (Pt2, "defender_by" ++ ".<locals>." ++ "<lambda>"), (Pt3, "law" ++ ".<locals>." ++ "<lambda>")]) F23 T c_checked_statement c_known_ranks c_opposer_by
  have x_winning_opposer := ox_winning_opposer (P := l.prog) (w := w) (base := base) (Tb := [(Pt0, "_law_rk_talker" ++ ".<locals>." ++ "<lambda>"), (Pt1, "opposer_by" ++ ".<locals>." ++ "<lambda>"), (Pt2, "defender_by" ++ ".<locals>." ++ "<lambda>"), (Pt3, "law" ++ ".<locals>." ++ "<lambda>")]) F23 T x_checked_statement c_known_ranks c_opposer_by
  have z_wins := ok_wins (P := l.prog) (w := w) (base := base) (Tb := [(Pt0, "_law_rk_talker" ++ ".<locals>." ++ "<lambda>"), (Pt1, "opposer_by" ++ ".<locals>." ++ "<lambda>"), (Pt2, "defender_by" ++ ".<locals>." ++ "<lambda>"), (Pt3, "law" ++ ".<locals>." ++ "<lambda>")]) F45 T c_d_objectors c_rk_why
  have OE : OwnEqR l.prog w K mg base 5 C (DEq K C) := ⟨fE, _, aE, iE, ok_Debate_eqD FE T DC ⟨_, PySem.W.mg_of X G aC, rfl⟩ IC cS, FE.binds (ps := ["self", "other"]) fun _ _ _ _ _ _ us hl => match us, hl with | [_, _], _ => rfl⟩
  have c_same := ok_sameX (P := l.prog) (w := w) (base := base) F28 T (ownQ_of OE) (atD_ok IC ki kl kt kd) 5
  have hh := ok_lawX (P := l.prog) (w := w) (base := base) (Tb := [(Pt0, "_law_rk_talker" ++ ".<locals>." ++ "<lambda>"), (Pt1, "opposer_by" ++ ".<locals>." ++ "<lambda>"), (Pt2, "defender_by" ++ ".<locals>." ++ "<lambda>"), (Pt3, "law" ++ ".<locals>." ++ "<lambda>")]) l46 c46 T c_start c_mixed c_rk_debate c_rk_made c_rk_ranks c_rk_talker z_rk_run z_wins z_least_talk c_winning_defender c_winning_opposer c_same m_Debate F44 EXB x_winning_defender x_winning_opposer TB3 (by simp) HMU3
  exact hh
end Gd
-- part R2
set_option Elab.async false
set_option pp.maxSteps 80
set_option pp.deepTerms false
open PySem PySem.W PyProof.Rows
set_option maxRecDepth 100000 in
set_option maxHeartbeats 0 in
theorem PySem.Challenge.cw_objections_k11_whole_who_defends_wins_holds : PySem.Challenge.rw_objections_k11_whole_who_defends_wins.Holds := by
  w_on; o_law; k_head; (case hw => w_witness2)
  k_fill
  refine Gd.walk_ofZ (l := PySem.Challenge.rw_objections_k11_whole_who_defends_wins) (n := 63) (k := 14) (x := "_law_script") rfl (by decide) rfl ⟨rfl, by decide, by decide⟩ (fun w h Y => PySem.W.km_in_of Y) ?F
  case F =>
    intro w mg fa h Y KX G hmg
    refine' Gd.all_mk KX G hmg (PySem.W.km_tabs_of Y _ (.head _)) (PySem.W.km_tabs_of Y _ (.tail _ (.head _))) (PySem.W.km_tabs_of Y _ (.tail _ (.tail _ (.head _)))) (PySem.W.km_tabs_of Y _ (.tail _ (.tail _ (.tail _ (.head _))))) ?cH0 ?nP0 ?cH1 ?nP1 ?cH2 ?nP2 ?cH3 ?nP3 ?aC ?aI ?lI ?cI ?kI ?iI ?aE ?lE ?cE ?kE ?iE ?pg ?hd ?po ?sa ?mk ?kc ?nS ?nO ?nT ?nF ?cA ?cN ?cT ?cM ?cS ?ks ?kl ?kt ?ki ?kd ?xBC ?xBL ?xBR ?xBS ?xBG ?xBH ?xBF ?xBE ?xBT ?xBK ?xBD ?xBO ?aB ?lB ?cB ?kB ?tB ?mC ?eC ?kfM ?kfE ?gS ?gF ?a0 ?l0 ?c0 ?k0 ?a1 ?l1 ?c1 ?k1 ?a2 ?l2 ?c2 ?k2 ?a3 ?l3 ?c3 ?k3 ?a4 ?l4 ?c4 ?k4 ?a5 ?l5 ?c5 ?k5 ?a6 ?l6 ?c6 ?k6 ?a7 ?l7 ?c7 ?k7 ?a8 ?l8 ?c8 ?k8 ?a9 ?l9 ?c9 ?k9 ?a10 ?l10 ?c10 ?k10 ?a11 ?l11 ?c11 ?k11 ?a12 ?l12 ?c12 ?k12 ?a13 ?l13 ?c13 ?k13 ?a14 ?l14 ?c14 ?k14 ?a15 ?l15 ?c15 ?k15 ?a16 ?l16 ?c16 ?k16 ?a17 ?l17 ?c17 ?k17 ?a18 ?l18 ?c18 ?k18 ?a19 ?l19 ?c19 ?k19 ?a20 ?l20 ?c20 ?k20 ?a21 ?l21 ?c21 ?k21 ?a22 ?l22 ?c22 ?k22 ?a23 ?l23 ?c23 ?k23 ?a24 ?l24 ?c24 ?k24 ?a25 ?l25 ?c25 ?k25 ?a26 ?l26 ?c26 ?k26 ?a27 ?l27 ?c27 ?k27 ?a28 ?l28 ?c28 ?k28 ?a29 ?l29 ?c29 ?k29 ?a30 ?l30 ?c30 ?k30 ?a31 ?l31 ?c31 ?k31 ?a32 ?l32 ?c32 ?k32 ?a33 ?l33 ?c33 ?k33 ?a34 ?l34 ?c34 ?k34 ?a35 ?l35 ?c35 ?k35 ?a36 ?l36 ?c36 ?k36 ?a37 ?l37 ?c37 ?k37 ?a38 ?l38 ?c38 ?k38 ?a39 ?l39 ?c39 ?k39 ?a40 ?l40 ?c40 ?k40 ?a41 ?l41 ?c41 ?k41 ?a42 ?l42 ?c42 ?k42 ?a43 ?l43 ?c43 ?k43 ?a44 ?l44 ?c44 ?k44 ?a45 ?l45 ?c45 ?k45 ?a46 ?l46 ?c46 ?k46 ?nq01 ?nq02 ?nq03 ?nq12 ?nq13 ?nq23 ?zlen ?zall ?zany ?zsorted ?zisinstance ?zlist ?ztuple ?zdict ?zint ?zbool ?zstr ?zzip ?zrange ?zenumerate ?zmin ?zrepr ?zord
    (case cH0 => first | k_is | kernel_rfl)
    (case nP0 => first | k_is | kernel_rfl)
    (case cH1 => first | k_is | kernel_rfl)
    (case nP1 => first | k_is | kernel_rfl)
    (case cH2 => first | k_is | kernel_rfl)
    (case nP2 => first | k_is | kernel_rfl)
    (case cH3 => first | k_is | kernel_rfl)
    (case nP3 => first | k_is | kernel_rfl)
    (case aC => first | k_is | rfl)
    (case aI => first | k_is | rfl)
    (case lI => first | k_is | rfl)
    (case cI => first | k_is | rfl)
    (case kI => first | k_is | rfl)
    (case iI => first | k_is | rfl)
    (case aE => first | k_is | rfl)
    (case lE => first | k_is | rfl)
    (case cE => first | k_is | rfl)
    (case kE => first | k_is | rfl)
    (case iE => first | k_is | rfl)
    (case pg => first | k_is | rfl)
    (case hd => first | k_is | rfl)
    (case po => first | k_is | rfl)
    (case sa => first | k_is | rfl)
    (case mk => first | k_is | rfl)
    (case kc => first | k_is | rfl)
    (case nS => first | k_is | rfl)
    (case nO => first | k_is | rfl)
    (case nT => first | k_is | rfl)
    (case nF => first | k_is | rfl)
    (case cA => first | k_is | rfl)
    (case cN => first | k_is | rfl)
    (case cT => first | k_is | rfl)
    (case cM => first | k_is | rfl)
    (case cS => first | k_is | kernel_rfl)
    (case ks => first | k_is | kernel_rfl)
    (case kl => first | k_is | kernel_rfl)
    (case kt => first | k_is | kernel_rfl)
    (case ki => first | k_is | kernel_rfl)
    (case kd => first | k_is | kernel_rfl)
    (case xBC => first | k_is | rfl)
    (case xBL => first | k_is | rfl)
    (case xBR => first | k_is | kernel_rfl)
    (case xBS => first | k_is | rfl)
    (case xBG => first | k_is | rfl)
    (case xBH => first | k_is | rfl)
    (case xBF => first | k_is | rfl)
    (case xBE => first | k_is | rfl)
    (case xBT => first | k_is | rfl)
    (case xBK => first | k_is | rfl)
    (case xBD => first | k_is | rfl)
    (case xBO => first | k_is | kernel_rfl)
    (case aB => first | k_is | rfl)
    (case lB => first | k_is | rfl)
    (case cB => first | k_is | rfl)
    (case kB => first | k_is | rfl)
    (case tB => first | k_is | rfl)
    (case mC => first | k_is | rfl)
    (case eC => first | k_is | rfl)
    (case kfM => first | k_is | kernel_rfl)
    (case kfE => first | k_is | kernel_rfl)
    (case gS => first | k_is | rfl)
    (case gF => first | k_is | rfl)
    (case a0 => first | k_is | rfl)
    (case l0 => first | k_is | rfl)
    (case c0 => first | k_is | rfl)
    (case k0 => first | k_is | rfl)
    (case a1 => first | k_is | rfl)
    (case l1 => first | k_is | rfl)
    (case c1 => first | k_is | rfl)
    (case k1 => first | k_is | rfl)
    (case a2 => first | k_is | rfl)
    (case l2 => first | k_is | rfl)
    (case c2 => first | k_is | rfl)
    (case k2 => first | k_is | rfl)
    (case a3 => first | k_is | rfl)
    (case l3 => first | k_is | rfl)
    (case c3 => first | k_is | rfl)
    (case k3 => first | k_is | rfl)
    (case a4 => first | k_is | rfl)
    (case l4 => first | k_is | rfl)
    (case c4 => first | k_is | rfl)
    (case k4 => first | k_is | rfl)
    (case a5 => first | k_is | rfl)
    (case l5 => first | k_is | rfl)
    (case c5 => first | k_is | rfl)
    (case k5 => first | k_is | rfl)
    (case a6 => first | k_is | rfl)
    (case l6 => first | k_is | rfl)
    (case c6 => first | k_is | rfl)
    (case k6 => first | k_is | rfl)
    (case a7 => first | k_is | rfl)
    (case l7 => first | k_is | rfl)
    (case c7 => first | k_is | rfl)
    (case k7 => first | k_is | rfl)
    (case a8 => first | k_is | rfl)
    (case l8 => first | k_is | rfl)
    (case c8 => first | k_is | rfl)
    (case k8 => first | k_is | rfl)
    (case a9 => first | k_is | rfl)
    (case l9 => first | k_is | rfl)
    (case c9 => first | k_is | rfl)
    (case k9 => first | k_is | rfl)
    (case a10 => first | k_is | rfl)
    (case l10 => first | k_is | rfl)
    (case c10 => first | k_is | rfl)
    (case k10 => first | k_is | rfl)
    (case a11 => first | k_is | rfl)
    (case l11 => first | k_is | rfl)
    (case c11 => first | k_is | rfl)
    (case k11 => first | k_is | rfl)
    (case a12 => first | k_is | rfl)
    (case l12 => first | k_is | rfl)
    (case c12 => first | k_is | rfl)
    (case k12 => first | k_is | rfl)
    (case a13 => first | k_is | rfl)
    (case l13 => first | k_is | rfl)
    (case c13 => first | k_is | rfl)
    (case k13 => first | k_is | rfl)
    (case a14 => first | k_is | rfl)
    (case l14 => first | k_is | rfl)
    (case c14 => first | k_is | rfl)
    (case k14 => first | k_is | rfl)
    (case a15 => first | k_is | rfl)
    (case l15 => first | k_is | rfl)
    (case c15 => first | k_is | rfl)
    (case k15 => first | k_is | rfl)
    (case a16 => first | k_is | rfl)
    (case l16 => first | k_is | rfl)
    (case c16 => first | k_is | rfl)
    (case k16 => first | k_is | rfl)
    (case a17 => first | k_is | rfl)
    (case l17 => first | k_is | rfl)
    (case c17 => first | k_is | rfl)
    (case k17 => first | k_is | rfl)
    (case a18 => first | k_is | rfl)
    (case l18 => first | k_is | rfl)
    (case c18 => first | k_is | rfl)
    (case k18 => first | k_is | rfl)
    (case a19 => first | k_is | rfl)
    (case l19 => first | k_is | rfl)
    (case c19 => first | k_is | rfl)
    (case k19 => first | k_is | rfl)
    (case a20 => first | k_is | rfl)
    (case l20 => first | k_is | rfl)
    (case c20 => first | k_is | rfl)
    (case k20 => first | k_is | rfl)
    (case a21 => first | k_is | rfl)
    (case l21 => first | k_is | rfl)
    (case c21 => first | k_is | rfl)
    (case k21 => first | k_is | rfl)
    (case a22 => first | k_is | rfl)
    (case l22 => first | k_is | rfl)
    (case c22 => first | k_is | rfl)
    (case k22 => first | k_is | rfl)
    (case a23 => first | k_is | rfl)
    (case l23 => first | k_is | rfl)
    (case c23 => first | k_is | rfl)
    (case k23 => first | k_is | rfl)
    (case a24 => first | k_is | rfl)
    (case l24 => first | k_is | rfl)
    (case c24 => first | k_is | rfl)
    (case k24 => first | k_is | rfl)
    (case a25 => first | k_is | rfl)
    (case l25 => first | k_is | rfl)
    (case c25 => first | k_is | rfl)
    (case k25 => first | k_is | rfl)
    (case a26 => first | k_is | rfl)
    (case l26 => first | k_is | rfl)
    (case c26 => first | k_is | rfl)
    (case k26 => first | k_is | rfl)
    (case a27 => first | k_is | rfl)
    (case l27 => first | k_is | rfl)
    (case c27 => first | k_is | rfl)
    (case k27 => first | k_is | rfl)
    (case a28 => first | k_is | rfl)
    (case l28 => first | k_is | rfl)
    (case c28 => first | k_is | rfl)
    (case k28 => first | k_is | rfl)
    (case a29 => first | k_is | rfl)
    (case l29 => first | k_is | rfl)
    (case c29 => first | k_is | rfl)
    (case k29 => first | k_is | rfl)
    (case a30 => first | k_is | rfl)
    (case l30 => first | k_is | rfl)
    (case c30 => first | k_is | rfl)
    (case k30 => first | k_is | rfl)
    (case a31 => first | k_is | rfl)
    (case l31 => first | k_is | rfl)
    (case c31 => first | k_is | rfl)
    (case k31 => first | k_is | rfl)
    (case a32 => first | k_is | rfl)
    (case l32 => first | k_is | rfl)
    (case c32 => first | k_is | rfl)
    (case k32 => first | k_is | rfl)
    (case a33 => first | k_is | rfl)
    (case l33 => first | k_is | rfl)
    (case c33 => first | k_is | rfl)
    (case k33 => first | k_is | rfl)
    (case a34 => first | k_is | rfl)
    (case l34 => first | k_is | rfl)
    (case c34 => first | k_is | rfl)
    (case k34 => first | k_is | rfl)
    (case a35 => first | k_is | rfl)
    (case l35 => first | k_is | rfl)
    (case c35 => first | k_is | rfl)
    (case k35 => first | k_is | rfl)
    (case a36 => first | k_is | rfl)
    (case l36 => first | k_is | rfl)
    (case c36 => first | k_is | rfl)
    (case k36 => first | k_is | rfl)
    (case a37 => first | k_is | rfl)
    (case l37 => first | k_is | rfl)
    (case c37 => first | k_is | rfl)
    (case k37 => first | k_is | rfl)
    (case a38 => first | k_is | rfl)
    (case l38 => first | k_is | rfl)
    (case c38 => first | k_is | rfl)
    (case k38 => first | k_is | rfl)
    (case a39 => first | k_is | rfl)
    (case l39 => first | k_is | rfl)
    (case c39 => first | k_is | rfl)
    (case k39 => first | k_is | rfl)
    (case a40 => first | k_is | rfl)
    (case l40 => first | k_is | rfl)
    (case c40 => first | k_is | rfl)
    (case k40 => first | k_is | rfl)
    (case a41 => first | k_is | rfl)
    (case l41 => first | k_is | rfl)
    (case c41 => first | k_is | rfl)
    (case k41 => first | k_is | rfl)
    (case a42 => first | k_is | rfl)
    (case l42 => first | k_is | rfl)
    (case c42 => first | k_is | rfl)
    (case k42 => first | k_is | rfl)
    (case a43 => first | k_is | rfl)
    (case l43 => first | k_is | rfl)
    (case c43 => first | k_is | rfl)
    (case k43 => first | k_is | rfl)
    (case a44 => first | k_is | rfl)
    (case l44 => first | k_is | rfl)
    (case c44 => first | k_is | rfl)
    (case k44 => first | k_is | rfl)
    (case a45 => first | k_is | rfl)
    (case l45 => first | k_is | rfl)
    (case c45 => first | k_is | rfl)
    (case k45 => first | k_is | rfl)
    (case a46 => first | k_is | rfl)
    (case l46 => first | k_is | rfl)
    (case c46 => first | k_is | rfl)
    (case k46 => first | k_is | rfl)
    (case nq01 => first | k_is | decide)
    (case nq02 => first | k_is | decide)
    (case nq03 => first | k_is | decide)
    (case nq12 => first | k_is | decide)
    (case nq13 => first | k_is | decide)
    (case nq23 => first | k_is | decide)
    (case zlen => first | k_is | rfl)
    (case zall => first | k_is | rfl)
    (case zany => first | k_is | rfl)
    (case zsorted => first | k_is | rfl)
    (case zisinstance => first | k_is | rfl)
    (case zlist => first | k_is | rfl)
    (case ztuple => first | k_is | rfl)
    (case zdict => first | k_is | rfl)
    (case zint => first | k_is | rfl)
    (case zbool => first | k_is | rfl)
    (case zstr => first | k_is | rfl)
    (case zzip => first | k_is | rfl)
    (case zrange => first | k_is | rfl)
    (case zenumerate => first | k_is | rfl)
    (case zmin => first | k_is | rfl)
    (case zrepr => first | k_is | rfl)
    (case zord => first | k_is | rfl)
