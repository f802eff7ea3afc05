import PyProof.Rows.All
import Wide.All
import OpenK.AllK
import Wide.FinOn
import PyProof.EqAt
import PyProof.EqKinds
import PyProof.TupleCall
import HandS.ForMost
import HandS.ForExc
import HandS.IsInst
import HandS.Flow
import HandS.TryMany
import HandS.TupAny
import HandS.TupMul
import HandS.Comp
import HandS.Zip
import HandS.RevRange
import HandS.Defaults
import HandS.Wide
import HandS.Rev
import PySem.Challenge.RW_roadsworn_k07_signatures
set_option Elab.async false
set_option linter.all false
set_option maxRecDepth 100000
set_option maxHeartbeats 2000000
/-! Python values as pure data; what a piece of the program does as a function on them; one lemma a construct. -/
namespace Mir
open PySem PySem.Spec L2
open PyProof.Rows hiding St

/-- a value as a tree -/
inductive D where
  | non | bl (b : Bool) | int (i : Int) | str (s : List Nat) | tup (ds : List D) | lst (ds : List D) | dic (ks vs : List D) | deck | ext (n : Nat)

abbrev mkS (l : List Nat) : Str := ⟨l.toArray⟩
def SOk (l : List Nat) : Prop := l.length ≤ 1048576 ∧ ∀ c ∈ l, c < 1114112

/-- the law's deck: where it stands, what it holds -/
structure Deck (S : Type) where
  val : V
  dom : Addr → Prop
  At : S → Hp → Prop
  stab : ∀ s H H', At s H → (∀ a, dom a → H' a = H a) → At s H'
  there : ∀ s H a, At s H → dom a → H a ≠ none
  /-- other objects from outside, n items long: the addresses they are read by -/
  sa : Addr → Prop
  ext : Hp → V → Nat → Prop
  ext_st : ∀ H H' v n, ext H v n → (∀ a, sa a → H' a = H a) → ext H' v n

/-- a value v stands for the tree d, by addresses outside A -/
inductive Dat {S : Type} (C : Deck S) (H : Hp) (A : Addr → Prop) : V → D → Prop
  | non : Dat C H A .non .non
  | bl (b : Bool) : Dat C H A (.bl b) (.bl b)
  | int (i : Int) : Dat C H A (.int i) (.int i)
  | str {l : List Nat} : SOk l → Dat C H A (.str (mkS l)) (.str l)
  | tup {a : Addr} {xs : List V} {ds : List D} : ¬ A a → H a = some (.tup xs) → xs.length = ds.length → (∀ (i : Nat) x d, xs[i]? = some x → ds[i]? = some d → Dat C H A x d) → Dat C H A (.ref a) (.tup ds)
  | lst {a : Addr} {xs : List V} {ds : List D} : ¬ A a → H a = some (.lst xs) → xs.length = ds.length → (∀ (i : Nat) x d, xs[i]? = some x → ds[i]? = some d → Dat C H A x d) → Dat C H A (.ref a) (.lst ds)
  | deck : Dat C H A C.val .deck
  | ext {v : V} {n : Nat} : (∀ a, C.sa a → ¬ A a ∧ H a ≠ none) → C.ext H v n → Dat C H A v (.ext n)

/-- lists of values -/
structure Dats {S : Type} (C : Deck S) (H : Hp) (A : Addr → Prop) (xs : List V) (ds : List D) : Prop where
  len : xs.length = ds.length
  at_ : ∀ (i : Nat) x d, xs[i]? = some x → ds[i]? = some d → Dat C H A x d

/-- all that is tracked outside of dom is kept -/
def Keep (dom : Addr → Prop) (H H' : Hp) : Prop := ∀ a o, ¬ dom a → H a = some o → H' a = some o
theorem Keep.refl {dom : Addr → Prop} {H : Hp} : Keep dom H H := fun _ _ _ h => h
theorem Keep.trans {dom : Addr → Prop} {H H' H'' : Hp} (a : Keep dom H H') (b : Keep dom H' H'') : Keep dom H H'' := fun x o n h => b x o n (a x o n h)
theorem Keep.upd {dom : Addr → Prop} {H : Hp} {p : Addr} {o : HO} (h : H p = none) : Keep dom H (upd H p o) := fun a u _ e => by
  rw [upd_ne (ne_of_none e h)]; exact e

section
variable {S : Type} {C : Deck S} {H H' : Hp} {A A' dom : Addr → Prop} {v : V} {d : D} {xs : List V} {ds : List D}
theorem some_ne {a : Addr} {o : HO} (r : H a = some o) : H a ≠ none := by rw [r]; exact fun z => nomatch z
/-- the heap grows, the forbidden addresses change outside of what was tracked -/
theorem Dat.lift (h : Dat C H A v d) (k : Keep dom H H') (hd : ∀ a, dom a → A a) (hA : ∀ a, A' a → A a ∨ H a = none) : Dat C H' A' v d := by
  induction h with
  | non => exact .non
  | bl b => exact .bl b
  | int i => exact .int i
  | str s => exact .str s
  | @tup a xs ds n r l _ ih =>
    refine .tup (fun z => ?_) (k a _ (fun z => n (hd a z)) r) l ih
    rcases hA a z with z | z
    · exact n z
    · exact some_ne r z
  | @lst a xs ds n r l _ ih =>
    refine .lst (fun z => ?_) (k a _ (fun z => n (hd a z)) r) l ih
    rcases hA a z with z | z
    · exact n z
    · exact some_ne r z
  | deck => exact .deck
  | ext h e =>
    have kk : ∀ a, C.sa a → H' a = H a := fun a ha => by
      obtain ⟨h1, h2⟩ := h a ha
      cases q : H a with
      | none => exact absurd q h2
      | some o => exact k a o (fun z => h1 (hd a z)) q
    refine .ext (fun a ha => ⟨fun z => ?_, by rw [kk a ha]; exact (h a ha).2⟩) (C.ext_st _ _ _ _ e kk)
    rcases hA a z with z | z
    · exact (h a ha).1 z
    · exact (h a ha).2 z
theorem Dats.lift (h : Dats C H A xs ds) (k : Keep dom H H') (hd : ∀ a, dom a → A a) (hA : ∀ a, A' a → A a ∨ H a = none) : Dats C H' A' xs ds :=
  ⟨h.len, fun i x d e1 e2 => (h.at_ i x d e1 e2).lift k hd hA⟩
theorem Dat.keep (h : Dat C H A v d) (k : Keep dom H H') (hd : ∀ a, dom a → A a) : Dat C H' A v d := h.lift k hd fun _ => .inl
theorem Dats.keep (h : Dats C H A xs ds) (k : Keep dom H H') (hd : ∀ a, dom a → A a) : Dats C H' A xs ds := h.lift k hd fun _ => .inl
theorem Dat.less (h : Dat C H A v d) (hA : ∀ a, A' a → A a) : Dat C H A' v d := by
  induction h with
  | non => exact .non
  | bl b => exact .bl b
  | int i => exact .int i
  | str s => exact .str s
  | tup n r l _ ih => exact .tup (fun z => n (hA _ z)) r l ih
  | lst n r l _ ih => exact .lst (fun z => n (hA _ z)) r l ih
  | deck => exact .deck
  | ext h e => exact .ext (fun a ha => ⟨fun z => (h a ha).1 (hA a z), (h a ha).2⟩) e
theorem Dats.less (h : Dats C H A xs ds) (hA : ∀ a, A' a → A a) : Dats C H A' xs ds := ⟨h.len, fun i x d e1 e2 => (h.at_ i x d e1 e2).less hA⟩
/-- what is written at a forbidden address is not seen -/
theorem Dat.write (h : Dat C H A v d) (k : ∀ a, ¬ A a → H' a = H a) : Dat C H' A v d := by
  induction h with
  | non => exact .non
  | bl b => exact .bl b
  | int i => exact .int i
  | str s => exact .str s
  | tup n r l _ ih => exact .tup n ((k _ n).trans r) l ih
  | lst n r l _ ih => exact .lst n ((k _ n).trans r) l ih
  | deck => exact .deck
  | ext h e => exact .ext (fun a ha => ⟨(h a ha).1, by rw [k a (h a ha).1]; exact (h a ha).2⟩) (C.ext_st _ _ _ _ e fun a ha => k a (h a ha).1)
theorem Dats.write (h : Dats C H A xs ds) (k : ∀ a, ¬ A a → H' a = H a) : Dats C H' A xs ds := ⟨h.len, fun i x d e1 e2 => (h.at_ i x d e1 e2).write k⟩
theorem Dats.nil : Dats C H A [] [] := ⟨rfl, fun i x d e => by simp at e⟩
theorem Dats.cons (h : Dat C H A v d) (t : Dats C H A xs ds) : Dats C H A (v :: xs) (d :: ds) := ⟨by simp [t.len], fun i x e e1 e2 => by
  cases i with
  | zero => simp at e1 e2; subst e1; subst e2; exact h
  | succ i => exact t.at_ i x e (by simpa using e1) (by simpa using e2)⟩
theorem Dats.uncons {d : D} {ds : List D} (h : Dats C H A xs (d :: ds)) : ∃ x r, xs = x :: r ∧ Dat C H A x d ∧ Dats C H A r ds := by
  cases xs with
  | nil => exact absurd h.len (by simp)
  | cons x r => exact ⟨x, r, rfl, h.at_ 0 x d rfl rfl, by simpa using h.len, fun i y e e1 e2 => h.at_ (i + 1) y e (by simpa using e1) (by simpa using e2)⟩
theorem Dats.unnil (h : Dats C H A xs []) : xs = [] := List.length_eq_zero_iff.mp h.len
theorem Dats.append {ys : List V} {es : List D} (h : Dats C H A xs ds) (t : Dats C H A ys es) : Dats C H A (xs ++ ys) (ds ++ es) := by
  induction ds generalizing xs with
  | nil => rw [h.unnil]; exact t
  | cons d ds ih =>
    obtain ⟨x, r, rfl, h1, h2⟩ := h.uncons
    exact (ih h2).cons h1
theorem Dats.get {i : Nat} {d : D} (h : Dats C H A xs ds) (e : ds[i]? = some d) : ∃ x, xs[i]? = some x ∧ Dat C H A x d := by
  have hl : i < ds.length := (List.getElem?_eq_some_iff.mp e).1
  have hx : i < xs.length := by rw [h.len]; exact hl
  exact ⟨xs[i], List.getElem?_eq_getElem hx, h.at_ i _ d (List.getElem?_eq_getElem hx) e⟩
theorem Dat.tup_mk {a : Addr} (n : ¬ A a) (r : H a = some (.tup xs)) (h : Dats C H A xs ds) : Dat C H A (.ref a) (.tup ds) := .tup n r h.len h.at_
theorem Dat.lst_mk {a : Addr} (n : ¬ A a) (r : H a = some (.lst xs)) (h : Dats C H A xs ds) : Dat C H A (.ref a) (.lst ds) := .lst n r h.len h.at_
theorem Dat.of_tup (h : Dat C H A v (.tup ds)) : ∃ a xs, v = .ref a ∧ ¬ A a ∧ H a = some (.tup xs) ∧ Dats C H A xs ds := by
  cases h with
  | tup n r l i => exact ⟨_, _, rfl, n, r, l, i⟩
theorem Dat.of_lst (h : Dat C H A v (.lst ds)) : ∃ a xs, v = .ref a ∧ ¬ A a ∧ H a = some (.lst xs) ∧ Dats C H A xs ds := by
  cases h with
  | lst n r l i => exact ⟨_, _, rfl, n, r, l, i⟩
end

/-- a slot: data, or a list that this frame alone knows -/
inductive Sl where
  | val (d : D)
  | own (ds : List D)
abbrev En := List (Option Sl)

/-- the outcome of an expression: a value, an own error by its name, or nothing that is told -/
inductive R (S α : Type) where
  | ok (a : α) (s : S)
  | ex (c : Str) (s : S)
  | bad
def R.bind {S α β : Type} (r : R S α) (f : α → S → R S β) : R S β :=
  match r with
  | .ok a s => f a s
  | .ex c s => .ex c s
  | .bad => .bad
def R.map {S α β : Type} (r : R S α) (f : α → β) : R S β :=
  match r with
  | .ok a s => .ok (f a) s
  | .ex c s => .ex c s
  | .bad => .bad
@[simp] theorem R.bind_ok {S α β : Type} {a : α} {s : S} {f : α → S → R S β} : (R.ok a s).bind f = f a s := rfl
@[simp] theorem R.bind_ex {S α β : Type} {c : Str} {s : S} {f : α → S → R S β} : (R.ex c s : R S α).bind f = .ex c s := rfl
@[simp] theorem R.bind_bad {S α β : Type} {f : α → S → R S β} : (R.bad : R S α).bind f = .bad := rfl
@[simp] theorem R.map_ok {S α β : Type} {a : α} {s : S} {f : α → β} : (R.ok a s).map f = .ok (f a) s := rfl
abbrev E1 (S α : Type) := En → S → R S α
abbrev DE (S : Type) := E1 S D
abbrev DT (S : Type) := E1 S Bool
abbrev DA (S : Type) := E1 S (List D)

inductive Out (S : Type) where
  | nx (ρ : En) (s : S)
  | rt (d : D) (s : S)
  | bk (ρ : En) (s : S)
  | ct (ρ : En) (s : S)
  | ex (c : Str) (ρ : En) (s : S)
  | bad
abbrev DS (S : Type) := En → S → Out S

section
variable {S : Type}
def SlAt (C : Deck S) (A0 : Addr → Prop) (H0 : Hp) (A : Addr → Prop) (H : Hp) (v : V) : Sl → Prop
  | .val d => Dat C H A v d
  | .own ds => ∃ a xs, v = .ref a ∧ A a ∧ H0 a = none ∧ ¬ A0 a ∧ H a = some (.lst xs) ∧ Dats C H A xs ds

/-- the state: slots, heap, deck -/
structure SAt (C : Deck S) (A0 : Addr → Prop) (H0 : Hp) (A : Addr → Prop) (H : Hp) (σ : St) (ρ : En) (st : S) : Prop where
  len : σ.length = ρ.length
  sl : ∀ (i : Nat) x, ρ[i]? = some (some x) → ∃ v, σ[i]? = some (some v) ∧ SlAt C A0 H0 A H v x
  apart : ∀ (i j : Nat) ds es, i ≠ j → ρ[i]? = some (some (.own ds)) → ρ[j]? = some (some (.own es)) → σ[i]? ≠ σ[j]?
  fresh : ∀ a, A a → H a ≠ none
  sub : ∀ a, A0 a → A a
  lim : ∀ a, A a → A0 a ∨ H0 a = none
  dom : ∀ a, C.dom a → A0 a
  keep : Keep C.dom H0 H
  at_ : C.At st H
variable {C : Deck S} {A0 A A' : Addr → Prop} {H0 H H' : Hp} {σ : St} {ρ : En} {st st' : S}
theorem SAt.domA (I : SAt C A0 H0 A H σ ρ st) : ∀ a, C.dom a → A a := fun a h => I.sub a (I.dom a h)
/-- own slots stand outside of dom -/
theorem SAt.next (I : SAt C A0 H0 A H σ ρ st) (k : Keep C.dom H H') (h : C.At st' H') : SAt C A0 H0 A H' σ ρ st' where
  len := I.len
  sl := fun i x e => by
    obtain ⟨v, e1, q⟩ := I.sl i x e
    refine ⟨v, e1, ?_⟩
    cases x with
    | val d => exact Dat.keep q k I.domA
    | own ds =>
      obtain ⟨a, xs, rfl, h1, h2, h3, h4, h5⟩ := q
      exact ⟨a, xs, rfl, h1, h2, h3, k a _ (fun z => h3 (I.dom a z)) h4, h5.keep k I.domA⟩
  apart := I.apart
  fresh := fun a ha => by
    by_cases z : C.dom a
    · exact C.there _ _ a h z
    · cases e : H a with
      | none => exact absurd e (I.fresh a ha)
      | some o => rw [k a o z e]; exact fun z => nomatch z
  sub := I.sub
  lim := I.lim
  dom := I.dom
  keep := I.keep.trans k
  at_ := h

/-- a slot is given data -/
theorem SAt.set {v : V} {d : D} {i : Nat} (I : SAt C A0 H0 A H σ ρ st) (h : Dat C H A v d) : SAt C A0 H0 A H (σ.set i (some v)) (ρ.set i (some (.val d))) st where
  len := by rw [List.length_set, List.length_set]; exact I.len
  sl := fun j x e => by
    by_cases hj : j = i
    · subst hj
      have hl : j < ρ.length := by have := (List.getElem?_eq_some_iff.mp e).1; rwa [List.length_set] at this
      rw [List.getElem?_set_self hl] at e
      cases e
      exact ⟨v, by rw [List.getElem?_set_self (by rw [I.len]; exact hl)], h⟩
    · rw [List.getElem?_set_ne (Ne.symm hj)] at e
      obtain ⟨w, e1, q⟩ := I.sl j x e
      exact ⟨w, by rw [List.getElem?_set_ne (Ne.symm hj)]; exact e1, q⟩
  apart := fun j k ds es n e1 e2 => by
    have ne : ∀ {j ds}, (ρ.set i (some (.val d)))[j]? = some (some (.own ds)) → j ≠ i ∧ ρ[j]? = some (some (.own ds)) := fun {j ds} e => by
      by_cases hj : j = i
      · subst hj
        have hl : j < ρ.length := by have := (List.getElem?_eq_some_iff.mp e).1; rwa [List.length_set] at this
        rw [List.getElem?_set_self hl] at e
        cases e
      · exact ⟨hj, by rwa [List.getElem?_set_ne (Ne.symm hj)] at e⟩
    obtain ⟨n1, q1⟩ := ne e1
    obtain ⟨n2, q2⟩ := ne e2
    rw [List.getElem?_set_ne (Ne.symm n1), List.getElem?_set_ne (Ne.symm n2)]
    exact I.apart j k ds es n q1 q2
  fresh := I.fresh
  sub := I.sub
  lim := I.lim
  dom := I.dom
  keep := I.keep
  at_ := I.at_
/-- the addresses that stay forbidden when the own slots in sc are given away -/
def Amin (A : Addr → Prop) (σ : St) (ρ : En) (sc : List Nat) : Addr → Prop := fun a => A a ∧ ∀ i ∈ sc, ∀ ds, ρ[i]? = some (some (.own ds)) → σ[i]? ≠ some (some (.ref a))
theorem Amin.sub {sc : List Nat} {a : Addr} (h : Amin A σ ρ sc a) : A a := h.1
theorem Amin.nil : Amin A σ ρ [] = A := by
  funext a
  exact propext ⟨fun h => h.1, fun h => ⟨h, fun _ z => nomatch z⟩⟩
theorem Amin.more {sc sc' : List Nat} {a : Addr} (hs : ∀ i ∈ sc, i ∈ sc') (h : Amin A σ ρ sc' a) : Amin A σ ρ sc a := ⟨h.1, fun i hi => h.2 i (hs i hi)⟩
theorem SAt.own_ne (I : SAt C A0 H0 A H σ ρ st) {i : Nat} {ds : List D} {a : Addr} (e : ρ[i]? = some (some (.own ds))) (ha : A0 a) : σ[i]? ≠ some (some (.ref a)) := fun z => by
  obtain ⟨v, e1, a', xs, rfl, h1, h2, h3, h4, h5⟩ := I.sl i _ e
  rw [e1] at z
  cases z
  exact h3 ha
theorem SAt.sub0 (I : SAt C A0 H0 A H σ ρ st) (sc : List Nat) : ∀ a, A0 a → Amin A σ ρ sc a := fun a h => ⟨I.sub a h, fun _ _ _ e => I.own_ne e h⟩
theorem SAt.dom0 (I : SAt C A0 H0 A H σ ρ st) (sc : List Nat) : ∀ a, C.dom a → Amin A σ ρ sc a := fun a h => I.sub0 sc a (I.dom a h)
/-- the own slots in sc become data -/
def frz (sc : List Nat) (ρ : En) : En := ρ.mapIdx fun i x => match x with
  | some (.own ds) => if i ∈ sc then some (.val (.lst ds)) else x
  | _ => x
theorem frz_get {sc : List Nat} {ρ : En} {i : Nat} : (frz sc ρ)[i]? = (ρ[i]?).map fun x => match x with
    | some (.own ds) => if i ∈ sc then some (.val (.lst ds)) else x
    | _ => x := by
  unfold frz
  rw [List.getElem?_mapIdx]
@[simp] theorem frz_nil (ρ : En) : frz [] ρ = ρ := by
  refine List.ext_getElem? fun i => ?_
  rw [frz_get]
  cases ρ[i]? with
  | none => rfl
  | some x => cases x with
    | none => rfl
    | some y => cases y <;> simp
theorem SAt.freeze (I : SAt C A0 H0 A H σ ρ st) (sc : List Nat) : SAt C A0 H0 (Amin A σ ρ sc) H σ (frz sc ρ) st where
  len := by unfold frz; rw [List.length_mapIdx]; exact I.len
  sl := fun i x e => by
    rw [frz_get] at e
    cases q : ρ[i]? with
    | none => rw [q] at e; cases e
    | some y =>
      rw [q] at e
      cases y with
      | none => simp at e
      | some y =>
        obtain ⟨v, e1, s⟩ := I.sl i y q
        refine ⟨v, e1, ?_⟩
        cases y with
        | val d =>
          simp at e
          subst e
          exact Dat.less s fun _ => Amin.sub
        | own ds =>
          obtain ⟨a, xs, rfl, h1, h2, h3, h4, h5⟩ := s
          by_cases hi : i ∈ sc
          · simp [hi] at e
            subst e
            exact Dat.lst_mk (fun z => z.2 i hi ds q e1) h4 (h5.less fun _ => Amin.sub)
          · simp [hi] at e
            subst e
            refine ⟨a, xs, rfl, ⟨h1, fun j hj es ej => ?_⟩, h2, h3, h4, h5.less fun _ => Amin.sub⟩
            have := I.apart j i es ds (fun z => hi (z ▸ hj)) ej q
            rw [e1] at this
            exact this
  apart := fun i j ds es n e1 e2 => by
    have ow : ∀ {i : Nat} {ds : List D}, (frz sc ρ)[i]? = some (some (Sl.own ds)) → ρ[i]? = some (some (Sl.own ds)) := fun {i ds} e => by
      rw [frz_get] at e
      cases q : ρ[i]? with
      | none => rw [q] at e; cases e
      | some y =>
        rw [q] at e
        cases y with
        | none => simp at e
        | some y => cases y with
          | val d => simp at e
          | own ds' =>
            by_cases hi : i ∈ sc
            · simp [hi] at e
            · simpa [hi] using e
    exact I.apart i j ds es n (ow e1) (ow e2)
  fresh := fun a h => I.fresh a h.1
  sub := I.sub0 sc
  lim := fun a h => I.lim a h.1
  dom := I.dom
  keep := I.keep
  at_ := I.at_

/-! ### goals -/
/-- what is wanted of an outcome: ok by P, an own error by the wish W -/
def RG (C : Deck S) (mg : Str → Option Value) (W : WX) (σ : St) (H : Hp) {α : Type} (r : R S α) (P : α → S → Hp → Prop) : Prop :=
  match r with
  | .ok a s => ∀ H', Keep C.dom H H' → C.At s H' → P a s H'
  | .ex c s => ∀ a H', mg c = some (.ref a) → Keep C.dom H H' → C.At s H' → W (.ref a) none σ H'
  | .bad => False
section
variable {mg : Str → Option Value} {W : WX} {α β : Type} {r : R S α} {P P' : α → S → Hp → Prop}
theorem RG.move (h : RG C mg W σ H r P) (k : Keep C.dom H H') : RG C mg W σ H' r P := by
  cases r with
  | ok a s => exact fun H'' k' t => h H'' (k.trans k') t
  | ex c s => exact fun a H'' m k' t => h a H'' m (k.trans k') t
  | bad => exact h
theorem RG.imp (h : RG C mg W σ H r P) (f : ∀ a s H', Keep C.dom H H' → C.At s H' → P a s H' → P' a s H') : RG C mg W σ H r P' := by
  cases r with
  | ok a s => exact fun H' k t => f a s H' k t (h H' k t)
  | ex c s => exact h
  | bad => exact h
theorem RG.bind {g : α → S → R S β} {P : β → S → Hp → Prop} (h : RG C mg W σ H (r.bind g) P) : RG C mg W σ H r fun a s H' => RG C mg W σ H' (g a s) P := by
  cases r with
  | ok a s => exact fun H' k _ => RG.move (r := g a s) h k
  | ex c s => exact h
  | bad => exact h
end
/-- the reading of an expression by what it does -/
def cte (C : Deck S) (mg : Str → Option Value) (W : WX) (sc : List Nat) (de : DE S) : TE := fun σ H Q => ∃ A0 H0 A ρ st, SAt C A0 H0 A H σ ρ st ∧
  RG C mg W σ H (de ρ st) fun d _ H' => ∀ v, Dat C H' (Amin A σ ρ sc) v d → Q v H'
def ctt (C : Deck S) (mg : Str → Option Value) (W : WX) (dt : DT S) : TT := fun σ H Q => ∃ A0 H0 A ρ st, SAt C A0 H0 A H σ ρ st ∧ RG C mg W σ H (dt ρ st) fun b _ H' => Q b H'
def cta (C : Deck S) (mg : Str → Option Value) (W : WX) (sc : List Nat) (da : DA S) : TA := fun σ H Q => ∃ A0 H0 A ρ st, SAt C A0 H0 A H σ ρ st ∧
  RG C mg W σ H (da ρ st) fun ds _ H' => ∀ vs, Dats C H' (Amin A σ ρ sc) vs ds → Q vs H'
/-- a fresh list -/
def ctf (C : Deck S) (mg : Str → Option Value) (W : WX) (sc : List Nat) (da : DA S) : TE := fun σ H Q => ∃ A0 H0 A ρ st, SAt C A0 H0 A H σ ρ st ∧
  RG C mg W σ H (da ρ st) fun ds _ H1 => ∀ p xs, H1 p = none → Dats C H1 (Amin A σ ρ sc) xs ds → xs.length ≤ sizeLine → Q (.ref p) (upd H1 p (.lst xs))
def SG (C : Deck S) (mg : Str → Option Value) (W : WX) (A0 : Addr → Prop) (H0 : Hp) (o : Out S) (D : Ends) : Prop :=
  match o with
  | .nx ρ s => ∀ A H σ, SAt C A0 H0 A H σ ρ s → D.nx σ H
  | .rt d s => ∀ H v, Keep C.dom H0 H → C.At s H → Dat C H A0 v d → D.rt v H
  | .bk ρ s => ∀ A H σ, SAt C A0 H0 A H σ ρ s → D.bk σ H
  | .ct ρ s => ∀ A H σ, SAt C A0 H0 A H σ ρ s → D.ct σ H
  | .ex c ρ s => ∀ a A H σ, mg c = some (.ref a) → SAt C A0 H0 A H σ ρ s → W (.ref a) none σ H
  | .bad => False
def cts (C : Deck S) (mg : Str → Option Value) (W : WX) (ds : DS S) : TS := fun D σ H => ∃ A0 H0 A ρ st, SAt C A0 H0 A H σ ρ st ∧ SG C mg W A0 H0 (ds ρ st) D

variable {X : Cx} {W : WX}
theorem pe_imp {e : Expr} {t t' : TE} (h : PE X e t) (i : ∀ σ H Q, t' σ H Q → t σ H Q) : PE X e t' := ⟨fun pins s σ H Q I q => h.run pins s σ H Q I (i σ H Q q)⟩
theorem pt_imp {e : Expr} {t t' : TT} (h : PT X e t) (i : ∀ σ H Q, t' σ H Q → t σ H Q) : PT X e t' := ⟨fun pins s σ H Q I q => h.run pins s σ H Q I (i σ H Q q)⟩
theorem pw_imp {e : Expr} {t t' : TT} (h : PW X e t) (i : ∀ σ H Q, t' σ H Q → t σ H Q) : PW X e t' := ⟨fun wh pins s σ H Q I q => h.run wh pins s σ H Q I (i σ H Q q)⟩
theorem pa_imp {es : List Expr} {t t' : TA} (h : PA X es t) (i : ∀ σ H Q, t' σ H Q → t σ H Q) : PA X es t' := ⟨fun pos pins s σ H Q I q => h.run pos pins s σ H Q I (i σ H Q q)⟩
theorem ps_imp {st : Stmt} {t t' : TS} (h : PS X st t) (i : ∀ D σ H, t' D σ H → t D σ H) : PS X st t' := ⟨fun pins s σ H D I q => h.run pins s σ H D I (i D σ H q)⟩
theorem pss_imp {st : List Stmt} {t t' : TS} (h : PSs X st t) (i : ∀ D σ H, t' D σ H → t D σ H) : PSs X st t' := ⟨fun pins s σ H D I q => h.run pins s σ H D I (i D σ H q)⟩

/-- an expression does de; sc: the own slots that its value may go through -/
def PD (X : Cx) (C : Deck S) (W : WX) (e : Expr) (sc : List Nat) (de : DE S) : Prop := PE X e (cte C X.mg W sc de)
def PTd (X : Cx) (C : Deck S) (W : WX) (e : Expr) (dt : DT S) : Prop := PT X e (ctt C X.mg W dt)
def PWd (X : Cx) (C : Deck S) (W : WX) (e : Expr) (dt : DT S) : Prop := PW X e (ctt C X.mg W dt)
def PAd (X : Cx) (C : Deck S) (W : WX) (es : List Expr) (sc : List Nat) (da : DA S) : Prop := PA X es (cta C X.mg W sc da)
def PF (X : Cx) (C : Deck S) (W : WX) (e : Expr) (sc : List Nat) (da : DA S) : Prop := PE X e (ctf C X.mg W sc da)
def PSd (X : Cx) (C : Deck S) (W : WX) (s : Stmt) (ds : DS S) : Prop := PS X s (cts C X.mg W ds)
def PBd (X : Cx) (C : Deck S) (W : WX) (b : List Stmt) (ds : DS S) : Prop := PSs X b (cts C X.mg W ds)

/-! ### names, constants -/
variable {e a b : Expr} {es : List Expr} {pos : Pos} {sc sc' sa sb : List Nat} {de da db : DE S} {dt dt' : DT S} {dl : DA S}
theorem RG.done {α : Type} {x : α} {mg : Str → Option Value} {P : α → S → Hp → Prop} (h : RG C mg W σ H (.ok x st) P) (t : C.At st H) : P x st H := h H Keep.refl t
def dC (d : D) : DE S := fun _ s => .ok d s
def dVar (i : Nat) : DE S := fun ρ s => match ρ[i]? with
  | some (some (.val d)) => .ok d s
  | _ => .bad
def dOwn (i : Nat) : DE S := fun ρ s => match ρ[i]? with
  | some (some (.own ds)) => .ok (.lst ds) s
  | some (some (.val d)) => .ok d s
  | _ => .bad
theorem pd_of (h : PE X e t) (i : ∀ (A0 : Addr → Prop) (H0 : Hp) (A : Addr → Prop) (ρ : En) (st : S) (σ : St) (H : Hp) (Q : VK), SAt C A0 H0 A H σ ρ st →
    RG C X.mg W σ H (de ρ st) (fun d _ H' => ∀ v, Dat C H' (Amin A σ ρ sc) v d → Q v H') → t σ H Q) : PD X C W e sc de :=
  pe_imp h fun σ H Q ⟨A0, H0, A, ρ, st, I, g⟩ => i A0 H0 A ρ st σ H Q I g
theorem pd_int {i : Int} {j} : PD X C W (.Constant (.int i) j pos) [] (dC (.int i)) := pd_of pe_int fun _ _ _ _ _ _ _ _ I g => g.done I.at_ _ (.int i)
theorem pd_bl {k : Bool} {j} : PD X C W (.Constant (.bool k) j pos) [] (dC (.bl k)) := pd_of pe_bl fun _ _ _ _ _ _ _ _ I g => g.done I.at_ _ (.bl k)
theorem pd_non {j} : PD X C W (.Constant .none j pos) [] (dC .non) := pd_of pe_non fun _ _ _ _ _ _ _ _ I g => g.done I.at_ _ .non
theorem pd_str {x : Str} {j} (l : List Nat) (hx : x = mkS l) (hl : SOk l) : PD X C W (.Constant (.str x) j pos) [] (dC (.str l)) := by
  subst hx
  exact pd_of pe_str fun _ _ _ _ _ _ _ _ I g => g.done I.at_ _ (.str hl)
theorem pd_var (i : Nat) {x : Str} (hN : X.N[i]? = some x := by rfl) (hv : Vis X.env.scope x := by first | exact Or.inl rfl | exact Or.inr (Or.inl rfl) | exact Or.inr (Or.inr rfl)) (hd : (x == ("__debug__" : Str)) = false := by decide)
    (hcd : (x == ("__classdict__" : Str)) = false := by decide) : PD X C W (.Name x pos) [] (dVar i) :=
  pd_of (pe_var hN hv hd hcd) fun A0 H0 A ρ st σ H Q I g => by
    unfold dVar at g
    split at g
    · rename_i d q
      obtain ⟨v, e1, h⟩ := I.sl i _ q
      exact ⟨v, e1, g.done I.at_ v (by rw [Amin.nil]; exact h)⟩
    · exact g.elim
theorem pd_own (i : Nat) {x : Str} (hN : X.N[i]? = some x := by rfl) (hv : Vis X.env.scope x := by first | exact Or.inl rfl | exact Or.inr (Or.inl rfl) | exact Or.inr (Or.inr rfl)) (hd : (x == ("__debug__" : Str)) = false := by decide)
    (hcd : (x == ("__classdict__" : Str)) = false := by decide) : PD X C W (.Name x pos) [i] (dOwn i) :=
  pd_of (pe_var hN hv hd hcd) fun A0 H0 A ρ st σ H Q I g => by
    unfold dOwn at g
    split at g
    · rename_i ds q
      obtain ⟨v, e1, a, xs, rfl, h1, h2, h3, h4, h5⟩ := I.sl i _ q
      exact ⟨_, e1, g.done I.at_ _ (Dat.lst_mk (fun z => z.2 i (by simp) ds q e1) h4 (h5.less fun _ => Amin.sub))⟩
    · rename_i d q
      obtain ⟨v, e1, h⟩ := I.sl i _ q
      exact ⟨v, e1, g.done I.at_ v (Dat.less h fun _ => Amin.sub)⟩
    · exact g.elim
/-- a module's name that holds a plain value -/
theorem pd_glob {x : Str} {d : D} {v : V} {u : Value} (hm : X.mg x = some u) (r : RelV v u) (hd : ∀ (H : Hp) (A : Addr → Prop), Dat C H A v d) (hg : Gl X x := by rfl) (hdb : (x == ("__debug__" : Str)) = false := by decide) : PD X C W (.Name x pos) [] (dC d) :=
  pd_of (pe_glob hg hm r hdb) fun _ _ _ _ _ _ _ _ I g => g.done I.at_ _ (hd _ _)
/-- more slots may be named -/
theorem pd_more (h : PD X C W e sc de) (hs : ∀ i ∈ sc, i ∈ sc') : PD X C W e sc' de :=
  pd_of h fun A0 H0 A ρ st σ H Q I g => ⟨A0, H0, A, ρ, st, I, g.imp fun d s H' _ _ q v dv => q v (dv.less fun _ => Amin.more hs)⟩

/-! ### argument lists, displays -/
def dNil : DA S := fun _ s => .ok [] s
def dCons (de : DE S) (dl : DA S) : DA S := fun ρ s => (de ρ s).bind fun d s1 => (dl ρ s1).bind fun ds s2 => .ok (d :: ds) s2
theorem pad_nil : PAd X C W [] [] (dNil : DA S) := pa_imp pa_nil fun σ H Q ⟨A0, H0, A, ρ, st, I, g⟩ => g.done I.at_ [] Dats.nil
theorem pad_cons (h : PD X C W e sa de) (t : PAd X C W es sb dl) (hs : starEach (e :: es) X.env = (false, eval e X.env) :: starEach es X.env := by rfl) : PAd X C W (e :: es) (sa ++ sb) (dCons de dl) :=
  pa_imp (pa_cons h t hs) fun σ H Q ⟨A0, H0, A, ρ, st, I, g⟩ =>
    ⟨A0, H0, A, ρ, st, I, g.bind.imp fun d s1 H1 k1 t1 g1 v dv => by
      have I1 := I.next k1 t1
      refine ⟨A0, H0, A, ρ, s1, I1, g1.bind.imp fun ds s2 H2 k2 t2 g2 vs dvs => ?_⟩
      exact g2.done t2 (v :: vs) (.cons ((dv.keep k2 (I1.dom0 sa)).less fun _ => Amin.more fun i hi => List.mem_append_left _ hi) (dvs.less fun _ => Amin.more fun i hi => List.mem_append_right _ hi))⟩
def dTup (dl : DA S) : DE S := fun ρ s => (dl ρ s).bind fun ds s1 => if ds.length ≤ 65536 then .ok (.tup ds) s1 else .bad
theorem small_line {n : Nat} (h : n ≤ 65536) : n ≤ sizeLine := by rw [sizeLine_eq]; omega
theorem pd_tup {x1} (h : PAd X C W es sc dl) : PD X C W (.Tuple es x1 pos) sc (dTup dl) :=
  pd_of (pe_tup h) fun A0 H0 A ρ st σ H Q I g => ⟨A0, H0, A, ρ, st, I, g.bind.imp fun ds s1 H1 k1 t1 g1 vs dvs => by
    by_cases hl : ds.length ≤ 65536
    · rw [if_pos hl] at g1
      have I1 := I.next k1 t1
      refine ⟨by rw [dvs.len]; exact small_line hl, fun p hp => ?_⟩
      have kp : Keep C.dom H1 (upd H1 p (.tup vs)) := Keep.upd hp
      refine g1 _ kp (C.stab _ _ _ t1 fun a ha => upd_ne fun z => ?_) (.ref p) (Dat.tup_mk (fun z => I1.fresh p z.1 hp) upd_same (dvs.keep kp (I1.dom0 sc)))
      subst z
      exact C.there _ _ _ t1 ha hp
    · rw [if_neg hl] at g1; exact g1.elim⟩
def dLst (dl : DA S) : DA S := fun ρ s => (dl ρ s).bind fun ds s1 => if ds.length ≤ 65536 then .ok ds s1 else .bad
theorem pf_of (h : PE X e t) (i : ∀ (A0 : Addr → Prop) (H0 : Hp) (A : Addr → Prop) (ρ : En) (st : S) (σ : St) (H : Hp) (Q : VK), SAt C A0 H0 A H σ ρ st →
    RG C X.mg W σ H (dl ρ st) (fun ds _ H1 => ∀ p xs, H1 p = none → Dats C H1 (Amin A σ ρ sc) xs ds → xs.length ≤ sizeLine → Q (.ref p) (upd H1 p (.lst xs))) → t σ H Q) : PF X C W e sc dl :=
  pe_imp h fun σ H Q ⟨A0, H0, A, ρ, st, I, g⟩ => i A0 H0 A ρ st σ H Q I g
theorem pf_lst (h : PAd X C W es sc dl) : PF X C W (.List es pos) sc (dLst dl) :=
  pf_of (pe_lst h) fun A0 H0 A ρ st σ H Q I g => ⟨A0, H0, A, ρ, st, I, g.bind.imp fun ds s1 H1 k1 t1 g1 vs dvs => by
    by_cases hl : ds.length ≤ 65536
    · rw [if_pos hl] at g1
      have hz : vs.length ≤ sizeLine := by rw [dvs.len]; exact small_line hl
      exact ⟨hz, fun p hp => g1.done t1 p vs hp dvs hz⟩
    · rw [if_neg hl] at g1; exact g1.elim⟩
/-- a fresh list as a value -/
def dF (dl : DA S) : DE S := fun ρ s => (dl ρ s).map .lst
theorem RG.map {α β : Type} {r : R S α} {f : α → β} {mg : Str → Option Value} {P : β → S → Hp → Prop} (h : RG C mg W σ H (r.map f) P) : RG C mg W σ H r fun a s H' => P (f a) s H' := by
  cases r with
  | ok a s => exact h
  | ex c s => exact h
  | bad => exact h
theorem RG.keepOk {α : Type} {r : R S α} {mg : Str → Option Value} {P : α → S → Hp → Prop} (h : RG C mg W σ H r P) : RG C mg W σ H r fun a s H' => ∀ H'', Keep C.dom H' H'' → C.At s H'' → P a s H'' := by
  cases r with
  | ok a s => exact fun H' k _ H'' k' t => h H'' (k.trans k') t
  | ex c s => exact h
  | bad => exact h
theorem at_upd {s : S} {p : Addr} {o : HO} (t : C.At s H) (hp : H p = none) : C.At s (upd H p o) := C.stab _ _ _ t fun a ha => upd_ne fun z => by
  subst z
  exact C.there _ _ _ t ha hp
theorem pd_f (h : PF X C W e sc dl) : PD X C W e sc (dF dl) :=
  pd_of h fun A0 H0 A ρ st σ H Q I g => ⟨A0, H0, A, ρ, st, I, g.map.keepOk.imp fun ds s1 H1 k1 t1 g1 p xs hp dxs hz => by
    have I1 := I.next k1 t1
    have kp : Keep C.dom H1 (upd H1 p (.lst xs)) := Keep.upd hp
    exact g1 _ kp (at_upd t1 hp) (.ref p) (Dat.lst_mk (fun z => I1.fresh p z.1 hp) upd_same (dxs.keep kp (I1.dom0 sc)))⟩
end
end Mir

set_option Elab.async false
set_option linter.all false
set_option maxRecDepth 100000
set_option maxHeartbeats 2000000
namespace Mir
open PySem PySem.Spec L2
open PyProof.Rows hiding St

/-! ### equality of data -/
mutual
def eqD : D → D → Bool
  | .non, .non => true
  | .bl a, .bl b => a == b
  | .bl a, .int j => (if a then 1 else 0) == j
  | .int i, .bl b => i == (if b then 1 else 0)
  | .int i, .int j => i == j
  | .str x, .str y => x == y
  | .tup xs, .tup ys => eqDs xs ys
  | .lst xs, .lst ys => eqDs xs ys
  | _, _ => false
def eqDs : List D → List D → Bool
  | [], [] => true
  | x :: xs, y :: ys => eqD x y && eqDs xs ys
  | _, _ => false
end
mutual
def toPy : D → PyData
  | .non => .none
  | .bl b => .bool b
  | .int i => .int i
  | .str l => .str (mkS l)
  | .tup ds => .tuple (toPys ds)
  | .lst ds => .list (toPys ds)
  | .dic _ _ => .dict []
  | .deck => .dict []
  | .ext _ => .dict []
def toPys : List D → List PyData
  | [] => []
  | d :: ds => toPy d :: toPys ds
end
/-- data, at most n deep -/
def fit : Nat → D → Bool
  | _, .non => true
  | _, .bl _ => true
  | _, .int _ => true
  | _, .str _ => true
  | n + 1, .tup ds => ds.all (fit n)
  | n + 1, .lst ds => ds.all (fit n)
  | _, _ => false
theorem mkS_eq (x y : List Nat) : ((mkS x) == (mkS y)) = (x == y) := by
  rw [Bool.eq_iff_iff, beq_iff_eq, beq_iff_eq]
  constructor
  · intro h
    have := congrArg (fun s : Str => s.cps.toList) h
    simpa using this
  · intro h; rw [h]
theorem dec_mkS (x y : List Nat) : decide (mkS x = mkS y) = (x == y) := by
  rw [← mkS_eq]
  rw [Bool.eq_iff_iff]; simp
def plainD : D → Bool
  | .dic _ _ => false
  | .deck => false
  | .ext _ => false
  | _ => true
theorem fit_plain : ∀ {n : Nat} {d : D}, fit n d = true → plainD d = true
  | n, .non, _ => rfl
  | n, .bl _, _ => rfl
  | n, .int _, _ => rfl
  | n, .str _, _ => rfl
  | n, .tup _, _ => rfl
  | n, .lst _, _ => rfl
  | 0, .dic _ _, h => by simp [fit] at h
  | n + 1, .dic _ _, h => by simp [fit] at h
  | 0, .deck, h => by simp [fit] at h
  | n + 1, .deck, h => by simp [fit] at h
  | 0, .ext _, h => by simp [fit] at h
  | n + 1, .ext _, h => by simp [fit] at h
mutual
theorem eqv_py : ∀ (n m : Nat) (a b : D), fit n a = true → fit m b = true → PyData.eqv (toPy a) (toPy b) = eqD a b
  | n, m, .non, b, ha, hb => by cases b <;> first | (have := fit_plain hb; simp [plainD] at this; done) | simp [toPy, PyData.eqv, eqD]
  | n, m, .bl x, b, ha, hb => by cases b <;> first | (have := fit_plain hb; simp [plainD] at this; done) | simp [toPy, PyData.eqv, eqD]
  | n, m, .int x, b, ha, hb => by cases b <;> first | (have := fit_plain hb; simp [plainD] at this; done) | simp [toPy, PyData.eqv, eqD]
  | n, m, .str x, b, ha, hb => by cases b <;> first | (have := fit_plain hb; simp [plainD] at this; done) | simp only [toPy, PyData.eqv, eqD, mkS_eq]
  | 0, m, .tup x, b, ha, hb => by simp [fit] at ha
  | 0, m, .lst x, b, ha, hb => by simp [fit] at ha
  | n + 1, m, .tup x, b, ha, hb => by
    cases b with
    | tup y =>
      cases m with
      | zero => simp [fit] at hb
      | succ m =>
        simp only [fit] at ha hb
        simp only [toPy, PyData.eqv, eqD]
        exact eqvs_py n m x y ha hb
    | dic _ _ => have := fit_plain hb; simp [plainD] at this
    | deck => have := fit_plain hb; simp [plainD] at this
    | ext _ => have := fit_plain hb; simp [plainD] at this
    | _ => simp [toPy, PyData.eqv, eqD]
  | n + 1, m, .lst x, b, ha, hb => by
    cases b with
    | lst y =>
      cases m with
      | zero => simp [fit] at hb
      | succ m =>
        simp only [fit] at ha hb
        simp only [toPy, PyData.eqv, eqD]
        exact eqvs_py n m x y ha hb
    | dic _ _ => have := fit_plain hb; simp [plainD] at this
    | deck => have := fit_plain hb; simp [plainD] at this
    | ext _ => have := fit_plain hb; simp [plainD] at this
    | _ => simp [toPy, PyData.eqv, eqD]
  | 0, m, .dic _ _, b, ha, hb => by simp [fit] at ha
  | n + 1, m, .dic _ _, b, ha, hb => by simp [fit] at ha
  | 0, m, .deck, b, ha, hb => by simp [fit] at ha
  | n + 1, m, .deck, b, ha, hb => by simp [fit] at ha
  | 0, m, .ext _, b, ha, hb => by simp [fit] at ha
  | n + 1, m, .ext _, b, ha, hb => by simp [fit] at ha
theorem eqvs_py : ∀ (n m : Nat) (a b : List D), a.all (fit n) = true → b.all (fit m) = true → PyData.eqvAll (toPys a) (toPys b) = eqDs a b
  | n, m, [], [], _, _ => by simp [toPys, PyData.eqvAll, eqDs]
  | n, m, [], y :: ys, _, _ => by simp [toPys, PyData.eqvAll, eqDs]
  | n, m, x :: xs, [], _, _ => by simp [toPys, PyData.eqvAll, eqDs]
  | n, m, x :: xs, y :: ys, ha, hb => by
    simp only [List.all_cons, Bool.and_eq_true] at ha hb
    simp only [toPys, PyData.eqvAll, eqDs, eqv_py n m x y ha.1 hb.1, eqvs_py n m xs ys ha.2 hb.2]
end
theorem strOk_mk {l : List Nat} (h : SOk l) : PyData.strOk (mkS l) = true := by
  unfold PyData.strOk
  rw [show (mkS l).cps = l.toArray from rfl, List.all_toArray, List.all_eq_true]
  exact fun c hc => decide_eq_true (h.2 c hc)
section
variable {S : Type} {C : Deck S} {K : PySem.W.Frag} {H : Hp} {A : Addr → Prop}
mutual
theorem dp_of : ∀ (n : Nat) (d : D) (v : V), Dat C H A v d → fit n d = true → Dp K H v (toPy d) ∧ (toPy d).canLay0 = true ∧ (toPy d).depth ≤ n
  | n, .non, v, h, _ => by cases h; exact ⟨by simp only [toPy]; exact .non, by simp [toPy, PyData.canLay0], by simp [toPy, PyData.depth]⟩
  | n, .bl b, v, h, _ => by cases h; exact ⟨by simp only [toPy]; exact .bl b, by simp [toPy, PyData.canLay0], by simp [toPy, PyData.depth]⟩
  | n, .int i, v, h, _ => by cases h; exact ⟨by simp only [toPy]; exact .int i, by simp [toPy, PyData.canLay0], by simp [toPy, PyData.depth]⟩
  | n, .str l, v, h, _ => by cases h with | str s => exact ⟨by simp only [toPy]; exact .str _, by simp only [toPy, PyData.canLay0]; exact strOk_mk s, by simp [toPy, PyData.depth]⟩
  | 0, .tup ds, v, h, f => by simp [fit] at f
  | n + 1, .tup ds, v, h, f => by
    obtain ⟨a, xs, rfl, na, r, hd⟩ := h.of_tup
    simp only [fit] at f
    obtain ⟨h1, h2, h3⟩ := dps_of n ds xs hd f
    exact ⟨by simp only [toPy]; exact .tup (.of r) h1, by simpa only [toPy, PyData.canLay0] using h2, by simp only [toPy, PyData.depth]; omega⟩
  | 0, .lst ds, v, h, f => by simp [fit] at f
  | n + 1, .lst ds, v, h, f => by
    obtain ⟨a, xs, rfl, na, r, hd⟩ := h.of_lst
    simp only [fit] at f
    obtain ⟨h1, h2, h3⟩ := dps_of n ds xs hd f
    exact ⟨by simp only [toPy]; exact .lst (.of r) h1, by simpa only [toPy, PyData.canLay0] using h2, by simp only [toPy, PyData.depth]; omega⟩
  | 0, .dic _ _, _, _, f => by simp [fit] at f
  | n + 1, .dic _ _, _, _, f => by simp [fit] at f
  | 0, .deck, _, _, f => by simp [fit] at f
  | n + 1, .deck, _, _, f => by simp [fit] at f
  | 0, .ext _, _, _, f => by simp [fit] at f
  | n + 1, .ext _, _, _, f => by simp [fit] at f
theorem dps_of : ∀ (n : Nat) (ds : List D) (xs : List V), Dats C H A xs ds → ds.all (fit n) = true → DpAll K H xs (toPys ds) ∧ PyData.canLayAll0 (toPys ds) = true ∧ PyData.depthAll (toPys ds) ≤ n
  | n, [], xs, h, _ => by rw [h.unnil]; exact ⟨by simp only [toPys]; exact .nil, by simp [toPys, PyData.canLayAll0], by simp [toPys, PyData.depthAll]⟩
  | n, d :: ds, xs, h, f => by
    obtain ⟨x, r, rfl, h1, h2⟩ := h.uncons
    simp only [List.all_cons, Bool.and_eq_true] at f
    obtain ⟨p1, p2, p3⟩ := dp_of n d x h1 f.1
    obtain ⟨q1, q2, q3⟩ := dps_of n ds r h2 f.2
    exact ⟨by simp only [toPys]; exact .cons p1 q1, by simp only [toPys, PyData.canLayAll0, p2, q2, Bool.and_self], by simp only [toPys, PyData.depthAll]; omega⟩
end
theorem dp_shaped {d : D} {v : V} (h : Dat C H A v d) (f : fit 64 d = true) : Dp K H v (toPy d) ∧ SeqAt.shaped (toPy d) = true := by
  obtain ⟨h1, h2, h3⟩ := dp_of (K := K) 64 d v h f
  exact ⟨h1, by unfold SeqAt.shaped; rw [h2]; simp [h3]⟩
end

/-! ### operators -/
section
variable {S : Type} {C : Deck S} {X : Cx} {W : WX} {A0 A A' : Addr → Prop} {H0 H H' : Hp} {σ : St} {ρ : En} {st st' : S}
/-- what stands around a value's rule -/
structure VAt (C : Deck S) (A : Addr → Prop) (H : Hp) (s : S) : Prop where
  fresh : ∀ a, A a → H a ≠ none
  dom : ∀ a, C.dom a → A a
  at_ : C.At s H
theorem SAt.vat (I : SAt C A0 H0 A H σ ρ st) (sc : List Nat) : VAt C (Amin A σ ρ sc) H st := ⟨fun a h => I.fresh a h.1, I.dom0 sc, I.at_⟩
/-- a new object, as data -/
theorem VAt.new {s : S} {p : Addr} {o : HO} (I : VAt C A H s) (hp : H p = none) : Keep C.dom H (upd H p o) ∧ C.At s (upd H p o) ∧ ¬ A p :=
  ⟨Keep.upd hp, at_upd I.at_ hp, fun z => I.fresh p z hp⟩
def OpD (C : Deck S) (r : R2) (f : D → D → Option D) : Prop := ∀ (A : Addr → Prop) (s : S) (H : Hp) (x y : V) (dx dy d : D) (Q : VK), VAt C A H s → Dat C H A x dx → Dat C H A y dy → f dx dy = some d →
  (∀ H' v, Keep C.dom H H' → C.At s H' → Dat C H' A v d → Q v H') → r x y H Q
def ofO {α : Type} (s : S) : Option α → R S α
  | some a => .ok a s
  | none => .bad
@[simp] theorem ofO_some {α : Type} {s : S} {a : α} : ofO s (some a) = .ok a s := rfl
@[simp] theorem ofO_none {α : Type} {s : S} : (ofO s none : R S α) = .bad := rfl
def dBin (f : D → D → Option D) (da db : DE S) : DE S := fun ρ s => (da ρ s).bind fun x s1 => (db ρ s1).bind fun y s2 => ofO s2 (f x y)
theorem RG.ofO {α : Type} {s : S} {o : Option α} {mg : Str → Option Value} {P : α → S → Hp → Prop} (h : RG C mg W σ H (ofO s o) P) : ∃ a, o = some a ∧ ∀ H', Keep C.dom H H' → C.At s H' → P a s H' := by
  cases o with
  | none => exact h.elim
  | some a => exact ⟨a, rfl, h⟩
variable {e a b c : Expr} {es : List Expr} {pos : Pos} {sc sc' sa sb : List Nat} {de da db dc : DE S} {dt dt' : DT S} {dl : DA S} {f f' : D → D → Option D} {r r' : R2}
theorem tOp_d (I : SAt C A0 H0 A H σ ρ st) {Q : VK} (hr : OpD C r f) (g : RG C X.mg W σ H (dBin f da db ρ st) fun d _ H' => ∀ v, Dat C H' (Amin A σ ρ (sa ++ sb)) v d → Q v H') : tOp r (cte C X.mg W sa da) (cte C X.mg W sb db) σ H Q :=
  ⟨A0, H0, A, ρ, st, I, g.bind.imp fun d s1 H1 k1 t1 g1 v dv => by
    have I1 := I.next k1 t1
    refine ⟨A0, H0, A, ρ, s1, I1, g1.bind.imp fun d2 s2 H2 k2 t2 g2 v2 dv2 => ?_⟩
    obtain ⟨d3, e3, q⟩ := g2.ofO
    have I2 := I1.next k2 t2
    exact hr (Amin A σ ρ (sa ++ sb)) s2 H2 v v2 d d2 d3 Q (I2.vat _) ((dv.keep k2 (I1.dom0 sa)).less fun _ => Amin.more fun i hi => List.mem_append_left _ hi) (dv2.less fun _ => Amin.more fun i hi => List.mem_append_right _ hi) e3
      fun H' v' k t h => q H' k t v' h⟩
theorem pd_bin {op : Operator} (ho : OpR X (binaryOp op) r) (hr : OpD C r f) (ha : PD X C W a sa da) (hb : PD X C W b sb db) : PD X C W (.BinOp a op b pos) (sa ++ sb) (dBin f da db) :=
  pd_of (pe_op ho ha hb) fun A0 H0 A ρ st σ H Q I g => tOp_d I hr g
theorem OpD.or (h : OpD C r f) (h' : OpD C r' f') : OpD C (fun x y H Q => r x y H Q ∨ r' x y H Q) (fun x y => (f x y).or (f' x y)) := fun A s H x y dx dy d Q I h1 h2 e q => by
  dsimp only at e
  cases z : f dx dy with
  | some d' =>
    rw [z] at e
    cases e
    exact .inl (h A s H x y dx dy _ Q I h1 h2 z q)
  | none =>
    rw [z] at e
    exact .inr (h' A s H x y dx dy _ Q I h1 h2 e q)
/-- ints -/
def fI (g : Int → Int → Option Int) : D → D → Option D
  | .int i, .int j => (g i j).map .int
  | _, _ => none
theorem od_int {Cc : Int → Int → Prop} {g : Int → Int → Int} (k : Int → Int → Bool) (hk : ∀ i j, k i j = true → Cc i j) : OpD C (rI Cc fun i j => .int (g i j)) (fI fun i j => if k i j then some (g i j) else none) := by
  intro A s H x y dx dy d Q I h1 h2 e q
  cases h1 with
  | int i =>
    cases h2 with
    | int j =>
      simp only [fI] at e
      by_cases z : k i j = true
      · rw [if_pos z] at e
        simp only [Option.map_some, Option.some.injEq] at e
        subst e
        exact ⟨i, j, rfl, rfl, hk i j z, q H _ Keep.refl I.at_ (.int _)⟩
      · rw [if_neg z] at e; cases e
    | _ => cases e
  | _ => cases e
theorem od_int0 {g : Int → Int → Int} : OpD C (rI0 fun i j => .int (g i j)) (fI fun i j => some (g i j)) := by
  intro A s H x y dx dy d Q I h1 h2 e q
  cases h1 with
  | int i =>
    cases h2 with
    | int j =>
      simp only [fI, Option.map_some, Option.some.injEq] at e
      subst e
      exact ⟨i, j, rfl, rfl, q H _ Keep.refl I.at_ (.int _)⟩
    | _ => cases e
  | _ => cases e
theorem line_eq : sizeLine = 16777216 := sizeLine_eq
def addS : D → D → Option D
  | .str x, .str y => if x.length + y.length ≤ 1048576 then some (.str (x ++ y)) else none
  | _, _ => none
theorem SOk.app {x y : List Nat} (h : SOk x) (h' : SOk y) (l : x.length + y.length ≤ 1048576) : SOk (x ++ y) := ⟨by rw [List.length_append]; exact l, fun c hc => (List.mem_append.mp hc).elim (h.2 c) (h'.2 c)⟩
theorem mkS_app (x y : List Nat) : mkS x ++ mkS y = mkS (x ++ y) := by
  show Str.mk (x.toArray ++ y.toArray) = Str.mk (x ++ y).toArray
  congr 1
  simp
theorem mkS_len (x : List Nat) : (mkS x).length = x.length := by show x.toArray.size = _; simp
theorem od_addS : OpD C (fun x y H Q => ∃ i j, x = .str i ∧ y = .str j ∧ i.length + j.length ≤ sizeLine ∧ Q (.str (i ++ j)) H) addS := by
  intro A s H x y dx dy d Q I h1 h2 e q
  cases h1 with
  | str o1 =>
    cases h2 with
    | str o2 =>
      rename_i l1 l2
      simp only [addS] at e
      by_cases z : l1.length + l2.length ≤ 1048576
      · rw [if_pos z] at e
        cases e
        refine ⟨_, _, rfl, rfl, by rw [mkS_len, mkS_len, line_eq]; omega, ?_⟩
        rw [mkS_app]
        exact q H _ Keep.refl I.at_ (.str (o1.app o2 z))
      · rw [if_neg z] at e; cases e
    | _ => cases e
  | _ => cases e
def addT : D → D → Option D
  | .tup x, .tup y => if x.length + y.length ≤ 65536 then some (.tup (x ++ y)) else none
  | _, _ => none
theorem od_addT {K : PySem.W.Frag} : OpD C (rCatA K) addT := by
  intro A s H x y dx dy d Q I h1 h2 e q
  cases dx with
  | tup ds =>
    cases dy with
    | tup es =>
      simp only [addT] at e
      by_cases z : ds.length + es.length ≤ 65536
      · rw [if_pos z] at e
        cases e
        obtain ⟨p1, xs, rfl, n1, r1, t1⟩ := h1.of_tup
        obtain ⟨p2, ys, rfl, n2, r2, t2⟩ := h2.of_tup
        refine ⟨p1, p2, xs, ys, rfl, rfl, .of r1, .of r2, by rw [t1.len, t2.len, line_eq]; omega, fun ex => ?_, fun _ ey => ?_, fun _ _ p hp => ?_⟩
        · have e1 : ds = [] := List.length_eq_zero_iff.mp (by rw [← t1.len, ex]; rfl)
          rw [e1, List.nil_append] at q
          exact q H _ Keep.refl I.at_ h2
        · have e1 : es = [] := List.length_eq_zero_iff.mp (by rw [← t2.len, ey]; rfl)
          rw [e1, List.append_nil] at q
          exact q H _ Keep.refl I.at_ h1
        · obtain ⟨k, t, n⟩ := I.new (o := .tup (xs ++ ys)) hp
          exact q _ _ k t (Dat.tup_mk n upd_same ((t1.append t2).keep k I.dom))
      · rw [if_neg z] at e; cases e
    | _ => cases e
  | _ => cases e
def addL : D → D → Option D
  | .lst x, .lst y => if x.length + y.length ≤ 65536 then some (.lst (x ++ y)) else none
  | _, _ => none
theorem od_addL : OpD C rCat addL := by
  intro A s H x y dx dy d Q I h1 h2 e q
  cases dx with
  | lst ds =>
    cases dy with
    | lst es =>
      simp only [addL] at e
      by_cases z : ds.length + es.length ≤ 65536
      · rw [if_pos z] at e
        cases e
        obtain ⟨p1, xs, rfl, n1, r1, t1⟩ := h1.of_lst
        obtain ⟨p2, ys, rfl, n2, r2, t2⟩ := h2.of_lst
        refine ⟨p1, p2, xs, ys, rfl, rfl, r1, r2, by rw [t1.len, t2.len, line_eq]; omega, fun p hp => ?_⟩
        obtain ⟨k, t, n⟩ := I.new (o := .lst (xs ++ ys)) hp
        exact q _ _ k t (Dat.lst_mk n upd_same ((t1.append t2).keep k I.dom))
      · rw [if_neg z] at e; cases e
    | _ => cases e
  | _ => cases e
/-- a + b -/
def addD : D → D → Option D
  | .int i, .int j => some (.int (i + j))
  | .str x, .str y => if x.length + y.length ≤ 1048576 then some (.str (x ++ y)) else none
  | .tup x, .tup y => if x.length + y.length ≤ 65536 then some (.tup (x ++ y)) else none
  | .lst x, .lst y => if x.length + y.length ≤ 65536 then some (.lst (x ++ y)) else none
  | _, _ => none
def rAddD (K : PySem.W.Frag) : R2 := fun x y H Q => (rI0 fun i j => V.int (i + j)) x y H Q ∨ (∃ i j, x = .str i ∧ y = .str j ∧ i.length + j.length ≤ sizeLine ∧ Q (.str (i ++ j)) H) ∨ rCatA K x y H Q ∨ rCat x y H Q
theorem opr_add : OpR X (binaryOp .Add) (rAddD X.K) := op_add.or (op_add_str.or (op_catA.or op_cat))
theorem OpD.imp (h : OpD C r f) (i : ∀ x y d, f' x y = some d → f x y = some d) : OpD C r f' := fun A s H x y dx dy d Q I h1 h2 e q => h A s H x y dx dy d Q I h1 h2 (i _ _ _ e) q
theorem od_add0 {K : PySem.W.Frag} : OpD C (rAddD K) (fun x y => (fI (fun i j => some (i + j)) x y).or ((addS x y).or ((addT x y).or (addL x y)))) := od_int0.or (od_addS.or (od_addT.or od_addL))
theorem od_add {K : PySem.W.Frag} : OpD C (rAddD K) addD := od_add0.imp fun x y d e => by
  cases x <;> cases y <;> simp only [addD] at e <;> try cases e
  all_goals simp only [fI, addS, addT, addL, Option.map_some, Option.none_or, Option.some_or, Option.or_none]
  all_goals exact e
theorem pd_add (ha : PD X C W a sa da) (hb : PD X C W b sb db) : PD X C W (.BinOp a .Add b pos) (sa ++ sb) (dBin addD da db) := pd_bin opr_add od_add ha hb
def subD : D → D → Option D
  | .int i, .int j => some (.int (i - j))
  | _, _ => none
theorem pd_sub (ha : PD X C W a sa da) (hb : PD X C W b sb db) : PD X C W (.BinOp a .Sub b pos) (sa ++ sb) (dBin subD da db) := pd_bin op_sub (od_int0.imp fun x y d e => by cases x <;> cases y <;> first | (cases e; rfl) | cases e) ha hb

/-! ### comparisons -/
def cmpI (g : Int → Int → Bool) : D → D → Option D
  | .int i, .int j => some (.bl (g i j))
  | _, _ => none
theorem oc_int {g : Int → Int → Bool} : OpD C (rI0 fun i j => .bl (g i j)) (cmpI g) := by
  intro A s H x y dx dy d Q I h1 h2 e q
  cases h1 with
  | int i =>
    cases h2 with
    | int j => cases e; exact ⟨i, j, rfl, rfl, q H _ Keep.refl I.at_ (.bl _)⟩
    | _ => cases e
  | _ => cases e
def eqF (neg : Bool) : D → D → Option D := fun x y => if fit 64 x && fit 64 y then some (.bl (if neg then !eqD x y else eqD x y)) else none
theorem oc_eq {K : PySem.W.Frag} : OpD C (rEqD K) (eqF false) := by
  intro A s H x y dx dy d Q I h1 h2 e q
  unfold eqF at e
  by_cases z : (fit 64 dx && fit 64 dy) = true
  · rw [if_pos z] at e
    simp only [Bool.and_eq_true] at z
    cases e
    obtain ⟨p1, s1⟩ := dp_shaped (K := K) h1 z.1
    obtain ⟨p2, s2⟩ := dp_shaped (K := K) h2 z.2
    refine ⟨_, _, p1, p2, s1, s2, ?_⟩
    rw [eqv_py 64 64 dx dy z.1 z.2]
    exact q H _ Keep.refl I.at_ (.bl _)
  · rw [if_neg z] at e; cases e
theorem oc_ne {K : PySem.W.Frag} : OpD C (rNeD K) (eqF true) := by
  intro A s H x y dx dy d Q I h1 h2 e q
  unfold eqF at e
  by_cases z : (fit 64 dx && fit 64 dy) = true
  · rw [if_pos z] at e
    simp only [Bool.and_eq_true] at z
    cases e
    obtain ⟨p1, s1⟩ := dp_shaped (K := K) h1 z.1
    obtain ⟨p2, s2⟩ := dp_shaped (K := K) h2 z.2
    refine ⟨_, _, p1, p2, s1, s2, ?_⟩
    rw [eqv_py 64 64 dx dy z.1 z.2]
    exact q H _ Keep.refl I.at_ (.bl _)
  · rw [if_neg z] at e; cases e
/-- is None -/
def isN (neg : Bool) : D → D → Option D
  | x, .non => match x with
    | .non => some (.bl (!neg))
    | .ext _ => none
    | .deck => none
    | _ => some (.bl neg)
  | _, _ => none
theorem oc_isN : OpD C (fun x y H Q => y = .non ∧ Q (.bl (decide (x = .non))) H) (isN false) := by
  intro A s H x y dx dy d Q I h1 h2 e q
  cases dy <;> simp only [isN] at e <;> try cases e
  cases h2
  refine ⟨rfl, ?_⟩
  cases h1 <;> simp only [isN] at e <;> cases e <;> exact q H _ Keep.refl I.at_ (by simpa using Dat.bl _)
theorem oc_notN : OpD C (fun x y H Q => y = .non ∧ Q (.bl (!decide (x = .non))) H) (isN true) := by
  intro A s H x y dx dy d Q I h1 h2 e q
  cases dy <;> simp only [isN] at e <;> try cases e
  cases h2
  refine ⟨rfl, ?_⟩
  cases h1 <;> simp only [isN] at e <;> cases e <;> exact q H _ Keep.refl I.at_ (by simpa using Dat.bl _)
theorem pd_cmp {op : CmpOp} (ho : OpR X (compareOp op) r) (hr : OpD C r f) (ha : PD X C W a sa da) (hb : PD X C W b sb db) (hm : behindInMarks op b = false) : PD X C W (.Compare a [op] [b] pos) (sa ++ sb) (dBin f da db) :=
  pd_of (pe_cmpR ho ha hb hm) fun A0 H0 A ρ st σ H Q I g => tOp_d I hr g
/-- a value that is True or False -/
def asB : D → Option Bool
  | .bl b => some b
  | _ => none
def dB (de : DE S) : DT S := fun ρ s => (de ρ s).bind fun d s1 => ofO s1 (asB d)
theorem asB_some {d : D} {b : Bool} (h : asB d = some b) : d = .bl b := by cases d <;> simp [asB] at h; subst h; rfl
theorem ptd_of (h : PT X e t) (i : ∀ (A0 : Addr → Prop) (H0 : Hp) (A : Addr → Prop) (ρ : En) (st : S) (σ : St) (H : Hp) (Q : Bool → Hp → Prop), SAt C A0 H0 A H σ ρ st →
    RG C X.mg W σ H (dt ρ st) (fun b _ H' => Q b H') → t σ H Q) : PTd X C W e dt :=
  pt_imp h fun σ H Q ⟨A0, H0, A, ρ, st, I, g⟩ => i A0 H0 A ρ st σ H Q I g
theorem ptd_cmp {op : CmpOp} (ho : OpR X (compareOp op) r) (hr : OpD C r f) (ha : PD X C W a sa da) (hb : PD X C W b sb db) (hm : behindInMarks op b = false) : PTd X C W (.Compare a [op] [b] pos) (dB (dBin f da db)) :=
  ptd_of (pt_cmpR ho ha hb hm) fun A0 H0 A ρ st σ H Q I g => tOp_d (sa := sa) (sb := sb) I hr (g.bind.imp fun d s1 H1 k1 t1 g1 v dv => by
    obtain ⟨b, eb, q⟩ := g1.ofO
    have := asB_some eb
    subst this
    cases dv
    exact ⟨b, rfl, q H1 Keep.refl t1⟩)
end
end Mir

set_option Elab.async false
set_option linter.all false
set_option maxRecDepth 100000
set_option maxHeartbeats 2000000
namespace Mir
open PySem PySem.Spec L2
open PyProof.Rows hiding St

section
variable {S : Type} {C : Deck S} {X : Cx} {W : WX} {A0 A A' : Addr → Prop} {H0 H H' : Hp} {σ : St} {ρ : En} {st st' : S}
variable {e a b c : Expr} {es rest : List Expr} {pos p p2 : Pos} {sc sc' sa sb : List Nat} {de da db dc : DE S} {dt dt' du : DT S} {dl : DA S} {f f' : D → D → Option D} {r r' : R2}
/-! ### comparisons by their operators -/
def ltD : D → D → Option D
  | .int i, .int j => some (.bl (decide (i < j)))
  | .str x, .str y => some (.bl (decide (x < y)))
  | _, _ => none
def rLtD : R2 := fun x y H Q => (rI0 fun i j => V.bl (decide (i < j))) x y H Q ∨ ∃ i j, x = .str i ∧ y = .str j ∧ Q (.bl (decide (i.cps.toList < j.cps.toList))) H
theorem opr_lt : OpR X (compareOp .Lt) rLtD := op_lt.or op_lt_str
theorem od_lt : OpD C rLtD ltD := by
  intro A s H x y dx dy d Q I h1 h2 e q
  cases h1 <;> cases h2 <;> simp only [ltD] at e <;> first | cases e | skip
  · exact .inl ⟨_, _, rfl, rfl, q H _ Keep.refl I.at_ (.bl _)⟩
  · refine .inr ⟨_, _, rfl, rfl, ?_⟩
    exact q H _ Keep.refl I.at_ (.bl _)
def leD : D → D → Option D := cmpI fun i j => decide (i ≤ j)
def gtD : D → D → Option D := cmpI fun i j => decide (j < i)
def geD : D → D → Option D := cmpI fun i j => decide (j ≤ i)
def eqO : D → D → Option D := eqF false
def neO : D → D → Option D := eqF true
/-- an operator of comparison, with what it does -/
structure CmpOk (X : Cx) (C : Deck S) (op : CmpOp) (r : R2) (f : D → D → Option D) : Prop where
  opr : OpR X (compareOp op) r
  od : OpD C r f
theorem k_lt : CmpOk X C .Lt rLtD ltD := ⟨opr_lt, od_lt⟩
theorem k_le : CmpOk X C .LtE (rI0 fun i j => .bl (decide (i ≤ j))) leD := ⟨op_le, oc_int⟩
theorem k_gt : CmpOk X C .Gt (rI0 fun i j => .bl (decide (j < i))) gtD := ⟨op_gt, oc_int⟩
theorem k_ge : CmpOk X C .GtE (rI0 fun i j => .bl (decide (j ≤ i))) geD := ⟨op_ge, oc_int⟩
theorem k_eq (hu : X.A.units + 64 < cLine) : CmpOk X C .Eq (rEqD X.K) eqO := ⟨op_eqD hu, oc_eq⟩
theorem k_ne (hu : X.A.units + 64 < cLine) : CmpOk X C .NotEq (rNeD X.K) neO := ⟨op_neD hu, oc_ne⟩
/-- is None, is True, is False -/
def isF (neg : Bool) : D → D → Option D
  | .non, .non => some (.bl (!neg))
  | .bl _, .non => some (.bl neg)
  | .int _, .non => some (.bl neg)
  | .str _, .non => some (.bl neg)
  | .tup _, .non => some (.bl neg)
  | .lst _, .non => some (.bl neg)
  | .dic _ _, .non => some (.bl neg)
  | .non, .bl _ => some (.bl neg)
  | .bl a, .bl b => some (.bl (if neg then a != b else a == b))
  | .int _, .bl _ => some (.bl neg)
  | .str _, .bl _ => some (.bl neg)
  | .tup _, .bl _ => some (.bl neg)
  | .lst _, .bl _ => some (.bl neg)
  | _, _ => none
def rIsB (neg : Bool) : R2 := fun x y H Q => ((∃ b, y = .bl b) ∨ y = .non) ∧ Q (.bl (if neg then !decide (x = y) else decide (x = y))) H
theorem isSame_lit {M : Model} {A : Around} {E : Value → Shared → Prop} {s : Shared} {x y : V} {u v : Value} {R : Bool → Shared → Prop} (rx : RelV x u) (ry : RelV y v) (hy : (∃ b, y = .bl b) ∨ y = .non) (q : R (decide (x = y)) s) : wpAny M A (isSame u v) R E s := by
  have eq_ : ∀ {u v : Value} {k : Bool}, plainIs u v = true → (u == v) = k → k = decide (x = y) → wpAny M A (isSame u v) R E s := fun h1 h2 h3 => wpAny_isSame_plain h1 (by rw [h2, h3]; exact q)
  rcases hy with ⟨b, rfl⟩ | rfl
  · cases ry
    cases x with
    | ref a => cases rx; exact eq_ rfl rfl (by simp)
    | non => cases rx; exact eq_ rfl rfl (by simp)
    | bl b' => cases rx; cases b <;> cases b' <;> exact eq_ rfl rfl (by simp)
    | int i => obtain ⟨t, rfl⟩ := rx; exact eq_ rfl rfl (by simp)
    | str x => obtain ⟨t, rfl⟩ := rx; exact eq_ rfl rfl (by simp)
    | byt x => obtain ⟨t, rfl⟩ := rx; exact eq_ rfl rfl (by simp)
    | flt x => obtain ⟨t, rfl⟩ := rx; exact eq_ rfl rfl (by simp)
    | ty n => cases rx; exact eq_ rfl rfl (by simp)
  · cases ry
    cases x with
    | ref a => cases rx; exact eq_ rfl rfl (by simp)
    | non => cases rx; exact eq_ rfl rfl (by simp)
    | bl b' => cases rx; exact eq_ rfl rfl (by simp)
    | int i => obtain ⟨t, rfl⟩ := rx; exact eq_ rfl rfl (by simp)
    | str x => obtain ⟨t, rfl⟩ := rx; exact eq_ rfl rfl (by simp)
    | byt x => obtain ⟨t, rfl⟩ := rx; exact eq_ rfl rfl (by simp)
    | flt x => obtain ⟨t, rfl⟩ := rx; exact eq_ rfl rfl (by simp)
    | ty n => cases rx; exact eq_ rfl rfl (by simp)
theorem op_isB : OpR X (compareOp .Is) (rIsB false) := by
  intro pins s σ H x y v u Q I rx ry h
  obtain ⟨hy, q⟩ := h
  show wpAny _ _ ((isSame v u) >>= fun z => pure (Value.bool z)) _ _ s
  exact wpAny_bind (isSame_lit rx ry hy (wpAny_pure (fin_bl I q rfl)))
theorem op_notB : OpR X (compareOp .IsNot) (rIsB true) := by
  intro pins s σ H x y v u Q I rx ry h
  obtain ⟨hy, q⟩ := h
  show wpAny _ _ ((isSame v u) >>= fun z => pure (Value.bool (!z))) _ _ s
  exact wpAny_bind (isSame_lit rx ry hy (wpAny_pure (fin_bl I q rfl)))
theorem oc_is (neg : Bool) : OpD C (rIsB neg) (isF neg) := by
  intro A s H x y dx dy d Q I h1 h2 e q
  cases h2 with
  | non =>
    refine ⟨.inr rfl, ?_⟩
    cases h1 <;> simp only [isF] at e <;> first | (cases e; done) | skip
    all_goals (cases e; refine q H _ Keep.refl I.at_ ?_; cases neg <;> simpa using Dat.bl _)
  | bl k =>
    refine ⟨.inl ⟨k, rfl⟩, ?_⟩
    cases h1 <;> simp only [isF] at e <;> first | (cases e; done) | skip
    all_goals (cases e; refine q H _ Keep.refl I.at_ ?_)
    all_goals (cases neg <;> cases k <;> first | exact .bl _ | (rename_i m; cases m <;> exact .bl _))
  | _ => cases h1 <;> simp only [isF] at e <;> cases e
theorem k_is : CmpOk X C .Is (rIsB false) (isF false) := ⟨op_isB, oc_is _⟩
theorem k_isnot : CmpOk X C .IsNot (rIsB true) (isF true) := ⟨op_notB, oc_is _⟩
/-- one sign in a text; a flat thing in a list or tuple -/
def flatD : D → Bool
  | .non => true
  | .bl _ => true
  | .int _ => true
  | .str _ => true
  | _ => false
def inF (neg : Bool) : D → D → Option D
  | .str [c], .str z => some (.bl (if neg then !z.contains c else z.contains c))
  | x, .tup ys => if flatD x && ys.all flatD then some (.bl (if neg then !ys.any (fun y => eqD y x) else ys.any fun y => eqD y x)) else none
  | x, .lst ys => if flatD x && ys.all flatD then some (.bl (if neg then !ys.any (fun y => eqD y x) else ys.any fun y => eqD y x)) else none
  | _, _ => none

/-! ### a comparison as a value and as a test -/
theorem pd_c {op : CmpOp} (k : CmpOk X C op r f) (ha : PD X C W a sa da) (hb : PD X C W b sb db) (hm : behindInMarks op b = false := by exact nomark _) : PD X C W (.Compare a [op] [b] pos) (sa ++ sb) (dBin f da db) := pd_cmp k.opr k.od ha hb hm
theorem ptd_c {op : CmpOp} (k : CmpOk X C op r f) (ha : PD X C W a sa da) (hb : PD X C W b sb db) (hm : behindInMarks op b = false := by exact nomark _) : PTd X C W (.Compare a [op] [b] pos) (dB (dBin f da db)) := ptd_cmp k.opr k.od ha hb hm
/-- a op b op' c -/
def dChain (f f' : D → D → Option D) (da db dc : DE S) : DE S := fun ρ s => (da ρ s).bind fun x s1 => (db ρ s1).bind fun y s2 => (ofO s2 ((f x y).bind asB)).bind fun k s3 =>
  if k = true then (dc ρ s3).bind fun z s4 => ofO s4 (f' y z) else .ok (.bl false) s3
theorem chain_d (I : SAt C A0 H0 A H σ ρ st) {Q : VK} (hr : OpD C r f) (hr' : OpD C r' f') (g : RG C X.mg W σ H (dChain f f' da db dc ρ st) fun d _ H' => ∀ v, Dat C H' (Amin A σ ρ (sa ++ sb ++ sc)) v d → Q v H') :
    tChain r r' (cte C X.mg W sa da) (cte C X.mg W sb db) (cte C X.mg W sc dc) σ H Q :=
  ⟨A0, H0, A, ρ, st, I, g.bind.imp fun d s1 H1 k1 t1 g1 v dv => by
    have I1 := I.next k1 t1
    refine ⟨A0, H0, A, ρ, s1, I1, g1.bind.imp fun d2 s2 H2 k2 t2 g2 v2 dv2 => ?_⟩
    have I2 := I1.next k2 t2
    obtain ⟨k, ek, q⟩ := g2.bind.ofO
    obtain ⟨d3, e3, e4⟩ := Option.bind_eq_some_iff.mp ek
    have := asB_some e4
    subst this
    have m1 : ∀ i ∈ sa, i ∈ sa ++ sb ++ sc := fun i hi => List.mem_append_left _ (List.mem_append_left _ hi)
    have m2 : ∀ i ∈ sb, i ∈ sa ++ sb ++ sc := fun i hi => List.mem_append_left _ (List.mem_append_right _ hi)
    have m3 : ∀ i ∈ sc, i ∈ sa ++ sb ++ sc := fun i hi => List.mem_append_right _ hi
    have dv' : Dat C H2 (Amin A σ ρ (sa ++ sb ++ sc)) v d := (dv.keep k2 (I1.dom0 sa)).less fun _ => Amin.more m1
    have dv2' : Dat C H2 (Amin A σ ρ (sa ++ sb ++ sc)) v2 d2 := dv2.less fun _ => Amin.more m2
    refine hr (Amin A σ ρ (sa ++ sb ++ sc)) s2 H2 v v2 d d2 _ _ (I2.vat _) dv' dv2' e3 fun H3 v3 k3 t3 dv3 => ?_
    cases dv3
    refine ⟨k, rfl, ?_⟩
    have q' := (q H2 Keep.refl t2).move k3
    have I3 := I2.next k3 t3
    cases k with
    | false => exact q' H3 Keep.refl t3 _ (.bl false)
    | true =>
      refine ⟨A0, H0, A, ρ, s2, I3, q'.bind.imp fun d4 s4 H4 k4 t4 g4 v4 dv4 => ?_⟩
      have I4 := I3.next k4 t4
      obtain ⟨d5, e5, q5⟩ := g4.ofO
      exact hr' (Amin A σ ρ (sa ++ sb ++ sc)) s4 H4 v2 v4 d2 d4 d5 Q (I4.vat _) (dv2'.keep (k3.trans k4) (I2.dom0 _)) (dv4.less fun _ => Amin.more m3) e5 fun H' v' k t h => q5 H' k t v' h⟩
theorem pd_chain {op op' : CmpOp} (k : CmpOk X C op r f) (k' : CmpOk X C op' r' f') (ha : PD X C W a sa da) (hb : PD X C W b sb db) (hc : PD X C W c sc dc) (hm : lastMarks [op, op'] [b, c] = false := by with_unfolding_all rfl) :
    PD X C W (.Compare a [op, op'] [b, c] pos) (sa ++ sb ++ sc) (dChain f f' da db dc) :=
  pd_of (pe_chain k.opr k'.opr ha hb hc hm) fun A0 H0 A ρ st σ H Q I g => chain_d I k.od k'.od g
theorem ptd_chain {op op' : CmpOp} (k : CmpOk X C op r f) (k' : CmpOk X C op' r' f') (ha : PD X C W a sa da) (hb : PD X C W b sb db) (hc : PD X C W c sc dc) (hm : lastMarks [op, op'] [b, c] = false := by with_unfolding_all rfl) :
    PTd X C W (.Compare a [op, op'] [b, c] pos) (dB (dChain f f' da db dc)) :=
  ptd_of (pt_chain k.opr k'.opr ha hb hc hm) fun A0 H0 A ρ st σ H Q I g => chain_d (sa := sa) (sb := sb) (sc := sc) I k.od k'.od (g.bind.imp fun d s1 H1 k1 t1 g1 v dv => by
    obtain ⟨b, eb, q⟩ := g1.ofO
    have := asB_some eb
    subst this
    cases dv
    exact ⟨b, rfl, q H1 Keep.refl t1⟩)

/-! ### truth, and, or, not, if -/
def truD : D → Option Bool
  | .non => some false
  | .bl b => some b
  | .int i => some (i != 0)
  | .str l => some (!l.isEmpty)
  | .tup ds => some (!ds.isEmpty)
  | .lst ds => some (!ds.isEmpty)
  | _ => none
theorem tru_of {K : PySem.W.Frag} {v : V} {d : D} {k : Bool} (h : Dat C H A v d) (e : truD d = some k) : TruV K v H k := by
  have em : ∀ {xs : List V} {ds : List D}, Dats C H A xs ds → (!xs.isEmpty) = !ds.isEmpty := fun {xs ds} t => by
    have := t.len
    cases xs <;> cases ds <;> simp at this ⊢
  cases d with
  | non => cases h; cases e; exact rfl
  | bl b => cases h; cases e; exact rfl
  | int i => cases h; cases e; exact rfl
  | str l =>
    cases h with
    | str s =>
      cases e
      refine ⟨by rw [mkS_len, line_eq]; have := s.1; omega, ?_⟩
      rw [mkS_len]
      cases l <;> simp
      omega
  | tup ds =>
    obtain ⟨p, xs, rfl, n, r, t⟩ := h.of_tup
    cases e
    exact .inr (.inl ⟨xs, .of r, (em t).symm⟩)
  | lst ds =>
    obtain ⟨p, xs, rfl, n, r, t⟩ := h.of_lst
    cases e
    exact .inl ⟨xs, .of r, (em t).symm⟩
  | dic _ _ => cases e
  | deck => cases e
  | ext _ => cases e
def dTr (de : DE S) : DT S := fun ρ s => (de ρ s).bind fun d s1 => ofO s1 (truD d)
/-- any expression as a test, by its truth -/
theorem ptd_tr (h : PD X C W e sc de) (he : ∀ whole, isTrue e X.env whole = (do let v ← whole; standAt e.pos; holding [v] (truthy v)) := by intro _; rfl) : PTd X C W e (dTr de) :=
  ptd_of (pt_truth h he) fun A0 H0 A ρ st σ H Q I g => ⟨A0, H0, A, ρ, st, I, g.bind.imp fun d s1 H1 k1 t1 g1 v dv => by
    obtain ⟨k, ek, q⟩ := g1.ofO
    exact ⟨k, tru_of dv ek, q H1 Keep.refl t1⟩⟩
def dNot (dt : DT S) : DT S := fun ρ s => (dt ρ s).map (!·)
def dAnd (dt du : DT S) : DT S := fun ρ s => (dt ρ s).bind fun k s1 => if k = true then du ρ s1 else .ok false s1
def dOr (dt du : DT S) : DT S := fun ρ s => (dt ρ s).bind fun k s1 => if k = true then .ok true s1 else du ρ s1
theorem ptd_not (h : PTd X C W a dt) : PTd X C W (.UnaryOp .Not a pos) (dNot dt) :=
  ptd_of (pt_not h) fun A0 H0 A ρ st σ H Q I g => ⟨A0, H0, A, ρ, st, I, g.map.imp fun k s1 H1 k1 t1 g1 => g1⟩
theorem pwd_of (h : PW X e t) (i : ∀ (A0 : Addr → Prop) (H0 : Hp) (A : Addr → Prop) (ρ : En) (st : S) (σ : St) (H : Hp) (Q : Bool → Hp → Prop), SAt C A0 H0 A H σ ρ st →
    RG C X.mg W σ H (dt ρ st) (fun b _ H' => Q b H') → t σ H Q) : PWd X C W e dt :=
  pw_imp h fun σ H Q ⟨A0, H0, A, ρ, st, I, g⟩ => i A0 H0 A ρ st σ H Q I g
theorem pwd_and1 (h : PTd X C W a dt) : PWd X C W (.BoolOp .And [a] pos) dt := pwd_of (pw_and1 h) fun A0 H0 A ρ st σ H Q I g => ⟨A0, H0, A, ρ, st, I, g⟩
theorem pwd_or1 (h : PTd X C W a dt) : PWd X C W (.BoolOp .Or [a] pos) dt := pwd_of (pw_or1 h) fun A0 H0 A ρ st σ H Q I g => ⟨A0, H0, A, ρ, st, I, g⟩
theorem pwd_and (h : PTd X C W a dt) (h' : PWd X C W (.BoolOp .And (b :: rest) pos) du) : PWd X C W (.BoolOp .And (a :: b :: rest) pos) (dAnd dt du) :=
  pwd_of (pw_and h h') fun A0 H0 A ρ st σ H Q I g => ⟨A0, H0, A, ρ, st, I, g.bind.imp fun k s1 H1 k1 t1 g1 => by
    cases k with
    | true => exact ⟨A0, H0, A, ρ, s1, I.next k1 t1, g1⟩
    | false => exact g1.done t1⟩
theorem pwd_or (h : PTd X C W a dt) (h' : PWd X C W (.BoolOp .Or (b :: rest) pos) du) : PWd X C W (.BoolOp .Or (a :: b :: rest) pos) (dOr dt du) :=
  pwd_of (pw_or h h') fun A0 H0 A ρ st σ H Q I g => ⟨A0, H0, A, ρ, st, I, g.bind.imp fun k s1 H1 k1 t1 g1 => by
    cases k with
    | true => exact g1.done t1
    | false => exact ⟨A0, H0, A, ρ, s1, I.next k1 t1, g1⟩⟩
theorem ptd_w (h : PWd X C W e dt) : PTd X C W e dt := PW.pt h
/-- as values -/
def dAndV (da db : DE S) : DE S := fun ρ s => (da ρ s).bind fun d s1 => (ofO s1 (truD d)).bind fun k s2 => if k = true then db ρ s2 else .ok d s2
def dOrV (da db : DE S) : DE S := fun ρ s => (da ρ s).bind fun d s1 => (ofO s1 (truD d)).bind fun k s2 => if k = true then .ok d s2 else db ρ s2
theorem pd_one {op} (h : PD X C W a sa da) : PD X C W (.BoolOp op [a] pos) sa da := pd_of (pe_one h) fun A0 H0 A ρ st σ H Q I g => ⟨A0, H0, A, ρ, st, I, g⟩
theorem pd_and (ha : PD X C W a sa da) (hb : PD X C W (.BoolOp .And (b :: rest) pos) sb db) : PD X C W (.BoolOp .And (a :: b :: rest) pos) (sa ++ sb) (dAndV da db) :=
  pd_of (pe_andT ha hb) fun A0 H0 A ρ st σ H Q I g => ⟨A0, H0, A, ρ, st, I, g.bind.imp fun d s1 H1 k1 t1 g1 v dv => by
    obtain ⟨k, ek, q⟩ := g1.bind.ofO
    refine ⟨k, tru_of dv ek, ?_⟩
    have q' := q H1 Keep.refl t1
    cases k with
    | true => exact ⟨A0, H0, A, ρ, s1, I.next k1 t1, q'.imp fun d2 s2 H2 _ _ g2 v2 dv2 => g2 v2 (dv2.less fun _ => Amin.more fun i hi => List.mem_append_right _ hi)⟩
    | false => exact q'.done t1 v (dv.less fun _ => Amin.more fun i hi => List.mem_append_left _ hi)⟩
theorem pd_or (ha : PD X C W a sa da) (hb : PD X C W (.BoolOp .Or (b :: rest) pos) sb db) : PD X C W (.BoolOp .Or (a :: b :: rest) pos) (sa ++ sb) (dOrV da db) :=
  pd_of (pe_orT ha hb) fun A0 H0 A ρ st σ H Q I g => ⟨A0, H0, A, ρ, st, I, g.bind.imp fun d s1 H1 k1 t1 g1 v dv => by
    obtain ⟨k, ek, q⟩ := g1.bind.ofO
    refine ⟨k, tru_of dv ek, ?_⟩
    have q' := q H1 Keep.refl t1
    cases k with
    | false => exact ⟨A0, H0, A, ρ, s1, I.next k1 t1, q'.imp fun d2 s2 H2 _ _ g2 v2 dv2 => g2 v2 (dv2.less fun _ => Amin.more fun i hi => List.mem_append_right _ hi)⟩
    | true => exact q'.done t1 v (dv.less fun _ => Amin.more fun i hi => List.mem_append_left _ hi)⟩
def dNotV (de : DE S) : DE S := fun ρ s => (de ρ s).bind fun d s1 => (ofO s1 (truD d)).map fun k => .bl (!k)
theorem pd_not (h : PD X C W a sa da) : PD X C W (.UnaryOp .Not a pos) [] (dNotV da) :=
  pd_of (pe_notT h) fun A0 H0 A ρ st σ H Q I g => ⟨A0, H0, A, ρ, st, I, g.bind.imp fun d s1 H1 k1 t1 g1 v dv => by
    obtain ⟨k, ek, q⟩ := g1.map.ofO
    exact ⟨k, tru_of dv ek, q H1 Keep.refl t1 _ (.bl _)⟩⟩
def dIf (dt : DT S) (da db : DE S) : DE S := fun ρ s => (dt ρ s).bind fun k s1 => if k = true then da ρ s1 else db ρ s1
theorem pd_if (hc : PTd X C W c dt) (ha : PD X C W a sa da) (hb : PD X C W b sb db) : PD X C W (.IfExp c a b pos) (sa ++ sb) (dIf dt da db) :=
  pd_of (pe_ifExp hc ha hb) fun A0 H0 A ρ st σ H Q I g => ⟨A0, H0, A, ρ, st, I, g.bind.imp fun k s1 H1 k1 t1 g1 => by
    cases k with
    | true => exact ⟨A0, H0, A, ρ, s1, I.next k1 t1, g1.imp fun d2 s2 H2 _ _ g2 v2 dv2 => g2 v2 (dv2.less fun _ => Amin.more fun i hi => List.mem_append_left _ hi)⟩
    | false => exact ⟨A0, H0, A, ρ, s1, I.next k1 t1, g1.imp fun d2 s2 H2 _ _ g2 v2 dv2 => g2 v2 (dv2.less fun _ => Amin.more fun i hi => List.mem_append_right _ hi)⟩⟩

/-! ### subscripts, slices -/
def ixD : D → D → Option D
  | .tup ds, .int i => atI ds i
  | .lst ds, .int i => atI ds i
  | .str l, .int i => (atI l i).map fun c => .str [c]
  | _, _ => none
theorem atI_dats {xs : List V} {ds : List D} {i : Int} {d : D} (t : Dats C H A xs ds) (e : atI ds i = some d) : ∃ x, atI xs i = some x ∧ Dat C H A x d := by
  unfold atI at e ⊢
  rw [t.len]
  obtain ⟨j, e1, e2⟩ := Option.bind_eq_some_iff.mp e
  obtain ⟨x, h1, h2⟩ := t.get e2
  exact ⟨x, by rw [e1]; exact h1, h2⟩
theorem oix : OpD C (rIx X.K) ixD := by
  intro A s H x y dx dy d Q I h1 h2 e q
  cases dy <;> cases dx <;> simp only [ixD] at e <;> try cases e
  case int.str i l =>
    cases h2
    cases h1 with
    | str o =>
      obtain ⟨c, e1, e2⟩ := Option.map_eq_some_iff.mp e
      subst e2
      refine .inr (.inr ⟨_, _, c, rfl, rfl, by rw [mkS_len, line_eq]; have := o.1; omega, by simpa using e1, ?_⟩)
      refine q H (.str (mkS [c])) Keep.refl I.at_ (.str ⟨by simp, fun z hz => ?_⟩)
      obtain ⟨j, _, e3, _⟩ := atI_get e1
      simp at hz
      subst hz
      exact o.2 _ (List.mem_of_getElem? e3)
  case int.tup i ds =>
    cases h2
    obtain ⟨p, xs, rfl, n, r, t⟩ := h1.of_tup
    obtain ⟨x, e1, hx⟩ := atI_dats t e
    exact .inr (.inl ⟨p, xs, i, x, rfl, rfl, .of r, e1, q H _ Keep.refl I.at_ hx⟩)
  case int.lst i ds =>
    cases h2
    obtain ⟨p, xs, rfl, n, r, t⟩ := h1.of_lst
    obtain ⟨x, e1, hx⟩ := atI_dats t e
    exact .inl ⟨p, xs, i, x, rfl, rfl, .of r, e1, q H _ Keep.refl I.at_ hx⟩
theorem pd_ix (ha : PD X C W a sa da) (hb : PD X C W b sb db) (hs : PlainIx b := by exact fun _ _ => rfl) : PD X C W (.Subscript a b pos) (sa ++ sb) (dBin ixD da db) :=
  pd_of (pe_ix ix_seq ha hb hs) fun A0 H0 A ρ st σ H Q I g => tOp_d I oix g
/-- an item of an own list: it does not go through the list itself -/
def dIxO (i : Nat) (db : DE S) : DE S := fun ρ s => match ρ[i]? with
  | some (some (.own ds)) => (db ρ s).bind fun y s1 => ofO s1 (ixD (.lst ds) y)
  | some (some (.val d)) => (db ρ s).bind fun y s1 => ofO s1 (ixD d y)
  | _ => .bad
theorem pd_ixo (i : Nat) {x : Str} (hb : PD X C W b [] db) (hs : PlainIx b := by exact fun _ _ => rfl) (hN : X.N[i]? = some x := by rfl) (hv : Vis X.env.scope x := by first | exact Or.inl rfl | exact Or.inr (Or.inl rfl) | exact Or.inr (Or.inr rfl)) (hd : (x == ("__debug__" : Str)) = false := by decide)
    (hcd : (x == ("__classdict__" : Str)) = false := by decide) : PD X C W (.Subscript (.Name x p) b pos) [] (dIxO i db) :=
  pd_of (pe_ix ix_seq (pe_var hN hv hd hcd) hb hs) fun A0 H0 A ρ st σ H Q I g => by
    unfold dIxO at g
    split at g
    · rename_i ds q
      obtain ⟨v, e1, a, xs, rfl, h1, h2, h3, h4, h5⟩ := I.sl i _ q
      refine ⟨_, e1, A0, H0, A, ρ, st, I, g.bind.imp fun y s1 H1 k1 t1 g1 v dv => ?_⟩
      have I1 := I.next k1 t1
      rw [Amin.nil] at dv
      obtain ⟨d, e, q1⟩ := g1.ofO
      cases y <;> simp only [ixD] at e <;> try cases e
      cases dv
      have h4' : H1 a = some (.lst xs) := k1 a _ (fun z => h3 (I.dom a z)) h4
      obtain ⟨x, e2, hx⟩ := atI_dats (h5.keep k1 I.domA) e
      exact .inl ⟨a, xs, _, x, rfl, rfl, .of h4', e2, q1 H1 Keep.refl t1 _ (by rw [Amin.nil]; exact hx)⟩
    · rename_i d q
      obtain ⟨v, e1, h⟩ := I.sl i _ q
      refine ⟨_, e1, A0, H0, A, ρ, st, I, g.bind.imp fun y s1 H1 k1 t1 g1 v' dv => ?_⟩
      have I1 := I.next k1 t1
      rw [Amin.nil] at dv
      obtain ⟨d', e, q1⟩ := g1.ofO
      have V1 : VAt C A H1 s1 := ⟨I1.fresh, I1.domA, t1⟩
      exact oix A s1 H1 _ _ d y d' Q V1 (Dat.keep h k1 I.domA) dv e fun H' v k t hh => q1 H' k t v (by rw [Amin.nil]; exact hh)
    · exact g.elim
/-- the parts of a slice -/
def PartD (X : Cx) (C : Deck S) (W : WX) (e : Option Expr) (dp : E1 S (Option Int)) : Prop := PO X e fun σ H Q => ∃ A0 H0 A ρ st, SAt C A0 H0 A H σ ρ st ∧ RG C X.mg W σ H (dp ρ st) fun o _ H' => Q o H'
def dNoPart : E1 S (Option Int) := fun _ s => .ok none s
def asI : D → Option Int
  | .int i => some i
  | _ => none
def dPart (de : DE S) : E1 S (Option Int) := fun ρ s => (de ρ s).bind fun d s1 => (ofO s1 (asI d)).map some
theorem po_imp {e : Option Expr} {t t' : TO} (h : PO X e t) (i : ∀ σ H Q, t' σ H Q → t σ H Q) : PO X e t' := ⟨fun pins s σ H Q I q => h.run pins s σ H Q I (i σ H Q q)⟩
theorem part_none : PartD X C W none (dNoPart : E1 S (Option Int)) := po_imp po_none fun σ H Q ⟨A0, H0, A, ρ, st, I, g⟩ => g.done I.at_
theorem part_some (h : PD X C W e sc de) : PartD X C W (some e) (dPart de) := po_imp (po_some h) fun σ H Q ⟨A0, H0, A, ρ, st, I, g⟩ => ⟨A0, H0, A, ρ, st, I, g.bind.imp fun d s1 H1 k1 t1 g1 v dv => by
  obtain ⟨i, ei, q⟩ := g1.map.ofO
  cases d <;> simp only [asI] at ei <;> cases ei
  cases dv
  exact ⟨_, rfl, q H1 Keep.refl t1⟩⟩
def cutL {α : Type} (xs : List α) (lo hi : Option Int) : List α := (xs.drop (HT.sIx xs.length 0 lo)).take (HT.sIx xs.length xs.length hi - HT.sIx xs.length 0 lo)
def slD (d : D) (lo hi : Option Int) : Option D :=
  match d with
  | .str l => some (.str (cutL l lo hi))
  | .tup ds => some (.tup (cutL ds lo hi))
  | .lst ds => some (.lst (cutL ds lo hi))
  | _ => none
theorem cut_dats {xs : List V} {ds : List D} (t : Dats C H A xs ds) (lo hi : Option Int) : Dats C H A (cutV xs lo hi) (cutL ds lo hi) := by
  unfold cutV cutL
  rw [t.len]
  refine ⟨by simp [t.len], fun i x d e1 e2 => ?_⟩
  rw [List.getElem?_take] at e1 e2
  split at e1
  · rename_i hi
    rw [if_pos hi] at e2
    rw [List.getElem?_drop] at e1 e2
    exact t.at_ _ x d e1 e2
  · cases e1
def rSlD (K : PySem.W.Frag) : V → Option Int → Option Int → Hp → VK → Prop := fun x lo hi H Q => rSlL K x lo hi H Q ∨ rSlA K x lo hi H Q ∨ rSlS x lo hi H Q
theorem sl_all : SlR X (rSlD X.K) := sl_list.or (sl_tupA.or sl_str)
theorem cutL_whole {α : Type} {xs : List α} {lo hi : Option Int} (h : HT.sIx xs.length 0 lo = 0 ∧ HT.sIx xs.length xs.length hi = xs.length) : cutL xs lo hi = xs := by
  unfold cutL
  rw [h.1, h.2]; simp
def dSl (de : DE S) (dp dq : E1 S (Option Int)) : DE S := fun ρ s => (de ρ s).bind fun d s1 => (dp ρ s1).bind fun lo s2 => (dq ρ s2).bind fun hi s3 => ofO s3 (slD d lo hi)
theorem pd_sl {lo hi : Option Expr} {dp dq : E1 S (Option Int)} (h : PD X C W e sc de) (hl : PartD X C W lo dp) (hh : PartD X C W hi dq) : PD X C W (.Subscript e (.Slice lo hi none p2) pos) sc (dSl de dp dq) :=
  pd_of (pe_slice sl_all h hl hh) fun A0 H0 A ρ st σ H Q I g => ⟨A0, H0, A, ρ, st, I, g.bind.imp fun d s1 H1 k1 t1 g1 v dv => by
    have I1 := I.next k1 t1
    refine ⟨A0, H0, A, ρ, s1, I1, g1.bind.imp fun l s2 H2 k2 t2 g2 => ?_⟩
    have I2 := I1.next k2 t2
    refine ⟨A0, H0, A, ρ, s2, I2, g2.bind.imp fun u s3 H3 k3 t3 g3 => ?_⟩
    have I3 := I2.next k3 t3
    obtain ⟨d', e', q⟩ := g3.ofO
    have dv3 := dv.keep (k2.trans k3) (I1.dom0 sc)
    have V3 := I3.vat sc
    cases d <;> simp only [slD] at e' <;> cases e'
    case str z =>
      cases dv3 with
      | str o =>
        refine .inr (.inr ⟨_, rfl, by rw [mkS_len, line_eq]; have := o.1; omega, ?_⟩)
        have e : cutS (mkS z) l u = mkS (cutL z l u) := by
          unfold cutS cutL
          rw [mkS_len]
        rw [e]
        refine q H3 Keep.refl t3 _ (.str ⟨?_, fun c hc => o.2 c (List.mem_of_mem_drop (List.mem_of_mem_take hc))⟩)
        have := o.1
        unfold cutL
        rw [List.length_take, List.length_drop]
        omega
    case tup ds =>
      obtain ⟨p, xs, rfl, n, r, t⟩ := dv3.of_tup
      refine .inr (.inl ⟨p, xs, rfl, .of r, fun hw => ?_, fun hw p' hp => ?_⟩)
      · rw [t.len] at hw
        rw [cutL_whole hw] at q
        exact q H3 Keep.refl t3 _ dv3
      · obtain ⟨k, t', n'⟩ := V3.new (o := .tup (cutV xs l u)) hp
        exact q _ k t' _ (Dat.tup_mk n' upd_same ((cut_dats t l u).keep k V3.dom))
    case lst ds =>
      obtain ⟨p, xs, rfl, n, r, t⟩ := dv3.of_lst
      refine .inl ⟨p, xs, rfl, .of r, fun p' hp => ?_⟩
      obtain ⟨k, t', n'⟩ := V3.new (o := .lst (cutV xs l u)) hp
      exact q _ k t' _ (Dat.lst_mk n' upd_same ((cut_dats t l u).keep k V3.dom))⟩
end
end Mir

set_option Elab.async false
set_option linter.all false
set_option maxRecDepth 100000
set_option maxHeartbeats 2000000
namespace Mir
open PySem PySem.Spec L2
open PyProof.Rows hiding St

section
variable {S : Type} {C : Deck S} {X : Cx} {W : WX} {A0 A A' : Addr → Prop} {H0 H H' : Hp} {σ : St} {ρ : En} {st st' : S}
variable {e a b c : Expr} {es rest : List Expr} {pos p p2 : Pos} {sc sc' sa sb : List Nat} {de da db dc : DE S} {dt dt' du : DT S} {dl : DA S}
/-! ### calls of built-ins -/
def CallD (C : Deck S) (r : List V → Hp → VK → Prop) (f : List D → Option D) : Prop := ∀ (A : Addr → Prop) (s : S) (H : Hp) (xs : List V) (ds : List D) (d : D) (Q : VK), VAt C A H s → Dats C H A xs ds → f ds = some d →
  (∀ H' v, Keep C.dom H H' → C.At s H' → Dat C H' A v d → Q v H') → r xs H Q
def dCallB (f : List D → Option D) (dl : DA S) : DE S := fun ρ s => (dl ρ s).bind fun ds s1 => ofO s1 (f ds)
theorem tCB_d {r : List V → Hp → VK → Prop} {f : List D → Option D} (I : SAt C A0 H0 A H σ ρ st) {Q : VK} (hr : CallD C r f) (g : RG C X.mg W σ H (dCallB f dl ρ st) fun d _ H' => ∀ v, Dat C H' (Amin A σ ρ sc) v d → Q v H') :
    tCB r (cta C X.mg W sc dl) σ H Q := ⟨A0, H0, A, ρ, st, I, g.bind.imp fun ds s1 H1 k1 t1 g1 vs dvs => by
  obtain ⟨d, ed, q⟩ := g1.ofO
  exact hr (Amin A σ ρ sc) s1 H1 vs ds d Q ((I.next k1 t1).vat sc) dvs ed fun H' v k t h => q H' k t v h⟩
theorem pd_callB {x : Str} {id : String} {r : List V → Hp → VK → Prop} {f : List D → Option D} (hc : CallR X (.builtin id) r) (hr : CallD C r f) (hm : X.mg x = none) (ha : PAd X C W (e :: es) sc dl) (hv : bootBuiltins x = some (.builtin id) := by decide +kernel) (hg : Gl X x := by rfl) (hn : x ≠ "__name__" := by decide) (hdb : (x == ("__debug__" : Str)) = false := by decide)
    (he : starEach (e :: es) X.env = (false, eval e X.env) :: starEach es X.env := by rfl) (hpl : (backTo pos (starEach es X.env)).any (·.1) = false := by rfl) : PD X C W (.Call (.Name x p) (e :: es) [] pos) sc (dCallB f dl) :=
  pd_of (pe_callB hc hg hm hv ha hn hdb he hpl) fun A0 H0 A ρ st σ H Q I g => tCB_d I hr g
theorem pd_callTy {x : Str} {T : String} {r : List V → Hp → VK → Prop} {f : List D → Option D} (hc : CallR X (.type T) r) (hr : CallD C r f) (hm : X.mg x = none) (ha : PAd X C W (e :: es) sc dl) (hv : bootBuiltins x = some (.type T) := by decide +kernel) (hg : Gl X x := by rfl) (hn : x ≠ "__name__" := by decide) (hdb : (x == ("__debug__" : Str)) = false := by decide)
    (he : starEach (e :: es) X.env = (false, eval e X.env) :: starEach es X.env := by rfl) (hpl : (backTo pos (starEach es X.env)).any (·.1) = false := by rfl) : PD X C W (.Call (.Name x p) (e :: es) [] pos) sc (dCallB f dl) :=
  pd_of (pe_callTy hc hg hm hv ha hn hdb he hpl) fun A0 H0 A ρ st σ H Q I g => tCB_d I hr g
theorem Dats.one {xs : List V} {d : D} (h : Dats C H A xs [d]) : ∃ x, xs = [x] ∧ Dat C H A x d := by
  obtain ⟨x, r, rfl, h1, h2⟩ := h.uncons
  rw [h2.unnil]
  exact ⟨x, rfl, h1⟩
theorem Dats.two {xs : List V} {d d' : D} (h : Dats C H A xs [d, d']) : ∃ x y, xs = [x, y] ∧ Dat C H A x d ∧ Dat C H A y d' := by
  obtain ⟨x, r, rfl, h1, h2⟩ := h.uncons
  obtain ⟨y, rfl, h3⟩ := h2.one
  exact ⟨x, y, rfl, h1, h3⟩
/-- len -/
def lenD : List D → Option D
  | [.str l] => some (.int l.length)
  | [.tup ds] => some (.int ds.length)
  | [.lst ds] => some (.int ds.length)
  | _ => none
theorem cd_len {K : PySem.W.Frag} : CallD C (fun xs H Q => ∃ x n, xs = [x] ∧ LenV K x H n ∧ Q (.int n) H) lenD := by
  intro A s H xs ds d Q I h e q
  match ds, e with
  | [.str l], e =>
    cases e
    obtain ⟨x, rfl, hx⟩ := h.one
    cases hx with
    | str o => exact ⟨_, l.length, rfl, ⟨by rw [mkS_len, line_eq]; have := o.1; omega, by rw [mkS_len]⟩, q H _ Keep.refl I.at_ (.int _)⟩
  | [.tup ds], e =>
    cases e
    obtain ⟨x, rfl, hx⟩ := h.one
    obtain ⟨p, xs, rfl, n, r, t⟩ := hx.of_tup
    exact ⟨_, ds.length, rfl, .inr ⟨xs, .of r, t.len.symm⟩, q H _ Keep.refl I.at_ (.int _)⟩
  | [.lst ds], e =>
    cases e
    obtain ⟨x, rfl, hx⟩ := h.one
    obtain ⟨p, xs, rfl, n, r, t⟩ := hx.of_lst
    exact ⟨_, ds.length, rfl, .inl ⟨xs, .of r, t.len.symm⟩, q H _ Keep.refl I.at_ (.int _)⟩
theorem pd_len (hm : X.mg "len" = none) (ha : PAd X C W [e] sc dl) (hg : Gl X "len" := by rfl) (he : starEach [e] X.env = (false, eval e X.env) :: starEach [] X.env := by rfl) (hpl : (backTo pos (starEach [] X.env)).any (·.1) = false := by rfl) : PD X C W (.Call (.Name "len" p) [e] [] pos) sc (dCallB lenD dl) :=
  pd_callB call_len cd_len hm ha PySem.boot_len hg (by decide) (by decide) he hpl
/-- all, any of a list of bools -/
def allBl : List D → Option (List Bool)
  | [] => some []
  | .bl b :: r => (allBl r).map (b :: ·)
  | _ :: _ => none
theorem allBl_some : ∀ {ds : List D} {bs : List Bool}, allBl ds = some bs → ds = bs.map D.bl
  | [], bs, h => by cases h; rfl
  | .bl b :: r, bs, h => by
    simp only [allBl, Option.map_eq_some_iff] at h
    obtain ⟨t, h1, rfl⟩ := h
    rw [allBl_some h1]; rfl
  | .non :: _, _, h => by cases h
  | .int _ :: _, _, h => by cases h
  | .str _ :: _, _, h => by cases h
  | .tup _ :: _, _, h => by cases h
  | .lst _ :: _, _, h => by cases h
  | .dic _ _ :: _, _, h => by cases h
  | .deck :: _, _, h => by cases h
  | .ext _ :: _, _, h => by cases h
theorem allBl_map : ∀ bs : List Bool, allBl (bs.map D.bl) = some bs
  | [] => rfl
  | b :: bs => by simp [allBl, allBl_map bs]
theorem dats_bl : ∀ {bs : List Bool} {xs : List V}, Dats C H A xs (bs.map D.bl) → xs = bs.map V.bl
  | [], xs, h => h.unnil
  | b :: bs, xs, h => by
    obtain ⟨x, r, rfl, h1, h2⟩ := h.uncons
    cases h1
    rw [dats_bl h2]; rfl
def allD : List D → Option D
  | [.lst ds] => (allBl ds).map fun bs => .bl (bs.all id)
  | _ => none
def anyD : List D → Option D
  | [.lst ds] => (allBl ds).map fun bs => .bl (bs.any id)
  | _ => none
theorem cd_all {K : PySem.W.Frag} : CallD C (rAll K) allD := by
  intro A s H xs ds d Q I h e q
  match ds, e with
  | [.lst ds], e =>
    obtain ⟨bs, e1, rfl⟩ := Option.map_eq_some_iff.mp e
    obtain ⟨x, rfl, hx⟩ := h.one
    obtain ⟨p, xs, rfl, n, r, t⟩ := hx.of_lst
    rw [allBl_some e1] at t
    rw [dats_bl t] at r
    exact ⟨p, bs, rfl, .of r, q H _ Keep.refl I.at_ (.bl _)⟩
theorem cd_any {K : PySem.W.Frag} : CallD C (rAny K) anyD := by
  intro A s H xs ds d Q I h e q
  match ds, e with
  | [.lst ds], e =>
    obtain ⟨bs, e1, rfl⟩ := Option.map_eq_some_iff.mp e
    obtain ⟨x, rfl, hx⟩ := h.one
    obtain ⟨p, xs, rfl, n, r, t⟩ := hx.of_lst
    rw [allBl_some e1] at t
    rw [dats_bl t] at r
    exact ⟨p, bs, rfl, .of r, q H _ Keep.refl I.at_ (.bl _)⟩
theorem pd_all (hc : X.calm = true) (hm : X.mg "all" = none) (ha : PAd X C W [e] sc dl) (hg : Gl X "all" := by rfl) (he : starEach [e] X.env = (false, eval e X.env) :: starEach [] X.env := by rfl) (hpl : (backTo pos (starEach [] X.env)).any (·.1) = false := by rfl) : PD X C W (.Call (.Name "all" p) [e] [] pos) sc (dCallB allD dl) :=
  pd_callB (cr_all hc) cd_all hm ha (by decide +kernel) hg (by decide) (by decide) he hpl
theorem pd_any (hc : X.calm = true) (hm : X.mg "any" = none) (ha : PAd X C W [e] sc dl) (hg : Gl X "any" := by rfl) (he : starEach [e] X.env = (false, eval e X.env) :: starEach [] X.env := by rfl) (hpl : (backTo pos (starEach [] X.env)).any (·.1) = false := by rfl) : PD X C W (.Call (.Name "any" p) [e] [] pos) sc (dCallB anyD dl) :=
  pd_callB (cr_any hc) cd_any hm ha (by decide +kernel) hg (by decide) (by decide) he hpl
/-- tuple, int, min, max -/
def tupleD : List D → Option D
  | [.lst ds] => some (.tup ds)
  | [.tup ds] => some (.tup ds)
  | _ => none
theorem cd_tuple {K : PySem.W.Frag} : CallD C (fun xs H Q => ∃ p ys, xs = [.ref p] ∧ ((SqL K H p ys ∧ ∀ l, H l = none → Q (.ref l) (upd H l (.tup ys))) ∨ (SqT K H p ys ∧ Q (.ref p) H))) tupleD := by
  intro A s H xs ds d Q I h e q
  match ds, e with
  | [.lst ds], e =>
    cases e
    obtain ⟨x, rfl, hx⟩ := h.one
    obtain ⟨p, xs, rfl, n, r, t⟩ := hx.of_lst
    refine ⟨p, xs, rfl, .inl ⟨.of r, fun l hl => ?_⟩⟩
    obtain ⟨k, t', n'⟩ := I.new (o := .tup xs) hl
    exact q _ _ k t' (Dat.tup_mk n' upd_same (t.keep k I.dom))
  | [.tup ds], e =>
    cases e
    obtain ⟨x, rfl, hx⟩ := h.one
    obtain ⟨p, xs, rfl, n, r, t⟩ := hx.of_tup
    exact ⟨p, xs, rfl, .inr ⟨.of r, q _ _ Keep.refl I.at_ hx⟩⟩
theorem pd_tuple (hm : X.mg "tuple" = none) (ha : PAd X C W [e] sc dl) (hg : Gl X "tuple" := by rfl) (he : starEach [e] X.env = (false, eval e X.env) :: starEach [] X.env := by rfl) (hpl : (backTo pos (starEach [] X.env)).any (·.1) = false := by rfl) : PD X C W (.Call (.Name "tuple" p) [e] [] pos) sc (dCallB tupleD dl) :=
  pd_callTy call_tuple_of cd_tuple hm ha (by decide +kernel) hg (by decide) (by decide) he hpl
def intD : List D → Option D
  | [.int i] => some (.int i)
  | [.bl k] => some (.int (if k then 1 else 0))
  | _ => none
theorem cd_int : CallD C (fun xs H Q => (∃ i, xs = [V.int i] ∧ Q (.int i) H) ∨ ∃ k, xs = [V.bl k] ∧ Q (.int (if k then 1 else 0)) H) intD := by
  intro A s H xs ds d Q I h e q
  match ds, e with
  | [.int i], e => cases e; obtain ⟨x, rfl, hx⟩ := h.one; cases hx; exact .inl ⟨i, rfl, q _ _ Keep.refl I.at_ (.int _)⟩
  | [.bl i], e => cases e; obtain ⟨x, rfl, hx⟩ := h.one; cases hx; exact .inr ⟨i, rfl, q _ _ Keep.refl I.at_ (.int _)⟩
theorem pd_intc (hm : X.mg "int" = none) (ha : PAd X C W [e] sc dl) (hg : Gl X "int" := by rfl) (he : starEach [e] X.env = (false, eval e X.env) :: starEach [] X.env := by rfl) (hpl : (backTo pos (starEach [] X.env)).any (·.1) = false := by rfl) : PD X C W (.Call (.Name "int" p) [e] [] pos) sc (dCallB intD dl) :=
  pd_callTy call_int1 cd_int hm ha (by decide +kernel) hg (by decide) (by decide) he hpl
def min2D : List D → Option D
  | [.int i, .int j] => some (.int (if j < i then j else i))
  | _ => none
def max2D : List D → Option D
  | [.int i, .int j] => some (.int (if j > i then j else i))
  | _ => none
theorem cd_min2 : CallD C (fun xs H Q => ∃ i j, xs = [V.int i, .int j] ∧ Q (.int (if j < i then j else i)) H) min2D := by
  intro A s H xs ds d Q I h e q
  match ds, e with
  | [.int i, .int j], e => cases e; obtain ⟨x, y, rfl, hx, hy⟩ := h.two; cases hx; cases hy; exact ⟨i, j, rfl, q _ _ Keep.refl I.at_ (.int _)⟩
theorem cd_max2 : CallD C (fun xs H Q => ∃ i j, xs = [V.int i, .int j] ∧ Q (.int (if j > i then j else i)) H) max2D := by
  intro A s H xs ds d Q I h e q
  match ds, e with
  | [.int i, .int j], e => cases e; obtain ⟨x, y, rfl, hx, hy⟩ := h.two; cases hx; cases hy; exact ⟨i, j, rfl, q _ _ Keep.refl I.at_ (.int _)⟩
theorem pd_min2 (hc : X.calm = true) (hm : X.mg "min" = none) (ha : PAd X C W [a, b] sc dl) (hg : Gl X "min" := by rfl) (he : starEach [a, b] X.env = (false, eval a X.env) :: starEach [b] X.env := by rfl) (hpl : (backTo pos (starEach [b] X.env)).any (·.1) = false := by rfl) : PD X C W (.Call (.Name "min" p) [a, b] [] pos) sc (dCallB min2D dl) :=
  pd_callB (call_min2 hc) cd_min2 hm ha (by decide +kernel) hg (by decide) (by decide) he hpl
theorem pd_max2 (hc : X.calm = true) (hm : X.mg "max" = none) (ha : PAd X C W [a, b] sc dl) (hg : Gl X "max" := by rfl) (he : starEach [a, b] X.env = (false, eval a X.env) :: starEach [b] X.env := by rfl) (hpl : (backTo pos (starEach [b] X.env)).any (·.1) = false := by rfl) : PD X C W (.Call (.Name "max" p) [a, b] [] pos) sc (dCallB max2D dl) :=
  pd_callB (call_max2 hc) cd_max2 hm ha (by decide +kernel) hg (by decide) (by decide) he hpl
/-- list(x): a fresh list -/
def itemsD : D → Option (List D)
  | .lst ds => some ds
  | .tup ds => some ds
  | _ => none
def dListOf (de : DE S) : DA S := fun ρ s => (de ρ s).bind fun d s1 => ofO s1 ((itemsD d).filter fun ds => ds.length ≤ 65536)
theorem pf_list (hm : X.mg "list" = none) (h : PD X C W e sc de) (hg : Gl X "list" := by rfl) (he : starEach [e] X.env = (false, eval e X.env) :: starEach [] X.env := by rfl) (hpl : (backTo pos (starEach [] X.env)).any (·.1) = false := by rfl) : PF X C W (.Call (.Name "list" p) [e] [] pos) sc (dListOf de) :=
  pf_of (pe_callTy call_list_of hg hm (by decide +kernel) (pa_cons h pa_nil he) (by decide) (by decide) he hpl) fun A0 H0 A ρ st σ H Q I g => ⟨A0, H0, A, ρ, st, I, g.bind.imp fun d s1 H1 k1 t1 g1 v dv => by
    obtain ⟨ds, eds, q⟩ := g1.ofO
    obtain ⟨e1, e2⟩ := Option.filter_eq_some_iff.mp eds
    have hl : ds.length ≤ 65536 := by simpa using e2
    cases d <;> simp only [itemsD] at e1 <;> cases e1
    · obtain ⟨p, xs, rfl, n, r, t⟩ := dv.of_tup
      exact ⟨p, xs, rfl, .inr (.of r), fun l hl' => q H1 Keep.refl t1 l xs hl' t (by rw [t.len]; exact small_line hl)⟩
    · obtain ⟨p, xs, rfl, n, r, t⟩ := dv.of_lst
      exact ⟨p, xs, rfl, .inl (.of r), fun l hl' => q H1 Keep.refl t1 l xs hl' t (by rw [t.len]; exact small_line hl)⟩⟩

/-! ### isinstance -/
def tyD : D → Option String
  | .non => some "NoneType"
  | .bl _ => some "bool"
  | .int _ => some "int"
  | .str _ => some "str"
  | .tup _ => some "tuple"
  | .lst _ => some "list"
  | _ => none
theorem tyx_of {K : PySem.W.Frag} {v : V} {d : D} {T : String} (h : Dat C H A v d) (e : tyD d = some T) : TyX K H v (.type T) := by
  cases d <;> simp only [tyD] at e <;> cases e
  · cases h; exact .base .non
  · cases h; exact .base (.bl _)
  · cases h; exact .base (.int _)
  · cases h; exact .base (.str _)
  · obtain ⟨p, xs, rfl, n, r, t⟩ := h.of_tup; exact .base (.tup r)
  · obtain ⟨p, xs, rfl, n, r, t⟩ := h.of_lst; exact .base (.lst r)
def isiD (T : String) (d : D) : Option D := ((tyD d).bind fun t => kitB t T).map .bl
def dIsi (T : String) (de : DE S) : DE S := fun ρ s => (de ρ s).bind fun d s1 => ofO s1 (isiD T d)
theorem pd_isi (T : String) {x : Str} (hm1 : X.mg "isinstance" = none) (hm : X.mg x = none) (h : PD X C W e sc de) (hv : bootBuiltins x = some (.type T) := by decide +kernel) (hg : Gl X x := by rfl) (hg1 : Gl X "isinstance" := by rfl) (hn : x ≠ "__name__" := by decide) (hdb : (x == ("__debug__" : Str)) = false := by decide) {q : Pos}
    (he : starEach [e, .Name x q] X.env = (false, eval e X.env) :: starEach [.Name x q] X.env := by rfl) (he2 : starEach [.Name x q] X.env = (false, eval (.Name x q) X.env) :: starEach [] X.env := by rfl) (hpl : (backTo pos (starEach [.Name x q] X.env)).any (·.1) = false := by rfl) : PD X C W (.Call (.Name "isinstance" p) [e, .Name x q] [] pos) [] (dIsi T de) :=
  pd_of (pe_callB call_isi hg1 hm1 (by decide +kernel) (pa_cons h (pa_cons (pe_bltn (v := .ty T) hg hm hv rfl hn hdb) pa_nil he2) he) (by decide) (by decide) he hpl) fun A0 H0 A ρ st σ H Q I g => ⟨A0, H0, A, ρ, st, I, g.bind.imp fun d s1 H1 k1 t1 g1 v dv => by
    obtain ⟨d2, e2, q⟩ := g1.ofO
    obtain ⟨k, e3, rfl⟩ := Option.map_eq_some_iff.mp e2
    obtain ⟨t, e4, e5⟩ := Option.bind_eq_some_iff.mp e3
    exact ⟨v, .ty T, .type t, .type T, k, rfl, .ty T, tyx_of dv e4, kit_ty e5, q H1 Keep.refl t1 _ (.bl k)⟩⟩
/-! the answers, by cases -/
theorem kb_int_int : kitB "int" "int" = some true := by decide +kernel
theorem kb_bool_int : kitB "bool" "int" = some true := by decide +kernel
theorem kb_none_int : kitB "NoneType" "int" = some false := by decide +kernel
theorem kb_str_int : kitB "str" "int" = some false := by decide +kernel
theorem kb_tup_int : kitB "tuple" "int" = some false := by decide +kernel
theorem kb_lst_int : kitB "list" "int" = some false := by decide +kernel
theorem kb_int_bool : kitB "int" "bool" = some false := by decide +kernel
theorem kb_bool_bool : kitB "bool" "bool" = some true := by decide +kernel
theorem kb_none_bool : kitB "NoneType" "bool" = some false := by decide +kernel
theorem kb_str_bool : kitB "str" "bool" = some false := by decide +kernel
theorem kb_tup_bool : kitB "tuple" "bool" = some false := by decide +kernel
theorem kb_lst_bool : kitB "list" "bool" = some false := by decide +kernel
theorem kb_int_str : kitB "int" "str" = some false := by decide +kernel
theorem kb_bool_str : kitB "bool" "str" = some false := by decide +kernel
theorem kb_none_str : kitB "NoneType" "str" = some false := by decide +kernel
theorem kb_str_str : kitB "str" "str" = some true := by decide +kernel
theorem kb_tup_str : kitB "tuple" "str" = some false := by decide +kernel
theorem kb_lst_str : kitB "list" "str" = some false := by decide +kernel
theorem kb_int_tup : kitB "int" "tuple" = some false := by decide +kernel
theorem kb_bool_tup : kitB "bool" "tuple" = some false := by decide +kernel
theorem kb_none_tup : kitB "NoneType" "tuple" = some false := by decide +kernel
theorem kb_str_tup : kitB "str" "tuple" = some false := by decide +kernel
theorem kb_tup_tup : kitB "tuple" "tuple" = some true := by decide +kernel
theorem kb_lst_tup : kitB "list" "tuple" = some false := by decide +kernel
theorem kb_int_lst : kitB "int" "list" = some false := by decide +kernel
theorem kb_bool_lst : kitB "bool" "list" = some false := by decide +kernel
theorem kb_none_lst : kitB "NoneType" "list" = some false := by decide +kernel
theorem kb_str_lst : kitB "str" "list" = some false := by decide +kernel
theorem kb_tup_lst : kitB "tuple" "list" = some false := by decide +kernel
theorem kb_lst_lst : kitB "list" "list" = some true := by decide +kernel

/-! ### defs -/
/-- a def's promise by its function on data -/
def spOf (mg : Str → Option Value) (PC : Deck S → Prop) (n : Nat) (m : List D → S → R S D) : Sp := fun vs H Q E => ∃ (C : Deck S) (A : Addr → Prop) (s : S) (ds : List D), PC C ∧ VAt C A H s ∧ Dats C H A vs ds ∧ ds.length = n ∧
  match m ds s with
  | .ok d s' => ∀ H' v, Keep C.dom H H' → C.At s' H' → Dat C H' A v d → Q v H'
  | .ex c s' => ∀ a H', mg c = some (.ref a) → Keep C.dom H H' → C.At s' H' → E (.ref a) none H'
  | .bad => False
/-- a def under its name -/
structure Fn (P : Program) (w : World) (K : PySem.W.Frag) (mg : Str → Option Value) (base : Heap) (PC : Deck S → Prop) (x : Str) (k n : Nat) (m : List D → S → R S D) : Prop where
  ex : ∃ (f : Addr) (fd : FuncData) (ps : List Str), FnOk P w K mg base (L2.CX P w) k f fd ps (spOf mg PC n m) ∧ mg x = some (.ref f) ∧ PySem.W.keepIn K (.ref f) = true ∧ Binds K fd ps []
variable {PC : Deck S → Prop}
theorem spOf.imp {mg : Str → Option Value} {n : Nat} {m m' : List D → S → R S D} (h : ∀ ds s, ds.length = n → m' ds s ≠ .bad → m ds s = m' ds s) {vs : List V} {H : Hp} {Q : VK} {E : XK} (g : spOf mg PC n m' vs H Q E) : spOf mg PC n m vs H Q E := by
  obtain ⟨C, A, s, ds, pc, V, D, hl, g⟩ := g
  refine ⟨C, A, s, ds, pc, V, D, hl, ?_⟩
  cases e : m' ds s with
  | bad => rw [e] at g; exact g.elim
  | ok d s' => rw [h ds s hl (by rw [e]; exact fun z => nomatch z), e]; rw [e] at g; exact g
  | ex c s' => rw [h ds s hl (by rw [e]; exact fun z => nomatch z), e]; rw [e] at g; exact g
theorem Fn.imp {P : Program} {w : World} {K : PySem.W.Frag} {mg : Str → Option Value} {base : Heap} {x : Str} {k n : Nat} {m m' : List D → S → R S D} (F : Fn P w K mg base PC x k n m) (h : ∀ ds s, ds.length = n → m' ds s ≠ .bad → m ds s = m' ds s) : Fn P w K mg base PC x k n m' := by
  obtain ⟨f, fd, ps, F, r⟩ := F.ex
  exact ⟨f, fd, ps, F.imp fun vs H Q E g => spOf.imp h g, r⟩
theorem Fn.mono {P : Program} {w : World} {K : PySem.W.Frag} {mg : Str → Option Value} {base : Heap} {x : Str} {k k' n : Nat} {m : List D → S → R S D} (F : Fn P w K mg base PC x k n m) (h : k ≤ k') : Fn P w K mg base PC x k' n m := by
  obtain ⟨f, fd, ps, F, r⟩ := F.ex
  exact ⟨f, fd, ps, F.mono h, r⟩
def dCall (m : List D → S → R S D) (dl : DA S) : DE S := fun ρ s => (dl ρ s).bind m
theorem call_d {n : Nat} {m : List D → S → R S D} (I : SAt C A0 H0 A H σ ρ st) (pc : PC C) {Q : VK} {vs : List V} {ds : List D} (hl : ds.length = n) (dvs : Dats C H (Amin A σ ρ sc) vs ds) (g : RG C X.mg W σ H (m ds st) fun d _ H' => ∀ v, Dat C H' (Amin A σ ρ sc) v d → Q v H') :
    spOf X.mg PC n m vs H Q (WE W σ) := by
  refine ⟨C, Amin A σ ρ sc, st, ds, pc, I.vat sc, dvs, hl, ?_⟩
  cases e : m ds st with
  | bad => rw [e] at g; exact g
  | ok d s' => rw [e] at g; exact fun H' v k t h => g H' k t v h
  | ex c s' => rw [e] at g; exact g
theorem Dats.length_eq {xs : List V} {ds : List D} (h : Dats C H A xs ds) : ds.length = xs.length := h.len.symm
/-- how many arguments are written -/
def dLen (n : Nat) (dl : DA S) : Prop := ∀ ρ s ds s', dl ρ s = .ok ds s' → ds.length = n
theorem dLen_nil : dLen 0 (dNil : DA S) := fun ρ s ds s' e => by cases e; rfl
theorem dLen_cons {n : Nat} (h : dLen n dl) : dLen (n + 1) (dCons de dl) := fun ρ s ds s' e => by
  unfold dCons at e
  cases e1 : de ρ s with
  | bad => rw [e1] at e; cases e
  | ex c s1 => rw [e1] at e; cases e
  | ok d s1 =>
    rw [e1] at e
    simp only [R.bind_ok] at e
    cases e2 : dl ρ s1 with
    | bad => rw [e2] at e; cases e
    | ex c s1 => rw [e2] at e; cases e
    | ok ds2 s2 =>
      rw [e2] at e
      cases e
      rw [List.length_cons, h _ _ _ _ e2]
theorem pd_call {x : Str} {k j n : Nat} {m : List D → S → R S D} (F : Fn X.prog X.w X.K X.mg X.base PC x k n m) (pc : PC C) (hr : Room j X.A) (hk : k ≤ j) (tk : Takes X W) (ha : PAd X C W (e :: es) sc dl) (hn : dLen n dl) (hg : Gl X x := by rfl) (hdb : (x == ("__debug__" : Str)) = false := by decide)
    (he : starEach (e :: es) X.env = (false, eval e X.env) :: starEach es X.env := by rfl) (hpl : (backTo pos (starEach es X.env)).any (·.1) = false := by rfl) : PD X C W (.Call (.Name x p) (e :: es) [] pos) sc (dCall m dl) := by
  obtain ⟨f, fd, ps, F, hm, hkp, hb⟩ := F.ex
  refine pd_of (pe_callS F (hr.mono hk) hg hm hkp hb (fun σ => passAt tk σ) ha hdb he hpl) fun A0 H0 A ρ st σ H Q I g => ?_
  unfold dCall at g
  have hn' := hn ρ st
  refine ⟨A0, H0, A, ρ, st, I, ?_⟩
  cases e1 : dl ρ st with
  | bad => rw [e1] at g; exact g
  | ex c s1 => rw [e1] at g; exact g
  | ok ds s1 =>
    rw [e1] at g
    simp only [R.bind_ok] at g
    exact fun H' k t vs dvs => call_d (I.next k t) pc (hn' _ _ e1) dvs (g.move k)

/-! ### statements -/
def R.out {α : Type} (r : R S α) (ρ : En) (f : α → S → Out S) : Out S :=
  match r with
  | .ok a s => f a s
  | .ex c s => .ex c ρ s
  | .bad => .bad
@[simp] theorem R.out_ok {α : Type} {a : α} {s : S} {ρ : En} {f : α → S → Out S} : (R.ok a s).out ρ f = f a s := rfl
@[simp] theorem R.out_ex {α : Type} {c : Str} {s : S} {ρ : En} {f : α → S → Out S} : (R.ex c s : R S α).out ρ f = .ex c ρ s := rfl
@[simp] theorem R.out_bad {α : Type} {ρ : En} {f : α → S → Out S} : (R.bad : R S α).out ρ f = .bad := rfl
variable {mg : Str → Option Value} {DD : Ends}
theorem SG.out {α : Type} {r : R S α} {f : α → S → Out S} (I : SAt C A0 H0 A H σ ρ st) (g : SG C mg W A0 H0 (r.out ρ f) DD) : RG C mg W σ H r fun a s H' => SAt C A0 H0 A H' σ ρ s ∧ SG C mg W A0 H0 (f a s) DD := by
  cases r with
  | ok a s => exact fun H' k t => ⟨I.next k t, g⟩
  | ex c s => exact fun a H' m k t => g a A H' σ m (I.next k t)
  | bad => exact g
variable {s0 : Stmt} {ss : List Stmt} {ds ds' : DS S}
theorem psd_of {t : TS} (h : PS X s0 t) (i : ∀ (A0 : Addr → Prop) (H0 : Hp) (A : Addr → Prop) (ρ : En) (st : S) (σ : St) (H : Hp) (DD : Ends), SAt C A0 H0 A H σ ρ st → SG C X.mg W A0 H0 (ds ρ st) DD → t DD σ H) : PSd X C W s0 ds :=
  ps_imp h fun DD σ H ⟨A0, H0, A, ρ, st, I, g⟩ => i A0 H0 A ρ st σ H DD I g
def dNext : DS S := fun ρ s => .nx ρ s
def dSeq (ds ds' : DS S) : DS S := fun ρ s => match ds ρ s with
  | .nx ρ' s' => ds' ρ' s'
  | o => o
theorem SG.nx_done {DD : Ends} (g : SG C mg W A0 H0 (.nx ρ st) DD) (I : SAt C A0 H0 A H σ ρ st) : DD.nx σ H := g A H σ I
theorem pbd_nil : PBd X C W [] (dNext : DS S) := pss_imp pss_nil fun DD σ H ⟨A0, H0, A, ρ, st, I, g⟩ => g A H σ I
theorem SG.seq (g : SG C mg W A0 H0 (dSeq ds ds' ρ st) DD) : SG C mg W A0 H0 (ds ρ st) { DD with nx := cts C mg W ds' DD } := by
  unfold dSeq at g
  cases e : ds ρ st with
  | nx ρ' s' => rw [e] at g; exact fun A H σ I => ⟨A0, H0, A, ρ', s', I, g⟩
  | rt d s' => rw [e] at g; exact g
  | bk ρ' s' => rw [e] at g; exact g
  | ct ρ' s' => rw [e] at g; exact g
  | ex c ρ' s' => rw [e] at g; exact g
  | bad => rw [e] at g; exact g
theorem pbd_cons (h : PSd X C W s0 ds) (h' : PBd X C W ss ds') : PBd X C W (s0 :: ss) (dSeq ds ds') := pss_imp (pss_cons h h') fun DD σ H ⟨A0, H0, A, ρ, st, I, g⟩ => ⟨A0, H0, A, ρ, st, I, g.seq⟩
theorem pbd_one (h : PSd X C W s0 ds) : PBd X C W [s0] ds := pss_one h
theorem psd_pass : PSd X C W (.Pass pos) (dNext : DS S) := psd_of ps_pass fun A0 H0 A ρ st σ H DD I g => g A H σ I
def dBreak : DS S := fun ρ s => .bk ρ s
def dCont : DS S := fun ρ s => .ct ρ s
theorem psd_break : PSd X C W (.Break pos) (dBreak : DS S) := psd_of ps_break fun A0 H0 A ρ st σ H DD I g => g A H σ I
theorem psd_cont : PSd X C W (.Continue pos) (dCont : DS S) := psd_of ps_continue fun A0 H0 A ρ st σ H DD I g => g A H σ I
def dRet (de : DE S) : DS S := fun ρ s => (de ρ s).out ρ fun d s1 => .rt d s1
theorem psd_ret (h : PD X C W e sc de) : PSd X C W (.Return (some e) pos) (dRet de) :=
  psd_of (ps_ret h) fun A0 H0 A ρ st σ H DD I g => ⟨A0, H0, A, ρ, st, I, (g.out I).imp fun d s1 H1 k1 t1 ⟨I1, g1⟩ v dv => g1 H1 v I1.keep t1 (dv.less (I1.sub0 sc))⟩
def dRetN : DS S := fun _ s => .rt .non s
theorem psd_retN : PSd X C W (.Return none pos) (dRetN : DS S) := psd_of ps_retN fun A0 H0 A ρ st σ H DD I g => g H .non I.keep I.at_ .non
def dIfS (dt : DT S) (ds ds' : DS S) : DS S := fun ρ s => (dt ρ s).out ρ fun k s1 => if k = true then ds ρ s1 else ds' ρ s1
theorem psd_if {xs ys : List Stmt} (hc : PTd X C W c dt) (ha : PBd X C W xs ds) (hb : PBd X C W ys ds') : PSd X C W (.If c xs ys pos) (dIfS dt ds ds') :=
  psd_of (ps_if hc ha hb) fun A0 H0 A ρ st σ H DD I g => ⟨A0, H0, A, ρ, st, I, (g.out I).imp fun k s1 H1 k1 t1 ⟨I1, g1⟩ => by
    cases k with
    | true => exact ⟨A0, H0, A, ρ, s1, I1, g1⟩
    | false => exact ⟨A0, H0, A, ρ, s1, I1, g1⟩⟩
def dDrop (de : DE S) : DS S := fun ρ s => (de ρ s).out ρ fun _ s1 => .nx ρ s1
theorem psd_drop (h : PD X C W e sc de) (hs : swapsWith e none pos.line X.env = pure false := by rfl) : PSd X C W (.Expr e pos) (dDrop de) :=
  psd_of (ps_expr h hs) fun A0 H0 A ρ st σ H DD I g => ⟨A0, H0, A, ρ, st, I, (g.out I).imp fun d s1 H1 k1 t1 ⟨I1, g1⟩ v dv => g1 A H1 σ I1⟩

/-! ### assignment -/
def scal : Sl → Bool
  | .val .non => true
  | .val (.bl _) => true
  | .val (.int _) => true
  | .val (.str _) => true
  | .val .deck => true
  | _ => false
def frzs (x : Sl) (sc : List Nat) (ρ : En) : En := if scal x then ρ else frz sc ρ
@[simp] theorem frzs_nil (x : Sl) (ρ : En) : frzs x [] ρ = ρ := by unfold frzs; split <;> simp
/-- a value for a slot: data, or a fresh list -/
def ctv (C : Deck S) (mg : Str → Option Value) (W : WX) (sc : List Nat) (dv : E1 S Sl) : TE := fun σ H Q => ∃ A0 H0 A ρ st, SAt C A0 H0 A H σ ρ st ∧
  RG C mg W σ H (dv ρ st) fun x _ H1 => match x with
    | .val d => ∀ v, Dat C H1 (Amin A σ ρ sc) v d → Q v H1
    | .own ds => ∀ p xs, H1 p = none → Dats C H1 (Amin A σ ρ sc) xs ds → xs.length ≤ sizeLine → Q (.ref p) (upd H1 p (.lst xs))
def PV (X : Cx) (C : Deck S) (W : WX) (e : Expr) (sc : List Nat) (dv : E1 S Sl) : Prop := PE X e (ctv C X.mg W sc dv)
def dV (de : DE S) : E1 S Sl := fun ρ s => (de ρ s).map .val
def dO (dl : DA S) : E1 S Sl := fun ρ s => (dl ρ s).map .own
theorem pv_v (h : PD X C W e sc de) : PV X C W e sc (dV de) := pe_imp h fun σ H Q ⟨A0, H0, A, ρ, st, I, g⟩ => ⟨A0, H0, A, ρ, st, I, g.map⟩
theorem pv_o (h : PF X C W e sc dl) : PV X C W e sc (dO dl) := pe_imp h fun σ H Q ⟨A0, H0, A, ρ, st, I, g⟩ => ⟨A0, H0, A, ρ, st, I, g.map⟩
/-- a value that waits to be stored -/
structure Pend (C : Deck S) (A0 : Addr → Prop) (H0 : Hp) (A : Addr → Prop) (H : Hp) (σ : St) (ρ : En) (v : V) (x : Sl) : Prop where
  sl : SlAt C A0 H0 A H v x
  apart : ∀ ds, x = .own ds → ∀ (j : Nat) es, ρ[j]? = some (some (.own es)) → σ[j]? ≠ some (some v)
theorem SAt.give {v : V} {x : Sl} {i : Nat} (I : SAt C A0 H0 A H σ ρ st) (h : Pend C A0 H0 A H σ ρ v x) : SAt C A0 H0 A H (σ.set i (some v)) (ρ.set i (some x)) st where
  len := by rw [List.length_set, List.length_set]; exact I.len
  sl := fun j y e => by
    by_cases hj : j = i
    · subst hj
      have hl : j < ρ.length := by have := (List.getElem?_eq_some_iff.mp e).1; rwa [List.length_set] at this
      rw [List.getElem?_set_self hl] at e
      cases e
      exact ⟨v, by rw [List.getElem?_set_self (by rw [I.len]; exact hl)], h.sl⟩
    · rw [List.getElem?_set_ne (Ne.symm hj)] at e
      obtain ⟨w, e1, q⟩ := I.sl j y e
      exact ⟨w, by rw [List.getElem?_set_ne (Ne.symm hj)]; exact e1, q⟩
  apart := fun j k ds es n e1 e2 => by
    have ne : ∀ {j : Nat} {ds : List D}, (ρ.set i (some x))[j]? = some (some (Sl.own ds)) → (j = i ∧ x = .own ds ∧ (σ.set i (some v))[j]? = some (some v)) ∨ (j ≠ i ∧ ρ[j]? = some (some (Sl.own ds))) := fun {j ds} e => by
      by_cases hj : j = i
      · subst hj
        have hl : j < ρ.length := by have := (List.getElem?_eq_some_iff.mp e).1; rwa [List.length_set] at this
        rw [List.getElem?_set_self hl] at e
        cases e
        exact .inl ⟨rfl, rfl, List.getElem?_set_self (by rw [I.len]; exact hl)⟩
      · exact .inr ⟨hj, by rwa [List.getElem?_set_ne (Ne.symm hj)] at e⟩
    rcases ne e1 with ⟨j1, x1, q1⟩ | ⟨n1, q1⟩ <;> rcases ne e2 with ⟨j2, x2, q2⟩ | ⟨n2, q2⟩
    · exact absurd (j1.trans j2.symm) n
    · rw [q1, List.getElem?_set_ne (Ne.symm n2)]
      exact fun z => h.apart _ x1 k _ q2 z.symm
    · rw [q2, List.getElem?_set_ne (Ne.symm n1)]
      exact h.apart _ x2 j _ q1
    · rw [List.getElem?_set_ne (Ne.symm n1), List.getElem?_set_ne (Ne.symm n2)]
      exact I.apart j k ds es n q1 q2
  fresh := I.fresh
  sub := I.sub
  lim := I.lim
  dom := I.dom
  keep := I.keep
  at_ := I.at_
/-- a fresh list, known to this frame alone -/
theorem SAt.newOwn {p : Addr} {xs : List V} {ds : List D} (I : SAt C A0 H0 A H σ ρ st) (hp : H p = none) (t : Dats C H A xs ds) :
    SAt C A0 H0 (fun a => A a ∨ a = p) (upd H p (.lst xs)) σ ρ st ∧ Pend C A0 H0 (fun a => A a ∨ a = p) (upd H p (.lst xs)) σ ρ (.ref p) (.own ds) := by
  have nA : ¬ A p := fun z => I.fresh p z hp
  have kp : Keep C.dom H (upd H p (.lst xs)) := Keep.upd hp
  have I1 := I.next kp (at_upd I.at_ hp)
  have h0 : H0 p = none := by
    cases e : H0 p with
    | none => rfl
    | some o =>
      by_cases z : C.dom p
      · exact absurd (I.domA p z) nA
      · have := I.keep p o z e; rw [hp] at this; cases this
  have lift : ∀ {v d}, Dat C H A v d → Dat C (upd H p (.lst xs)) (fun a => A a ∨ a = p) v d := fun h => h.lift kp I.domA fun a ha => ha.imp id fun z => by rw [z]; exact hp
  refine ⟨⟨I.len, fun i x e => ?_, I.apart, fun a ha => ?_, fun a ha => .inl (I.sub a ha), fun a ha => ?_, I.dom, I1.keep, I1.at_⟩, ⟨⟨p, xs, rfl, .inr rfl, h0, fun z => nA (I.sub p z), upd_same, t.len, fun i x d e1 e2 => lift (t.at_ i x d e1 e2)⟩, fun ds _ j es e z => ?_⟩⟩
  · obtain ⟨v, e1, q⟩ := I.sl i x e
    refine ⟨v, e1, ?_⟩
    cases x with
    | val d => exact lift q
    | own es =>
      obtain ⟨a, ys, rfl, h1, h2, h3, h4, h5⟩ := q
      exact ⟨a, ys, rfl, .inl h1, h2, h3, by rw [upd_ne (ne_of_none h4 hp)]; exact h4, h5.len, fun i x d e1 e2 => lift (h5.at_ i x d e1 e2)⟩
  · rcases ha with ha | rfl
    · exact I1.fresh a ha
    · rw [upd_same]; exact fun z => nomatch z
  · rcases ha with ha | rfl
    · exact I.lim a ha
    · exact .inr h0
  · obtain ⟨v, e1, a, ys, rfl, h1, h2, h3, h4, h5⟩ := I.sl j _ e
    rw [e1] at z
    cases z
    rw [hp] at h4; cases h4
theorem SAt.freezes (I : SAt C A0 H0 A H σ ρ st) (x : Sl) (sc : List Nat) {v : V} (hv : ∀ d, x = .val d → Dat C H (Amin A σ ρ sc) v d) : ∃ A', SAt C A0 H0 A' H σ (frzs x sc ρ) st ∧ (∀ a, A' a → A a) ∧ (scal x = false → A' = Amin A σ ρ sc) ∧ ∀ d, x = .val d → Dat C H A' v d := by
  unfold frzs
  by_cases hs : scal x = true
  · rw [if_pos hs]
    refine ⟨A, I, fun _ z => z, (by rw [hs]; exact fun z => nomatch z), fun d e => ?_⟩
    subst e
    have h := hv d rfl
    cases h <;> simp only [scal] at hs <;> first | cases hs | skip
    · exact .non
    · exact .bl _
    · exact .int _
    · exact .str (by assumption)
    · exact .deck
  · rw [if_neg hs]
    exact ⟨_, I.freeze sc, fun _ => Amin.sub, fun _ => rfl, fun d e => hv d e⟩
def dAsg (i : Nat) (sc : List Nat) (dv : E1 S Sl) : DS S := fun ρ s => (dv ρ s).out ρ fun x s1 => .nx ((frzs x sc ρ).set i (some x)) s1
/-- the slot is given what was reckoned -/
theorem ctv_give {i : Nat} {dv : E1 S Sl} {DD : Ends} (I : SAt C A0 H0 A H σ ρ st) (g : SG C mg W A0 H0 (dAsg i sc dv ρ st) DD) : ctv C mg W sc dv σ H fun v H' => DD.nx (σ.set i (some v)) H' :=
  ⟨A0, H0, A, ρ, st, I, (g.out I).imp fun x s1 H1 k1 t1 ⟨I1, g1⟩ => by
    cases x with
    | val d =>
      intro v dv
      obtain ⟨A', I2, _, _, h2⟩ := I1.freezes (.val d) sc (v := v) (fun d' e => by cases e; exact dv)
      exact g1 A' H1 _ (I2.give ⟨h2 d rfl, fun ds e => nomatch e⟩)
    | own ds =>
      intro p xs hp t hz
      obtain ⟨A', I2, _, e2, _⟩ := I1.freezes (.own ds) sc (v := .non) (fun d' e => nomatch e)
      have e2 := e2 rfl
      subst e2
      obtain ⟨I3, P3⟩ := I2.newOwn hp t
      exact g1 _ _ _ (I3.give P3)⟩
theorem psd_asg (i : Nat) {x : Str} {px : Pos} {dv : E1 S Sl} (nd : X.N.Nodup) (he : PV X C W e sc dv) (hi : X.N[i]? = some x := by rfl) (hx : Loc X.env.scope x := by first | exact Or.inl rfl | exact Or.inr rfl) (hf : X.fn x = true ∨ X.env.scope.names.lookup x = some .local := by first | exact .inl rfl | exact .inr rfl | assumption)
    (hs : swapsWithSole [.Name x px] e pos.line X.env = pure false := by rfl) (hw : swappedStores [.Name x px] e X.env = pure none := by rfl) (h1 : (assignEach [.Name x px] X.env).map (·.2) = [assign (.Name x px) X.env] := by rfl) : PSd X C W (.Assign [.Name x px] e pos) (dAsg i sc dv) :=
  psd_of (ps_asg he (pg_name nd hi hx hf) hs hw h1) fun A0 H0 A ρ st σ H DD I g => ctv_give I g
end
end Mir

set_option Elab.async false
set_option linter.all false
set_option maxRecDepth 100000
set_option maxHeartbeats 2000000
namespace Mir
open PySem PySem.Spec L2
open PyProof.Rows hiding St

section
variable {S : Type} {C : Deck S} {X : Cx} {W : WX} {A0 A A' : Addr → Prop} {H0 H H' B : Hp} {σ : St} {ρ : En} {st st' : S}
variable {e a b c tg iter : Expr} {es rest : List Expr} {pos p p2 : Pos} {sc sc' sa sb vs : List Nat} {de da db dc : DE S} {dt dt' du : DT S} {dl : DA S} {ds ds' : DS S} {mg : Str → Option Value} {DD : Ends} {xs ys : List Stmt}
/-! ### targets -/
abbrev DG := D → En → Option En
/-- d given to the target makes g of the slots; gs: the slots that it sets -/
def ctg (C : Deck S) (gs : List Nat) (g : DG) : TG := fun v σ H Q => ∃ A0 H0 A ρ st d ρ', SAt C A0 H0 A H σ ρ st ∧ Dat C H A v d ∧ g d ρ = some ρ' ∧
  ∀ σ', SAt C A0 H0 A H σ' ρ' st → (∀ vs : List Nat, (∀ i ∈ gs, i ∈ vs) → wipe σ' vs = wipe σ vs) → Q σ' H
/-- a target makes no list one's own -/
def NoOwn (g : DG) : Prop := ∀ d ρ ρ', g d ρ = some ρ' → ∀ (i : Nat) ds, ρ'[i]? = some (some (.own ds)) → ρ[i]? = some (some (.own ds))
structure PGd (X : Cx) (C : Deck S) (tg : Expr) (gs : List Nat) (g : DG) : Prop where
  pg : PG X tg (ctg C gs g)
  no : NoOwn g
theorem pg_imp {t t' : TG} (h : PG X tg t) (i : ∀ v σ H Q, t' v σ H Q → t v σ H Q) : PG X tg t' := ⟨fun pins s σ H v u Q I r q => h.run pins s σ H v u Q I r (i v σ H Q q)⟩
def gN (i : Nat) : DG := fun d ρ => some (ρ.set i (some (.val d)))
theorem wipe_set {σ : St} {i : Nat} {x : Option V} : ∀ {vs : List Nat}, i ∈ vs → wipe (σ.set i x) vs = wipe σ vs
  | v :: vs, h => by
    unfold wipe
    by_cases hv : v = i
    · subst hv
      by_cases h2 : v ∈ vs
      · rw [wipe_set h2]
      · have e : ∀ (σ : St) (x : Option V) (vs : List Nat), v ∉ vs → wipe (σ.set v x) vs = (wipe σ vs).set v x := by
          intro σ x vs
          induction vs with
          | nil => intro _; rfl
          | cons w ws ih =>
            intro hn
            simp only [List.mem_cons, not_or] at hn
            unfold wipe
            rw [ih hn.2, List.set_comm _ _ (Ne.symm hn.1).symm]
        rw [e _ _ _ h2, List.set_set]
    · have : i ∈ vs := (List.mem_cons.mp h).resolve_left fun z => hv z.symm
      rw [wipe_set this]
theorem pgd_name (i : Nat) {x : Str} (nd : X.N.Nodup) (hi : X.N[i]? = some x := by rfl) (hx : Loc X.env.scope x := by first | exact Or.inl rfl | exact Or.inr rfl) (hf : X.fn x = true ∨ X.env.scope.names.lookup x = some .local := by first | exact .inl rfl | exact .inr rfl | assumption) : PGd X C (.Name x pos) [i] (gN i) where
  no := fun d ρ ρ' e j ds h => by
    cases e
    by_cases hj : j = i
    · subst hj
      have hl : j < ρ.length := by have := (List.getElem?_eq_some_iff.mp h).1; rwa [List.length_set] at this
      rw [List.getElem?_set_self hl] at h; cases h
    · rwa [List.getElem?_set_ne (Ne.symm hj)] at h
  pg := pg_imp (pg_name nd hi hx hf) fun v σ H Q ⟨A0, H0, A, ρ, st, d, ρ', I, hd, e, k⟩ => by
    cases e
    exact k _ (I.set hd) fun vs hv => wipe_set (hv i (by simp))
/-- targets of a tuple, one after another -/
abbrev DGs := List D → En → Option En
def ctgs (C : Deck S) (gs : List Nat) (g : DGs) : TGs := fun vs σ H Q => ∃ A0 H0 A ρ st ds ρ', SAt C A0 H0 A H σ ρ st ∧ Dats C H A vs ds ∧ g ds ρ = some ρ' ∧
  ∀ σ', SAt C A0 H0 A H σ' ρ' st → (∀ vs : List Nat, (∀ i ∈ gs, i ∈ vs) → wipe σ' vs = wipe σ vs) → Q σ' H
structure PGsd (X : Cx) (C : Deck S) (ts : List Expr) (gs : List Nat) (g : DGs) : Prop where
  pg : PGs X ts (ctgs C gs g)
  no : ∀ ds ρ ρ', g ds ρ = some ρ' → ∀ (i : Nat) es, ρ'[i]? = some (some (.own es)) → ρ[i]? = some (some (.own es))
theorem pgs_imp {ts : List Expr} {t t' : TGs} (h : PGs X ts t) (i : ∀ v σ H Q, t' v σ H Q → t v σ H Q) : PGs X ts t' := ⟨fun pins s σ H v u Q I r q => h.run pins s σ H v u Q I r (i v σ H Q q)⟩
def gsNil : DGs := fun ds ρ => match ds with
  | [] => some ρ
  | _ => none
def gsCons (g : DG) (gs : DGs) : DGs := fun ds ρ => match ds with
  | d :: r => (g d ρ).bind fun ρ1 => gs r ρ1
  | [] => none
theorem pgsd_nil : PGsd X C [] [] gsNil := .mk (no := fun ds ρ ρ' e i es h => by cases ds <;> simp only [gsNil] at e <;> cases e; exact h) (pg := pgs_imp pgs_nil fun vs σ H Q ⟨A0, H0, A, ρ, st, ds, ρ', I, hd, e, k⟩ => by
  cases ds with
  | nil => cases e; exact ⟨hd.unnil, k σ I fun _ _ => rfl⟩
  | cons d r => cases e)
theorem pgsd_cons {t : Expr} {ts : List Expr} {g : DG} {gs : DGs} {l l' : List Nat} (h : PGd X C t l g) (h' : PGsd X C ts l' gs) (hs : (assignEach (t :: ts) X.env).map (·.2) = assign t X.env :: (assignEach ts X.env).map (·.2) := by rfl) : PGsd X C (t :: ts) (l ++ l') (gsCons g gs) where
  no := fun ds ρ ρ' e i es q => by
    cases ds with
    | nil => cases e
    | cons d r =>
      obtain ⟨ρ1, e1, e2⟩ := Option.bind_eq_some_iff.mp e
      exact h.no d ρ ρ1 e1 i es (h'.no r ρ1 ρ' e2 i es q)
  pg := pgs_imp (pgs_cons h.pg h'.pg hs) fun vs σ H Q ⟨A0, H0, A, ρ, st, ds, ρ', I, hd, e, k⟩ => by
    cases ds with
    | nil => cases e
    | cons d r =>
      obtain ⟨ρ1, e1, e2⟩ := Option.bind_eq_some_iff.mp e
      obtain ⟨x, vr, rfl, h1, h2⟩ := hd.uncons
      exact ⟨x, vr, rfl, A0, H0, A, ρ, st, d, ρ1, I, h1, e1, fun σ1 I1 w1 => ⟨A0, H0, A, ρ1, st, r, ρ', I1, h2, e2, fun σ2 I2 w2 => k σ2 I2 fun vs hv =>
        (w2 vs fun i hi => hv i (List.mem_append_right _ hi)).trans (w1 vs fun i hi => hv i (List.mem_append_left _ hi))⟩⟩
def gT (n : Nat) (gs : DGs) : DG := fun d ρ => match d with
  | .tup ds => if ds.length = n then gs ds ρ else none
  | _ => none
theorem pgd_tup {ts : List Expr} {k : Nat} {l : List Nat} {gs : DGs} (n : Nat) (hc : X.calm = true) (h : PGsd X C ts l gs) (hn : (assignEach ts X.env).length = n := by rfl) (hst : (assignEach ts X.env).findIdx? (·.1) = none := by rfl) : PGd X C (.Tuple ts k pos) l (gT n gs) where
  no := fun d ρ ρ' e i es q => by
    cases d <;> simp only [gT] at e <;> try cases e
    split at e
    · exact h.no _ _ _ e i es q
    · cases e
  pg := pg_imp (pg_tup hc h.pg hn hst) fun v σ H Q ⟨A0, H0, A, ρ, st, d, ρ', I, hd, e, k⟩ => by
    cases d <;> simp only [gT] at e <;> try cases e
    rename_i ds
    by_cases hl : ds.length = n
    · rw [if_pos hl] at e
      obtain ⟨p, ys, rfl, na, r, t⟩ := hd.of_tup
      exact ⟨p, ys, rfl, .of r, by rw [t.len, hl], A0, H0, A, ρ, st, ds, ρ', I, t, e, k⟩
    · rw [if_neg hl] at e; cases e
/-- t1, t2 = e -/
def dAsgT (g : DG) (sc : List Nat) (de : DE S) : DS S := fun ρ s => (de ρ s).out ρ fun d s1 => match g d (frz sc ρ) with
  | some ρ' => .nx ρ' s1
  | none => .bad
theorem psd_asgT {g : DG} {l : List Nat} (he : PD X C W e sc de) (hg : PGd X C tg l g) (hs : swapsWithSole [tg] e pos.line X.env = pure false := by rfl) (hw : swappedStores [tg] e X.env = pure none := by rfl) (h1 : (assignEach [tg] X.env).map (·.2) = [assign tg X.env] := by rfl) : PSd X C W (.Assign [tg] e pos) (dAsgT g sc de) :=
  psd_of (ps_asg he hg.pg hs hw h1) fun A0 H0 A ρ st σ H DD I g' => ⟨A0, H0, A, ρ, st, I, (g'.out I).imp fun d s1 H1 k1 t1 ⟨I1, g1⟩ v dv => by
    cases e1 : g d (frz sc ρ) with
    | none => rw [e1] at g1; exact g1.elim
    | some ρ' =>
      rw [e1] at g1
      exact ⟨A0, H0, _, _, s1, d, ρ', I1.freeze sc, dv, e1, fun σ' I' _ => g1 _ _ _ I'⟩⟩
/-- a, b = e1, e2: two names -/
def dPar (i j : Nat) (sa sb : List Nat) (dv dw : E1 S Sl) : DS S := fun ρ s => (dv ρ s).out ρ fun x s1 => (dw (frzs x sa ρ) s1).out (frzs x sa ρ) fun y s2 => .nx (((frzs y sb (frzs x sa ρ)).set i (some x)).set j (some y)) s2
theorem Pend.keep {v : V} {x : Sl} (P : Pend C A0 H0 A H σ ρ v x) (I : SAt C A0 H0 A H σ ρ st) (k : Keep C.dom H H') : Pend C A0 H0 A H' σ ρ v x := by
  refine ⟨?_, P.apart⟩
  have s := P.sl
  cases x with
  | val d => exact Dat.keep s k I.domA
  | own ds =>
    obtain ⟨a, ys, rfl, h1, h2, h3, h4, h5⟩ := s
    exact ⟨a, ys, rfl, h1, h2, h3, k a _ (fun z => h3 (I.dom a z)) h4, h5.keep k I.domA⟩

/-! ### what is walked -/
/-- the iterator J hands out ds, from any heap that has what stood at B outside A -/
structure Yields (C : Deck S) (A : Addr → Prop) (B : Hp) (J : It) (ds : List D) : Prop where
  stop : ∀ H, Keep A B H → J.stop ds.length H
  go : ∀ i H, i < ds.length → Keep A B H → J.go i H
  yld : ∀ i H x H', i < ds.length → Keep A B H → J.yld i H x H' → ∃ d, ds[i]? = some d ∧ Keep C.dom H H' ∧ (∀ s, C.At s H → C.At s H') ∧ ∀ A', (∀ a, A' a → H a ≠ none) → (∀ a, A' a → A a ∨ B a = none) → Dat C H' A' x d
def cti (C : Deck S) (mg : Str → Option Value) (W : WX) (sc : List Nat) (di : DA S) : TI := fun σ H R => ∃ A0 H0 A ρ st, SAt C A0 H0 A H σ ρ st ∧ RG C mg W σ H (di ρ st) fun ds _ H1 => ∀ J, Yields C (Amin A σ ρ sc) H1 J ds → R J H1
def PId (X : Cx) (C : Deck S) (W : WX) (tg iter : Expr) (sc : List Nat) (di : DA S) : Prop := PI X tg iter (cti C X.mg W sc di)
theorem pi_imp {w w' : TI} (h : PI X tg iter w) (i : ∀ σ H R, w' σ H R → w σ H R) : PI X tg iter w' := ⟨fun pins s σ H R I q => h.run pins s σ H R I (i σ H R q)⟩
theorem pid_of {w : TI} {di : DA S} (h : PI X tg iter w) (i : ∀ (A0 : Addr → Prop) (H0 : Hp) (A : Addr → Prop) (ρ : En) (st : S) (σ : St) (H : Hp) (R : It → Hp → Prop), SAt C A0 H0 A H σ ρ st →
    RG C X.mg W σ H (di ρ st) (fun ds _ H1 => ∀ J, Yields C (Amin A σ ρ sc) H1 J ds → R J H1) → w σ H R) : PId X C W tg iter sc di := pi_imp h fun σ H R ⟨A0, H0, A, ρ, st, I, g⟩ => i A0 H0 A ρ st σ H R I g
/-- data of the base, at a later heap -/
theorem Dat.later {v : V} {d : D} (h : Dat C B A v d) (k : Keep A B H) (hA : ∀ a, A' a → A a ∨ B a = none) : Dat C H A' v d := h.lift k (fun _ z => z) hA
theorem y_list {K : PySem.W.Frag} {p : Addr} {vs : List V} {ds : List D} (n : ¬ A p) (r : B p = some (.lst vs)) (t : Dats C B A vs ds) : Yields C A B (Itl K p) ds where
  stop := fun H k => ⟨vs, .of (k p _ n r), by rw [t.len]; exact Nat.le_refl _⟩
  go := fun i H hi k => ⟨vs, vs[i]'(by rw [t.len]; exact hi), .of (k p _ n r), List.getElem?_eq_getElem _⟩
  yld := fun i H x H' hi k y => by
    obtain ⟨rfl, y⟩ := y
    have e := y vs (.of (k p _ n r))
    exact ⟨ds[i], List.getElem?_eq_getElem hi, Keep.refl, fun _ z => z, fun A' _ hA => (t.at_ i x _ e (List.getElem?_eq_getElem hi)).later k hA⟩
theorem y_tup {K : PySem.W.Frag} {p : Addr} {vs : List V} {ds : List D} (n : ¬ A p) (r : B p = some (.tup vs)) (t : Dats C B A vs ds) : Yields C A B (Itt K p) ds where
  stop := fun H k => ⟨vs, .of (k p _ n r), by rw [t.len]; exact Nat.le_refl _⟩
  go := fun i H hi k => ⟨vs, vs[i]'(by rw [t.len]; exact hi), .of (k p _ n r), List.getElem?_eq_getElem _⟩
  yld := fun i H x H' hi k y => by
    obtain ⟨rfl, y⟩ := y
    have e := y vs (.of (k p _ n r))
    exact ⟨ds[i], List.getElem?_eq_getElem hi, Keep.refl, fun _ z => z, fun A' _ hA => (t.at_ i x _ e (List.getElem?_eq_getElem hi)).later k hA⟩
theorem y_str {l : List Nat} (o : SOk l) : Yields C A B (Its (mkS l)) (l.map fun c => .str [c]) where
  stop := fun H k => by show (mkS l).cps.size ≤ _; simp
  go := fun i H hi k => by show _ < (mkS l).cps.size; simpa using hi
  yld := fun i H x H' hi k y => by
    obtain ⟨rfl, c, e, rfl⟩ := y
    have e' : l[i]? = some c := by simpa using e
    exact ⟨.str [c], by rw [List.getElem?_map, e']; rfl, Keep.refl, fun _ z => z, fun A' _ hA => .str ⟨by simp, fun z hz => by simp at hz; subst hz; exact o.2 _ (List.mem_of_getElem? e')⟩⟩
/-- lo, lo + 1, .. -/
def rngD (lo : Int) (n : Nat) : List D := (List.range n).map fun (k : Nat) => .int (lo + (k : Int))
theorem rngD_len (lo : Int) (n : Nat) : (rngD lo n).length = n := by simp [rngD]
theorem y_rng {lo : Int} {n : Nat} : Yields C A B (Itr lo n) (rngD lo n) where
  stop := fun H k => by show n ≤ _; rw [rngD_len]; exact Nat.le_refl _
  go := fun i H hi k => by show _ < n; rwa [rngD_len] at hi
  yld := fun i H x H' hi k y => by
    obtain ⟨rfl, rfl⟩ := y
    rw [rngD_len] at hi
    exact ⟨.int (lo + i), by simp [rngD, List.getElem?_range hi], Keep.refl, fun _ z => z, fun A' _ hA => .int _⟩
/-- a list, a tuple, a text by what it is -/
def walkD : D → Option (List D)
  | .lst ds => some ds
  | .tup ds => some ds
  | .str l => some (l.map fun c => .str [c])
  | _ => none
def dWalk (de : DE S) (f : D → Option (List D)) : DA S := fun ρ s => (de ρ s).bind fun d s1 => ofO s1 (f d)
def wL : D → Option (List D)
  | .lst ds => some ds
  | _ => none
def wT : D → Option (List D)
  | .tup ds => some ds
  | _ => none
def wS : D → Option (List D)
  | .str l => some (l.map fun c => .str [c])
  | _ => none
theorem pid_list (h : PD X C W iter sc de) : PId X C W tg iter sc (dWalk de wL) :=
  pid_of (pi_list h) fun A0 H0 A ρ st σ H R I g => ⟨A0, H0, A, ρ, st, I, g.bind.imp fun d s1 H1 k1 t1 g1 v dv => by
    obtain ⟨ds, e, q⟩ := g1.ofO
    cases d <;> simp only [wL] at e <;> cases e
    obtain ⟨p, xs, rfl, n, r, t⟩ := dv.of_lst
    exact ⟨p, rfl, ⟨xs, .of r⟩, q H1 Keep.refl t1 _ (y_list n r t)⟩⟩
theorem pid_tup (h : PD X C W iter sc de) : PId X C W tg iter sc (dWalk de wT) :=
  pid_of (pi_tup h) fun A0 H0 A ρ st σ H R I g => ⟨A0, H0, A, ρ, st, I, g.bind.imp fun d s1 H1 k1 t1 g1 v dv => by
    obtain ⟨ds, e, q⟩ := g1.ofO
    cases d <;> simp only [wT] at e <;> cases e
    obtain ⟨p, xs, rfl, n, r, t⟩ := dv.of_tup
    exact ⟨p, rfl, ⟨xs, .of r⟩, q H1 Keep.refl t1 _ (y_tup n r t)⟩⟩
theorem pid_str (h : PD X C W iter sc de) : PId X C W tg iter sc (dWalk de wS) :=
  pid_of (pi_str h) fun A0 H0 A ρ st σ H R I g => ⟨A0, H0, A, ρ, st, I, g.bind.imp fun d s1 H1 k1 t1 g1 v dv => by
    obtain ⟨ds, e, q⟩ := g1.ofO
    cases d <;> simp only [wS] at e <;> cases e
    cases dv with
    | str o => exact ⟨_, rfl, q H1 Keep.refl t1 _ (y_str o)⟩⟩
/-- whichever it is -/
theorem PId.or {di di' : DA S} (h : PId X C W tg iter sc di) (h' : PId X C W tg iter sc di') {dj : DA S} (k : ∀ ρ s, dj ρ s = di ρ s ∨ dj ρ s = di' ρ s) : PId X C W tg iter sc dj :=
  ⟨fun pins s σ H R I ⟨A0, H0, A, ρ, st, J, g⟩ => by
    rcases k ρ st with e | e
    · rw [e] at g; exact h.run pins s σ H R I ⟨A0, H0, A, ρ, st, J, g⟩
    · rw [e] at g; exact h'.run pins s σ H R I ⟨A0, H0, A, ρ, st, J, g⟩⟩
theorem pid_any (h : PD X C W iter sc de) : PId X C W tg iter sc (dWalk de walkD) := by
  have key : ∀ ρ s, dWalk de walkD ρ s = dWalk de wL ρ s ∨ dWalk de walkD ρ s = dWalk de wT ρ s ∨ dWalk de walkD ρ s = dWalk de wS ρ s := fun ρ s => by
    unfold dWalk
    cases e : de ρ s with
    | bad => exact .inl rfl
    | ex c s1 => exact .inl rfl
    | ok d s1 => cases d <;> first | exact .inl rfl | exact .inr (.inl rfl) | exact .inr (.inr rfl)
  exact ⟨fun pins s σ H R I ⟨A0, H0, A, ρ, st, J, g⟩ => by
    rcases key ρ st with e | e | e <;> rw [e] at g
    · exact (pid_list h).run pins s σ H R I ⟨A0, H0, A, ρ, st, J, g⟩
    · exact (pid_tup h).run pins s σ H R I ⟨A0, H0, A, ρ, st, J, g⟩
    · exact (pid_str h).run pins s σ H R I ⟨A0, H0, A, ρ, st, J, g⟩⟩
def big : Int := 1048576
def rng1 : List D → Option (List D)
  | [.int j] => if j ≤ 65536 ∧ -65536 ≤ j then some (rngD 0 j.toNat) else none
  | _ => none
def rng2 : List D → Option (List D)
  | [.int i, .int j] => if j ≤ 65536 ∧ -65536 ≤ j ∧ i ≤ 65536 ∧ -65536 ≤ i then some (rngD i (j - i).toNat) else none
  | _ => none
def dRng (f : List D → Option (List D)) (dl : DA S) : DA S := fun ρ s => (dl ρ s).bind fun ds s1 => ofO s1 (f ds)
theorem pid_rng1 (hm : X.mg "range" = none) (ha : PAd X C W [a] sc dl) (hg : Gl X "range" := by rfl) (hs : starEach [a] X.env = [(false, eval a X.env)] := by rfl) : PId X C W tg (.Call (.Name "range" p) [a] [] pos) [] (dRng rng1 dl) :=
  pid_of (pi_range1 hg hm ha hs) fun A0 H0 A ρ st σ H R I g => ⟨A0, H0, A, ρ, st, I, g.bind.imp fun ds s1 H1 k1 t1 g1 vs dvs => by
    obtain ⟨l, e, q⟩ := g1.ofO
    match ds, e with
    | [.int j], e =>
      simp only [rng1] at e
      by_cases z : j ≤ 65536 ∧ -65536 ≤ j
      · rw [if_pos z] at e
        cases e
        obtain ⟨x, rfl, hx⟩ := dvs.one
        cases hx
        exact ⟨j, rfl, by omega, by omega, q H1 Keep.refl t1 _ y_rng⟩
      · rw [if_neg z] at e; cases e⟩
theorem pid_rng2 (hm : X.mg "range" = none) (ha : PAd X C W [a, b] sc dl) (hg : Gl X "range" := by rfl) (hs : starEach [a, b] X.env = [(false, eval a X.env), (false, eval b X.env)] := by rfl) (hs2 : starEach [b] X.env = [(false, eval b X.env)] := by rfl) : PId X C W tg (.Call (.Name "range" p) [a, b] [] pos) [] (dRng rng2 dl) :=
  pid_of (pi_range2 hg hm ha hs hs2) fun A0 H0 A ρ st σ H R I g => ⟨A0, H0, A, ρ, st, I, g.bind.imp fun ds s1 H1 k1 t1 g1 vs dvs => by
    obtain ⟨l, e, q⟩ := g1.ofO
    match ds, e with
    | [.int i, .int j], e =>
      simp only [rng2] at e
      by_cases z : j ≤ 65536 ∧ -65536 ≤ j ∧ i ≤ 65536 ∧ -65536 ≤ i
      · rw [if_pos z] at e
        cases e
        obtain ⟨x, y, rfl, hx, hy⟩ := dvs.two
        cases hx
        cases hy
        exact ⟨i, j, rfl, ⟨by omega, by omega, by omega, by omega⟩, q H1 Keep.refl t1 _ y_rng⟩
      · rw [if_neg z] at e; cases e⟩

/-! ### for -/
/-- the base of a loop: what stood ahead of it, without what this frame alone knows -/
noncomputable def reb (A0 A : Addr → Prop) (H : Hp) : Hp := open Classical in fun a => if A a ∧ ¬ A0 a then none else H a
theorem reb_some {a : Addr} {o : HO} (h : reb A0 A H a = some o) : H a = some o ∧ (A a → A0 a) := by
  unfold reb at h
  split at h
  · cases h
  · rename_i n
    exact ⟨h, fun z => Classical.byContradiction fun w => n ⟨z, w⟩⟩
theorem reb_none {a : Addr} (h : reb A0 A H a = none) : (A a ∧ ¬ A0 a) ∨ H a = none := by
  unfold reb at h
  split at h
  · rename_i n; exact .inl n
  · exact .inr h
theorem SAt.rebase (I : SAt C A0 H0 A H σ ρ st) : SAt C A0 (reb A0 A H) A H σ ρ st where
  len := I.len
  sl := fun i x e => by
    obtain ⟨v, e1, q⟩ := I.sl i x e
    refine ⟨v, e1, ?_⟩
    cases x with
    | val d => exact q
    | own ds =>
      obtain ⟨a, ys, rfl, h1, h2, h3, h4, h5⟩ := q
      exact ⟨a, ys, rfl, h1, by unfold reb; rw [if_pos ⟨h1, h3⟩], h3, h4, h5⟩
  apart := I.apart
  fresh := I.fresh
  sub := I.sub
  lim := fun a ha => by
    by_cases z : A0 a
    · exact .inl z
    · exact .inr (by unfold reb; rw [if_pos ⟨ha, z⟩])
  dom := I.dom
  keep := fun a o _ h => (reb_some h).1
  at_ := I.at_
theorem reb_base (I : SAt C A0 H0 A B σ ρ st) {a : Addr} (h : reb A0 A B a = none) (n : ¬ C.dom a) : H0 a = none := by
  cases e : H0 a with
  | none => rfl
  | some o =>
    have q := I.keep a o n e
    rcases reb_none h with ⟨h1, h2⟩ | h1
    · rcases I.lim a h1 with z | z
      · exact absurd z h2
      · rw [z] at e; cases e
    · rw [h1] at q; cases q
theorem SAt.unbase {σ' : St} {ρ' : En} (I : SAt C A0 H0 A B σ ρ st) (J : SAt C A0 (reb A0 A B) A' H σ' ρ' st') : SAt C A0 H0 A' H σ' ρ' st' where
  len := J.len
  sl := fun i x e => by
    obtain ⟨v, e1, q⟩ := J.sl i x e
    refine ⟨v, e1, ?_⟩
    cases x with
    | val d => exact q
    | own ds =>
      obtain ⟨a, ys, rfl, h1, h2, h3, h4, h5⟩ := q
      exact ⟨a, ys, rfl, h1, reb_base I h2 fun z => h3 (I.dom a z), h3, h4, h5⟩
  apart := J.apart
  fresh := J.fresh
  sub := J.sub
  lim := fun a ha => by
    by_cases z : A0 a
    · exact .inl z
    · rcases J.lim a ha with h | h
      · exact .inl h
      · exact .inr (reb_base I h fun w => z (I.dom a w))
  dom := J.dom
  keep := fun a o n h => by
    have q := I.keep a o n h
    refine J.keep a o n ?_
    cases e : reb A0 A B a with
    | some u => have := (reb_some e).1; rw [q] at this; rw [this]
    | none => rw [reb_base I e n] at h; cases h
  at_ := J.at_
theorem SG.rebase {o : Out S} (I : SAt C A0 H0 A B σ ρ st) (g : SG C mg W A0 H0 o DD) : SG C mg W A0 (reb A0 A B) o DD := by
  have kk : ∀ {H : Hp}, Keep C.dom (reb A0 A B) H → Keep C.dom H0 H := fun {H} k a o n h => by
    have q := I.keep a o n h
    refine k a o n ?_
    cases e : reb A0 A B a with
    | some u => have := (reb_some e).1; rw [q] at this; rw [this]
    | none => rw [reb_base I e n] at h; cases h
  cases o with
  | nx ρ s => exact fun A' H σ J => g A' H σ (I.unbase J)
  | rt d s => exact fun H v k t h => g H v (kk k) t h
  | bk ρ s => exact fun A' H σ J => g A' H σ (I.unbase J)
  | ct ρ s => exact fun A' H σ J => g A' H σ (I.unbase J)
  | ex c ρ s => exact fun a A' H σ m J => g a A' H σ m (I.unbase J)
  | bad => exact g
def forL (g : DG) (ds : DS S) : List D → En → S → Out S
  | [], ρ, s => .nx ρ s
  | d :: r, ρ, s => match g d ρ with
    | none => .bad
    | some ρ1 => match ds ρ1 s with
      | .nx ρ' s' => forL g ds r ρ' s'
      | .ct ρ' s' => forL g ds r ρ' s'
      | .bk ρ' s' => .nx ρ' s'
      | o => o
def dFor (g : DG) (sc : List Nat) (di : DA S) (ds : DS S) : DS S := fun ρ s => (di ρ s).out ρ fun l s1 => forL g ds l (frz sc ρ) s1
/-- what the base keeps -/
theorem SAt.kept (J : SAt C A0 (reb A0 A B) A' H σ ρ st) (hd : ∀ a, C.dom a → A a) : Keep A B H := fun a o n h => by
  refine J.keep a o (fun z => n (hd a z)) ?_
  unfold reb
  rw [if_neg fun z => n z.1]; exact h
theorem SAt.lims (J : SAt C A0 (reb A0 A B) A' H σ ρ st) (hs : ∀ a, A0 a → A a) : ∀ a, A' a → A a ∨ B a = none := fun a ha => by
  rcases J.lim a ha with z | z
  · exact .inl (hs a z)
  · exact (reb_none z).imp (·.1) id
theorem psd_for {g : DG} {l : List Nat} {di : DA S} (hp : PassesOwn (model X.prog X.w) X.A X.env X.xe) (hc : X.calm = true) (hi : PId X C W tg iter sc di) (hg : PGd X C tg l g) (hb : PBd X C W xs ds) (hs : ∀ x, foldedSetIterable iter X.env x = pure x := by intro _; rfl) : PSd X C W (.For tg iter xs [] pos) (dFor g sc di ds) :=
  psd_of (ps_for hp hc hi hg.pg hb hs) fun A0 H0 A ρ st σ H DD I gg => ⟨A0, H0, A, ρ, st, I, (gg.out I).imp fun ds' s1 H1 k1 t1 ⟨I1, g1⟩ J Y => by
    have I2 := I1.freeze sc
    have I3 := I2.rebase
    have g3 := SG.rebase I2 g1
    refine ⟨fun i m σ' H' => m = ds'.length - i ∧ i ≤ ds'.length ∧ ∃ A' ρ' s', SAt C A0 (reb A0 (Amin A σ ρ sc) H1) A' H' σ' ρ' s' ∧ SG C X.mg W A0 (reb A0 (Amin A σ ρ sc) H1) (forL g ds (ds'.drop i) ρ' s') DD, ⟨ds'.length, by simp, Nat.zero_le _, _, _, _, I3, by simpa using g3⟩, ?_⟩
    rintro i m σ' H' ⟨rfl, hi, A', ρ', s', I', g'⟩
    have kB : Keep (Amin A σ ρ sc) H1 H' := I'.kept I2.domA
    by_cases hlt : i < ds'.length
    · refine .inr ⟨Y.go i H' hlt kB, fun σ'' H'' => ∃ A'' ρ'' s'', SAt C A0 (reb A0 (Amin A σ ρ sc) H1) A'' H'' σ'' ρ'' s'' ∧ SG C X.mg W A0 (reb A0 (Amin A σ ρ sc) H1) (forL g ds (ds'.drop (i + 1)) ρ'' s'') DD,
        fun σ'' H'' z => ⟨ds'.length - (i + 1), by omega, rfl, hlt, z⟩, fun x H'' y => ?_⟩
      obtain ⟨d, ed, k'', a'', hD⟩ := Y.yld i H' x H'' hlt kB y
      have I'' := I'.next k'' (a'' _ I'.at_)
      have dx := hD A' I'.fresh (I'.lims I2.sub)
      have ed' : ds'.drop i = d :: ds'.drop (i + 1) := by
        rw [List.drop_eq_getElem_cons hlt]
        congr 1
        rw [List.getElem?_eq_getElem hlt] at ed
        exact Option.some.inj ed
      rw [ed'] at g'
      unfold forL at g'
      cases eg : g d ρ' with
      | none => rw [eg] at g'; exact g'.elim
      | some ρ1 =>
        rw [eg] at g'
        dsimp only at g'
        refine ⟨A0, _, A', ρ', s', d, ρ1, I'', dx, eg, fun σ1 I1' _ => ⟨A0, _, A', ρ1, s', I1', ?_⟩⟩
        cases eo : ds ρ1 s' with
        | nx ρ2 s2 => rw [eo] at g'; exact fun A2 H2 σ2 J2 => ⟨A2, ρ2, s2, J2, g'⟩
        | ct ρ2 s2 => rw [eo] at g'; exact fun A2 H2 σ2 J2 => ⟨A2, ρ2, s2, J2, g'⟩
        | bk ρ2 s2 => rw [eo] at g'; exact g'
        | rt d2 s2 => rw [eo] at g'; exact g'
        | ex c2 ρ2 s2 => rw [eo] at g'; exact g'
        | bad => rw [eo] at g'; exact g'
    · have e : i = ds'.length := by omega
      subst e
      rw [List.drop_length] at g'
      exact .inl ⟨Y.stop H' kB, g' A' H' σ' I'⟩⟩
/-! ### while -/
def whileN (dt : DT S) (ds : DS S) : Nat → En → S → Out S
  | 0, _, _ => .bad
  | n + 1, ρ, s => (dt ρ s).out ρ fun k s1 => if k = true then match ds ρ s1 with
      | .nx ρ' s' => whileN dt ds n ρ' s'
      | .ct ρ' s' => whileN dt ds n ρ' s'
      | .bk ρ' s' => .nx ρ' s'
      | o => o
    else .nx ρ s1
def dWhile (n : Nat) (dt : DT S) (ds : DS S) : DS S := whileN dt ds n
theorem psd_while (n : Nat) (hp : PassesOwn (model X.prog X.w) X.A X.env X.xe) (hc : PTd X C W c dt) (hb : PBd X C W xs ds) : PSd X C W (.While c xs [] pos) (dWhile n dt ds) :=
  psd_of (ps_while hp hc hb) fun A0 H0 A ρ st σ H DD I gg => by
    refine ⟨fun m σ' H' => ∃ A' ρ' s', SAt C A0 H0 A' H' σ' ρ' s' ∧ SG C X.mg W A0 H0 (whileN dt ds m ρ' s') DD, ⟨n, A, ρ, st, I, gg⟩, ?_⟩
    rintro m σ' H' ⟨A', ρ', s', I', g'⟩
    cases m with
    | zero => exact g'.elim
    | succ m =>
      unfold whileN at g'
      refine ⟨A0, H0, A', ρ', s', I', (g'.out I').imp fun k s1 H1 k1 t1 ⟨I1, g1⟩ => ?_⟩
      cases k with
      | false => exact g1 A' H1 σ' I1
      | true =>
        simp only [if_true] at g1 ⊢
        refine ⟨fun σ2 H2 => ∃ A2 ρ2 s2, SAt C A0 H0 A2 H2 σ2 ρ2 s2 ∧ SG C X.mg W A0 H0 (whileN dt ds m ρ2 s2) DD, fun σ2 H2 z => ⟨m, Nat.lt_succ_self _, z⟩, A0, H0, A', ρ', s1, I1, ?_⟩
        cases eo : ds ρ' s1 with
        | nx ρ2 s2 => rw [eo] at g1; exact fun A2 H2 σ2 J2 => ⟨A2, ρ2, s2, J2, g1⟩
        | ct ρ2 s2 => rw [eo] at g1; exact fun A2 H2 σ2 J2 => ⟨A2, ρ2, s2, J2, g1⟩
        | bk ρ2 s2 => rw [eo] at g1; exact g1
        | rt d2 s2 => rw [eo] at g1; exact g1
        | ex c2 ρ2 s2 => rw [eo] at g1; exact g1
        | bad => rw [eo] at g1; exact g1
end
end Mir

set_option Elab.async false
set_option linter.all false
set_option maxRecDepth 100000
set_option maxHeartbeats 2000000
namespace Mir
open PySem PySem.Spec L2
open PyProof.Rows hiding St

section
variable {S : Type} {C : Deck S} {X : Cx} {W : WX} {A0 A A' : Addr → Prop} {H0 H H' B : Hp} {σ : St} {ρ : En} {st st' : S}
variable {e a b c tg iter elt tg1 iter1 : Expr} {es rest ifs ifs1 : List Expr} {pos p p2 : Pos} {sc sc' sa sb vs : List Nat} {de da db dc : DE S} {dt dt' du : DT S} {dl di dj : DA S} {ds ds' : DS S} {mg : Str → Option Value} {DD : Ends} {xs ys : List Stmt}
/-! ### comprehensions -/
def wipeE (ρ : En) : List Nat → En
  | [] => ρ
  | v :: vs => (wipeE ρ vs).set v none
theorem SAt.wipe1 {i : Nat} (I : SAt C A0 H0 A H σ ρ st) : SAt C A0 H0 A H (σ.set i none) (ρ.set i none) st where
  len := by rw [List.length_set, List.length_set]; exact I.len
  sl := fun j x e => by
    by_cases hj : j = i
    · subst hj
      have hl : j < ρ.length := by have := (List.getElem?_eq_some_iff.mp e).1; rwa [List.length_set] at this
      rw [List.getElem?_set_self hl] at e; cases e
    · rw [List.getElem?_set_ne (Ne.symm hj)] at e ⊢
      exact I.sl j x e
  apart := fun j k ds es n e1 e2 => by
    have ne : ∀ {j : Nat} {ds : List D}, (ρ.set i none)[j]? = some (some (Sl.own ds)) → j ≠ i ∧ ρ[j]? = some (some (Sl.own ds)) := fun {j ds} e => by
      by_cases hj : j = i
      · subst hj
        have hl : j < ρ.length := by have := (List.getElem?_eq_some_iff.mp e).1; rwa [List.length_set] at this
        rw [List.getElem?_set_self hl] at e; cases e
      · exact ⟨hj, by rwa [List.getElem?_set_ne (Ne.symm hj)] at e⟩
    obtain ⟨n1, q1⟩ := ne e1
    obtain ⟨n2, q2⟩ := ne e2
    rw [List.getElem?_set_ne (Ne.symm n1), List.getElem?_set_ne (Ne.symm n2)]
    exact I.apart j k ds es n q1 q2
  fresh := I.fresh
  sub := I.sub
  lim := I.lim
  dom := I.dom
  keep := I.keep
  at_ := I.at_
theorem SAt.wipe (I : SAt C A0 H0 A H σ ρ st) : ∀ vs : List Nat, SAt C A0 H0 A H (L2.wipe σ vs) (wipeE ρ vs) st
  | [] => I
  | v :: vs => (I.wipe vs).wipe1
/-- a new list that grows beside the slots -/
theorem SAt.beside {p : Addr} {vs : List V} (I : SAt C A0 H0 A H σ ρ st) (hp : H p = none) : SAt C A0 H0 (fun a => A a ∨ a = p) (upd H p (.lst vs)) σ ρ st :=
  (I.newOwn (p := p) (xs := []) (ds := []) hp Dats.nil).1 |> fun J => ⟨J.len, fun i x e => by
    obtain ⟨v, e1, q⟩ := J.sl i x e
    refine ⟨v, e1, ?_⟩
    have w : ∀ a, ¬ (A a ∨ a = p) → upd H p (.lst vs) a = upd H p (.lst []) a := fun a n => by rw [upd_ne fun z => n (.inr z), upd_ne fun z => n (.inr z)]
    cases x with
    | val d => exact Dat.write q w
    | own es =>
      obtain ⟨a, ys, rfl, h1, h2, h3, h4, h5⟩ := q
      have ne : a ≠ p := fun z => by
        obtain ⟨v0, e0, a0, ys0, e3, g1, g2, g3, g4, g5⟩ := I.sl i _ e
        rw [e1] at e0
        cases e0
        cases e3
        rw [z, hp] at g4; cases g4
      exact ⟨a, ys, rfl, h1, h2, h3, by rw [upd_ne ne] at h4 ⊢; exact h4, h5.write w⟩, J.apart, fun a ha => by
        by_cases z : a = p
        · subst z; rw [upd_same]; exact fun z => nomatch z
        · have := J.fresh a ha; rw [upd_ne z] at this ⊢; exact this, J.sub, J.lim, J.dom, fun a o n h => by
        have q := I.keep a o n h
        rw [upd_ne (ne_of_none q hp)]; exact q, at_upd I.at_ hp⟩
theorem SAt.grow {p : Addr} {vs ws : List V} (J : SAt C A0 H0 A H σ ρ st) (hp : H p = some (.lst vs)) (pA : A p) (n0 : ¬ A0 p) (h0 : H0 p = none) (ap : ∀ (i : Nat) ds, ρ[i]? = some (some (.own ds)) → σ[i]? ≠ some (some (.ref p))) : SAt C A0 H0 A (upd H p (.lst ws)) σ ρ st where
  len := J.len
  sl := fun i x e => by
    obtain ⟨v, e1, q⟩ := J.sl i x e
    refine ⟨v, e1, ?_⟩
    have w : ∀ a, ¬ A a → upd H p (.lst ws) a = H a := fun a n => upd_ne fun z => n (z ▸ pA)
    cases x with
    | val d => exact Dat.write q w
    | own es =>
      obtain ⟨a, ys, rfl, h1, h2, h3, h4, h5⟩ := q
      have ne : a ≠ p := fun z => ap i es e (by rw [e1, z])
      exact ⟨a, ys, rfl, h1, h2, h3, by rw [upd_ne ne]; exact h4, h5.write w⟩
  apart := J.apart
  fresh := fun a ha => by
    by_cases z : a = p
    · subst z; rw [upd_same]; exact fun z => nomatch z
    · rw [upd_ne z]; exact J.fresh a ha
  sub := J.sub
  lim := J.lim
  dom := J.dom
  keep := fun a o n h => by
    rw [upd_ne (ne_of_none h h0)]; exact J.keep a o n h
  at_ := C.stab _ _ _ J.at_ fun a ha => upd_ne fun z => n0 (z ▸ J.dom a ha)

/-- an outcome that is no error -/
def nox {α : Type} : R S α → R S α
  | .ok a s => .ok a s
  | _ => .bad
def lcL (g : DG) (dt : DT S) (de : DE S) : List D → En → S → R S (List D)
  | [], _, s => .ok [] s
  | d :: r, ρ, s => match g d ρ with
    | none => .bad
    | some ρ1 => (dt ρ1 s).bind fun k s1 => if k = true then (de ρ1 s1).bind fun x s2 => (lcL g dt de r ρ s2).bind fun xs s3 => .ok (x :: xs) s3 else lcL g dt de r ρ s1
def dLc (g : DG) (vs sc : List Nat) (di : DA S) (dt : DT S) (de : DE S) : DA S := fun ρ s => (di ρ s).bind fun l s1 => if l.length ≤ 65536 then nox (lcL g dt de l (wipeE (frz sc ρ) vs) s1) else .bad
/-- tests of a clause -/
def PTsd (X : Cx) (C : Deck S) (W : WX) (ifs : List Expr) (dt : DT S) : Prop := PTs X ifs (ctt C X.mg W dt)
def dYes : DT S := fun _ s => .ok true s
theorem ptsd_nil : PTsd X C W [] (dYes : DT S) := ⟨fun pins s σ H Q I ⟨A0, H0, A, ρ, st, J, g⟩ => (pts_nil (X := X)).run pins s σ H Q I (g.done J.at_)⟩
theorem ptsd_one (h : PTd X C W c dt) : PTsd X C W [c] dt := pts_one h
abbrev W0 : WX := fun _ _ _ _ => False
theorem RG.nox {α : Type} {r : R S α} {P : α → S → Hp → Prop} (h : RG C mg W σ H (nox r) P) : ∃ a s, r = .ok a s ∧ ∀ H', Keep C.dom H H' → C.At s H' → P a s H' := by
  cases r with
  | ok a s => exact ⟨a, s, rfl, h⟩
  | ex c s => exact h.elim
  | bad => exact h.elim
theorem bind_ok_iff {α β : Type} {r : R S α} {f : α → S → R S β} {b : β} {s : S} (h : r.bind f = .ok b s) : ∃ a s1, r = .ok a s1 ∧ f a s1 = .ok b s := by
  cases r with
  | ok a s1 => exact ⟨a, s1, rfl, h⟩
  | ex c s => cases h
  | bad => cases h
/-- the list that is made so far -/
structure Made (C : Deck S) (A : Addr → Prop) (H : Hp) (p : Addr) (acc : List D) (n : Nat) : Prop where
  ex : ∃ vs, H p = some (.lst vs) ∧ Dats C H A vs acc ∧ vs.length ≤ n
theorem dats_snoc {vs : List V} {acc : List D} {v : V} {d : D} (t : Dats C H A vs acc) (h : Dat C H A v d) : Dats C H A (vs ++ [v]) (acc ++ [d]) := t.append (.cons h .nil)
theorem Yields.more {J : It} {ds : List D} (Y : Yields C A B J ds) (h : ∀ a, A' a → A a) : Yields C A' B J ds where
  stop := fun H k => Y.stop H fun a o n e => k a o (fun z => n (h a z)) e
  go := fun i H hi k => Y.go i H hi fun a o n e => k a o (fun z => n (h a z)) e
  yld := fun i H x H' hi k y => by
    obtain ⟨d, e, k1, k2, k3⟩ := Y.yld i H x H' hi (fun a o n e => k a o (fun z => n (h a z)) e) y
    exact ⟨d, e, k1, k2, fun A2 h1 h2 => k3 A2 h1 fun a ha => (h2 a ha).imp (h a) id⟩
theorem wipe_idem (σ : St) (vs : List Nat) : L2.wipe (L2.wipe σ vs) vs = L2.wipe σ vs := by
  have key : ∀ (ws : List Nat), (∀ i ∈ ws, i ∈ vs) → L2.wipe (L2.wipe σ vs) ws = L2.wipe σ vs := by
    intro ws
    induction ws with
    | nil => intro _; rfl
    | cons w ws ih =>
      intro h
      show (L2.wipe (L2.wipe σ vs) ws).set w none = _
      rw [ih fun i hi => h i (List.mem_cons_of_mem _ hi)]
      refine List.ext_getElem? fun j => ?_
      by_cases hj : w = j
      · subst hj
        by_cases hl : w < (L2.wipe σ vs).length
        · rw [List.getElem?_set_self hl]
          cases q : (L2.wipe σ vs)[w]? with
          | none => rw [List.getElem?_eq_none_iff] at q; omega
          | some x => cases x with
            | none => rfl
            | some v => exact absurd (h w (by simp)) (wipe_some q).2
        · rw [List.getElem?_eq_none (by simpa using hl), List.getElem?_eq_none (by simpa using hl)]
      · rw [List.getElem?_set_ne hj]
  exact key vs fun _ h => h
/-- a heap without what stands at p -/
noncomputable def cutAt (H : Hp) (p : Addr) : Hp := open Classical in fun a => if a = p then none else H a
theorem cut_upd {p : Addr} {o : HO} (h : H p = some o) : upd (cutAt H p) p o = H := by
  funext a
  unfold upd cutAt
  by_cases z : a = p
  · subst z; rw [if_pos rfl, h]
  · rw [if_neg z, if_neg z]
theorem cut_ne {p a : Addr} (h : a ≠ p) : cutAt H p a = H a := by unfold cutAt; rw [if_neg h]
theorem cut_same {p : Addr} : cutAt H p p = none := by unfold cutAt; rw [if_pos rfl]
theorem noOwn_frz {g : DG} (hg : NoOwn g) {vs sc : List Nat} {d : D} {ρ1 : En} (e : g d (wipeE (frz sc ρ) vs) = some ρ1) {i : Nat} (hi : i ∈ sc) {ds : List D} : ρ1[i]? ≠ some (some (.own ds)) := fun z => by
  have q := hg _ _ _ e i ds z
  have w : ∀ vs : List Nat, (wipeE (frz sc ρ) vs)[i]? ≠ some (some (.own ds)) := by
    intro vs
    induction vs with
    | nil =>
      intro q
      have q : (frz sc ρ)[i]? = some (some (.own ds)) := q
      rw [frz_get] at q
      cases h : ρ[i]? with
      | none => rw [h] at q; cases q
      | some y =>
        rw [h] at q
        cases y with
        | none => simp at q
        | some y => cases y <;> simp [hi] at q
    | cons v vs ih =>
      intro q
      have q : ((wipeE (frz sc ρ) vs).set v none)[i]? = some (some (.own ds)) := q
      by_cases hv : v = i
      · subst hv
        have hl : v < (wipeE (frz sc ρ) vs).length := by have := (List.getElem?_eq_some_iff.mp q).1; rwa [List.length_set] at this
        rw [List.getElem?_set_self hl] at q; cases q
      · rw [List.getElem?_set_ne hv] at q
        exact ih q
  exact w vs q
theorem lc_red {g : DG} {l : List Nat} {own : List (Str × Nat)} {Q : VK} (hno : NoOwn g) (hl : ∀ i ∈ l, i ∈ own.map (·.2)) (I : SAt C A0 H0 A H σ ρ st)
    (gg : RG C mg W σ H (dLc g (own.map (·.2)) (sc ++ sa) di dt de ρ st) fun ds _ H1 => ∀ p xs, H1 p = none → Dats C H1 (Amin A σ ρ (sc ++ sa)) xs ds → xs.length ≤ sizeLine → Q (.ref p) (upd H1 p (.lst xs))) :
    tLc (cti C mg W sc di) (ctg C l g) (ctt C mg W0 dt) (cte C mg W0 sa de) (own.map (·.2)) σ H Q := by
  refine ⟨A0, H0, A, ρ, st, I, gg.bind.imp fun ds s1 H1 k1 t1 g1 J Y0 => ?_⟩
  by_cases hz : ds.length ≤ 65536
  rotate_left
  · rw [if_neg hz] at g1; exact g1.elim
  rw [if_pos hz] at g1
  obtain ⟨res, sf, eq0, q⟩ := g1.nox
  intro p hp
  have Y := Y0.more (A' := Amin A σ ρ (sc ++ sa)) fun a h => Amin.more (fun i hi => List.mem_append_left _ hi) h
  have I2 := (I.next k1 t1).freeze (sc ++ sa)
  generalize hA1 : Amin A σ ρ (sc ++ sa) = A1 at I2 Y
  have I3 := (I2.rebase.beside (vs := []) hp).wipe (own.map (·.2))
  have nA1 : ¬ A1 p := fun z => I2.fresh p z hp
  have rp : reb A0 A1 H1 p = none := by
    cases e : reb A0 A1 H1 p with
    | none => rfl
    | some o => have := (reb_some e).1; rw [hp] at this; cases this
  have np : ∀ (ρ' : En) (σ' : St) (s' : S) (A' : Addr → Prop), SAt C A0 (reb A0 A1 H1) A1 H1 σ' ρ' s' → ∀ (i : Nat) ds, ρ'[i]? = some (some (.own ds)) → σ'[i]? ≠ some (some (.ref p)) := fun ρ' σ' s' A' J i ds e z => by
    obtain ⟨v, e1, a, ys, rfl, h1, h2, h3, h4, h5⟩ := J.sl i _ e
    rw [e1] at z
    cases z
    rw [hp] at h4; cases h4
  have npw := np _ _ _ A1 (I2.rebase.wipe (own.map (·.2)))
  refine ⟨fun i m H2 => m = ds.length - i ∧ i ≤ ds.length ∧ ∃ s' acc vs, SAt C A0 (reb A0 A1 H1) (fun a => A1 a ∨ a = p) H2 (L2.wipe σ (own.map (·.2))) (wipeE (frz (sc ++ sa) ρ) (own.map (·.2))) s' ∧ H2 p = some (.lst vs) ∧ Dats C H2 (fun a => A1 a ∨ a = p) vs acc ∧ vs.length ≤ i ∧ Keep C.dom H1 H2 ∧
    ∃ rest, lcL g dt de (ds.drop i) (wipeE (frz (sc ++ sa) ρ) (own.map (·.2))) s' = .ok rest sf ∧ acc ++ rest = res,
    ⟨ds.length, by simp, Nat.zero_le _, s1, [], [], I3, upd_same, Dats.nil, Nat.zero_le _, Keep.upd hp, res, by simpa using eq0, rfl⟩, ?_⟩
  rintro i m H2 ⟨rfl, hi2, s', acc, vs, I', hv, t', hvl, kd, rest, eqr, ea⟩
  have kB : Keep A1 H1 H2 := I'.kept I2.domA
  have lm := I'.lims I2.sub
  by_cases hlt : i < ds.length
  · refine .inr ⟨Y.go i H2 hlt kB, fun H3 => ∃ s' acc vs, SAt C A0 (reb A0 A1 H1) (fun a => A1 a ∨ a = p) H3 (L2.wipe σ (own.map (·.2))) (wipeE (frz (sc ++ sa) ρ) (own.map (·.2))) s' ∧ H3 p = some (.lst vs) ∧ Dats C H3 (fun a => A1 a ∨ a = p) vs acc ∧ vs.length ≤ i + 1 ∧ Keep C.dom H1 H3 ∧
      ∃ rest, lcL g dt de (ds.drop (i + 1)) (wipeE (frz (sc ++ sa) ρ) (own.map (·.2))) s' = .ok rest sf ∧ acc ++ rest = res, fun H3 z => ⟨ds.length - (i + 1), by omega, rfl, hlt, z⟩, fun x H3 y => ?_⟩
    obtain ⟨d, ed, k3, a3, hD⟩ := Y.yld i H2 x H3 hlt kB y
    have J3 := I'.next k3 (a3 _ I'.at_)
    have dx := hD _ I'.fresh lm
    have ed' : ds.drop i = d :: ds.drop (i + 1) := by
      rw [List.drop_eq_getElem_cons hlt]
      congr 1
      rw [List.getElem?_eq_getElem hlt] at ed
      exact Option.some.inj ed
    rw [ed'] at eqr
    unfold lcL at eqr
    cases eg : g d (wipeE (frz (sc ++ sa) ρ) (own.map (·.2))) with
    | none => rw [eg] at eqr; cases eqr
    | some ρ1 =>
      rw [eg] at eqr
      obtain ⟨k, s2, e1, eqr⟩ := bind_ok_iff eqr
      refine ⟨A0, _, _, _, s', d, ρ1, J3, dx, eg, fun σ1 K1 w1 => ⟨(w1 _ hl).trans (wipe_idem _ _), A0, _, _, ρ1, s', K1, ?_⟩⟩
      rw [e1]
      intro H4 k4 t4
      have kp4 : ¬ C.dom p := fun z => nA1 (I2.domA p z)
      have J4 := J3.next k4 t4
      have v4 : H4 p = some (.lst vs) := k4 p _ kp4 (k3 p _ kp4 hv)
      have t4' : Dats C H4 (fun a => A1 a ∨ a = p) vs acc := t'.keep (k3.trans k4) fun a h => .inl (I2.domA a h)
      cases k with
      | false =>
        simp only [Bool.false_eq_true, if_false] at eqr ⊢
        exact ⟨s2, acc, vs, J4, v4, t4', by omega, (kd.trans k3).trans k4, rest, eqr, ea⟩
      | true =>
        simp only [if_true] at eqr ⊢
        obtain ⟨dxv, s3, e3, eqr⟩ := bind_ok_iff eqr
        obtain ⟨rest2, s4, e4, eqr⟩ := bind_ok_iff eqr
        cases eqr
        refine ⟨A0, _, _, ρ1, s2, K1.next k4 t4, ?_⟩
        rw [e3]
        intro H5 k5 t5 yv dyv
        have v5 : H5 p = some (.lst vs) := k5 p _ kp4 v4
        have eA : ∀ a, (A1 a ∨ a = p) → Amin (fun a => A1 a ∨ a = p) σ1 ρ1 sa a := fun a ha => ⟨ha, fun j hj es e => absurd e (noOwn_frz hno eg (List.mem_append_right _ hj))⟩
        have dyv' := dyv.less eA
        have J5 := J4.next k5 t5
        have t5' : Dats C H5 (fun a => A1 a ∨ a = p) vs acc := t4'.keep k5 fun a h => .inl (I2.domA a h)
        refine ⟨vs, v5, by rw [line_eq]; omega, s3, acc ++ [dxv], vs ++ [yv], J5.grow v5 (.inr rfl) (fun z => nA1 (I2.sub p z)) rp npw, upd_same, ?_, by simp; omega, fun a o n h => by rw [upd_ne (ne_of_none h hp)]; exact (((kd.trans k3).trans k4).trans k5) a o n h, rest2, e4, by rw [← ea]; simp⟩
        exact (dats_snoc t5' dyv').write fun a n => upd_ne fun z => n (.inr z)
  · have e : i = ds.length := by omega
    subst e
    rw [List.drop_length] at eqr
    cases eqr
    refine .inl ⟨Y.stop H2 kB, ?_⟩
    rw [List.append_nil] at ea
    subst ea
    have ne : ∀ a, C.dom a → a ≠ p := fun a h z => nA1 (z ▸ I2.domA a h)
    have := q (cutAt H2 p) (fun a o n h => by
      have hne : a ≠ p := ne_of_none h hp
      rw [cut_ne hne]
      exact kd a o n h) (C.stab _ _ _ I'.at_ fun a ha => cut_ne (ne a ha)) p vs cut_same ((t'.write fun a n => cut_ne fun z => n (.inr z)).less fun a ha => .inl (hA1 ▸ ha)) (by rw [line_eq]; omega)
    rw [cut_upd hv] at this
    exact this

theorem pf_lc {g : DG} {l : List Nat} {scope : Scope} {own : List (Str × Nat)} (hc : X.calm = true) (nd : X.N.Nodup) (hi : PId X C W tg iter sc di) (ok : BlkOk X.N X.env.scope scope own)
    (hg : ∀ (s : Shared) (H : Hp) (q : Addr) (cl : List (Str × Addr)) (fp : List Addr), PGd (X.blk s H scope (compEnvC scope cl q X.env) fp) C tg l g) (hno : NoOwn g)
    (ht : ∀ (s : Shared) (H : Hp) (q : Addr) (cl : List (Str × Addr)) (fp : List Addr), PTsd (X.blk s H scope (compEnvC scope cl q X.env) fp) C W0 ifs dt)
    (he : ∀ (s : Shared) (H : Hp) (q : Addr) (cl : List (Str × Addr)) (fp : List Addr), PD (X.blk s H scope (compEnvC scope cl q X.env) fp) C W0 elt sa de)
    (hl : ∀ i ∈ l, i ∈ own.map (·.2) := by decide) (hs : ∀ x, foldedSetIterable iter X.env x = pure x := by intro _; rfl) : PF X C W (.ListComp elt [⟨tg, iter, ifs, 0⟩] scope pos) (sc ++ sa) (dLc g (own.map (·.2)) (sc ++ sa) di dt de) :=
  pf_of (pe_lc (g := ctg C l g) (tt := ctt C X.mg W0 dt) (te := cte C X.mg W0 sa de) hc nd hi ok (fun s H q cl fp => (hg s H q cl fp).pg) ht he hs) fun A0 H0 A ρ st σ H Q I gg => lc_red hno hl I gg
/-- what is wanted of a value for a slot, by what makes a fresh list -/
theorem ctv_o {dl : DA S} {sc : List Nat} {Q : VK} (h : ctv C mg W sc (dO dl) σ H Q) : ctf C mg W sc dl σ H Q := by
  obtain ⟨A0, H0, A, ρ, st, I, g⟩ := h
  exact ⟨A0, H0, A, ρ, st, I, g.map⟩
theorem cte_f {dl : DA S} {sc : List Nat} {Q : VK} (h : cte C mg W sc (dF dl) σ H Q) : ctf C mg W sc dl σ H Q := by
  obtain ⟨A0, H0, A, ρ, st, I, g⟩ := h
  exact ⟨A0, H0, A, ρ, st, I, g.map.keepOk.imp fun ds s1 H1 k1 t1 g1 p xs hp dxs hz => by
    have I1 := I.next k1 t1
    have kp : Keep C.dom H1 (upd H1 p (.lst xs)) := Keep.upd hp
    exact g1 _ kp (at_upd t1 hp) (.ref p) (Dat.lst_mk (fun z => I1.fresh p z.1 hp) upd_same (dxs.keep kp (I1.dom0 sc)))⟩
theorem ctv_v {de : DE S} {sc : List Nat} {Q : VK} (h : ctv C mg W sc (dV de) σ H Q) : cte C mg W sc de σ H Q := by
  obtain ⟨A0, H0, A, ρ, st, I, g⟩ := h
  exact ⟨A0, H0, A, ρ, st, I, g.map⟩
/-- y = [..] on one line, y a local: the list one's own, or data -/
theorem psd_setLc (i : Nat) {y : Str} {py spos : Pos} {g : DG} {l : List Nat} {scope : Scope} {own : List (Str × Nat)} {dv : E1 S Sl} (hv : ∀ {σ : St} {H : Hp} {Q : VK}, ctv C X.mg W (sc ++ sa) dv σ H Q → ctf C X.mg W (sc ++ sa) (dLc g (own.map (·.2)) (sc ++ sa) di dt de) σ H Q)
    (hc : X.calm = true) (nd : X.N.Nodup) (hi : PId X C W tg iter sc di) (ok : BlkOk X.N X.env.scope scope own)
    (hg : ∀ (s : Shared) (H : Hp) (q : Addr) (cl : List (Str × Addr)) (fp : List Addr), PGd (X.blk s H scope (compEnvC scope cl q X.env) fp) C tg l g) (hno : NoOwn g)
    (ht : ∀ (s : Shared) (H : Hp) (q : Addr) (cl : List (Str × Addr)) (fp : List Addr), PTsd (X.blk s H scope (compEnvC scope cl q X.env) fp) C W0 ifs dt)
    (he : ∀ (s : Shared) (H : Hp) (q : Addr) (cl : List (Str × Addr)) (fp : List Addr), PD (X.blk s H scope (compEnvC scope cl q X.env) fp) C W0 elt sa de)
    (hl : ∀ i ∈ l, i ∈ own.map (·.2) := by decide) (hs : ∀ x, foldedSetIterable iter X.env x = pure x := by intro _; rfl)
    (hy : X.N[i]? = some y := by rfl) (hyl : X.env.scope.names.lookup y = some .local := by rfl) (hsw : swapsWith (.ListComp elt [⟨tg, iter, ifs, 0⟩] scope pos) (some (.Name y py)) spos.line X.env = pure true := by exact sw_true rfl rfl rfl (by decide +kernel)) :
    PSd X C W (.Assign [.Name y py] (.ListComp elt [⟨tg, iter, ifs, 0⟩] scope pos) spos) (dAsg i (sc ++ sa) dv) :=
  psd_of (ps_setLc (g := ctg C l g) (tt := ctt C X.mg W0 dt) (te := cte C X.mg W0 sa de) hc nd hy hyl hsw hi ok (fun s H q cl fp => (hg s H q cl fp).pg) ht he hs) fun A0 H0 A ρ st σ H DD I g' => by
    obtain ⟨A0', H0', A', ρ', st', I', g2⟩ := hv (ctv_give I g')
    exact lc_red hno hl I' g2

/-! ### two clauses -/
def lc2L (g : DG) (dt : DT S) (dj : DA S) (v1 : List Nat) (g1 : DG) (dt1 : DT S) (de : DE S) : List D → En → S → R S (List D)
  | [], _, s => .ok [] s
  | d :: r, ρ, s => match g d ρ with
    | none => .bad
    | some ρ1 => (dt ρ1 s).bind fun k s1 => if k = true then (dj ρ1 s1).bind fun l s2 => (lcL g1 dt1 de l (wipeE ρ1 v1) s2).bind fun xs s3 => (lc2L g dt dj v1 g1 dt1 de r ρ s3).bind fun ys s4 => .ok (xs ++ ys) s4
      else lc2L g dt dj v1 g1 dt1 de r ρ s1
def dLc2 (g : DG) (dj : DA S) (v1 : List Nat) (g1 : DG) (vs sc : List Nat) (di : DA S) (dt dt1 : DT S) (de : DE S) : DA S := fun ρ s => (di ρ s).bind fun l s1 => if l.length ≤ 65536 then
  match lc2L g dt dj v1 g1 dt1 de l (wipeE (frz sc ρ) vs) s1 with
  | .ok xs s2 => if xs.length ≤ 65536 then .ok xs s2 else .bad
  | _ => .bad else .bad
theorem noOwn_wipe {ρ : En} {i : Nat} {ds : List D} : ∀ {vs : List Nat}, (wipeE ρ vs)[i]? = some (some (.own ds)) → ρ[i]? = some (some (.own ds))
  | [], h => h
  | v :: vs, h => by
    have h : ((wipeE ρ vs).set v none)[i]? = some (some (.own ds)) := h
    by_cases hv : v = i
    · subst hv
      have hl : v < (wipeE ρ vs).length := by have := (List.getElem?_eq_some_iff.mp h).1; rwa [List.length_set] at this
      rw [List.getElem?_set_self hl] at h; cases h
    · rw [List.getElem?_set_ne hv] at h
      exact noOwn_wipe h
theorem lc2_red {g g1 : DG} {l l1 v1 : List Nat} {own : List (Str × Nat)} {dt1 : DT S} {Q : VK} (hno : NoOwn g) (hno1 : NoOwn g1) (hl : ∀ i ∈ l, i ∈ own.map (·.2)) (hl1 : ∀ i ∈ l1, i ∈ v1) (hv1 : ∀ i ∈ v1, i ∈ own.map (·.2)) (I : SAt C A0 H0 A H σ ρ st)
    (gg : RG C mg W σ H (dLc2 g dj v1 g1 (own.map (·.2)) (sc ++ sb ++ sa) di dt dt1 de ρ st) fun ds _ H1 => ∀ p xs, H1 p = none → Dats C H1 (Amin A σ ρ (sc ++ sb ++ sa)) xs ds → xs.length ≤ sizeLine → Q (.ref p) (upd H1 p (.lst xs))) :
    tLc2 (cti C mg W sc di) (ctg C l g) (ctt C mg W0 dt) (cti C mg W0 sb dj) (ctg C l1 g1) (ctt C mg W0 dt1) (cte C mg W0 sa de) (own.map (·.2)) v1 σ H Q := by
  refine ⟨A0, H0, A, ρ, st, I, gg.bind.imp fun ds s1 H1 k1 t1 g1' J Y0 => ?_⟩
  by_cases hz : ds.length ≤ 65536
  rotate_left
  · rw [if_neg hz] at g1'; exact g1'.elim
  rw [if_pos hz] at g1'
  obtain ⟨res, sf, eq0, hres, q⟩ : ∃ res sf, lc2L g dt dj v1 g1 dt1 de ds (wipeE (frz (sc ++ sb ++ sa) ρ) (own.map (·.2))) s1 = .ok res sf ∧ res.length ≤ 65536 ∧ ∀ H', Keep C.dom H1 H' → C.At sf H' → ∀ p xs, H' p = none → Dats C H' (Amin A σ ρ (sc ++ sb ++ sa)) xs res → xs.length ≤ sizeLine → Q (.ref p) (upd H' p (.lst xs)) := by
    split at g1'
    · rename_i xs s2 e
      by_cases z : xs.length ≤ 65536
      · rw [if_pos z] at g1'
        exact ⟨xs, s2, e, z, g1'⟩
      · rw [if_neg z] at g1'; exact g1'.elim
    · exact g1'.elim
  intro p hp
  have Y := Y0.more (A' := Amin A σ ρ (sc ++ sb ++ sa)) fun a h => Amin.more (fun i hi => List.mem_append_left _ (List.mem_append_left _ hi)) h
  have I2 := (I.next k1 t1).freeze (sc ++ sb ++ sa)
  generalize hA1 : Amin A σ ρ (sc ++ sb ++ sa) = A1 at I2 Y
  have I3 := (I2.rebase.beside (vs := []) hp).wipe (own.map (·.2))
  have nA1 : ¬ A1 p := fun z => I2.fresh p z hp
  have rp : reb A0 A1 H1 p = none := by
    cases e : reb A0 A1 H1 p with
    | none => rfl
    | some o => have := (reb_some e).1; rw [hp] at this; cases this
  have kp4 : ¬ C.dom p := fun z => nA1 (I2.domA p z)
  have sub1 : ∀ a, C.dom a → A1 a ∨ a = p := fun a h => .inl (I2.domA a h)
  -- an own slot of the block stands as it stood
  have npw : ∀ (i : Nat) ds, (wipeE (frz (sc ++ sb ++ sa) ρ) (own.map (·.2)))[i]? = some (some (.own ds)) → (L2.wipe σ (own.map (·.2)))[i]? ≠ some (some (.ref p)) := fun i ds e z => by
    obtain ⟨v, e1, a, ys, rfl, h1, h2, h3, h4, h5⟩ := (I2.rebase.wipe (own.map (·.2))).sl i _ e
    rw [e1] at z
    cases z
    rw [hp] at h4; cases h4
  -- what is known ahead of a turn
  refine ⟨fun i m H2 => m = ds.length - i ∧ i ≤ ds.length ∧ ∃ s' acc vs, SAt C A0 (reb A0 A1 H1) (fun a => A1 a ∨ a = p) H2 (L2.wipe σ (own.map (·.2))) (wipeE (frz (sc ++ sb ++ sa) ρ) (own.map (·.2))) s' ∧ H2 p = some (.lst vs) ∧ Dats C H2 (fun a => A1 a ∨ a = p) vs acc ∧ Keep C.dom H1 H2 ∧
    ∃ rest, lc2L g dt dj v1 g1 dt1 de (ds.drop i) (wipeE (frz (sc ++ sb ++ sa) ρ) (own.map (·.2))) s' = .ok rest sf ∧ acc ++ rest = res,
    ⟨ds.length, by simp, Nat.zero_le _, s1, [], [], I3, upd_same, Dats.nil, Keep.upd hp, res, by simpa using eq0, rfl⟩, ?_⟩
  rintro i m H2 ⟨rfl, hi2, s', acc, vs, I', hv, t', kd, rest, eqr, ea⟩
  have kB : Keep A1 H1 H2 := I'.kept I2.domA
  have lm := I'.lims I2.sub
  by_cases hlt : i < ds.length
  · refine .inr ⟨Y.go i H2 hlt kB, fun H3 => ∃ s' acc vs, SAt C A0 (reb A0 A1 H1) (fun a => A1 a ∨ a = p) H3 (L2.wipe σ (own.map (·.2))) (wipeE (frz (sc ++ sb ++ sa) ρ) (own.map (·.2))) s' ∧ H3 p = some (.lst vs) ∧ Dats C H3 (fun a => A1 a ∨ a = p) vs acc ∧ Keep C.dom H1 H3 ∧
      ∃ rest, lc2L g dt dj v1 g1 dt1 de (ds.drop (i + 1)) (wipeE (frz (sc ++ sb ++ sa) ρ) (own.map (·.2))) s' = .ok rest sf ∧ acc ++ rest = res, fun H3 z => ⟨ds.length - (i + 1), by omega, rfl, hlt, z⟩, fun x H3 y => ?_⟩
    obtain ⟨d, ed, k3, a3, hD⟩ := Y.yld i H2 x H3 hlt kB y
    have J3 := I'.next k3 (a3 _ I'.at_)
    have dx := hD _ I'.fresh lm
    have ed' : ds.drop i = d :: ds.drop (i + 1) := by
      rw [List.drop_eq_getElem_cons hlt]
      congr 1
      rw [List.getElem?_eq_getElem hlt] at ed
      exact Option.some.inj ed
    rw [ed'] at eqr
    unfold lc2L at eqr
    cases eg : g d (wipeE (frz (sc ++ sb ++ sa) ρ) (own.map (·.2))) with
    | none => rw [eg] at eqr; cases eqr
    | some ρ1 =>
      rw [eg] at eqr
      obtain ⟨k, s2, e1, eqr⟩ := bind_ok_iff eqr
      refine ⟨A0, _, _, _, s', d, ρ1, J3, dx, eg, fun σ1 K1 w1 => ⟨(w1 _ hl).trans (wipe_idem _ _), A0, _, _, ρ1, s', K1, ?_⟩⟩
      rw [e1]
      intro H4 k4 t4
      have J4 := J3.next k4 t4
      have K4 := K1.next k4 t4
      have v4 : H4 p = some (.lst vs) := k4 p _ kp4 (k3 p _ kp4 hv)
      have t4' : Dats C H4 (fun a => A1 a ∨ a = p) vs acc := t'.keep (k3.trans k4) sub1
      have kd4 := (kd.trans k3).trans k4
      cases k with
      | false =>
        simp only [Bool.false_eq_true, if_false] at eqr ⊢
        exact ⟨s2, acc, vs, J4, v4, t4', kd4, rest, eqr, ea⟩
      | true =>
        simp only [if_true] at eqr ⊢
        obtain ⟨ds1, s3, e3, eqr⟩ := bind_ok_iff eqr
        obtain ⟨xs1, s4, e4, eqr⟩ := bind_ok_iff eqr
        obtain ⟨rest2, s5, e5, eqr⟩ := bind_ok_iff eqr
        cases eqr
        have fz : ∀ (ρ2 : En), (∀ (j : Nat) es, ρ2[j]? = some (some (.own es)) → ρ1[j]? = some (some (.own es))) → ∀ ws, (∀ j ∈ ws, j ∈ sc ++ sb ++ sa) → ∀ σ2 a, (A1 a ∨ a = p) → Amin (fun a => A1 a ∨ a = p) σ2 ρ2 ws a := fun ρ2 h ws hw σ2 a ha => ⟨ha, fun j hj es e => absurd (h j es e) (noOwn_frz hno eg (hw j hj))⟩
        refine ⟨A0, _, _, ρ1, s2, K4, ?_⟩
        rw [e3]
        intro H5 k5 t5 J1 Y1'
        have Y1 := Y1'.more (A' := fun a => A1 a ∨ a = p) (fz ρ1 (fun _ _ z => z) sb (fun j hj => List.mem_append_left _ (List.mem_append_right _ hj)) σ1)
        have K5 := (K4.next k5 t5).wipe v1
        have npi : ∀ (i : Nat) ds, (wipeE ρ1 v1)[i]? = some (some (.own ds)) → (L2.wipe σ1 v1)[i]? ≠ some (some (.ref p)) := fun i es e z => by
          have q1 := hno _ _ _ eg i es (noOwn_wipe e)
          obtain ⟨z1, z2⟩ := wipe_some z
          have q2 : i ∉ own.map (·.2) := fun hm => by
            have : ∀ vs : List Nat, i ∈ vs → (wipeE (frz (sc ++ sb ++ sa) ρ) vs)[i]? ≠ some (some (.own es)) := by
              intro vs
              induction vs with
              | nil => intro h; cases h
              | cons v vs ih =>
                intro h w
                have w : ((wipeE (frz (sc ++ sb ++ sa) ρ) vs).set v none)[i]? = some (some (.own es)) := w
                by_cases hv : v = i
                · subst hv
                  have hl : v < (wipeE (frz (sc ++ sb ++ sa) ρ) vs).length := by have := (List.getElem?_eq_some_iff.mp w).1; rwa [List.length_set] at this
                  rw [List.getElem?_set_self hl] at w; cases w
                · rw [List.getElem?_set_ne hv] at w
                  exact ih ((List.mem_cons.mp h).resolve_left fun z => hv z.symm) w
            exact this _ hm q1
          have w2 : (L2.wipe σ1 (own.map (·.2)))[i]? = some (some (.ref p)) := by rw [wipe_out q2]; exact z1
          rw [(w1 _ hl).trans (wipe_idem _ _)] at w2
          exact npw i es q1 w2
        have J5 := J4.next k5 t5
        have v5 : H5 p = some (.lst vs) := k5 p _ kp4 v4
        have t5' : Dats C H5 (fun a => A1 a ∨ a = p) vs acc := t4'.keep k5 sub1
        refine ⟨fun j k H6 => k = ds1.length - j ∧ j ≤ ds1.length ∧ ∃ s6 acc6 vs6, SAt C A0 (reb A0 A1 H1) (fun a => A1 a ∨ a = p) H6 (L2.wipe σ1 v1) (wipeE ρ1 v1) s6 ∧ SAt C A0 (reb A0 A1 H1) (fun a => A1 a ∨ a = p) H6 (L2.wipe σ (own.map (·.2))) (wipeE (frz (sc ++ sb ++ sa) ρ) (own.map (·.2))) s6 ∧
          H6 p = some (.lst vs6) ∧ Dats C H6 (fun a => A1 a ∨ a = p) vs6 acc6 ∧ Keep C.dom H1 H6 ∧ Keep (fun a => A1 a ∨ a = p) H5 H6 ∧ ∃ r6, lcL g1 dt1 de (ds1.drop j) (wipeE ρ1 v1) s6 = .ok r6 s4 ∧ acc6 ++ r6 ++ rest2 = res,
          ⟨ds1.length, by simp, Nat.zero_le _, s3, acc, vs, K5, J5, v5, t5', kd4.trans k5, Keep.refl, xs1, by simpa using e4, by rw [List.append_assoc]; exact ea⟩, ?_⟩
        rintro j k H6 ⟨rfl, hj2, s6, acc6, vs6, K6, J6, v6, t6, kd6, kk6, r6, eq6, ea6⟩
        by_cases hlt6 : j < ds1.length
        · refine .inr ⟨Y1.go j H6 hlt6 kk6, fun H7 => ∃ s6 acc6 vs6, SAt C A0 (reb A0 A1 H1) (fun a => A1 a ∨ a = p) H7 (L2.wipe σ1 v1) (wipeE ρ1 v1) s6 ∧ SAt C A0 (reb A0 A1 H1) (fun a => A1 a ∨ a = p) H7 (L2.wipe σ (own.map (·.2))) (wipeE (frz (sc ++ sb ++ sa) ρ) (own.map (·.2))) s6 ∧
            H7 p = some (.lst vs6) ∧ Dats C H7 (fun a => A1 a ∨ a = p) vs6 acc6 ∧ Keep C.dom H1 H7 ∧ Keep (fun a => A1 a ∨ a = p) H5 H7 ∧ ∃ r6, lcL g1 dt1 de (ds1.drop (j + 1)) (wipeE ρ1 v1) s6 = .ok r6 s4 ∧ acc6 ++ r6 ++ rest2 = res, fun H7 z => ⟨ds1.length - (j + 1), by omega, rfl, hlt6, z⟩, fun x7 H7 y7 => ?_⟩
          obtain ⟨d7, ed7, k7, a7, hD7⟩ := Y1.yld j H6 x7 H7 hlt6 kk6 y7
          have K7 := K6.next k7 (a7 _ K6.at_)
          have J7 := J6.next k7 (a7 _ J6.at_)
          have dx7 := hD7 (fun a => A1 a ∨ a = p) K6.fresh fun a ha => .inl ha
          have ed7' : ds1.drop j = d7 :: ds1.drop (j + 1) := by
            rw [List.drop_eq_getElem_cons hlt6]
            congr 1
            rw [List.getElem?_eq_getElem hlt6] at ed7
            exact Option.some.inj ed7
          rw [ed7'] at eq6
          unfold lcL at eq6
          cases eg7 : g1 d7 (wipeE ρ1 v1) with
          | none => rw [eg7] at eq6; cases eq6
          | some ρ7 =>
            rw [eg7] at eq6
            obtain ⟨k8, s8, e8, eq6⟩ := bind_ok_iff eq6
            refine ⟨A0, _, _, _, s6, d7, ρ7, K7, dx7, eg7, fun σ7 L7 w7 => ⟨(w7 _ hl1).trans (wipe_idem _ _), A0, _, _, ρ7, s6, L7, ?_⟩⟩
            rw [e8]
            intro H8 k9 t8
            have J8 := J7.next k9 t8
            have K8 := K7.next k9 t8
            have v8 : H8 p = some (.lst vs6) := k9 p _ kp4 (k7 p _ kp4 v6)
            have t8' : Dats C H8 (fun a => A1 a ∨ a = p) vs6 acc6 := t6.keep (k7.trans k9) sub1
            have kd8 := (kd6.trans k7).trans k9
            have kk8 : Keep (fun a => A1 a ∨ a = p) H5 H8 := fun a o n h => (k7.trans k9) a o (fun z => n (sub1 a z)) (kk6 a o n h)
            cases k8 with
            | false =>
              simp only [Bool.false_eq_true, if_false] at eq6 ⊢
              exact ⟨s8, acc6, vs6, K8, J8, v8, t8', kd8, kk8, r6, eq6, ea6⟩
            | true =>
              simp only [if_true] at eq6 ⊢
              obtain ⟨dxv, s9, e9, eq6⟩ := bind_ok_iff eq6
              obtain ⟨r9, s10, e10, eq6⟩ := bind_ok_iff eq6
              cases eq6
              refine ⟨A0, _, _, ρ7, s8, L7.next k9 t8, ?_⟩
              rw [e9]
              intro H9 k10 t9 yv dyv
              have v9 : H9 p = some (.lst vs6) := k10 p _ kp4 v8
              have dyv' := dyv.less (fz ρ7 (fun j es z => noOwn_wipe (hno1 _ _ _ eg7 j es z)) sa (fun j hj => List.mem_append_right _ hj) σ7)
              have t9' : Dats C H9 (fun a => A1 a ∨ a = p) vs6 acc6 := t8'.keep k10 sub1
              have hlen : vs6.length ≤ 65536 := by
                rw [t9'.len]
                have := congrArg List.length ea6
                simp only [List.length_append, List.length_cons] at this
                omega
              refine ⟨vs6, v9, by rw [line_eq]; omega, s9, acc6 ++ [dxv], vs6 ++ [yv], (K8.next k10 t9).grow v9 (.inr rfl) (fun z => nA1 (I2.sub p z)) rp npi, (J8.next k10 t9).grow v9 (.inr rfl) (fun z => nA1 (I2.sub p z)) rp npw, upd_same, (dats_snoc t9' dyv').write fun a n => upd_ne fun z => n (.inr z),
                fun a o n h => by rw [upd_ne (ne_of_none h hp)]; exact (kd8.trans k10) a o n h, fun a o n h => by rw [upd_ne fun z => n (.inr z)]; exact k10 a o (fun z => n (sub1 a z)) (kk8 a o n h), r9, e10, by rw [← ea6]; simp⟩
        · have e : j = ds1.length := by omega
          subst e
          rw [List.drop_length] at eq6
          cases eq6
          refine .inl ⟨Y1.stop H6 kk6, _, acc6, vs6, J6, v6, t6, kd6, rest2, e5, by rw [← ea6]; simp⟩
  · have e : i = ds.length := by omega
    subst e
    rw [List.drop_length] at eqr
    cases eqr
    refine .inl ⟨Y.stop H2 kB, ?_⟩
    rw [List.append_nil] at ea
    subst ea
    have ne : ∀ a, C.dom a → a ≠ p := fun a h z => nA1 (z ▸ I2.domA a h)
    have := q (cutAt H2 p) (fun a o n h => by
      have hne : a ≠ p := ne_of_none h hp
      rw [cut_ne hne]
      exact kd a o n h) (C.stab _ _ _ I'.at_ fun a ha => cut_ne (ne a ha)) p vs cut_same ((t'.write fun a n => cut_ne fun z => n (.inr z)).less fun a ha => .inl (hA1 ▸ ha)) (by rw [t'.len, line_eq]; omega)
    rw [cut_upd hv] at this
    exact this

theorem pf_lc2 {g g1 : DG} {l l1 v1 : List Nat} {scope : Scope} {own : List (Str × Nat)} {dt1 : DT S} (hc : X.calm = true) (nd : X.N.Nodup) (hi : PId X C W tg iter sc di) (ok : BlkOk X.N X.env.scope scope own)
    (hg : ∀ (s : Shared) (H : Hp) (q : Addr) (cl : List (Str × Addr)) (fp : List Addr), PGd (X.blk s H scope (compEnvC scope cl q X.env) fp) C tg l g) (hno : NoOwn g)
    (ht : ∀ (s : Shared) (H : Hp) (q : Addr) (cl : List (Str × Addr)) (fp : List Addr), PTsd (X.blk s H scope (compEnvC scope cl q X.env) fp) C W0 ifs dt)
    (hj : ∀ (s : Shared) (H : Hp) (q : Addr) (cl : List (Str × Addr)) (fp : List Addr), PId (X.blk s H scope (compEnvC scope cl q X.env) fp) C W0 tg1 iter1 sb dj)
    (hg1 : ∀ (s : Shared) (H : Hp) (q : Addr) (cl : List (Str × Addr)) (fp : List Addr), PGd (X.blk s H scope (compEnvC scope cl q X.env) fp) C tg1 l1 g1) (hno1 : NoOwn g1)
    (ht1 : ∀ (s : Shared) (H : Hp) (q : Addr) (cl : List (Str × Addr)) (fp : List Addr), PTsd (X.blk s H scope (compEnvC scope cl q X.env) fp) C W0 ifs1 dt1)
    (he : ∀ (s : Shared) (H : Hp) (q : Addr) (cl : List (Str × Addr)) (fp : List Addr), PD (X.blk s H scope (compEnvC scope cl q X.env) fp) C W0 elt sa de)
    (hl : ∀ i ∈ l, i ∈ own.map (·.2) := by decide) (hl1 : ∀ i ∈ l1, i ∈ v1 := by decide) (hv1 : ∀ i ∈ v1, i ∈ own.map (·.2) := by decide) (hs : ∀ x, foldedSetIterable iter X.env x = pure x := by intro _; rfl) (hs1 : ∀ env x, foldedSetIterable iter1 env x = pure x := by intro _ _; rfl) :
    PF X C W (.ListComp elt [⟨tg, iter, ifs, 0⟩, ⟨tg1, iter1, ifs1, 0⟩] scope pos) (sc ++ sb ++ sa) (dLc2 g dj v1 g1 (own.map (·.2)) (sc ++ sb ++ sa) di dt dt1 de) :=
  pf_of (pe_lc2 (vs1 := v1) (g := ctg C l g) (tt := ctt C X.mg W0 dt) (wi1 := cti C X.mg W0 sb dj) (g1 := ctg C l1 g1) (tt1 := ctt C X.mg W0 dt1) (te := cte C X.mg W0 sa de) hc nd hi ok hv1 (fun s H q cl fp => (hg s H q cl fp).pg) ht hj (fun s H q cl fp => (hg1 s H q cl fp).pg) ht1 he hs hs1) fun A0 H0 A ρ st σ H Q I gg => lc2_red hno hno1 hl hl1 hv1 I gg
theorem psd_setLc2 (i : Nat) {y : Str} {py spos : Pos} {g g1 : DG} {l l1 v1 : List Nat} {scope : Scope} {own : List (Str × Nat)} {dt1 : DT S} {dv : E1 S Sl} (hv : ∀ {σ : St} {H : Hp} {Q : VK}, ctv C X.mg W (sc ++ sb ++ sa) dv σ H Q → ctf C X.mg W (sc ++ sb ++ sa) (dLc2 g dj v1 g1 (own.map (·.2)) (sc ++ sb ++ sa) di dt dt1 de) σ H Q)
    (hc : X.calm = true) (nd : X.N.Nodup) (hi : PId X C W tg iter sc di) (ok : BlkOk X.N X.env.scope scope own)
    (hg : ∀ (s : Shared) (H : Hp) (q : Addr) (cl : List (Str × Addr)) (fp : List Addr), PGd (X.blk s H scope (compEnvC scope cl q X.env) fp) C tg l g) (hno : NoOwn g)
    (ht : ∀ (s : Shared) (H : Hp) (q : Addr) (cl : List (Str × Addr)) (fp : List Addr), PTsd (X.blk s H scope (compEnvC scope cl q X.env) fp) C W0 ifs dt)
    (hj : ∀ (s : Shared) (H : Hp) (q : Addr) (cl : List (Str × Addr)) (fp : List Addr), PId (X.blk s H scope (compEnvC scope cl q X.env) fp) C W0 tg1 iter1 sb dj)
    (hg1 : ∀ (s : Shared) (H : Hp) (q : Addr) (cl : List (Str × Addr)) (fp : List Addr), PGd (X.blk s H scope (compEnvC scope cl q X.env) fp) C tg1 l1 g1) (hno1 : NoOwn g1)
    (ht1 : ∀ (s : Shared) (H : Hp) (q : Addr) (cl : List (Str × Addr)) (fp : List Addr), PTsd (X.blk s H scope (compEnvC scope cl q X.env) fp) C W0 ifs1 dt1)
    (he : ∀ (s : Shared) (H : Hp) (q : Addr) (cl : List (Str × Addr)) (fp : List Addr), PD (X.blk s H scope (compEnvC scope cl q X.env) fp) C W0 elt sa de)
    (hl : ∀ i ∈ l, i ∈ own.map (·.2) := by decide) (hl1 : ∀ i ∈ l1, i ∈ v1 := by decide) (hv1 : ∀ i ∈ v1, i ∈ own.map (·.2) := by decide) (hs : ∀ x, foldedSetIterable iter X.env x = pure x := by intro _; rfl) (hs1 : ∀ env x, foldedSetIterable iter1 env x = pure x := by intro _ _; rfl)
    (hy : X.N[i]? = some y := by rfl) (hyl : X.env.scope.names.lookup y = some .local := by rfl) (hsw : swapsWith (.ListComp elt [⟨tg, iter, ifs, 0⟩, ⟨tg1, iter1, ifs1, 0⟩] scope pos) (some (.Name y py)) spos.line X.env = pure true := by exact sw_true rfl rfl rfl (by decide +kernel)) :
    PSd X C W (.Assign [.Name y py] (.ListComp elt [⟨tg, iter, ifs, 0⟩, ⟨tg1, iter1, ifs1, 0⟩] scope pos) spos) (dAsg i (sc ++ sb ++ sa) dv) :=
  psd_of (ps_setLc2 (vs1 := v1) (g := ctg C l g) (tt := ctt C X.mg W0 dt) (wi1 := cti C X.mg W0 sb dj) (g1 := ctg C l1 g1) (tt1 := ctt C X.mg W0 dt1) (te := cte C X.mg W0 sa de) hc nd hy hyl hsw hi ok hv1 (fun s H q cl fp => (hg s H q cl fp).pg) ht hj (fun s H q cl fp => (hg1 s H q cl fp).pg) ht1 he hs hs1) fun A0 H0 A ρ st σ H DD I g' => by
    obtain ⟨A0', H0', A', ρ', st', I', g2⟩ := hv (ctv_give I g')
    exact lc2_red hno hno1 hl hl1 hv1 I' g2
end
end Mir

set_option Elab.async false
set_option linter.all false
set_option maxRecDepth 100000
set_option maxHeartbeats 2000000
namespace Mir
open PySem PySem.Spec L2
open PyProof.Rows hiding St

section
variable {S : Type} {C : Deck S} {X : Cx} {W : WX} {A0 A A' : Addr → Prop} {H0 H H' B : Hp} {σ : St} {ρ : En} {st st' : S}
variable {e a b c tg iter elt : Expr} {es rest ifs : List Expr} {pos p p2 : Pos} {sc sc' sa sb vs : List Nat} {de da db dc : DE S} {dt dt' du : DT S} {dl di dj : DA S} {ds ds' : DS S} {mg : Str → Option Value} {DD : Ends} {xs ys : List Stmt}
/-! ### a list of one's own is changed -/
theorem own_apart (I : SAt C A0 H0 A H σ ρ st) {i : Nat} {es : List D} {q : Addr} (e : ρ[i]? = some (some (.own es))) (h : σ[i]? = some (some (.ref q))) : ∀ (j : Nat) ds, j ≠ i → ρ[j]? = some (some (.own ds)) → σ[j]? ≠ some (some (.ref q)) := fun j ds n ej z => I.apart j i ds es n ej e (z.trans h.symm)
theorem SAt.writeOwn {i : Nat} {gs0 fs : List D} {q : Addr} {ws : List V} (I : SAt C A0 H0 A H σ ρ st) (e : ρ[i]? = some (some (.own gs0))) (hσ : σ[i]? = some (some (.ref q))) (t : Dats C H A ws fs) : SAt C A0 H0 A (upd H q (.lst ws)) σ (ρ.set i (some (.own fs))) st := by
  obtain ⟨v, e1, q', ys, rfl, h1, h2, h3, h4, h5⟩ := I.sl i _ e
  rw [hσ] at e1
  cases e1
  have w : ∀ a, ¬ A a → upd H q (.lst ws) a = H a := fun a n => upd_ne fun z => n (z ▸ h1)
  have hl : i < ρ.length := (List.getElem?_eq_some_iff.mp e).1
  refine ⟨by rw [List.length_set]; exact I.len, fun j x ej => ?_, fun j k ds es n e1 e2 => ?_, fun a ha => ?_, I.sub, I.lim, I.dom, fun a o n h => ?_, C.stab _ _ _ I.at_ fun a ha => upd_ne fun z => h3 (z ▸ I.dom a ha)⟩
  · by_cases hj : j = i
    · subst hj
      rw [List.getElem?_set_self hl] at ej
      cases ej
      exact ⟨_, hσ, q, ws, rfl, h1, h2, h3, upd_same, t.write w⟩
    · rw [List.getElem?_set_ne (Ne.symm hj)] at ej
      obtain ⟨v, e1, s⟩ := I.sl j x ej
      refine ⟨v, e1, ?_⟩
      cases x with
      | val d => exact Dat.write s w
      | own gs =>
        obtain ⟨a, zs, rfl, g1, g2, g3, g4, g5⟩ := s
        have ne : a ≠ q := fun z => own_apart I e hσ j gs hj ej (by rw [e1, z])
        exact ⟨a, zs, rfl, g1, g2, g3, by rw [upd_ne ne]; exact g4, g5.write w⟩
  · have back : ∀ {j : Nat} {ds : List D}, (ρ.set i (some (Sl.own fs)))[j]? = some (some (Sl.own ds)) → ∃ ds', ρ[j]? = some (some (Sl.own ds')) := fun {j ds} e' => by
      by_cases hj : j = i
      · exact ⟨gs0, by rw [hj]; exact e⟩
      · exact ⟨ds, by rwa [List.getElem?_set_ne (Ne.symm hj)] at e'⟩
    obtain ⟨d1, q1⟩ := back e1
    obtain ⟨d2, q2⟩ := back e2
    exact I.apart j k d1 d2 n q1 q2
  · by_cases z : a = q
    · subst z; rw [upd_same]; exact fun z => nomatch z
    · rw [upd_ne z]; exact I.fresh a ha
  · rw [upd_ne (ne_of_none h h2)]; exact I.keep a o n h
/-- what an own slot is -/
theorem SAt.ownAt {i : Nat} {es : List D} (I : SAt C A0 H0 A H σ ρ st) (e : ρ[i]? = some (some (.own es))) : ∃ q ws, σ[i]? = some (some (.ref q)) ∧ H q = some (.lst ws) ∧ Dats C H A ws es ∧ ¬ C.dom q := by
  obtain ⟨v, e1, q', ys, rfl, h1, h2, h3, h4, h5⟩ := I.sl i _ e
  exact ⟨q', ys, e1, h4, h5, fun z => h3 (I.dom _ z)⟩
theorem frz_own {ρ : En} {sc : List Nat} {i : Nat} {es : List D} (h : (frz sc ρ)[i]? = some (some (.own es))) : ρ[i]? = some (some (.own es)) ∧ i ∉ sc := by
  rw [frz_get] at h
  cases q : ρ[i]? with
  | none => rw [q] at h; cases h
  | some y =>
    rw [q] at h
    cases y with
    | none => simp at h
    | some y => cases y with
      | val d => simp at h
      | own ds =>
        by_cases hi : i ∈ sc
        · simp [hi] at h
        · simp [hi] at h; subst h; exact ⟨rfl, hi⟩
theorem frzs_own {x : Sl} {ρ : En} {sc : List Nat} {i : Nat} {es : List D} (h : (frzs x sc ρ)[i]? = some (some (.own es))) : ρ[i]? = some (some (.own es)) := by
  unfold frzs at h
  split at h
  · exact h
  · exact (frz_own h).1
/-- a method of a list of one's own, by values -/
def MtD (C : Deck S) (r : V → List V → Hp → VK → Prop) (f : List D → List D → Option (List D × D)) : Prop := ∀ (A : Addr → Prop) (H : Hp) (p : Addr) (ws vs : List V) (es ds es' : List D) (d : D) (Q : VK), A p → H p = some (.lst ws) → Dats C H A ws es → Dats C H A vs ds → f es ds = some (es', d) →
  (∀ ws' v, Dats C H A ws' es' → Dat C H A v d → Q v (upd H p (.lst ws'))) → r (.ref p) vs H Q
def frzl (ds : List D) (sc : List Nat) (ρ : En) : En := if ds.all (fun d => scal (.val d)) then ρ else frz sc ρ
@[simp] theorem frzl_nil (ds : List D) (ρ : En) : frzl ds [] ρ = ρ := by unfold frzl; split <;> simp
theorem scal_less {v : V} {d : D} (h : Dat C H A v d) (hs : scal (.val d) = true) : Dat C H A' v d := by
  cases h <;> simp only [scal] at hs <;> first | cases hs | skip
  · exact .non
  · exact .bl _
  · exact .int _
  · exact .str (by assumption)
  · exact .deck
theorem SAt.freezel {ds : List D} {vs : List V} (I : SAt C A0 H0 A H σ ρ st) (sc : List Nat) (t : Dats C H (Amin A σ ρ sc) vs ds) : ∃ A', SAt C A0 H0 A' H σ (frzl ds sc ρ) st ∧ Dats C H A' vs ds := by
  unfold frzl
  by_cases hs : ds.all (fun d => scal (.val d)) = true
  · rw [if_pos hs]
    refine ⟨A, I, t.len, fun i x d e1 e2 => scal_less (t.at_ i x d e1 e2) ?_⟩
    exact List.all_eq_true.mp hs d (List.mem_of_getElem? e2)
  · rw [if_neg hs]
    exact ⟨_, I.freeze sc, t⟩
/-- x.m(..) as a statement -/
def dMeth (i : Nat) (sc : List Nat) (dl : DA S) (f : List D → List D → Option (List D × D)) (k : D → En → Option En) : DS S := fun ρ s => match ρ[i]? with
  | some (some (.own _)) => (dl ρ s).out ρ fun ds s1 => match (frzl ds sc ρ)[i]? with
    | some (some (.own es)) => match f es ds with
      | some (es', d) => match k d ((frzl ds sc ρ).set i (some (.own es'))) with
        | some ρ' => .nx ρ' s1
        | none => .bad
      | none => .bad
    | _ => .bad
  | _ => .bad
theorem meth_d {r : V → List V → Hp → VK → Prop} {f : List D → List D → Option (List D × D)} {k : D → En → Option En} {i : Nat} (I : SAt C A0 H0 A H σ ρ st) (hr : MtD C r f) (g : SG C X.mg W A0 H0 (dMeth i sc dl f k ρ st) DD) {R : V → Hp → Prop}
    (fin : ∀ A' H' ρ1 s' d v, SAt C A0 H0 A' H' σ ρ1 s' → Dat C H' A' v d → (∃ ρ', k d ρ1 = some ρ' ∧ SG C X.mg W A0 H0 (.nx ρ' s') DD) → R v H') : ∃ v, σ[i]? = some (some v) ∧ tyV X.K "list" v H ∧ cta C X.mg W sc dl σ H fun vs H1 => r v vs H1 R := by
  unfold dMeth at g
  split at g
  rotate_left
  · exact g.elim
  rename_i es0 q0
  obtain ⟨p, ws, h1, h2, h3, h4⟩ := I.ownAt q0
  refine ⟨_, h1, .inl ⟨rfl, ws, .of h2⟩, A0, H0, A, ρ, st, I, (g.out I).imp fun ds s1 H1 k1 t1 ⟨I1, g1⟩ vs dvs => ?_⟩
  obtain ⟨A', I2, t2⟩ := I1.freezel sc dvs
  split at g1
  rotate_left
  · exact g1.elim
  rename_i es q
  cases ef : f es ds with
  | none => rw [ef] at g1; exact g1.elim
  | some ed =>
    obtain ⟨es', d⟩ := ed
    rw [ef] at g1
    dsimp only at g1
    cases ek : k d ((frzl ds sc ρ).set i (some (.own es'))) with
    | none => rw [ek] at g1; exact g1.elim
    | some ρ' =>
      rw [ek] at g1
      obtain ⟨p', ws', e1, e2, e3, e4⟩ := I2.ownAt q
      rw [h1] at e1
      cases e1
      obtain ⟨v, e5, a, ys, e6, g2, g3, g4, g5, g6⟩ := I2.sl i _ q
      rw [h1] at e5
      cases e5
      cases e6
      refine hr A' H1 p ws' vs es ds es' d R g2 e2 e3 t2 ef fun ws2 v t' dv => ?_
      have I3 := I2.writeOwn q h1 t'
      exact fin A' _ _ s1 d v I3 (dv.write fun a n => upd_ne fun z => n (z ▸ g2)) ⟨ρ', ek, g1⟩
def kDrop : D → En → Option En := fun _ ρ => some ρ
/-- x.m(e, ..) -/
theorem psd_meth (i : Nat) {x m : Str} {id : String} {r : V → List V → Hp → VK → Prop} {f : List D → List D → Option (List D × D)} {q1 q2 q3 : Pos} (slot : Slot "list" m id) (hty : typeOf (.builtin id) = pure (.type "method_descriptor")) (hm : MtR X id r) (hr : MtD C r f) (h : PAd X C W (e :: es) sc dl) (hN : X.N[i]? = some x := by rfl) (hv : Vis X.env.scope x := by first | exact Or.inl rfl | exact Or.inr (Or.inl rfl) | exact Or.inr (Or.inr rfl)) (hd : (x == ("__debug__" : Str)) = false := by decide) (hcd : (x == ("__classdict__" : Str)) = false := by decide)
    (hbase : attributeBase (.Name x q1) m X.env (eval (.Name x q1) X.env) = eval (.Name x q1) X.env := by rfl)
    (hfew : ((backTo q3 (starEach (e :: es) X.env)).all (fun x => !x.1) && (backToKw q3 (keywordEach [] X.env)).all (fun x => x.1.isSome) && decide ((e :: es).length + ([] : List Keyword).length + (if ([] : List Keyword).isEmpty then 0 else 1) < 30)) = true := by rfl)
    (hline : (q2.endLine == q3.line) = true := by rfl) (hst : starEach (e :: es) X.env = (false, eval e X.env) :: starEach es X.env := by rfl) (hplain : (backTo q3 (starEach es X.env)).any (·.1) = false := by rfl)
    (hs : swapsWith (.Call (.Attribute (.Name x q1) m q2) (e :: es) [] q3) none pos.line X.env = pure false := by rfl) : PSd X C W (.Expr (.Call (.Attribute (.Name x q1) m q2) (e :: es) [] q3) pos) (dMeth i sc dl f kDrop) :=
  psd_of (ps_expr (pe_bm PySem.F.plainAttrs_list slot hty hm (pe_var hN hv hd hcd) h hbase hfew hline hst hplain) hs) fun A0 H0 A ρ st σ H DD I g => by
    obtain ⟨v, e1, e2, e3⟩ := meth_d (R := fun _ H' => DD.nx σ H') I hr g fun A' H' ρ1 s' d v J _ ⟨ρ', ek, g'⟩ => by cases ek; exact g' A' H' σ J
    exact ⟨v, e1, e2, e3⟩
/-- t = x.m() -/
theorem psd_methA0 (i : Nat) {x m : Str} {id : String} {r : V → List V → Hp → VK → Prop} {f : List D → List D → Option (List D × D)} {g : DG} {l : List Nat} {q1 q2 q3 : Pos} (slot : Slot "list" m id) (hty : typeOf (.builtin id) = pure (.type "method_descriptor")) (hm : MtR X id r) (hr : MtD C r f) (hg : PGd X C tg l g) (hN : X.N[i]? = some x := by rfl) (hv : Vis X.env.scope x := by first | exact Or.inl rfl | exact Or.inr (Or.inl rfl) | exact Or.inr (Or.inr rfl)) (hd : (x == ("__debug__" : Str)) = false := by decide) (hcd : (x == ("__classdict__" : Str)) = false := by decide)
    (hbase : attributeBase (.Name x q1) m X.env (eval (.Name x q1) X.env) = eval (.Name x q1) X.env := by rfl) (hline : (q2.endLine == q3.line) = true := by rfl)
    (hs : swapsWithSole [tg] (.Call (.Attribute (.Name x q1) m q2) [] [] q3) pos.line X.env = pure false := by rfl) (hw : swappedStores [tg] (.Call (.Attribute (.Name x q1) m q2) [] [] q3) X.env = pure none := by rfl) (h1 : (assignEach [tg] X.env).map (·.2) = [assign tg X.env] := by rfl) :
    PSd X C W (.Assign [tg] (.Call (.Attribute (.Name x q1) m q2) [] [] q3) pos) (dMeth i [] dNil f g) :=
  psd_of (ps_asg (pe_bm0 PySem.F.plainAttrs_list slot hty hm (pe_var hN hv hd hcd) hbase hline) hg.pg hs hw h1) fun A0 H0 A ρ st σ H DD I gg => by
    obtain ⟨v, e1, e2, e3⟩ := meth_d (R := fun x H1 => ctg C l g x σ H1 DD.nx) I hr gg fun A' H' ρ1 s' d v J dv ⟨ρ', ek, g'⟩ => ⟨A0, H0, A', ρ1, s', d, ρ', J, dv, ek, fun σ' J' _ => g' A' H' σ' J'⟩
    refine ⟨v, e1, e2, ?_⟩
    obtain ⟨A0', H0', A', ρ', st', I', g'⟩ := e3
    exact g'.done I'.at_ [] Dats.nil
/-- x.m() as a statement -/
theorem psd_meth0 (i : Nat) {x m : Str} {id : String} {r : V → List V → Hp → VK → Prop} {f : List D → List D → Option (List D × D)} {q1 q2 q3 : Pos} (slot : Slot "list" m id) (hty : typeOf (.builtin id) = pure (.type "method_descriptor")) (hm : MtR X id r) (hr : MtD C r f) (hN : X.N[i]? = some x := by rfl) (hv : Vis X.env.scope x := by first | exact Or.inl rfl | exact Or.inr (Or.inl rfl) | exact Or.inr (Or.inr rfl)) (hd : (x == ("__debug__" : Str)) = false := by decide) (hcd : (x == ("__classdict__" : Str)) = false := by decide)
    (hbase : attributeBase (.Name x q1) m X.env (eval (.Name x q1) X.env) = eval (.Name x q1) X.env := by rfl) (hline : (q2.endLine == q3.line) = true := by rfl)
    (hs : swapsWith (.Call (.Attribute (.Name x q1) m q2) [] [] q3) none pos.line X.env = pure false := by rfl) : PSd X C W (.Expr (.Call (.Attribute (.Name x q1) m q2) [] [] q3) pos) (dMeth i [] dNil f kDrop) :=
  psd_of (ps_expr (pe_bm0 PySem.F.plainAttrs_list slot hty hm (pe_var hN hv hd hcd) hbase hline) hs) fun A0 H0 A ρ st σ H DD I gg => by
    obtain ⟨v, e1, e2, e3⟩ := meth_d (R := fun _ H' => DD.nx σ H') I hr gg fun A' H' ρ1 s' d v J _ ⟨ρ', ek, g'⟩ => by cases ek; exact g' A' H' σ J
    refine ⟨v, e1, e2, ?_⟩
    obtain ⟨A0', H0', A', ρ', st', I', g'⟩ := e3
    exact g'.done I'.at_ [] Dats.nil
/-- append, extend, pop, insert(0, ..) -/
def fApp : List D → List D → Option (List D × D) := fun es ds => match ds with
  | [d] => if es.length < 65536 then some (es ++ [d], .non) else none
  | _ => none
def fExt : List D → List D → Option (List D × D) := fun es ds => match ds with
  | [.lst fs] => if es.length + fs.length ≤ 65536 then some (es ++ fs, .non) else none
  | _ => none
def fPop : List D → List D → Option (List D × D) := fun es ds => match ds with
  | [] => (es.getLast?).map fun d => (es.dropLast, d)
  | _ => none
def fIns : List D → List D → Option (List D × D) := fun es ds => match ds with
  | [.int 0, d] => if es.length < 65536 then some (d :: es, .non) else none
  | _ => none
theorem md_app : MtD C rAppend fApp := by
  intro A H p ws vs es ds es' d Q hA hp t tv e q
  match ds, e with
  | [d0], e =>
    simp only [fApp] at e
    by_cases z : es.length < 65536
    · rw [if_pos z] at e
      cases e
      obtain ⟨v, rfl, hv⟩ := tv.one
      exact ⟨p, ws, v, rfl, rfl, hp, by rw [t.len, line_eq]; omega, q _ _ (dats_snoc t hv) .non⟩
    · rw [if_neg z] at e; cases e
theorem md_ext : MtD C rExtend fExt := by
  intro A H p ws vs es ds es' d Q hA hp t tv e q
  match ds, e with
  | [.lst fs], e =>
    simp only [fExt] at e
    by_cases z : es.length + fs.length ≤ 65536
    · rw [if_pos z] at e
      cases e
      obtain ⟨v, rfl, hv⟩ := tv.one
      obtain ⟨b, zs, rfl, n, r, tz⟩ := hv.of_lst
      exact ⟨p, b, ws, zs, rfl, rfl, hp, r, by rw [t.len, tz.len, line_eq]; omega, q _ _ (t.append tz) .non⟩
    · rw [if_neg z] at e; cases e
theorem Dats.take {xs : List V} {ds : List D} (t : Dats C H A xs ds) (n : Nat) : Dats C H A (xs.take n) (ds.take n) := ⟨by simp [t.len], fun i x d e1 e2 => by
  rw [List.getElem?_take] at e1 e2
  split at e1
  · rename_i h; rw [if_pos h] at e2; exact t.at_ i x d e1 e2
  · cases e1⟩
theorem md_pop : MtD C rPop fPop := by
  intro A H p ws vs es ds es' d Q hA hp t tv e q
  match ds, e with
  | [], e =>
    simp only [fPop, Option.map_eq_some_iff] at e
    obtain ⟨d0, e1, e2⟩ := e
    cases e2
    rw [List.getLast?_eq_getElem?] at e1
    obtain ⟨v, h1, h2⟩ := t.get e1
    refine ⟨p, ws, v, rfl, tv.unnil, hp, by rw [t.len]; exact h1, ?_⟩
    rw [List.dropLast_eq_take] at q ⊢
    exact q _ _ (by rw [t.len]; exact t.take _) h2
theorem insAt0 {ws : List V} {v : V} : ws.insertIdx 0 v = v :: ws := rfl
end
end Mir

set_option Elab.async false
set_option linter.all false
set_option maxRecDepth 100000
set_option maxHeartbeats 2000000
namespace Mir
open PySem PySem.Spec L2
open PyProof.Rows hiding St

section
variable {S : Type} {C : Deck S} {X : Cx} {W : WX} {A0 A A' : Addr → Prop} {H0 H H' B : Hp} {σ : St} {ρ : En} {st st' : S}
variable {e a b c tg iter elt : Expr} {es rest ifs : List Expr} {pos p p2 : Pos} {sc sc' sa sb vs : List Nat} {de da db dc : DE S} {dt dt' du : DT S} {dl di dj : DA S} {ds ds' : DS S} {mg : Str → Option Value} {DD : Ends} {xs ys : List Stmt} {dv dw : E1 S Sl}
/-! ### a, b = e1, e2 -/
theorem ctv_step0 (I : SAt C A0 H0 A H σ ρ st) {f : Sl → S → Out S} (g : SG C X.mg W A0 H0 ((dv ρ st).out ρ f) DD) {R : V → Hp → Prop}
    (fin : ∀ A' H' x s' v, SAt C A0 H0 A' H' σ ρ s' → Pend C A0 H0 A' H' σ ρ v x → Keep C.dom H H' → (∀ a, A a → A' a) → (∀ a, A' a → A a ∨ H a = none) → (∀ ds, x = .own ds → ∃ p, v = .ref p ∧ H p = none) → SG C X.mg W A0 H0 (f x s') DD → R v H') : ctv C X.mg W [] dv σ H R :=
  ⟨A0, H0, A, ρ, st, I, (g.out I).imp fun x s1 H1 k1 t1 ⟨I1, g1⟩ => by
    have hn : ∀ {p}, H1 p = none → H p = none := fun {p} hp => by
      cases e : H p with
      | none => rfl
      | some o =>
        by_cases z : C.dom p
        · exact absurd hp (C.there _ _ _ t1 z)
        · have := k1 p o z e; rw [hp] at this; cases this
    cases x with
    | val d =>
      intro v dv
      rw [Amin.nil] at dv
      exact fin A H1 (.val d) s1 v I1 ⟨dv, fun ds e => nomatch e⟩ k1 (fun _ z => z) (fun _ z => .inl z) (fun ds e => nomatch e) g1
    | own ds =>
      intro p xs hp t hz
      rw [Amin.nil] at t
      obtain ⟨I3, P3⟩ := I1.newOwn hp t
      exact fin _ _ _ s1 _ I3 P3 (k1.trans (Keep.upd hp)) (fun _ z => .inl z) (fun a z => z.imp id fun w => by rw [w]; exact hn hp) (fun ds e => ⟨p, rfl, hn hp⟩) g1⟩
theorem Pend.move {v : V} {x : Sl} (P : Pend C A0 H0 A H σ ρ v x) (I : SAt C A0 H0 A H σ ρ st) (k : Keep C.dom H H') (h1 : ∀ a, A a → A' a) (h2 : ∀ a, A' a → A a ∨ H a = none) : Pend C A0 H0 A' H' σ ρ v x := by
  refine ⟨?_, P.apart⟩
  have s := P.sl
  cases x with
  | val d => exact Dat.lift s k I.domA h2
  | own ds =>
    obtain ⟨a, ys, rfl, g1, g2, g3, g4, g5⟩ := s
    exact ⟨a, ys, rfl, h1 a g1, g2, g3, k a _ (fun z => g3 (I.dom a z)) g4, g5.lift k I.domA h2⟩
theorem psd_par (i j : Nat) {x y : Str} {px py pt : Pos} {kt k2 : Nat} {pt2 : Pos} (hc : X.calm = true) (nd : X.N.Nodup) (ha : PV X C W a sa dv) (hb : PV X C W b sb dw) (hsa : sa = [] := by rfl) (hsb : sb = [] := by rfl) (hi : X.N[i]? = some x := by rfl) (hj : X.N[j]? = some y := by rfl) (hij : i ≠ j := by decide)
    (hx : X.env.scope.names.lookup x = some .local := by rfl) (hy : X.env.scope.names.lookup y = some .local := by rfl)
    (hw : swappedStores [.Tuple [.Name x px, .Name y py] kt pt] (.Tuple [a, b] k2 pt2) X.env = pure (some [x, y]) := by rfl)
    (hs : swapsWithSole [.Tuple [.Name x px, .Name y py] kt pt] (.Tuple [a, b] k2 pt2) pos.line X.env = pure false := by rfl)
    (h1 : starEach [a, b] X.env = (false, eval a X.env) :: starEach [b] X.env := by rfl) (h2 : starEach [b] X.env = (false, eval b X.env) :: starEach [] X.env := by rfl) :
    PSd X C W (.Assign [.Tuple [.Name x px, .Name y py] kt pt] (.Tuple [a, b] k2 pt2) pos) (dPar i j sa sb dv dw) :=
  psd_of (ps_par hc nd hi hj hij hx hy (pa_cons ha (pa_cons hb pa_nil h2) h1) hw hs) fun A0 H0 A ρ st σ H DD I g => by
    subst hsa hsb
    refine ctv_step0 I g fun A1 H1 x1 s1 v1 I1 P1 _ _ _ _ g1 => ?_
    simp only [frzs_nil] at g1
    refine ctv_step0 I1 g1 fun A2 H2 x2 s2 v2 I2 P2 k2 m2 l2 n2 g2 => ?_
    have P1' := P1.move I1 k2 m2 l2
    have I3 := I2.give (i := i) P1'
    have P3 : Pend C A0 H0 A2 H2 (σ.set i (some v1)) (ρ.set i (some x1)) v2 x2 := ⟨P2.sl, fun ds e k es ek => by
      obtain ⟨p, ep, hp⟩ := n2 ds e
      by_cases hk : k = i
      · subst hk
        have hl : k < ρ.length := by have := (List.getElem?_eq_some_iff.mp ek).1; rwa [List.length_set] at this
        rw [List.getElem?_set_self hl] at ek
        cases ek
        obtain ⟨q, ws, rfl, _, _, _, h4, _⟩ := P1.sl
        rw [List.getElem?_set_self (by rw [I.len]; exact hl), ep]
        intro z
        cases z
        rw [hp] at h4; cases h4
      · rw [List.getElem?_set_ne (Ne.symm hk)] at ek ⊢
        exact P2.apart ds e k es ek⟩
    exact ⟨v1, v2, rfl, g2 A2 H2 _ (I3.give P3)⟩

/-! ### x op= e, x[i] = e -/
def dAug (i : Nat) (f : D → D → Option D) (de : DE S) : DS S := fun ρ s => match ρ[i]? with
  | some (some (.val d)) => (de ρ s).out ρ fun y s1 => match f d y with
    | some z => .nx (ρ.set i (some (.val z))) s1
    | none => .bad
  | _ => .bad
theorem psd_aug {op : Operator} {r : R2} {f : D → D → Option D} (i : Nat) {x : Str} (nd : X.N.Nodup) (ho : OpR X (inplaceOp op) r) (hr : OpD C r f) (h : PD X C W e [] de) (hi : X.N[i]? = some x := by rfl) (hx : Loc X.env.scope x := by first | exact Or.inl rfl | exact Or.inr rfl) (hf : X.fn x = true ∨ X.env.scope.names.lookup x = some .local := by first | exact .inl rfl | exact .inr rfl | assumption) :
    PSd X C W (.AugAssign (.Name x p) op e pos) (dAug i f de) :=
  psd_of (ps_aug nd hi hx h ho hf) fun A0 H0 A ρ st σ H DD I g => by
    unfold dAug at g
    split at g
    rotate_left
    · exact g.elim
    rename_i d q
    obtain ⟨v, e1, s⟩ := I.sl i _ q
    refine ⟨v, e1, A0, H0, A, ρ, st, I, (g.out I).imp fun y s1 H1 k1 t1 ⟨I1, g1⟩ w dw => ?_⟩
    rw [Amin.nil] at dw
    cases ef : f d y with
    | none => rw [ef] at g1; exact g1.elim
    | some z =>
      rw [ef] at g1
      exact hr A s1 H1 v w d y z _ ⟨I1.fresh, I1.domA, t1⟩ (Dat.keep s k1 I.domA) dw ef fun H2 u k t hu => g1 A H2 _ ((I1.next k t).set hu)
theorem opr_iadd : OpR X (inplaceOp .Add) (fun x y H Q => (rI0 fun i j => V.int (i + j)) x y H Q ∨ ∃ i j, x = .str i ∧ y = .str j ∧ i.length + j.length ≤ sizeLine ∧ Q (.str (i ++ j)) H) := iop_add.or iop_add_str
def iaddD : D → D → Option D
  | .int i, .int j => some (.int (i + j))
  | .str x, .str y => if x.length + y.length ≤ 1048576 then some (.str (x ++ y)) else none
  | _, _ => none
theorem od_iadd : OpD C (fun x y H Q => (rI0 fun i j => V.int (i + j)) x y H Q ∨ ∃ i j, x = .str i ∧ y = .str j ∧ i.length + j.length ≤ sizeLine ∧ Q (.str (i ++ j)) H) iaddD :=
  ((od_int0 (g := fun i j => i + j)).or od_addS).imp fun x y d e => by
    cases x <;> cases y <;> simp only [iaddD] at e <;> try cases e
    all_goals simp only [fI, addS, Option.map_some, Option.none_or, Option.some_or, Option.or_none]
    all_goals exact e
theorem psd_iadd (i : Nat) {x : Str} (nd : X.N.Nodup) (h : PD X C W e [] de) (hi : X.N[i]? = some x := by rfl) (hx : Loc X.env.scope x := by first | exact Or.inl rfl | exact Or.inr rfl) (hf : X.fn x = true ∨ X.env.scope.names.lookup x = some .local := by first | exact .inl rfl | exact .inr rfl | assumption) :
    PSd X C W (.AugAssign (.Name x p) .Add e pos) (dAug i iaddD de) := psd_aug i nd opr_iadd od_iadd h hi hx hf
def mulOk (i j : Int) : Bool := (-(2 ^ 64) < i && i < 2 ^ 64) || (-(2 ^ 64) < j && j < 2 ^ 64)
theorem mulOk_c (i j : Int) (h : mulOk i j = true) : CMul i j := by
  unfold mulOk at h
  simp only [Bool.or_eq_true, Bool.and_eq_true, decide_eq_true_eq] at h
  exact h
def mulI : D → D → Option D := fI fun i j => if mulOk i j then some (i * j) else none
theorem psd_imul (i : Nat) {x : Str} (nd : X.N.Nodup) (h : PD X C W e [] de) (hi : X.N[i]? = some x := by rfl) (hx : Loc X.env.scope x := by first | exact Or.inl rfl | exact Or.inr rfl) (hf : X.fn x = true ∨ X.env.scope.names.lookup x = some .local := by first | exact .inl rfl | exact .inr rfl | assumption) :
    PSd X C W (.AugAssign (.Name x p) .Mult e pos) (dAug i mulI de) := psd_aug i nd iop_mul (od_int _ mulOk_c) h hi hx hf
/-- l * k, t * k for small ones; ints -/
def repOk (n : Nat) (k : Int) : Bool := decide (k ≤ 65536) && decide (-65536 ≤ k) && decide (n * k.toNat ≤ 65536)
def mulD : D → D → Option D
  | .int i, .int j => if mulOk i j then some (.int (i * j)) else none
  | .lst ds, .int k => if repOk ds.length k then some (.lst (List.replicate k.toNat ds).flatten) else none
  | _, _ => none
theorem rRep_eq : ∃ R, @rRep = R := ⟨_, rfl⟩
theorem pd_mulI (ha : PD X C W a sa da) (hb : PD X C W b sb db) : PD X C W (.BinOp a .Mult b pos) (sa ++ sb) (dBin mulI da db) := pd_bin op_mul (od_int _ mulOk_c) ha hb
def modD : D → D → Option D := fI fun i j => if decide (0 < j) then some (i % j) else none
theorem pd_mod (ha : PD X C W a sa da) (hb : PD X C W b sb db) : PD X C W (.BinOp a .Mod b pos) (sa ++ sb) (dBin modD da db) := pd_bin op_mod (od_int (fun _ j => decide (0 < j)) fun i j h => of_decide_eq_true h) ha hb
def fdivD : D → D → Option D := fI fun i j => if decide (0 < j) && decide (j < 1073741824) then some (i / j) else none
theorem pd_fdiv (ha : PD X C W a sa da) (hb : PD X C W b sb db) : PD X C W (.BinOp a .FloorDiv b pos) (sa ++ sb) (dBin fdivD da db) := pd_bin op_fdiv (od_int (fun _ j => decide (0 < j) && decide (j < 1073741824)) fun i j h => by
  simp only [Bool.and_eq_true, decide_eq_true_eq] at h; exact h) ha hb
def negD : D → Option D
  | .int i => some (.int (-i))
  | _ => none
def dUn (f : D → Option D) (de : DE S) : DE S := fun ρ s => (de ρ s).bind fun d s1 => ofO s1 (f d)
theorem pd_neg (h : PD X C W e sc de) : PD X C W (.UnaryOp .USub e pos) [] (dUn negD de) :=
  pd_of (pe_un un_neg h) fun A0 H0 A ρ st σ H Q I g => ⟨A0, H0, A, ρ, st, I, g.bind.imp fun d s1 H1 k1 t1 g1 v dv => by
    obtain ⟨d', e', q⟩ := g1.ofO
    cases d <;> simp only [negD] at e' <;> cases e'
    cases dv
    exact ⟨_, rfl, q H1 Keep.refl t1 _ (.int _)⟩⟩

/-! ### own errors -/
/-- what is known of an error's class -/
structure ErrOk (K : PySem.W.Frag) (mg : Str → Option Value) (c : Str) (a : Addr) : Prop where
  g : mg c = some (.ref a)
  x : PySem.W.excIn K a [.type "ValueError", .type "Exception", .type "BaseException", .type "object"] "ValueError.__new__" = true
  k : PySem.W.keepIn K (.ref a) = true
  b : PySem.W.subIn K (.ref a) (.type "BaseException") = some true
  t : PySem.W.typeIn K (.ref a) = some (.type "type")
  i : PySem.W.isClsIn K a = true
def dRaise (c : Str) : DS S := fun ρ s => .ex c ρ s
theorem psd_raise {x m : Str} {q : Addr} {j : Nat} {p2 p3 : Pos} (E : ErrOk X.K X.mg x q) (hc : X.calm = true) (tk : Takes X W) (hg : Gl X x := by rfl) (hdb : (x == ("__debug__" : Str)) = false := by decide) :
    PSd X C W (.Raise (some (.Call (.Name x p) [.Constant (.str m) j p2] [] p3)) none pos) (dRaise x : DS S) :=
  psd_of (ps_raise hc tk (pmk_own PySem.F.excBase_ValueError E.x E.g E.k (raises_own E.b E.t) hg hdb)) fun A0 H0 A ρ st σ H DD I g => g q A H σ E.g I
/-- which error's class is one of which -/
def handle (sub : Str → Str → Option Bool) (c : Str) (ρ : En) (s : S) : List (Str × DS S) → Out S
  | [] => .ex c ρ s
  | (x, d) :: r => match sub c x with
    | some true => (match d ρ s with
      | .ex _ _ _ => .bad
      | o => o)
    | some false => handle sub c ρ s r
    | none => .bad
def dTry (sub : Str → Str → Option Bool) (ds : DS S) (hs : List (Str × DS S)) : DS S := fun ρ s => match ds ρ s with
  | .ex c ρ' s' => handle sub c ρ' s' hs
  | o => o
/-- the clauses -/
inductive HsOk (X : Cx) (C : Deck S) : List ExceptHandler → List (Value × (Addr → Value → Option Addr → TS)) → List (Str × DS S) → Prop
  | nil : HsOk X C [] [] []
  | cons {x : Str} {q : Addr} {b0 : Stmt} {suite : List Stmt} {np pos' : Pos} {hds : List ExceptHandler} {l : List (Value × (Addr → Value → Option Addr → TS))} {hs : List (Str × DS S)} {d : DS S} (hm : X.mg x = some (.ref q)) (hg : Gl X x) (hdb : (x == ("__debug__" : Str)) = false)
      (hsu : ∀ (a : Addr) (oe : Obj) (pn : List (Addr × Obj)), PBd (X.suite a ((a, oe) :: pn)) C (fun _ _ _ _ => False) (b0 :: suite) d) (r : HsOk X C hds l hs) :
      HsOk X C (.ExceptHandler (some (.Name x np)) none (b0 :: suite) pos' :: hds) ((.ref q, fun _ _ _ => cts C X.mg (fun _ _ _ _ => False) d) :: l) ((x, d) :: hs)
theorem HsOk.hds {hds : List ExceptHandler} {l : List (Value × (Addr → Value → Option Addr → TS))} {hs : List (Str × DS S)} (h : HsOk X C hds l hs) : HdsOk X hds l := by
  induction h with
  | nil => exact .nil
  | cons hm hg hdb hsu r ih => exact .cons ⟨hg, hdb, .inl hm⟩ (fun a oe cls d pn _ _ => hsu a oe pn) ih
/-- what is known of the classes: sub tells it -/
def SubOk (K : PySem.W.Frag) (mg : Str → Option Value) (sub : Str → Str → Option Bool) : Prop := ∀ c x b, sub c x = some b → ∃ a a', mg c = some (.ref a) ∧ mg x = some (.ref a') ∧ PySem.W.exmOne K (.ref a) (.ref a') = some b
theorem handle_ok {hds : List ExceptHandler} {l : List (Value × (Addr → Value → Option Addr → TS))} {hs : List (Str × DS S)} (h : HsOk X C hds l hs) {sub : Str → Str → Option Bool} (hsub : SubOk X.K X.mg sub) {c : Str} {s : S} (I : SAt C A0 H0 A H σ ρ s) {q : Addr} (hq : X.mg c = some (.ref q)) (g : SG C X.mg W A0 H0 (handle sub c ρ s hs) DD) : wMany X.K W DD l (.ref q) none σ H := by
  induction h with
  | nil => exact g q A H σ hq I
  | @cons x q' b0 suite np pos' hds l hs d hm hg hdb hsu r ih =>
    unfold handle at g
    cases e : sub c x with
    | none => rw [e] at g; exact g.elim
    | some b =>
      rw [e] at g
      obtain ⟨a, a', h1, h2, h3⟩ := hsub c x b e
      rw [hq] at h1
      rw [hm] at h2
      cases h1
      cases h2
      cases b with
      | true =>
        dsimp only at g
        refine ⟨true, h3, fun _ a1 _ => ⟨A0, H0, A, ρ, s, I, ?_⟩, fun z => nomatch z⟩
        cases eo : d ρ s with
        | ex c' ρ' s' => rw [eo] at g; exact g.elim
        | nx ρ' s' => rw [eo] at g; exact g
        | rt d' s' => rw [eo] at g; exact g
        | bk ρ' s' => rw [eo] at g; exact g
        | ct ρ' s' => rw [eo] at g; exact g
        | bad => rw [eo] at g; exact g
      | false => exact ⟨false, h3, (fun z => nomatch z), fun _ => ih g⟩
theorem psd_try {sub : Str → Str → Option Bool} {h0 : ExceptHandler} {hds : List ExceptHandler} {l : List (Value × (Addr → Value → Option Addr → TS))} {hs : List (Str × DS S)} (hst : X.stack = X.env :: X.outer) (hf : X.env.frame = some X.env.locals) (tk : Takes X W) (hsub : SubOk X.K X.mg sub)
    (hb : ∀ (W' : WX) (pn : List (Addr × Obj)) (xe : Value → Shared → Prop), Takes (X.tr pn xe) W' → PassesOwn (model X.prog X.w) X.A X.env xe → PBd (X.tr pn xe) C W' xs ds) (hh : HsOk X C (h0 :: hds) l hs) :
    PSd X C W (.Try xs (h0 :: hds) [] [] pos) (dTry sub ds hs) :=
  psd_of (ps_try_many (tb := fun W' => cts C X.mg W' ds) hst hf tk (fun W' pn xe t p => hb W' pn xe t p) hh.hds) fun A0 H0 A ρ st σ H DD I g => by
    refine ⟨A0, H0, A, ρ, st, I, ?_⟩
    unfold dTry at g
    cases eo : ds ρ st with
    | ex c ρ' s' =>
      rw [eo] at g
      exact fun q A' H' σ' hq J => handle_ok hh hsub J hq g
    | nx ρ' s' => rw [eo] at g; exact g
    | rt d' s' => rw [eo] at g; exact g
    | bk ρ' s' => rw [eo] at g; exact g
    | ct ρ' s' => rw [eo] at g; exact g
    | bad => rw [eo] at g; exact g

/-! ### a def by its body -/
/-- the function of a body -/
def mOf (N : Nat) (ds : DS S) : List D → S → R S D := fun args s => match ds (args.map (fun d => some (.val d)) ++ List.replicate (N - args.length) none) s with
  | .rt d s' => .ok d s'
  | .nx _ s' => .ok .non s'
  | .ex c _ s' => .ex c s'
  | _ => .bad
variable {PC : Deck S → Prop}
theorem start_sat {N : List Str} {vs : List V} {args : List D} {s : S} (V0 : VAt C A H s) (t : Dats C H A vs args) : SAt C A H A H (L2.start N vs) (args.map (fun d => some (.val d)) ++ List.replicate (N.length - args.length) none) s where
  len := by simp [L2.start, t.len]
  sl := fun i x e => by
    by_cases hi : i < args.length
    · rw [List.getElem?_append_left (by simpa using hi), List.getElem?_map] at e
      cases h : args[i]? with
      | none => rw [h] at e; cases e
      | some d =>
        rw [h] at e
        cases e
        obtain ⟨v, h1, h2⟩ := t.get h
        refine ⟨v, ?_, h2⟩
        unfold L2.start
        rw [List.getElem?_append_left (by simpa [t.len] using hi), List.getElem?_map, h1]
        rfl
    · rw [List.getElem?_append_right (by simpa using hi), List.getElem?_replicate] at e
      split at e <;> cases e
  apart := fun i j ds es n e1 e2 => by
    exfalso
    by_cases hi : i < args.length
    · rw [List.getElem?_append_left (by simpa using hi), List.getElem?_map] at e1
      cases h : args[i]? <;> rw [h] at e1 <;> cases e1
    · rw [List.getElem?_append_right (by simpa using hi), List.getElem?_replicate] at e1
      split at e1 <;> cases e1
  fresh := V0.fresh
  sub := fun _ z => z
  lim := fun _ z => .inl z
  dom := V0.dom
  keep := Keep.refl
  at_ := V0.at_
/-- the context of a body -/
structure BX (X : Cx) (W : WX) (j : Nat) : Prop where
  calm : X.calm = true
  tk : Takes X W
  po : PassesOwn (model X.prog X.w) X.A X.env X.xe
  room : Room j X.A
theorem fn_mk0 {P : Program} {w : World} {K : PySem.W.Frag} {mg : Str → Option Value} {base : Heap} {x : Str} {stm : Stmt} {f : Addr} {fd : FuncData} {N ps : List Str} {k : Nat} {ds : DS S} (F : Fun K x x stm f fd) (hg : mg x = some (.ref f)) (hk : PySem.W.keepIn K (.ref f) = true) (hb : Binds K fd ps []) (sc : FnScope N ps (defScope stm))
    (body : ∀ (cdv : Value) (A : Around) (outer : List PySem.Env) (s : Shared) (H : Hp) (E : XK) (C : Deck S), PC C → Room k (A.deeper (envOfC x (defScope stm) s.heap.objs.size f cdv)) → PBd (cxOf (L2.CX P w) P w K mg base N x (defScope stm) f cdv A outer s H E) C (fun cls d _ H => E cls d H) (defBody stm) ds) :
    Fn P w K mg base PC x (k + 1) ps.length (mOf N.length ds) := by
  refine ⟨f, fd, ps, F.okX sc (fun vs H Q E h => ?_) (fun cdv A outer s H vs Q E hr h => ?_), hg, hk, hb⟩
  · obtain ⟨C, A, s, args, pc, V0, t, hl, g⟩ := h
    rw [t.len, hl]
  · obtain ⟨C, A1, s1, args, pc, V0, t, hl, g⟩ := h
    refine ⟨_, body cdv A outer s H E C pc hr, A1, H, A1, _, s1, start_sat V0 t, ?_⟩
    unfold mOf at g
    generalize ho : ds (args.map (fun d => some (.val d)) ++ List.replicate (N.length - args.length) none) s1 = o at g
    cases o with
    | rt d s' => exact fun H' v k a h => g H' v k a h
    | nx ρ s' => exact fun A' H' σ J => g H' .non J.keep J.at_ .non
    | ex c ρ s' => exact fun q A' H' σ m J => g q H' m J.keep J.at_
    | bk ρ s' => exact g.elim
    | ct ρ s' => exact g.elim
    | bad => exact g.elim
end
end Mir

set_option Elab.async false
set_option linter.all false
set_option maxRecDepth 100000
set_option maxHeartbeats 2000000
namespace Mir
open PySem PySem.Spec L2
open PyProof.Rows hiding St

section
variable {S : Type} {C : Deck S} {X : Cx} {W : WX} {A0 A A' : Addr → Prop} {H0 H H' B : Hp} {σ : St} {ρ : En} {st st' : S}
variable {e a b c tg iter elt : Expr} {es rest ifs : List Expr} {pos p p2 : Pos} {sc sc' sa sb vs : List Nat} {de da db dc : DE S} {dt dt' du : DT S} {dl di dj dk : DA S} {ds ds' : DS S} {mg : Str → Option Value} {DD : Ends} {xs ys : List Stmt} {dv dw : E1 S Sl}
/-! ### a module's constants -/
theorem pd_gint {x : Str} {i : Int} (h : ∃ t, X.mg x = some (.int i t)) (hg : Gl X x := by rfl) (hdb : (x == ("__debug__" : Str)) = false := by decide) : PD X C W (.Name x pos) [] (dC (.int i)) := by
  obtain ⟨t, h⟩ := h
  exact pd_glob (v := .int i) h ⟨t, rfl⟩ (fun H A => .int i) hg hdb
theorem pd_gstr {x y : Str} {l : List Nat} (h : ∃ t, X.mg x = some (.str y t)) (hy : y = mkS l) (hl : SOk l) (hg : Gl X x := by rfl) (hdb : (x == ("__debug__" : Str)) = false := by decide) : PD X C W (.Name x pos) [] (dC (.str l)) := by
  obtain ⟨t, h⟩ := h
  subst hy
  exact pd_glob (v := .str _) h ⟨t, rfl⟩ (fun H A => .str hl) hg hdb

/-! ### in -/
theorem flat_of {v : V} {d : D} (h : Dat C H A v d) (f : flatD d = true) : flatV v = true := by
  cases h <;> simp only [flatD] at f <;> first | rfl | cases f
theorem eqV_of {v w : V} {d d' : D} (h : Dat C H A v d) (h' : Dat C H A w d') (f : flatD d = true) (f' : flatD d' = true) : eqV v w = eqD d d' := by
  cases h <;> simp only [flatD] at f <;> first | cases f | skip
  all_goals cases h' <;> simp only [flatD] at f' <;> first | (cases f'; done) | skip
  all_goals first
    | (simp only [eqV, eqD]; done)
    | (simp only [eqV, eqD, mkS_eq]; done)
    | rfl
theorem flats_of {vs : List V} {ds : List D} (t : Dats C H A vs ds) (f : ds.all flatD = true) : vs.all flatV = true := by
  rw [List.all_eq_true] at f ⊢
  intro v hv
  obtain ⟨i, hi⟩ := List.mem_iff_getElem?.mp hv
  have hl : i < ds.length := by rw [← t.len]; exact (List.getElem?_eq_some_iff.mp hi).1
  exact flat_of (t.at_ i v _ hi (List.getElem?_eq_getElem hl)) (f _ (List.getElem_mem hl))
theorem inV_of {v : V} {d : D} (h : Dat C H A v d) (f : flatD d = true) : ∀ {vs : List V} {ds : List D}, Dats C H A vs ds → ds.all flatD = true → inV v vs = ds.any fun y => eqD y d
  | vs, [], t, _ => by rw [t.unnil]; rfl
  | vs, e :: ds, t, g => by
    obtain ⟨x, r, rfl, h1, h2⟩ := t.uncons
    simp only [List.all_cons, Bool.and_eq_true] at g
    show (eqV x v || inV v r) = _
    rw [eqV_of h1 h g.1 f, inV_of h f h2 g.2]; rfl
def rInS (neg : Bool) : R2 := fun x y H Q => ∃ (c : Nat) (z : Str), x = .str ⟨#[c]⟩ ∧ y = .str z ∧ Q (.bl (if neg then !decide (c ∈ z.cps.toList) else decide (c ∈ z.cps.toList))) H
theorem op_inS : OpR X (compareOp .In) (rInS false) := op_in_sign
theorem op_notInS : OpR X (compareOp .NotIn) (rInS true) := op_notIn_sign
theorem oc_in {K : PySem.W.Frag} (neg : Bool) : OpD C (fun x y H Q => rInS neg x y H Q ∨ rIn K neg x y H Q) (inF neg) := by
  intro A s H x y dx dy d Q I h1 h2 e q
  cases dy with
  | str z =>
    cases dx <;> simp only [inF] at e <;> try cases e
    rename_i l
    match l, e with
    | [c], e =>
      simp only [inF] at e
      cases e
      cases h1
      cases h2 with
      | str o =>
        refine .inl ⟨c, _, rfl, rfl, ?_⟩
        refine q H _ Keep.refl I.at_ ?_
        have e : decide (c ∈ (mkS z).cps.toList) = z.contains c := by
          rw [show (mkS z).cps.toList = z from by simp]
          rw [Bool.eq_iff_iff]; simp
        rw [e]
        exact .bl _
    | [], e => simp [inF] at e
    | _ :: _ :: _, e => simp [inF] at e
  | tup ys =>
    have e' : (if flatD dx && ys.all flatD then some (D.bl (if neg then !ys.any (fun y => eqD y dx) else ys.any fun y => eqD y dx)) else none) = some d := by
      cases dx <;> first | exact e | (rename_i l; match l, e with | [], e => exact e | [c], e => exact e | _ :: _ :: _, e => exact e)
    by_cases z : (flatD dx && ys.all flatD) = true
    · rw [if_pos z] at e'
      simp only [Bool.and_eq_true] at z
      cases e'
      obtain ⟨p, vs, rfl, n, r, t⟩ := h2.of_tup
      refine .inr ⟨p, vs, rfl, .inr (.of r), flat_of h1 z.1, flats_of t z.2, ?_⟩
      rw [inV_of h1 z.1 t z.2]
      exact q H _ Keep.refl I.at_ (.bl _)
    · rw [if_neg z] at e'; cases e'
  | lst ys =>
    have e' : (if flatD dx && ys.all flatD then some (D.bl (if neg then !ys.any (fun y => eqD y dx) else ys.any fun y => eqD y dx)) else none) = some d := by
      cases dx <;> first | exact e | (rename_i l; match l, e with | [], e => exact e | [c], e => exact e | _ :: _ :: _, e => exact e)
    by_cases z : (flatD dx && ys.all flatD) = true
    · rw [if_pos z] at e'
      simp only [Bool.and_eq_true] at z
      cases e'
      obtain ⟨p, vs, rfl, n, r, t⟩ := h2.of_lst
      refine .inr ⟨p, vs, rfl, .inl (.of r), flat_of h1 z.1, flats_of t z.2, ?_⟩
      rw [inV_of h1 z.1 t z.2]
      exact q H _ Keep.refl I.at_ (.bl _)
    · rw [if_neg z] at e'; cases e'
  | non => cases dx <;> first | cases e | (rename_i l; match l, e with | [], e => cases e | [c], e => cases e | _ :: _ :: _, e => cases e)
  | bl _ => cases dx <;> first | cases e | (rename_i l; match l, e with | [], e => cases e | [c], e => cases e | _ :: _ :: _, e => cases e)
  | int _ => cases dx <;> first | cases e | (rename_i l; match l, e with | [], e => cases e | [c], e => cases e | _ :: _ :: _, e => cases e)
  | dic _ _ => cases dx <;> first | cases e | (rename_i l; match l, e with | [], e => cases e | [c], e => cases e | _ :: _ :: _, e => cases e)
  | deck => cases dx <;> first | cases e | (rename_i l; match l, e with | [], e => cases e | [c], e => cases e | _ :: _ :: _, e => cases e)
  | ext _ => cases dx <;> first | cases e | (rename_i l; match l, e with | [], e => cases e | [c], e => cases e | _ :: _ :: _, e => cases e)
theorem k_in : CmpOk X C .In (fun x y H Q => rInS false x y H Q ∨ rIn X.K false x y H Q) (inF false) := ⟨op_inS.or op_in_seq, oc_in false⟩
theorem k_notin : CmpOk X C .NotIn (fun x y H Q => rInS true x y H Q ∨ rIn X.K true x y H Q) (inF true) := ⟨op_notInS.or op_notIn_seq, oc_in true⟩

/-! ### calls with keywords -/
def pick {α : Type} (is : List Nat) (l : List α) : List α := is.filterMap fun i => l[i]?
theorem Vals.append' {xs ys : List V} {us ws : List Value} (r : Vals xs us) (q : Vals ys ws) : Vals (xs ++ ys) (us ++ ws) := r.append q
theorem pick_vals {xs : List V} {us : List Value} (r : Vals xs us) : ∀ is : List Nat, Vals (pick is xs) (pick is us)
  | [] => .nil
  | i :: is => by
    unfold pick
    rw [List.filterMap_cons, List.filterMap_cons]
    cases h : xs[i]? with
    | none => rw [r.none_of h]; exact pick_vals r is
    | some x =>
      obtain ⟨u, hu, ru⟩ := r.get h
      rw [hu]
      exact .cons ru (pick_vals r is)
theorem pick_dats {xs : List V} {es : List D} (t : Dats C H A xs es) : ∀ is : List Nat, Dats C H A (pick is xs) (pick is es)
  | [] => .nil
  | i :: is => by
    unfold pick
    rw [List.filterMap_cons, List.filterMap_cons]
    cases h : es[i]? with
    | none =>
      have : xs[i]? = none := by rw [List.getElem?_eq_none_iff] at h ⊢; rw [t.len]; exact h
      rw [this]; exact pick_dats t is
    | some d =>
      obtain ⟨x, hx, hd⟩ := t.get h
      rw [hx]
      exact .cons hd (pick_dats t is)
theorem pick_len {α : Type} {l : List α} : ∀ {is : List Nat}, (∀ i ∈ is, i < l.length) → (pick is l).length = is.length
  | [], _ => rfl
  | i :: is, h => by
    unfold pick
    rw [List.filterMap_cons, List.getElem?_eq_getElem (h i (by simp))]
    simp only [List.length_cons]
    have := pick_len (l := l) (is := is) fun j hj => h j (List.mem_cons_of_mem _ hj)
    unfold pick at this
    rw [this]
variable {PC : Deck S → Prop}
/-- a def that is called with a values by place and the keywords ks; is: where the parameters' values stand among them -/
structure Fk (P : Program) (w : World) (K : PySem.W.Frag) (mg : Str → Option Value) (base : Heap) (PC : Deck S → Prop) (x : Str) (k n : Nat) (m : List D → S → R S D) (a : Nat) (ks : List Str) (is : List Nat) : Prop where
  ex : ∃ (f : Addr) (fd : FuncData) (ps : List Str), FnOk P w K mg base (L2.CX P w) k f fd ps (spOf mg PC n m) ∧ mg x = some (.ref f) ∧ PySem.W.keepIn K (.ref f) = true ∧
    KBn K fd ps a ks (fun us ws => pick is (us ++ ws)) (fun vs zs => pick is (vs ++ zs))
def PKd (X : Cx) (C : Deck S) (W : WX) (kws : List Keyword) (sc : List Nat) (da : DA S) : Prop := PK X kws (cta C X.mg W sc da)
theorem pk_imp {kws : List Keyword} {t t' : TA} (h : PK X kws t) (i : ∀ σ H Q, t' σ H Q → t σ H Q) : PK X kws t' := ⟨fun pos pins s σ H Q I q => h.run pos pins s σ H Q I (i σ H Q q)⟩
theorem pkd_nil : PKd X C W [] [] (dNil : DA S) := pk_imp pk_nil fun σ H Q ⟨A0, H0, A, ρ, st, I, g⟩ => g.done I.at_ [] Dats.nil
theorem pkd_cons {nm : Option Str} {kpos : Pos} {kws : List Keyword} (h : PD X C W e sa de) (t : PKd X C W kws sb dl) : PKd X C W (⟨nm, e, kpos⟩ :: kws) (sa ++ sb) (dCons de dl) :=
  pk_imp (pk_cons h t) fun σ H Q ⟨A0, H0, A, ρ, st, I, g⟩ =>
    ⟨A0, H0, A, ρ, st, I, g.bind.imp fun d s1 H1 k1 t1 g1 v dv => by
      have I1 := I.next k1 t1
      refine ⟨A0, H0, A, ρ, s1, I1, g1.bind.imp fun ds s2 H2 k2 t2 g2 vs dvs => ?_⟩
      exact g2.done t2 (v :: vs) (.cons ((dv.keep k2 (I1.dom0 sa)).less fun _ => Amin.more fun i hi => List.mem_append_left _ hi) (dvs.less fun _ => Amin.more fun i hi => List.mem_append_right _ hi))⟩
def dCallK (m : List D → S → R S D) (is : List Nat) (dl dk : DA S) : DE S := fun ρ s => (dl ρ s).bind fun ds s1 => (dk ρ s1).bind fun es s2 => m (pick is (ds ++ es)) s2
def tCallKS (n m : Nat) (sp : Sp) (gV : List V → List V → List V) (E : St → XK) (t tk : TA) : TE := fun σ H Q => t σ H fun vs H1 => tk σ H1 fun zs H2 => vs.length = n ∧ zs.length = m ∧ sp (gV vs zs) H2 Q (E σ)
theorem run_fnKS {CX : CXT} {k n : Nat} {f : Addr} {fd : FuncData} {ps ks : List Str} {sp : Sp} {E : St → XK} {g : List Value → List Value → List Value} {gV : List V → List V → List V} {pins : List (Addr × Obj)} {s : Shared} {Q : VK} {us ws : List Value} {vs zs : List V} (F : FnOk X.prog X.w X.K X.mg X.base CX k f fd ps sp) (hr : Room k X.A) (hb : KBn X.K fd ps n ks g gV) (hx : PassesAt CX X σ (E σ))
    (I : Inv X pins σ H s) (r : Vals vs us) (rz : Vals zs ws) (l1 : vs.length = n) (l2 : zs.length = ks.length) (h : sp (gV vs zs) H Q (E σ)) : wpAny (model X.prog X.w) X.A (call (.ref f) us (ks.zip ws)) (EP X pins σ Q) X.xe s := by
  have r2 := hb.rel r rz
  refine wpAny_call (codeAny_mono (F.run X.A X.stack s H ⟨us, ks.zip ws⟩ (g us ws) (gV vs zs) Q (E σ) hr I.env0 (hb.to s us ws I.kIn (r.length.symm.trans l1) (rz.length.symm.trans l2)) r2 h) fun r s' hq => ?_)
  cases r with
  | error e => exact hx pins H s e s' I hq
  | ok fl =>
    cases fl with
    | ret u => exact I.after hq
    | next => exact False.elim hq
    | brk => exact False.elim hq
    | cont => exact False.elim hq
theorem callK_fin {a n : Nat} {ks : List Str} {is : List Nat} {m : List D → S → R S D} (I : SAt C A0 H0 A H σ ρ st) (pc : PC C) {Q : VK} {vs zs : List V} {ds es : List D} (l1 : ds.length = a) (l2 : es.length = ks.length) (hn : is.length = n) (hi : ∀ i ∈ is, i < a + ks.length)
    (dvs : Dats C H (Amin A σ ρ sc) vs ds) (dzs : Dats C H (Amin A σ ρ sc) zs es) (g : RG C X.mg W σ H (m (pick is (ds ++ es)) st) fun d _ H' => ∀ v, Dat C H' (Amin A σ ρ sc) v d → Q v H') :
    vs.length = a ∧ zs.length = ks.length ∧ spOf X.mg PC n m (pick is (vs ++ zs)) H Q (WE W σ) :=
  ⟨by rw [dvs.len, l1], by rw [dzs.len, l2], call_d I pc (by rw [pick_len fun i h => by rw [List.length_append, l1, l2]; exact hi i h, hn]) (pick_dats (dvs.append dzs) is) g⟩
/-- f(e, .., k = v, ..) -/
theorem pd_callk {x : Str} {k j n a0 : Nat} {m : List D → S → R S D} {ks : List Str} {is : List Nat} {kws : List Keyword} (F : Fk X.prog X.w X.K X.mg X.base PC x k n m a0 ks is) (pc : PC C) (hr : Room j X.A) (hk : k ≤ j) (tk : Takes X W) (ha : PAd X C W (e :: es) sa dl) (hkw : PKd X C W kws sb dk) (ld : dLen a0 dl) (lk : dLen ks.length dk) (hn : is.length = n := by rfl) (hi : ∀ i ∈ is, i < a0 + ks.length := by decide) (hg : Gl X x := by rfl) (hdb : (x == ("__debug__" : Str)) = false := by decide)
    (hall : (backToKw pos (keywordEach kws X.env)).all (·.1.isSome) = true := by rfl) (hks : (backToKw pos (keywordEach kws X.env)).filterMap (·.1) = ks := by rfl)
    (he : starEach (e :: es) X.env = (false, eval e X.env) :: starEach es X.env := by rfl)
    (hpl : ((backTo pos (starEach (e :: es) X.env)).any (·.1) || (backToKw pos (keywordEach kws X.env)).any (·.1.isNone)) = false := by rfl) : PD X C W (.Call (.Name x p) (e :: es) kws pos) (sa ++ sb) (dCallK m is dl dk) := by
  obtain ⟨f, fd, ps, F, hm, hkp, hb⟩ := F.ex
  refine ⟨fun pins s σ H Q I ⟨A0, H0, A, ρ, st, J, g⟩ => ?_⟩
  refine wpAny_Call_Name_kw (ld_glob I hg hm ?_ hdb)
  have ld' := ld ρ st
  have key : cta C X.mg W sa dl σ H fun vs H1 => cta C X.mg W sb dk σ H1 fun zs H2 => vs.length = a0 ∧ zs.length = ks.length ∧ spOf X.mg PC n m (pick is (vs ++ zs)) H2 Q (WE W σ) := by
    refine ⟨A0, H0, A, ρ, st, J, ?_⟩
    unfold dCallK at g
    cases e1 : dl ρ st with
    | bad => rw [e1] at g; exact g
    | ex c s1 => rw [e1] at g; exact g
    | ok ds s1 =>
      rw [e1] at g
      simp only [R.bind_ok] at g
      intro H1 k1 t1 vs dvs
      have J1 := J.next k1 t1
      have g1 := g.move k1
      refine ⟨A0, H0, A, ρ, s1, J1, ?_⟩
      have lk' := lk ρ s1
      cases e2 : dk ρ s1 with
      | bad => rw [e2] at g1; exact g1
      | ex c s1 => rw [e2] at g1; exact g1
      | ok es2 s2 =>
        rw [e2] at g1
        simp only [R.bind_ok] at g1
        intro H2 k2 t2 zs dzs
        exact callK_fin (J1.next k2 t2) pc (ld' _ _ e1) (lk' _ _ e2) hn hi ((dvs.keep k2 (J1.dom0 sa)).less fun _ => Amin.more fun i hi => List.mem_append_left _ hi) (dzs.less fun _ => Amin.more fun i hi => List.mem_append_right _ hi) (g1.move k2)
  refine PySem.W.callWith_KW (h₀ := X.base) I.ok.mod.kin hkp hall (thn (ha.run pos pins s σ H _ I key) fun us s1 ⟨vs, H1, I1, r, q⟩ => ?_) hpl he
  refine thn (hkw.run pos pins s1 σ H1 _ I1 q) fun ws s2 ⟨zs, H2, I2, rz, l1, l2, q2⟩ => ⟨I2.kIn, ?_⟩
  rw [hks]
  exact run_fnKS (E := WE W) F (hr.mono hk) hb (passAt tk σ) I2 r rz l1 l2 q2
/-- f(k = v, ..) -/
theorem pd_callk0 {x : Str} {k j n : Nat} {m : List D → S → R S D} {ks : List Str} {is : List Nat} {kws : List Keyword} (F : Fk X.prog X.w X.K X.mg X.base PC x k n m 0 ks is) (pc : PC C) (hr : Room j X.A) (hk : k ≤ j) (tk : Takes X W) (hkw : PKd X C W kws sb dk) (lk : dLen ks.length dk) (hn : is.length = n := by rfl) (hi : ∀ i ∈ is, i < 0 + ks.length := by decide) (hg : Gl X x := by rfl) (hdb : (x == ("__debug__" : Str)) = false := by decide)
    (hall : (backToKw pos (keywordEach kws X.env)).all (·.1.isSome) = true := by rfl) (hks : (backToKw pos (keywordEach kws X.env)).filterMap (·.1) = ks := by rfl)
    (hpl : ((backTo pos (starEach [] X.env)).any (·.1) || (backToKw pos (keywordEach kws X.env)).any (·.1.isNone)) = false := by rfl) : PD X C W (.Call (.Name x p) [] kws pos) sb (dCallK m is dNil dk) := by
  obtain ⟨f, fd, ps, F, hm, hkp, hb⟩ := F.ex
  refine ⟨fun pins s σ H Q I ⟨A0, H0, A, ρ, st, J, g⟩ => ?_⟩
  refine wpAny_Call_Name_kw (ld_glob I hg hm ?_ hdb)
  have key : cta C X.mg W sb dk σ H fun zs H2 => ([] : List V).length = 0 ∧ zs.length = ks.length ∧ spOf X.mg PC n m (pick is ([] ++ zs)) H2 Q (WE W σ) := by
    refine ⟨A0, H0, A, ρ, st, J, ?_⟩
    have g1 : RG C X.mg W σ H ((dk ρ st).bind fun es s2 => m (pick is ([] ++ es)) s2) _ := g
    have lk' := lk ρ st
    cases e2 : dk ρ st with
    | bad => rw [e2] at g1; exact g1
    | ex c s1 => rw [e2] at g1; exact g1
    | ok es2 s2 =>
      rw [e2] at g1
      simp only [R.bind_ok] at g1
      intro H2 k2 t2 zs dzs
      exact callK_fin (J.next k2 t2) pc rfl (lk' _ _ e2) hn hi Dats.nil dzs (g1.move k2)
  refine PySem.W.callWith_KW0 (h₀ := X.base) I.ok.mod.kin hkp hall (thn (hkw.run pos pins s σ H _ I key) fun ws s2 ⟨zs, H2, I2, rz, l1, l2, q2⟩ => ⟨I2.kIn, ?_⟩) hpl
  rw [hks]
  exact run_fnKS (E := WE W) (us := []) (vs := []) F (hr.mono hk) hb (passAt tk σ) I2 .nil rz l1 l2 q2
end
end Mir

set_option Elab.async false
set_option linter.all false
set_option maxRecDepth 100000
set_option maxHeartbeats 2000000
namespace Mir
open PySem PySem.Spec L2
open PyProof.Rows hiding St

/-! ### the deck: [cells, digits, mixed] -/
structure DeckSt where
  cells : List Int
  dig : Int
  mix : Int
structure DeckSt.Ok (d : DeckSt) : Prop where
  len : d.cells.length ≤ 63
  cl : ∀ x ∈ d.cells, 0 ≤ x ∧ x < 10 ^ 60
  d0 : 0 ≤ d.dig
  d1 : d.dig < 10 ^ 60
  m0 : 0 ≤ d.mix
  m1 : d.mix < 2147483647
def pull (d : DeckSt) : DeckSt := if d.dig < 10 ^ 6 then (match d.cells with
    | [] => d
    | c :: r => if 10 ^ 18 ≤ c then { d with cells := r, dig := c } else { d with cells := r, mix := (d.mix * 69621 + c % 2147483563 * 40014 + 3) % 2147483563 }) else d
def pickF (d : DeckSt) (n : Int) : Int × DeckSt :=
  if 10 ^ 6 ≤ (pull d).dig then ((pull d).dig % n, { pull d with dig := (pull d).dig / n })
  else (((pull d).mix * 48271 + 11) % 2147483647 / 53 % n, { pull d with mix := ((pull d).mix * 48271 + 11) % 2147483647 })
theorem pickF_range (d : DeckSt) {n : Int} (h : 0 < n) : 0 ≤ (pickF d n).1 ∧ (pickF d n).1 < n := by
  unfold pickF
  split
  · exact ⟨Int.emod_nonneg _ (by omega), Int.emod_lt_of_pos _ h⟩
  · exact ⟨Int.emod_nonneg _ (by omega), Int.emod_lt_of_pos _ h⟩
theorem pull_ok {d : DeckSt} (h : d.Ok) : (pull d).Ok := by
  unfold pull
  split
  · split
    · exact h
    · rename_i c r e
      have hl : r.length ≤ 63 := by have := h.len; rw [e] at this; simp at this; omega
      have hc : ∀ x ∈ r, 0 ≤ x ∧ x < 10 ^ 60 := fun x hx => h.cl x (by rw [e]; exact List.mem_cons_of_mem _ hx)
      have h0 := h.cl c (by rw [e]; exact List.mem_cons_self)
      split
      · exact ⟨hl, hc, h0.1, h0.2, h.m0, h.m1⟩
      · refine ⟨hl, hc, h.d0, h.d1, Int.emod_nonneg _ (by omega), ?_⟩
        have := Int.emod_lt_of_pos (d.mix * 69621 + c % 2147483563 * 40014 + 3) (b := 2147483563) (by omega)
        show _ % 2147483563 < 2147483647
        omega
  · exact h
theorem pickF_ok {d : DeckSt} (h : d.Ok) {n : Int} (hn : 0 < n) : (pickF d n).2.Ok := by
  have p := pull_ok h
  unfold pickF
  split
  · refine ⟨p.len, p.cl, ?_, ?_, p.m0, p.m1⟩
    · exact Int.ediv_nonneg p.d0 (by omega)
    · exact Int.lt_of_le_of_lt (Int.ediv_le_self _ p.d0) p.d1
  · refine ⟨p.len, p.cl, p.d0, p.d1, Int.emod_nonneg _ (by omega), ?_⟩
    exact Int.emod_lt_of_pos _ (by omega)
/-- where the deck stands; the script: a list of n items -/
def mkDeck (K : PySem.W.Frag) (a0 c0 as : Addr) (ns : List Int) (fl : Bool) : Deck DeckSt where
  val := .ref a0
  dom := fun a => a = a0 ∨ a = c0
  At := fun d H => d.Ok ∧ a0 ≠ c0 ∧ H a0 = some (.lst [.ref c0, .int d.dig, .int d.mix]) ∧ H c0 = some (.lst (d.cells.map V.int))
  stab := fun d H H' h k => ⟨h.1, h.2.1, by rw [k a0 (.inl rfl)]; exact h.2.2.1, by rw [k c0 (.inr rfl)]; exact h.2.2.2⟩
  there := fun d H a h ha => by
    rcases ha with rfl | rfl
    · rw [h.2.2.1]; exact fun z => nomatch z
    · rw [h.2.2.2]; exact fun z => nomatch z
  sa := fun a => fl = true ∧ a = as
  ext := fun H v n => v = .ref as ∧ n = ns.length ∧ if fl = true then Rd H as (.lst (ns.map V.int)) else
    ∃ (o : Obj) (its : Array Value) (n : Nat), K.lookup as = some o ∧ o.cls = .type "list" ∧ o.dict = none ∧ o.data = .seq its n ∧ its.size ≤ sizeLine ∧ Vals (ns.map V.int) its.toList
  ext_st := fun H H' v n h k => by
    obtain ⟨h1, h2, h3⟩ := h
    refine ⟨h1, h2, ?_⟩
    by_cases z : fl = true
    · rw [if_pos z] at h3 ⊢
      unfold Rd
      rw [k as ⟨z, rfl⟩]
      exact h3
    · rw [if_neg z] at h3 ⊢
      exact h3
def PCk (K : PySem.W.Frag) (C : Deck DeckSt) : Prop := ∃ a0 c0 as ns fl, C = mkDeck K a0 c0 as ns fl
theorem ext_sq {K : PySem.W.Frag} {C : Deck DeckSt} (pc : PCk K C) {H : Hp} {v : V} {n : Nat} (h : C.ext H v n) : ∃ a xs, v = .ref a ∧ SqL K H a xs ∧ xs.length = n := by
  obtain ⟨a0, c0, as, ns, fl, rfl⟩ := pc
  obtain ⟨h1, h2, h3⟩ := h
  refine ⟨as, ns.map V.int, h1, ?_, by rw [List.length_map, h2]⟩
  by_cases z : fl = true
  · rw [if_pos z] at h3; exact .inl h3
  · rw [if_neg z] at h3; exact .inr h3
section
variable {C : Deck DeckSt} {X : Cx} {W : WX} {A0 A A' : Addr → Prop} {H0 H H' B : Hp} {σ : St} {ρ : En}
/-- len(script) -/
def lenX : List D → Option D
  | [.ext n] => some (.int n)
  | _ => none
theorem cd_lenX {K : PySem.W.Frag} (pc : PCk K C) : CallD C (fun xs H Q => ∃ x n, xs = [x] ∧ LenV K x H n ∧ Q (.int n) H) lenX := by
  intro A s H xs ds d Q I h e q
  match ds, e with
  | [.ext n], e =>
    cases e
    obtain ⟨x, rfl, hx⟩ := h.one
    cases hx with
    | ext h1 h2 =>
      obtain ⟨a, xs, rfl, h3, h4⟩ := ext_sq pc h2
      exact ⟨_, n, rfl, .inl ⟨xs, h3, h4.symm⟩, q H _ Keep.refl I.at_ (.int _)⟩
theorem pd_lenX {e : Expr} {sc : List Nat} {dl : DA DeckSt} {p pos : Pos} (pc : PCk X.K C) (hm : X.mg "len" = none) (ha : PAd X C W [e] sc dl) (hg : Gl X "len" := by rfl) (he : starEach [e] X.env = (false, eval e X.env) :: starEach [] X.env := by rfl) (hpl : (backTo pos (starEach [] X.env)).any (·.1) = false := by rfl) : PD X C W (.Call (.Name "len" p) [e] [] pos) sc (dCallB lenX dl) :=
  pd_callB call_len (cd_lenX pc) hm ha PySem.boot_len hg (by decide) (by decide) he hpl
/-- the deck's draw, as a def's function -/
def mPick : List D → DeckSt → R DeckSt D
  | [.deck, .int n], s => if 0 < n ∧ n < 1073741824 then .ok (.int (pickF s n).1) (pickF s n).2 else .bad
  | _, _ => .bad
/-- what the draw is asked: the deck at a0, its cells at c0 -/
def spPick : Sp := fun vs H Q _ => ∃ (a0 c0 : Addr) (d : DeckSt) (n : Int), vs = [.ref a0, .int n] ∧ d.Ok ∧ a0 ≠ c0 ∧ H a0 = some (.lst [.ref c0, .int d.dig, .int d.mix]) ∧ H c0 = some (.lst (d.cells.map V.int)) ∧ 0 < n ∧ n < 1073741824 ∧
  ∀ H', (∀ a, a ≠ a0 → a ≠ c0 → ∀ o, H a = some o → H' a = some o) → H' a0 = some (.lst [.ref c0, .int (pickF d n).2.dig, .int (pickF d n).2.mix]) → H' c0 = some (.lst ((pickF d n).2.cells.map V.int)) → Q (.int (pickF d n).1) H'
theorem pick_sp {K : PySem.W.Frag} {mg : Str → Option Value} {vs : List V} {H : Hp} {Q : VK} {E : XK} (h : spOf mg (PCk K) 2 mPick vs H Q E) : spPick vs H Q E := by
  obtain ⟨C, A, s, ds, pc, V0, t, hl, g⟩ := h
  obtain ⟨a0, c0, as, ns, fl, rfl⟩ := pc
  match ds, g with
  | [.deck, .int n], g =>
    simp only [mPick] at g
    by_cases z : 0 < n ∧ n < 1073741824
    · rw [if_pos z] at g
      obtain ⟨x, y, rfl, hx, hy⟩ := t.two
      cases hx
      cases hy
      obtain ⟨o1, o2, o3, o4⟩ := V0.at_
      exact ⟨a0, c0, s, n, rfl, o1, o2, o3, o4, z.1, z.2, fun H' k h1 h2 => g H' _ (fun a o n e => k a (fun z => n (.inl z)) (fun z => n (.inr z)) o e) ⟨pickF_ok o1 z.1, o2, h1, h2⟩ (.int _)⟩
    · rw [if_neg z] at g; exact g.elim
def spDeck (K : PySem.W.Frag) : Sp := fun vs H Q _ => ∃ (a : Addr) (ns : List Int), vs = [.ref a] ∧ SqL K H a (ns.map V.int) ∧ ns.length ≤ 63 ∧
  ∀ H' c0 a0 d, (∀ a o, H a = some o → H' a = some o) → H c0 = none → H a0 = none → a0 ≠ c0 → DeckSt.Ok d → H' a0 = some (.lst [.ref c0, .int d.dig, .int d.mix]) → H' c0 = some (.lst (d.cells.map V.int)) → Q (.ref a0) H'

theorem if_true_of {c : Bool} {A B : Prop} (hc : c = true) (h : A) : if c = true then A else B := by
  rw [if_pos hc]
  exact h
theorem if_false_of {c : Bool} {A B : Prop} (hc : c = false) (h : B) : if c = true then A else B := by
  rw [hc, if_neg Bool.false_ne_true]
  exact h
/-- the draw as a def on data -/
theorem fn_pick {P : Program} {w : World} {K : PySem.W.Frag} {mg : Str → Option Value} {base : Heap} {f : Addr} {fd : FuncData} {x : Str} {ps : List Str} (F : FnOk P w K mg base (L2.CX P w) 1 f fd ps spPick) (hg : mg x = some (.ref f)) (hk : PySem.W.keepIn K (.ref f) = true) (hb : Binds K fd ps []) : Fn P w K mg base (PCk K) x 1 2 mPick :=
  ⟨f, fd, ps, F.imp fun vs H Q E h => pick_sp h, hg, hk, hb⟩
def spLaw (K : PySem.W.Frag) : Sp := fun vs H Q _ => ∃ (a : Addr) (ns : List Int), vs = [.ref a] ∧ SqL K H a (ns.map V.int) ∧ ns.length ≤ 63 ∧ ∀ H', Q (.bl true) H'
def rho0 (N n : Nat) : En := some (.val (.ext n)) :: some (.val .deck) :: List.replicate (N - 2) none
theorem law_mk {P : Program} {w : World} {K : PySem.W.Frag} {mg : Str → Option Value} {base : Heap} {stm : Stmt} {f fD : Addr} {fd fdD : FuncData} {N : List Str} {k : Nat} {rest : List Stmt} {p1 p2 p3 p4 p5 : Pos} {ds : DS DeckSt}
    (F : Fun K "law" "law" stm f fd) (sc : FnScope N ["script"] (defScope stm)) (G : FnOk P w K mg base (L2.CX P w) 1 fD fdD ["script"] (spDeck K)) (mD : mg "_law_deck" = some (.ref fD)) (kD : PySem.W.keepIn K (.ref fD) = true) (bD : Binds K fdD ["script"] [])
    (hb : defBody stm = .Assign [.Name "deck" p1] (.Call (.Name "_law_deck" p2) [.Name "script" p3] [] p4) p5 :: rest) (hN : 2 ≤ N.length) (hk : 1 ≤ k)
    (first : ∀ (cdv : Value) (A : Around) (outer : List PySem.Env) (s : Shared) (H : Hp) (E : XK), Room k (A.deeper (envOfC "law" (defScope stm) s.heap.objs.size f cdv)) → ∃ t1, PS (cxOf (L2.CX P w) P w K mg base N "law" (defScope stm) f cdv A outer s H E) (.Assign [.Name "deck" p1] (.Call (.Name "_law_deck" p2) [.Name "script" p3] [] p4) p5) t1 ∧
      ∀ σ H' D, tAsg (tCallS (spDeck K) (WE fun _ _ _ _ => False) (tCons (tVar 0) tNil)) (gName 1) D σ H' → t1 D σ H')
    (hrest : ∀ (cdv : Value) (A : Around) (outer : List PySem.Env) (s : Shared) (H : Hp) (E : XK) (C : Deck DeckSt), PCk K C → Room k (A.deeper (envOfC "law" (defScope stm) s.heap.objs.size f cdv)) → PBd (cxOf (L2.CX P w) P w K mg base N "law" (defScope stm) f cdv A outer s H E) C (fun cls d _ H => E cls d H) rest ds)
    (pure : ∀ (st : DeckSt) (n : Nat), st.Ok → n ≤ 63 → ∃ s', ds (rho0 N.length n) st = .rt (.bl true) s') : FnOk P w K mg base (L2.CX P w) (k + 1) f fd ["script"] (spLaw K) := by
  refine F.okX sc (fun vs H Q E h => ?_) (fun cdv A outer s H vs Q E hr h => ?_)
  · obtain ⟨a, ns, rfl, _⟩ := h
    rfl
  · obtain ⟨a, ns, rfl, hS, hl, q⟩ := h
    obtain ⟨t1, h1, i1⟩ := first cdv A outer s H E hr
    rw [hb]
    have hR : PSs (cxOf (L2.CX P w) P w K mg base N "law" (defScope stm) f cdv A outer s H E) rest (fun D σ H' => ∃ C, PCk K C ∧ cts C mg (fun cls d _ H => E cls d H) ds D σ H') :=
      ⟨fun pins s1 σ H' D I ⟨C, pc, z⟩ => (hrest cdv A outer s H E C pc hr).run pins s1 σ H' D I z⟩
    refine ⟨_, pss_cons h1 hR, i1 _ _ _ ⟨_, rfl, a, ns, rfl, hS, hl, fun H1 c0 a0 d kp nc na ne ok g0 gc => ?_⟩⟩
    -- the script is read as before
    obtain ⟨fl, hfl⟩ : ∃ fl : Bool, if fl = true then Rd H a (.lst (ns.map V.int)) else ∃ (o : Obj) (its : Array Value) (n : Nat), K.lookup a = some o ∧ o.cls = .type "list" ∧ o.dict = none ∧ o.data = .seq its n ∧ its.size ≤ sizeLine ∧ Vals (ns.map V.int) its.toList := by
      rcases hS with z | z
      · exact ⟨true, z⟩
      · exact ⟨false, by rw [if_neg (by decide)]; exact z⟩
    have rdH : fl = true → H a ≠ none := fun z => by
      rw [if_pos z] at hfl
      rcases hfl with r | ⟨o, r⟩ <;> rw [r] <;> exact fun z => nomatch z
    refine ⟨mkDeck K a0 c0 a ns fl, ⟨a0, c0, a, ns, fl, rfl⟩, fun b => b = a0 ∨ b = c0, H1, fun b => b = a0 ∨ b = c0, rho0 N.length ns.length, d, ?_, ?_⟩
    · have es : (L2.start N [V.ref a]).set 1 (some (V.ref a0)) = some (V.ref a) :: some (V.ref a0) :: List.replicate (N.length - 2) none := by
        unfold L2.start
        have : N.length - [V.ref a].length = (N.length - 2) + 1 := by simp; omega
        rw [this, List.replicate_succ]
        rfl
      rw [es]
      refine ⟨by simp [rho0], fun i x e => ?_, fun i j ds es n e1 => ?_, fun b hb => ?_, fun _ z => z, fun _ z => .inl z, fun _ z => z, Keep.refl, ok, (Ne.symm fun z => ne z.symm), g0, gc⟩
      · match i, e with
        | 0, e =>
          cases e
          refine ⟨_, rfl, Dat.ext (fun b hb => ?_) ⟨rfl, rfl, ?_⟩⟩
          · obtain ⟨hf, rfl⟩ := hb
            have hn := rdH hf
            refine ⟨fun z => ?_, fun z => ?_⟩
            · rcases z with z | z
              · exact hn (z ▸ na)
              · exact hn (z ▸ nc)
            · cases e : H b with
              | none => exact hn e
              | some o => rw [kp b o e] at z; cases z
          · by_cases z : fl = true
            · rw [if_pos z] at hfl ⊢
              rcases hfl with r | ⟨o, r⟩
              · exact .inl (kp _ _ r)
              · exact .inr ⟨o, kp _ _ r⟩
            · rw [if_neg z] at hfl ⊢
              exact hfl
        | 1, e => cases e; exact ⟨_, rfl, Dat.deck⟩
        | i + 2, e =>
          exfalso
          have e : (List.replicate (N.length - 2) (none : Option Sl))[i]? = some (some x) := e
          rw [List.getElem?_replicate] at e
          split at e <;> cases e
      · exfalso
        match i, e1 with
        | 0, e => cases e
        | 1, e => cases e
        | i + 2, e =>
          have e : (List.replicate (N.length - 2) (none : Option Sl))[i]? = some (some (Sl.own ds)) := e
          rw [List.getElem?_replicate] at e
          split at e <;> cases e
      · rcases hb with rfl | rfl
        · rw [g0]; exact fun z => nomatch z
        · rw [gc]; exact fun z => nomatch z
    · obtain ⟨s', e⟩ := pure d ns.length ok hl
      rw [e]
      intro H2 v _ _ dv
      cases dv
      exact q H2
theorem walk_law {l : PySem.W.OpenLaw} {q : Program} {loose : List Str} {XP : (Str → Option Value) → Heap → Prop} {YP : World → Heap → Prop} {d : DefRec} {K : Params → PySem.W.Frag} (k : Nat) (hn : l.most = some 63) (hdf : d.params.defaults = []) (hr : Room k callerA)
    (hY : ∀ (w : World) (h : Heap), YP w h → (K w.params).In h)
    (F : ∀ (w : World) (mg : Str → Option Value) (fa : Addr) (h : Heap), (K w.params).In h → h.Ns mainGlobals mg → mg d.name = some (.ref fa) →
      ∃ fd : FuncData, (∀ (s : Shared) (u : Value), BindsTo s fd ⟨[u], []⟩ [("script", u)]) ∧ ∀ base : Heap, (K w.params).In base → base.Ns mainGlobals mg → FnOk l.prog w (K w.params) mg base (L2.CX l.prog w) k fa fd ["script"] (spLaw (K w.params))) :
    PySem.W.WalkO q loose XP YP l.row.toRowW d [] (fun f vs => PySem.call f vs) :=
  L2.walk_of (n := 63) (k := k) (x := "script") (CX := fun w => L2.CX l.prog w) (sp := fun w => spLaw (K w.params)) hn (by decide) hdf hr hY F (fun _ _ a ns hl _ hS => ⟨a, ns, rfl, hS, hl, fun _ => rfl⟩) fun w H s e s' z => by
    obtain ⟨_, _, _, _, _, _, _, _, _, _, _, _, z⟩ := z
    exact z.elim
end
end Mir

set_option Elab.async false
set_option linter.all false
set_option maxRecDepth 100000
set_option maxHeartbeats 2000000
namespace Mir
open PySem PySem.Spec L2
open PyProof.Rows hiding St

theorem no_gN (i : Nat) : NoOwn (gN i) := fun d ρ ρ' e j ds h => by
  cases e
  by_cases hj : j = i
  · subst hj
    have hl : j < ρ.length := by have := (List.getElem?_eq_some_iff.mp h).1; rwa [List.length_set] at this
    rw [List.getElem?_set_self hl] at h; cases h
  · rwa [List.getElem?_set_ne (Ne.symm hj)] at h
def NoOwns (g : DGs) : Prop := ∀ ds ρ ρ', g ds ρ = some ρ' → ∀ (i : Nat) es, ρ'[i]? = some (some (.own es)) → ρ[i]? = some (some (.own es))
theorem no_gsNil : NoOwns gsNil := fun ds ρ ρ' e i es h => by cases ds <;> simp only [gsNil] at e <;> cases e; exact h
theorem no_gsCons {g : DG} {gs : DGs} (h : NoOwn g) (h' : NoOwns gs) : NoOwns (gsCons g gs) := fun ds ρ ρ' e i es q => by
  cases ds with
  | nil => cases e
  | cons d r =>
    obtain ⟨ρ1, e1, e2⟩ := Option.bind_eq_some_iff.mp e
    exact h d ρ ρ1 e1 i es (h' r ρ1 ρ' e2 i es q)
theorem no_gT {gs : DGs} {n : Nat} (h : NoOwns gs) : NoOwn (gT n gs) := fun d ρ ρ' e i es q => by
  cases d <;> simp only [gT] at e <;> try cases e
  split at e
  · exact h _ _ _ e i es q
  · cases e

/-! ### errors' classes -/
theorem exm_pair {K : PySem.W.Frag} {mg : Str → Option Value} {x : Str} {a b : Addr} {r : Bool} (E : ErrOk K mg x b) (s : PySem.W.subIn K (.ref a) (.ref b) = some r) : PySem.W.exmOne K (.ref a) (.ref b) = some r := by
  have e1 : (PySem.W.subIn K (.ref b) (.type "BaseException") == some true) = true := by rw [E.b] <;> rfl
  have e2 : ((PySem.W.clsIn K b).isSome && PySem.W.typeIn K (.ref b) == some (.type "type")) = true := by
    have h2' : (PySem.W.clsIn K b).isSome = true := E.i
    rw [h2', E.t] <;> rfl
  show (if (PySem.W.subIn K (.ref b) (.type "BaseException") == some true) = true then (if ((PySem.W.clsIn K b).isSome && PySem.W.typeIn K (.ref b) == some (.type "type")) = true then PySem.W.subIn K (.ref a) (.ref b) else none) else none) = some r
  rw [if_pos e1, if_pos e2]
  exact s
/-- a table of which error is one of which class -/
def subT (tab : List (Str × Str × Bool)) (c x : Str) : Option Bool := (tab.find? fun e => e.1 == c && e.2.1 == x).map (·.2.2)
theorem subT_ok {K : PySem.W.Frag} {mg : Str → Option Value} {tab : List (Str × Str × Bool)} (h : ∀ e ∈ tab, ∃ a a', mg e.1 = some (.ref a) ∧ mg e.2.1 = some (.ref a') ∧ PySem.W.exmOne K (.ref a) (.ref a') = some e.2.2) : SubOk K mg (subT tab) := fun c x b e => by
  unfold subT at e
  obtain ⟨t, h1, h2⟩ := Option.map_eq_some_iff.mp e
  have hm := List.mem_of_find?_eq_some h1
  have hp := List.find?_some h1
  simp only [Bool.and_eq_true, beq_iff_eq] at hp
  obtain ⟨a, a', q1, q2, q3⟩ := h t hm
  rw [hp.1] at q1
  rw [hp.2] at q2
  rw [h2] at q3
  exact ⟨a, a', q1, q2, q3⟩
theorem all_cons {α : Type} {P : α → Prop} {x : α} {l : List α} (h : P x) (t : ∀ e ∈ l, P e) : ∀ e ∈ x :: l, P e := List.forall_mem_cons.mpr ⟨h, t⟩
theorem all_nil {α : Type} {P : α → Prop} : ∀ e ∈ ([] : List α), P e := List.forall_mem_nil _

section
variable {S : Type} {C : Deck S} {X : Cx} {W : WX} {A0 A A' : Addr → Prop} {H0 H H' B : Hp} {σ : St} {ρ : En} {st st' : S}
variable {e a b c tg iter elt : Expr} {es rest ifs : List Expr} {pos p p2 : Pos} {sc sc' sa sb vs : List Nat} {de da db dc : DE S} {dt dt' du : DT S} {dl di dj dk : DA S} {ds ds' : DS S} {mg : Str → Option Value} {DD : Ends} {xs ys : List Stmt} {dv dw : E1 S Sl}
/-- a ** b -/
def powD : D → D → Option D := fI fun i j => if decide (0 ≤ j) && decide (j ≤ 1000000) && decide (i.natAbs < 2 ^ 64) then some (i ^ j.toNat) else none
theorem pd_pow (ha : PD X C W a sa da) (hb : PD X C W b sb db) : PD X C W (.BinOp a .Pow b pos) (sa ++ sb) (dBin powD da db) := pd_bin op_pow (od_int (fun i j => decide (0 ≤ j) && decide (j ≤ 1000000) && decide (i.natAbs < 2 ^ 64)) fun i j h => by
  simp only [Bool.and_eq_true, decide_eq_true_eq] at h; exact ⟨h.1.1, h.1.2, h.2⟩) ha hb
/-! ### zip, reversed -/
def zipD (ds es : List D) : List D := List.zipWith (fun d e => .tup [d, e]) ds es
theorem Dat.laid {v : V} {d : D} {T : Addr} {o : HO} (h : Dat C H A v d) (hT : H T = none) : Dat C (upd H T o) A v d := by
  induction h with
  | non => exact .non
  | bl b => exact .bl b
  | int i => exact .int i
  | str s => exact .str s
  | tup n r l _ ih => exact .tup n (by rw [upd_ne (ne_of_none r hT)]; exact r) l ih
  | lst n r l _ ih => exact .lst n (by rw [upd_ne (ne_of_none r hT)]; exact r) l ih
  | deck => exact .deck
  | ext h e =>
    have ne : ∀ a, C.sa a → a ≠ T := fun a ha z => (h a ha).2 (z ▸ hT)
    exact .ext (fun a ha => ⟨(h a ha).1, by rw [upd_ne (ne a ha)]; exact (h a ha).2⟩) (C.ext_st _ _ _ _ e fun a ha => upd_ne (ne a ha))
theorem pair_dat {x y : V} {d e : D} {T : Addr} (f : ∀ a, A a → H a ≠ none) (hT : H T = none) (hx : Dat C H A x d) (hy : Dat C H A y e) : Dat C (upd H T (.tup [x, y])) A (.ref T) (.tup [d, e]) :=
  Dat.tup_mk (fun z => f T z hT) upd_same (.cons (hx.laid hT) (.cons (hy.laid hT) .nil))
theorem y_zipL {K : PySem.W.Frag} {p q : Addr} {vs ws : List V} {ds es : List D} (n : ¬ A p) (r : B p = some (.lst vs)) (t : Dats C B A vs ds) (n' : ¬ A q) (r' : B q = some (.lst ws)) (t' : Dats C B A ws es) : Yields C A B (Itz K p q) (zipD ds es) where
  stop := fun H k => ⟨vs, ws, .of (k p _ n r), .of (k q _ n' r'), by simp only [zipD, List.length_zipWith, t.len, t'.len]; omega⟩
  go := fun i H hi k => by
    simp only [zipD, List.length_zipWith] at hi
    exact ⟨vs, ws, vs[i]'(by rw [t.len]; omega), ws[i]'(by rw [t'.len]; omega), .of (k p _ n r), .of (k q _ n' r'), List.getElem?_eq_getElem _, List.getElem?_eq_getElem _⟩
  yld := fun i H x H' hi k y => by
    obtain ⟨T, u, v, rfl, hT, rfl, h1, h2⟩ := y
    have e1 := h1 vs (.of (k p _ n r))
    have e2 := h2 ws (.of (k q _ n' r'))
    simp only [zipD, List.length_zipWith] at hi
    have i1 : i < ds.length := by omega
    have i2 : i < es.length := by omega
    refine ⟨.tup [ds[i], es[i]], by simp [zipD, List.getElem?_zipWith, List.getElem?_eq_getElem i1, List.getElem?_eq_getElem i2], Keep.upd hT, fun s h => at_upd h hT, fun A' f hA => ?_⟩
    have dx := (t.at_ i u _ e1 (List.getElem?_eq_getElem i1)).later k hA
    have dy := (t'.at_ i v _ e2 (List.getElem?_eq_getElem i2)).later k hA
    exact pair_dat f hT dx dy
theorem y_zipT {K : PySem.W.Frag} {p q : Addr} {vs ws : List V} {ds es : List D} (n : ¬ A p) (r : B p = some (.tup vs)) (t : Dats C B A vs ds) (n' : ¬ A q) (r' : B q = some (.tup ws)) (t' : Dats C B A ws es) : Yields C A B (RZ.ItzT K p q) (zipD ds es) where
  stop := fun H k => ⟨vs, ws, .of (k p _ n r), .of (k q _ n' r'), by simp only [zipD, List.length_zipWith, t.len, t'.len]; omega⟩
  go := fun i H hi k => by
    simp only [zipD, List.length_zipWith] at hi
    exact ⟨vs, ws, vs[i]'(by rw [t.len]; omega), ws[i]'(by rw [t'.len]; omega), .of (k p _ n r), .of (k q _ n' r'), List.getElem?_eq_getElem _, List.getElem?_eq_getElem _⟩
  yld := fun i H x H' hi k y => by
    obtain ⟨T, u, v, rfl, hT, rfl, h1, h2⟩ := y
    have e1 := h1 vs (.of (k p _ n r))
    have e2 := h2 ws (.of (k q _ n' r'))
    simp only [zipD, List.length_zipWith] at hi
    have i1 : i < ds.length := by omega
    have i2 : i < es.length := by omega
    refine ⟨.tup [ds[i], es[i]], by simp [zipD, List.getElem?_zipWith, List.getElem?_eq_getElem i1, List.getElem?_eq_getElem i2], Keep.upd hT, fun s h => at_upd h hT, fun A' f hA => ?_⟩
    exact pair_dat f hT ((t.at_ i u _ e1 (List.getElem?_eq_getElem i1)).later k hA) ((t'.at_ i v _ e2 (List.getElem?_eq_getElem i2)).later k hA)
/-- zip of two lists, of two tuples -/
def zip2 : List D → Option (List D)
  | [.lst ds, .lst es] => some (zipD ds es)
  | [.tup ds, .tup es] => some (zipD ds es)
  | _ => none
theorem pid_zip {elts : List Expr} {kk : Nat} {tpos : Pos} (hm : X.mg "zip" = none) (ha : PAd X C W [a, b] sc dl) (hg : Gl X "zip" := by rfl) (hs : starEach [a, b] X.env = (false, eval a X.env) :: starEach [b] X.env := by rfl) (hpl : (backTo pos (starEach [b] X.env)).any (·.1) = false := by rfl) :
    PId X C W (.Tuple elts kk tpos) (.Call (.Name "zip" p) [a, b] [] pos) sc (dRng zip2 dl) :=
  pid_of (RZ.pi_zipA hg hm ha hs hpl) fun A0 H0 A ρ st σ H R I g => ⟨A0, H0, A, ρ, st, I, g.bind.imp fun ds s1 H1 k1 t1 g1 vs dvs => by
    obtain ⟨l, e, q⟩ := g1.ofO
    match ds, e with
    | [.lst ds, .lst es], e =>
      cases e
      obtain ⟨x, y, rfl, hx, hy⟩ := dvs.two
      obtain ⟨p, xs, rfl, n, r, t⟩ := hx.of_lst
      obtain ⟨p', xs', rfl, n', r', t'⟩ := hy.of_lst
      exact ⟨p, p', xs, xs', rfl, .inl ⟨.of r, .of r', q H1 Keep.refl t1 _ (y_zipL n r t n' r' t')⟩⟩
    | [.tup ds, .tup es], e =>
      cases e
      obtain ⟨x, y, rfl, hx, hy⟩ := dvs.two
      obtain ⟨p, xs, rfl, n, r, t⟩ := hx.of_tup
      obtain ⟨p', xs', rfl, n', r', t'⟩ := hy.of_tup
      exact ⟨p, p', xs, xs', rfl, .inr ⟨.of r, .of r', q H1 Keep.refl t1 _ (y_zipT n r t n' r' t')⟩⟩⟩
end
end Mir

set_option Elab.async false
set_option linter.all false
set_option maxRecDepth 100000
set_option maxHeartbeats 2000000
namespace Mir
open PySem PySem.Spec L2
open PyProof.Rows hiding St

/-! ### what the deck will tell, read ahead: a tape -/
structure TS where
  t : List (Int × Int)
  u : List Int
def adv (st : DeckSt) (u : List Int) : DeckSt := u.foldl (fun s n => (pickF s n).2) st
def tapeOk : DeckSt → List (Int × Int) → Prop
  | _, [] => True
  | s, (n, c) :: t => 0 < n ∧ (pickF s n).1 = c ∧ tapeOk (pickF s n).2 t
theorem adv_snoc {st : DeckSt} {u : List Int} {n : Int} : adv st (u ++ [n]) = (pickF (adv st u) n).2 := by
  unfold adv
  rw [List.foldl_append]
  rfl
theorem adv_ok {u : List Int} : ∀ {st : DeckSt}, st.Ok → (∀ n ∈ u, 0 < n) → (adv st u).Ok := by
  induction u with
  | nil => exact fun h _ => h
  | cons n u ih => exact fun h k => ih (st := (pickF _ n).2) (pickF_ok h (k n (.head _))) fun m hm => k m (.tail _ hm)
def Deck.tp (C : Deck DeckSt) (st : DeckSt) : Deck TS where
  val := C.val
  dom := C.dom
  At := fun x H => C.At (adv st x.u) H ∧ tapeOk (adv st x.u) x.t
  stab := fun x H H' h k => ⟨C.stab _ _ _ h.1 k, h.2⟩
  there := fun x H a h ha => C.there _ _ _ h.1 ha
  sa := C.sa
  ext := C.ext
  ext_st := C.ext_st
section
variable {C : Deck DeckSt} {X : Cx} {W : WX} {A0 A A' : Addr → Prop} {H0 H H' B : Hp} {σ : St} {ρ : En} {st : DeckSt}
theorem Dat.tp {v : V} {d : D} (h : Dat C H A v d) : Dat (C.tp st) H A v d := by
  induction h with
  | non => exact .non
  | bl b => exact .bl b
  | int i => exact .int i
  | str s => exact .str s
  | tup n r l _ ih => exact .tup n r l ih
  | lst n r l _ ih => exact .lst n r l ih
  | deck => exact .deck
  | ext h e => exact .ext h e
theorem Dat.un {v : V} {d : D} (h : Dat (C.tp st) H A v d) : Dat C H A v d := by
  induction h with
  | non => exact .non
  | bl b => exact .bl b
  | int i => exact .int i
  | str s => exact .str s
  | tup n r l _ ih => exact .tup n r l ih
  | lst n r l _ ih => exact .lst n r l ih
  | deck => exact .deck
  | ext h e => exact .ext h e
theorem Dats.un {vs : List V} {ds : List D} (h : Dats (C.tp st) H A vs ds) : Dats C H A vs ds := ⟨h.len, fun i x d e1 e2 => (h.at_ i x d e1 e2).un⟩
theorem Dats.tp {vs : List V} {ds : List D} (h : Dats C H A vs ds) : Dats (C.tp st) H A vs ds := ⟨h.len, fun i x d e1 e2 => (h.at_ i x d e1 e2).tp⟩
theorem SAt.tp {x : TS} {s : DeckSt} (I : SAt C A0 H0 A H σ ρ s) (e : adv st x.u = s) (k : tapeOk s x.t) : SAt (C.tp st) A0 H0 A H σ ρ x where
  len := I.len
  sl := fun i y ey => by
    obtain ⟨v, e1, q⟩ := I.sl i y ey
    refine ⟨v, e1, ?_⟩
    cases y with
    | val d => exact Dat.tp q
    | own ds =>
      obtain ⟨a, xs, h1, h2, h3, h4, h5, h6⟩ := q
      exact ⟨a, xs, h1, h2, h3, h4, h5, h6.tp⟩
  apart := I.apart
  fresh := I.fresh
  sub := I.sub
  lim := I.lim
  dom := I.dom
  keep := I.keep
  at_ := ⟨e ▸ I.at_, e ▸ k⟩
theorem SAt.un {x : TS} (I : SAt (C.tp st) A0 H0 A H σ ρ x) : SAt C A0 H0 A H σ ρ (adv st x.u) where
  len := I.len
  sl := fun i y ey => by
    obtain ⟨v, e1, q⟩ := I.sl i y ey
    refine ⟨v, e1, ?_⟩
    cases y with
    | val d => exact Dat.un q
    | own ds =>
      obtain ⟨a, xs, h1, h2, h3, h4, h5, h6⟩ := q
      exact ⟨a, xs, h1, h2, h3, h4, h5, h6.un⟩
  apart := I.apart
  fresh := I.fresh
  sub := I.sub
  lim := I.lim
  dom := I.dom
  keep := I.keep
  at_ := I.at_.1
def mPickT : List D → TS → R TS D
  | [.deck, .int n], ⟨(m, c) :: t, u⟩ => if n = m ∧ n < 1073741824 then .ok (.int c) ⟨t, u ++ [n]⟩ else .bad
  | _, _ => .bad
def PCT (K : PySem.W.Frag) (C' : Deck TS) : Prop := ∃ C st, PCk K C ∧ C' = C.tp st
theorem pick_tp {K : PySem.W.Frag} {mg : Str → Option Value} {vs : List V} {H : Hp} {Q : VK} {E : XK} (h : spOf mg (PCT K) 2 mPickT vs H Q E) : spOf mg (PCk K) 2 mPick vs H Q E := by
  obtain ⟨C', A, x, ds, ⟨C, st, pc, rfl⟩, V0, t, hl, g⟩ := h
  refine ⟨C, A, adv st x.u, ds, pc, ⟨V0.fresh, V0.dom, V0.at_.1⟩, t.un, hl, ?_⟩
  match ds, x, g, V0 with
  | [.deck, .int n], ⟨(m, c) :: t', u⟩, g, V0 =>
    simp only [mPickT] at g
    by_cases z : n = m ∧ n < 1073741824
    · rw [if_pos z] at g
      obtain ⟨rfl, z1⟩ := z
      obtain ⟨k1, k2, k3⟩ := V0.at_.2
      have em : mPick [.deck, .int n] (adv st u) = .ok (.int (pickF (adv st u) n).1) (pickF (adv st u) n).2 := if_pos ⟨k1, z1⟩
      dsimp only
      rw [em]
      show ∀ H' v, Keep C.dom H H' → C.At (pickF (adv st u) n).2 H' → Dat C H' A v (.int (pickF (adv st u) n).1) → Q v H'
      intro H' v k a dv
      refine g H' v k ⟨?_, ?_⟩ ?_
      · rw [adv_snoc]; exact a
      · rw [adv_snoc]; exact k3
      · rw [← k2]; exact dv.tp
    · rw [if_neg z] at g; exact g.elim
theorem Fn.tp {P : Program} {w : World} {K : PySem.W.Frag} {mg : Str → Option Value} {base : Heap} {x : Str} {k : Nat} (F : Fn P w K mg base (PCk K) x k 2 mPick) : Fn P w K mg base (PCT K) x k 2 mPickT := by
  obtain ⟨f, fd, ps, F, r⟩ := F.ex
  exact ⟨f, fd, ps, F.imp fun vs H Q E g => pick_tp g, r⟩
theorem pd_lenXT {C' : Deck TS} {e : Expr} {sc : List Nat} {dl : DA TS} {p pos : Pos} (pc : PCT X.K C') (hm : X.mg "len" = none) (ha : PAd X C' W [e] sc dl) (hg : Gl X "len" := by rfl) (he : starEach [e] X.env = (false, eval e X.env) :: starEach [] X.env := by rfl) (hpl : (backTo pos (starEach [] X.env)).any (·.1) = false := by rfl) : PD X C' W (.Call (.Name "len" p) [e] [] pos) sc (dCallB lenX dl) :=
  pd_callB call_len (fun A s H xs ds d Q I h e q => by
    obtain ⟨C, st, pc, rfl⟩ := pc
    exact cd_lenX pc A (adv st s.u) H xs ds d Q ⟨I.fresh, I.dom, I.at_.1⟩ h.un e fun H' v k a dv => q H' v k ⟨a, by
      cases ds with
      | nil => cases e
      | cons d1 r => cases r with
        | cons _ _ => cases d1 <;> cases e
        | nil => exact I.at_.2⟩ dv.tp) hm ha PySem.boot_len hg (by decide) (by decide) he hpl

/-! ### a piece of the text by a tape -/
def dTape (ch : DeckSt → List (Int × Int)) (d : DS TS) : DS DeckSt := fun ρ st => match d ρ ⟨ch st, []⟩ with
  | .nx ρ' x => .nx ρ' (adv st x.u)
  | .rt v x => .rt v (adv st x.u)
  | .bk ρ' x => .bk ρ' (adv st x.u)
  | .ct ρ' x => .ct ρ' (adv st x.u)
  | .ex c ρ' x => .ex c ρ' (adv st x.u)
  | .bad => .bad
theorem pbd_tape {b : List Stmt} {ch : DeckSt → List (Int × Int)} {d : DS TS} (hch : ∀ st, tapeOk st (ch st)) (h : ∀ st, PBd X (C.tp st) W b d) : PBd X C W b (dTape ch d) :=
  ⟨fun pins s σ H D I ⟨A0, H0, A, ρ, st, J, g⟩ => (h st).run pins s σ H D I ⟨A0, H0, A, ρ, ⟨ch st, []⟩, J.tp rfl (hch st), by
    unfold dTape at g
    generalize ho : d ρ ⟨ch st, []⟩ = o at g
    cases o with
    | nx ρ' x => exact fun A H σ J => g A H σ J.un
    | rt v x => exact fun H v k a dv => g H v k a.1 dv.un
    | bk ρ' x => exact fun A H σ J => g A H σ J.un
    | ct ρ' x => exact fun A H σ J => g A H σ J.un
    | ex c ρ' x => exact fun a A H σ m J => g a A H σ m J.un
    | bad => exact g⟩⟩
end
noncomputable def chT (ts : List (List (Int × Int))) (st : DeckSt) : List (Int × Int) := by
  classical
  exact if h : ∃ t ∈ ts, tapeOk st t then h.choose else []
theorem chT_ok {ts : List (List (Int × Int))} {st : DeckSt} : tapeOk st (chT ts st) := by
  unfold chT
  split
  · rename_i h; exact h.choose_spec.2
  · exact trivial
def cov : Nat → List (List (Int × Int)) → Bool
  | 0, _ => false
  | k + 1, ts => ts.any (·.isEmpty) || (match ts with
    | ((n, _) :: _) :: _ => decide (0 < n) && (List.range n.toNat).all fun c => cov k (ts.filterMap fun t => match t with
      | (m, d) :: r => if m = n ∧ d = (c : Int) then some r else none
      | [] => none)
    | _ => false)
theorem cov_ok : ∀ {k : Nat} {ts : List (List (Int × Int))}, cov k ts = true → ∀ st, ∃ t ∈ ts, tapeOk st t
  | 0, _, h => by cases h
  | k + 1, ts, h => fun st => by
    unfold cov at h
    rw [Bool.or_eq_true] at h
    rcases h with h | h
    · obtain ⟨t, ht, e⟩ := List.any_eq_true.mp h
      cases t with
      | nil => exact ⟨[], ht, trivial⟩
      | cons _ _ => cases e
    · match ts, h with
      | ((n, x) :: r0) :: rs, h =>
        rw [Bool.and_eq_true] at h
        have hn : 0 < n := of_decide_eq_true h.1
        obtain ⟨p0, p1⟩ := pickF_range st hn
        have hc : (pickF st n).1 = (((pickF st n).1.toNat : Nat) : Int) := (Int.toNat_of_nonneg p0).symm
        have hm := List.all_eq_true.mp h.2 (pickF st n).1.toNat (List.mem_range.mpr (by omega))
        obtain ⟨t, ht, q⟩ := cov_ok hm (pickF st n).2
        obtain ⟨t1, h1, h2⟩ := List.mem_filterMap.mp ht
        cases t1 with
        | nil => cases h2
        | cons y r =>
          obtain ⟨m, d⟩ := y
          dsimp only at h2
          by_cases z : m = n ∧ d = (((pickF st n).1.toNat : Nat) : Int)
          · rw [if_pos z] at h2
            cases h2
            exact ⟨_, h1, by rw [z.1]; exact hn, by rw [z.1, z.2, ← hc], by rw [z.1]; exact q⟩
          · rw [if_neg z] at h2; cases h2
theorem chT_mem {k : Nat} {ts : List (List (Int × Int))} (h : cov k ts = true) (st : DeckSt) : chT ts st ∈ ts := by
  unfold chT
  rw [dif_pos (cov_ok h st)]
  exact (cov_ok h st).choose_spec.1

/-! ### slots that are not read any more -/
def fgt (keep : List Nat) (ρ : En) : En := ρ.mapIdx fun i x => if i ∈ keep then x else none
def dForget {S : Type} (keep : List Nat) (d : DS S) : DS S := fun ρ s => d (fgt keep ρ) s
section
variable {S : Type} {C : Deck S} {X : Cx} {W : WX} {A0 A A' : Addr → Prop} {H0 H H' B : Hp} {σ : St} {ρ : En} {st : S}
theorem fgt_get {keep : List Nat} {i : Nat} {x : Sl} (e : (fgt keep ρ)[i]? = some (some x)) : ρ[i]? = some (some x) := by
  unfold fgt at e
  rw [List.getElem?_mapIdx] at e
  cases h : ρ[i]? with
  | none => rw [h] at e; cases e
  | some y =>
    rw [h] at e
    by_cases z : i ∈ keep
    · simpa [z] using e
    · simp [z] at e
theorem SAt.forget (I : SAt C A0 H0 A H σ ρ st) (keep : List Nat) : SAt C A0 H0 A H σ (fgt keep ρ) st where
  len := by unfold fgt; rw [List.length_mapIdx]; exact I.len
  sl := fun i x e => I.sl i x (fgt_get e)
  apart := fun i j ds es n e1 e2 => I.apart i j ds es n (fgt_get e1) (fgt_get e2)
  fresh := I.fresh
  sub := I.sub
  lim := I.lim
  dom := I.dom
  keep := I.keep
  at_ := I.at_
theorem pbd_forget {b : List Stmt} {d : DS S} (keep : List Nat) (h : PBd X C W b d) : PBd X C W b (dForget keep d) :=
  ⟨fun pins s σ H D I ⟨A0, H0, A, ρ, st, J, g⟩ => h.run pins s σ H D I ⟨A0, H0, A, _, st, J.forget keep, g⟩⟩
theorem fgt_one {N : Nat} {x : Option Sl} (hl : ρ.length = N + 2) (h1 : ρ[1]? = some x) : fgt [1] ρ = none :: x :: List.replicate N none := by
  refine List.ext_getElem? fun i => ?_
  unfold fgt
  rw [List.getElem?_mapIdx]
  match i with
  | 0 => 
    rw [List.getElem?_eq_getElem (by omega)]
    simp
  | 1 => rw [h1]; simp
  | i + 2 =>
    by_cases z : i < N
    · rw [List.getElem?_eq_getElem (by omega)]
      simp [z]
    · rw [List.getElem?_eq_none (by omega)]
      simp [z]
/-- a loop by an invariant -/
theorem forL_inv {g : DG} {ds : DS S} (Inv : En → S → Prop) : ∀ {l : List D} {ρ : En} {s : S}, (∀ d ∈ l, ∀ ρ s, Inv ρ s → ∃ ρ1 ρ' s', g d ρ = some ρ1 ∧ ds ρ1 s = .nx ρ' s' ∧ Inv ρ' s') → Inv ρ s → ∃ ρ' s', forL g ds l ρ s = .nx ρ' s' ∧ Inv ρ' s'
  | [], ρ, s, _, h => ⟨ρ, s, rfl, h⟩
  | d :: l, ρ, s, hs, h => by
    obtain ⟨ρ1, ρ', s', e1, e2, h'⟩ := hs d (.head _) ρ s h
    obtain ⟨ρ2, s2, e3, h2⟩ := forL_inv Inv (fun d hd => hs d (.tail _ hd)) h'
    exact ⟨ρ2, s2, by unfold forL; rw [e1]; dsimp only; rw [e2]; exact e3, h2⟩
end
/-- what holds of each stretch holds of all -/
theorem all_chunks {α : Type} {P : α → Bool} {l : List α} {n k : Nat} (hn : 0 < n) (h : ∀ i < k, ((l.drop (n * i)).take n).all P = true) (hl : l.length ≤ n * k) : ∀ t ∈ l, P t = true := fun t ht => by
  obtain ⟨j, hj, rfl⟩ := List.mem_iff_getElem.mp ht
  have hd := Nat.div_add_mod j n
  have hm := Nat.mod_lt j hn
  have hi : j / n < k := Nat.div_lt_of_lt_mul (by omega)
  refine List.all_eq_true.mp (h (j / n) hi) _ (List.mem_of_getElem? (i := j % n) ?_)
  rw [List.getElem?_take_of_lt hm, List.getElem?_drop, hd, List.getElem?_eq_getElem hj]
/-- the outcome of one turn, with the deck where it was -/
def turnOk (N : Nat) : Out TS → Bool
  | .nx ρ x => ρ.length == N && (match ρ[1]? with
    | some (some (Sl.val D.deck)) => true
    | _ => false) && x.u.all fun n => decide (0 < n)
  | _ => false
def InvL (N : Nat) (ρ : En) (st : DeckSt) : Prop := ρ.length = N ∧ ρ[1]? = some (some (.val .deck)) ∧ st.Ok
theorem turn_inv {N : Nat} {ts : List (List (Int × Int))} {d : DS TS} {k : Nat} (hc : cov k ts = true) (hd : ∀ t ∈ ts, turnOk (N + 2) (d (none :: some (.val .deck) :: List.replicate N none) ⟨t, []⟩) = true) {ρ : En} {st : DeckSt} (h : InvL (N + 2) ρ st) :
    ∃ ρ' s', dForget [1] (dTape (chT ts) d) ρ st = .nx ρ' s' ∧ InvL (N + 2) ρ' s' := by
  unfold dForget dTape
  rw [fgt_one h.1 h.2.1]
  have q := hd _ (chT_mem hc st)
  cases e : d (none :: some (.val .deck) :: List.replicate N none) ⟨chT ts st, []⟩ with
  | nx ρ' x =>
    rw [e] at q
    unfold turnOk at q
    dsimp only at q
    rw [Bool.and_eq_true, Bool.and_eq_true] at q
    refine ⟨ρ', _, rfl, by simpa using q.1.1, ?_, adv_ok h.2.2 fun n hn => of_decide_eq_true (List.all_eq_true.mp q.2 n hn)⟩
    have q2 := q.1.2
    split at q2
    · rename_i e; exact e
    · cases q2
  | rt _ _ => rw [e] at q; cases q
  | bk _ _ => rw [e] at q; cases q
  | ct _ _ => rw [e] at q; cases q
  | ex _ _ _ => rw [e] at q; cases q
  | bad => rw [e] at q; cases q
/-- the law's body: one loop of turns, then True -/
theorem turns_pure {N : Nat} {di : DA DeckSt} {b : DS DeckSt} {st : DeckSt} {n : Nat} {l : List D} (ok : st.Ok) (hl : di (rho0 (N + 2) n) st = .ok l st) (hN : 1 ≤ N)
    (hb : ∀ ρ st, InvL (N + 2) ρ st → ∃ ρ' s', b ρ st = .nx ρ' s' ∧ InvL (N + 2) ρ' s') : ∃ s', dSeq (dFor (gN 2) [] di b) (dRet (dC (.bl true))) (rho0 (N + 2) n) st = .rt (.bl true) s' := by
  unfold dSeq dFor
  rw [hl, frz_nil, R.out_ok]
  obtain ⟨ρ', s', e, h⟩ := forL_inv (g := gN 2) (ds := b) (l := l) (ρ := rho0 (N + 2) n) (s := st) (InvL (N + 2)) (fun d _ ρ s I => by
    obtain ⟨ρ', s', e, h⟩ := hb (ρ.set 2 (some (.val d))) s ⟨by rw [List.length_set]; exact I.1, by rw [List.getElem?_set_ne (by decide)]; exact I.2.1, I.2.2⟩
    exact ⟨_, ρ', s', rfl, e, h⟩) ⟨by simp [rho0], rfl, ok⟩
  refine ⟨s', ?_⟩
  rw [e]
  rfl
end Mir

set_option Elab.async false
set_option linter.all false
set_option maxRecDepth 100000
set_option maxHeartbeats 2000000
namespace Mir
open PySem PySem.Spec L2
open PyProof.Rows hiding St
section
variable {S : Type} {PC : Deck S → Prop}
theorem fnok_mk0 {P : Program} {w : World} {K : PySem.W.Frag} {mg : Str → Option Value} {base : Heap} {x : Str} {stm : Stmt} {f : Addr} {fd : FuncData} {N ps : List Str} {k : Nat} {ds : DS S} (F : Fun K x x stm f fd) (sc : FnScope N ps (defScope stm))
    (body : ∀ (cdv : Value) (A : Around) (outer : List PySem.Env) (s : Shared) (H : Hp) (E : XK) (C : Deck S), PC C → Room k (A.deeper (envOfC x (defScope stm) s.heap.objs.size f cdv)) → PBd (cxOf (L2.CX P w) P w K mg base N x (defScope stm) f cdv A outer s H E) C (fun cls d _ H => E cls d H) (defBody stm) ds) :
    FnOk P w K mg base (L2.CX P w) (k + 1) f fd ps (spOf mg PC ps.length (mOf N.length ds)) := by
  refine F.okX sc (fun vs H Q E h => ?_) (fun cdv A outer s H vs Q E hr h => ?_)
  · obtain ⟨C, A, s, args, pc, V0, t, hl, g⟩ := h
    rw [t.len, hl]
  · obtain ⟨C, A1, s1, args, pc, V0, t, hl, g⟩ := h
    refine ⟨_, body cdv A outer s H E C pc hr, A1, H, A1, _, s1, start_sat V0 t, ?_⟩
    unfold mOf at g
    generalize ho : ds (args.map (fun d => some (.val d)) ++ List.replicate (N.length - args.length) none) s1 = o at g
    cases o with
    | rt d s' => exact fun H' v k a h => g H' v k a h
    | nx ρ s' => exact fun A' H' σ J => g H' .non J.keep J.at_ .non
    | ex c ρ s' => exact fun q A' H' σ m J => g q H' m J.keep J.at_
    | bk ρ s' => exact g.elim
    | ct ρ s' => exact g.elim
    | bad => exact g.elim
theorem fn_ofok {P : Program} {w : World} {K : PySem.W.Frag} {mg : Str → Option Value} {base : Heap} {x : Str} {k n : Nat} {m : List D → S → R S D} {f : Addr} {fd : FuncData} {ps : List Str} (o : FnOk P w K mg base (L2.CX P w) k f fd ps (spOf mg PC n m)) (hg : mg x = some (.ref f)) (hk : PySem.W.keepIn K (.ref f) = true) (hb : Binds K fd ps []) : Fn P w K mg base PC x k n m := ⟨f, fd, ps, o, hg, hk, hb⟩
theorem fk_ofok {P : Program} {w : World} {K : PySem.W.Frag} {mg : Str → Option Value} {base : Heap} {x : Str} {k n a : Nat} {ks : List Str} {is : List Nat} {m : List D → S → R S D} {f : Addr} {fd : FuncData} {ps : List Str} (o : FnOk P w K mg base (L2.CX P w) k f fd ps (spOf mg PC n m)) (hg : mg x = some (.ref f)) (hk : PySem.W.keepIn K (.ref f) = true)
    (hb : KBn K fd ps a ks (fun us ws => pick is (us ++ ws)) (fun vs zs => pick is (vs ++ zs))) : Fk P w K mg base PC x k n m a ks is := ⟨f, fd, ps, o, hg, hk, hb⟩
end
theorem kbn_mk {K : PySem.W.Frag} {x : Str} {st : Stmt} {f : Addr} {fd : FuncData} (F : Fun K x x st f fd) {ps ks : List Str} {a : Nat} {is : List Nat}
    (h : ∀ (kV doc pm : Value) (an : Option Addr) (cdv ct : Value) (us ws : List Value), us.length = a → ws.length = ks.length → bindArgs (PySem.W.fnOf x x (defArgs st) (defBody st) (defScope st) .none kV doc pm an cdv ct) ⟨us, ks.zip ws⟩ = pure (ps.zip (pick is (us ++ ws)))) :
    KBn K fd ps a ks (fun us ws => pick is (us ++ ws)) (fun vs zs => pick is (vs ++ zs)) := by
  obtain ⟨oc, od, kV, doc, pm, an, cdv, ct, osl, rfl, lk, hcd⟩ := F.ex
  exact ⟨fun s us ws _ h1 h2 => .of_eq (h kV doc pm an cdv ct us ws h1 h2), fun r q => pick_vals (r.append q) is⟩
end Mir

set_option Elab.async false
set_option linter.all false
set_option maxRecDepth 100000
set_option maxHeartbeats 4000000
namespace Mir
open PySem PySem.Spec L2
open PyProof.Rows hiding St
/-! printed by gen.py -/
def top (i : Nat) : Stmt := PySem.Challenge.pw_roadsworn_k07_signatures.main.body.getD i (.Pass ⟨0, 0, 0, 0⟩)
abbrev s_is_int : Stmt := top 4
abbrev s_within : Stmt := top 5
abbrev s_is_row : Stmt := top 6
abbrev s_product_of : Stmt := top 13
abbrev s_are_sizes : Stmt := top 14
abbrev s_is_signature : Stmt := top 15
abbrev s_need_signature : Stmt := top 16
abbrev s_controls_in : Stmt := top 17
abbrev s_controls_of : Stmt := top 18
abbrev s__law_deck : Stmt := top 20
abbrev s__law_pick : Stmt := top 21
abbrev s__law_same : Stmt := top 22
abbrev s__law_sizes : Stmt := top 23
abbrev s__law_signature : Stmt := top 24
abbrev s__law_controls : Stmt := top 25
abbrev s__law_int : Stmt := top 26
abbrev s__law_judge : Stmt := top 27
abbrev s__law_near : Stmt := top 28
abbrev s__law_refused : Stmt := top 29
abbrev s_law : Stmt := top 30
def whileFuel : Nat := 1000000
def subTab : List (Str × Str × Bool) := [("BadSignature", "BadSignature", true)]
def subF : Str → Str → Option Bool := subT subTab
structure Txt (K : PySem.W.Frag) (mg : Str → Option Value) : Prop where
  n_all : mg "all" = none
  n_bool : mg "bool" = none
  n_int : mg "int" = none
  n_isinstance : mg "isinstance" = none
  n_len : mg "len" = none
  n_list : mg "list" = none
  n_min : mg "min" = none
  n_range : mg "range" = none
  n_str : mg "str" = none
  n_tuple : mg "tuple" = none
  c_ALPHABET : ∃ t, mg "ALPHABET" = some (.str "abc" t)
  c_MOST_CHANNELS : ∃ t, mg "MOST_CHANNELS" = some (.int 2 t)
  c_MOST_CONTROLS : ∃ t, mg "MOST_CONTROLS" = some (.int 16 t)
  c_MOST_PROCESSES : ∃ t, mg "MOST_PROCESSES" = some (.int 3 t)
  c_MOST_STATES : ∃ t, mg "MOST_STATES" = some (.int 4 t)
  e_BadSignature : ∃ q, ErrOk K mg "BadSignature" q
  sub : SubOk K mg subF
def tapes : List (List (Int × Int)) := (List.range 3).flatMap fun a => (List.range 2).flatMap fun b => (List.range 10).map fun c => [(3, Int.ofNat a), (2, Int.ofNat b), (10, Int.ofNat c)]

section
variable {P : Program} {w : World} {K : PySem.W.Frag} {mg : Str → Option Value} {base : Heap}
abbrev m__law_pick : List D → TS → R TS D := mPickT
abbrev N__law_sizes : List Str := ["deck"]
theorem sc__law_sizes : FnScope N__law_sizes ["deck"] (defScope s__law_sizes) := ⟨rfl, rfl, rfl, by decide +kernel, rfl, by decide +kernel, by decide +kernel⟩
def d__law_sizes : DS TS := dRet (dBin ixD (dF (dLst (dCons (dTup (dCons (dC (.int 1)) (dNil))) (dCons (dTup (dCons (dC (.int 2)) (dNil))) (dCons (dTup (dCons (dC (.int 3)) (dNil))) (dCons (dTup (dCons (dC (.int 2)) (dCons (dC (.int 2)) (dNil)))) (dCons (dTup (dCons (dC (.int 1)) (dCons (dC (.int 2)) (dNil)))) (dCons (dTup (dCons (dC (.int 4)) (dNil))) (dCons (dTup (dCons (dC (.int 2)) (dCons (dC (.int 1)) (dCons (dC (.int 2)) (dNil))))) (dCons (dTup (dCons (dC (.int 2)) (dCons (dC (.int 2)) (dCons (dC (.int 2)) (dNil))))) (dCons (dTup (dCons (dC (.int 4)) (dCons (dC (.int 4)) (dNil)))) (dCons (dTup (dCons (dC (.int 1)) (dCons (dC (.int 1)) (dNil)))) (dNil))))))))))))) (dCall m__law_pick (dCons (dVar 0) (dCons (dC (.int 10)) (dNil)))))
def m__law_sizes : List D → TS → R TS D := mOf 1 d__law_sizes
theorem ok__law_sizes (T : Txt K mg) (h__law_pick : Fn P w K mg base (PCT K) "_law_pick" 1 2 m__law_pick) {f : Addr} {fd : FuncData} (F : Fun K "_law_sizes" "_law_sizes" s__law_sizes f fd) : FnOk P w K mg base (L2.CX P w) 2 f fd ["deck"] (spOf mg (PCT K) 1 m__law_sizes) := by
  exact fnok_mk0 (N := N__law_sizes) F sc__law_sizes fun cdv A outer s H E C pc hr => by exact (pbd_one (psd_ret (pd_ix (pd_f (pf_lst (pad_cons (pd_tup (pad_cons pd_int pad_nil)) (pad_cons (pd_tup (pad_cons pd_int pad_nil)) (pad_cons (pd_tup (pad_cons pd_int pad_nil)) (pad_cons (pd_tup (pad_cons pd_int (pad_cons pd_int pad_nil))) (pad_cons (pd_tup (pad_cons pd_int (pad_cons pd_int pad_nil))) (pad_cons (pd_tup (pad_cons pd_int pad_nil)) (pad_cons (pd_tup (pad_cons pd_int (pad_cons pd_int (pad_cons pd_int pad_nil)))) (pad_cons (pd_tup (pad_cons pd_int (pad_cons pd_int (pad_cons pd_int pad_nil)))) (pad_cons (pd_tup (pad_cons pd_int (pad_cons pd_int pad_nil))) (pad_cons (pd_tup (pad_cons pd_int (pad_cons pd_int pad_nil))) pad_nil)))))))))))) (pd_call h__law_pick pc hr (by decide) (takes_of rfl rfl rfl rfl) (pad_cons (pd_var 0) (pad_cons pd_int pad_nil)) (dLen_cons (dLen_cons dLen_nil))))))
abbrev N__law_signature : List Str := ["deck"]
theorem sc__law_signature : FnScope N__law_signature ["deck"] (defScope s__law_signature) := ⟨rfl, rfl, rfl, by decide +kernel, rfl, by decide +kernel, by decide +kernel⟩
def d__law_signature : DS TS := dRet (dTup (dCons (dBin addD (dC (.int 1)) (dCall m__law_pick (dCons (dVar 0) (dCons (dC (.int 3)) (dNil))))) (dCons (dBin addD (dC (.int 1)) (dCall m__law_pick (dCons (dVar 0) (dCons (dC (.int 2)) (dNil))))) (dCons (dCall m__law_sizes (dCons (dVar 0) (dNil))) (dNil)))))
def m__law_signature : List D → TS → R TS D := mOf 1 d__law_signature
theorem ok__law_signature (T : Txt K mg) (h__law_sizes : Fn P w K mg base (PCT K) "_law_sizes" 2 1 m__law_sizes) (h__law_pick : Fn P w K mg base (PCT K) "_law_pick" 1 2 m__law_pick) {f : Addr} {fd : FuncData} (F : Fun K "_law_signature" "_law_signature" s__law_signature f fd) : FnOk P w K mg base (L2.CX P w) 3 f fd ["deck"] (spOf mg (PCT K) 1 m__law_signature) := by
  exact fnok_mk0 (N := N__law_signature) F sc__law_signature fun cdv A outer s H E C pc hr => by exact (pbd_one (psd_ret (pd_tup (pad_cons (pd_add pd_int (pd_call h__law_pick pc hr (by decide) (takes_of rfl rfl rfl rfl) (pad_cons (pd_var 0) (pad_cons pd_int pad_nil)) (dLen_cons (dLen_cons dLen_nil)))) (pad_cons (pd_add pd_int (pd_call h__law_pick pc hr (by decide) (takes_of rfl rfl rfl rfl) (pad_cons (pd_var 0) (pad_cons pd_int pad_nil)) (dLen_cons (dLen_cons dLen_nil)))) (pad_cons (pd_call h__law_sizes pc hr (by decide) (takes_of rfl rfl rfl rfl) (pad_cons (pd_var 0) pad_nil) (dLen_cons dLen_nil)) pad_nil))))))
abbrev N__law_near : List Str := ["deck", "signature", "letters", "channels", "sizes", "found", "one", "row"]
theorem sc__law_near : FnScope N__law_near ["deck", "signature"] (defScope s__law_near) := ⟨rfl, rfl, rfl, by decide +kernel, rfl, by decide +kernel, by decide +kernel⟩
def L__law_near_1 : DS TS := dMeth 5 [] (dCons (dF (dLst (dCons (dTup (dCons (dVar 6) (dCons (dVar 3) (dCons (dVar 4) (dNil))))) (dCons (dTup (dCons (dVar 2) (dCons (dVar 6) (dCons (dVar 4) (dNil))))) (dCons (dTup (dCons (dVar 2) (dCons (dVar 3) (dCons (dTup (dCons (dVar 6) (dNil))) (dNil))))) (dCons (dTup (dCons (dVar 2) (dCons (dVar 3) (dCons (dBin addD (dVar 4) (dTup (dCons (dVar 6) (dNil)))) (dNil))))) (dNil))))))) (dNil)) fExt kDrop
def L__law_near_2 : DS TS := dMeth 5 [] (dCons (dTup (dCons (dVar 2) (dCons (dVar 3) (dCons (dVar 7) (dNil))))) (dNil)) fApp kDrop
def d__law_near : DS TS := dSeq (dAsgT (gT 3 (gsCons (gN 2) (gsCons (gN 3) (gsCons (gN 4) (gsNil))))) [] (dVar 1))
  (dSeq (dAsg 5 [] (dO (dLst (dCons (dF (dListOf (dVar 1))) (dCons (dSl (dVar 1) (dNoPart) (dPart (dC (.int 2)))) (dCons (dBin addD (dVar 1) (dTup (dCons (dC (.int 1)) (dNil)))) (dCons (dC .non) (dCons (dC (.str [97, 98, 99])) (dCons (dC (.int 3)) (dCons (dTup (dNil)) (dCons (dTup (dCons (dVar 2) (dCons (dVar 3) (dCons (dF (dListOf (dVar 4))) (dNil))))) (dNil))))))))))))
  (dSeq (dFor (gN 6) [] (dWalk (dTup (dCons (dC (.int 0)) (dCons (dC (.int 1)) (dCons (dC (.int 3)) (dCons (dC (.int 4)) (dCons (dUn negD (dC (.int 1))) (dCons (dC (.bl true)) (dCons (dC .non) (dCons (dC (.str [97])) (dNil)))))))))) walkD) L__law_near_1)
  (dSeq (dFor (gN 7) [] (dWalk (dTup (dCons (dTup (dNil)) (dCons (dTup (dCons (dC (.int 4)) (dCons (dC (.int 4)) (dNil)))) (dCons (dTup (dCons (dC (.int 4)) (dCons (dC (.int 2)) (dCons (dC (.int 2)) (dNil))))) (dCons (dTup (dCons (dC (.int 3)) (dCons (dC (.int 3)) (dCons (dC (.int 2)) (dNil))))) (dCons (dTup (dCons (dC (.int 4)) (dCons (dC (.int 4)) (dCons (dC (.int 2)) (dNil))))) (dCons (dTup (dCons (dC (.int 2)) (dCons (dC (.int 2)) (dCons (dC (.int 2)) (dCons (dC (.int 2)) (dNil)))))) (dCons (dTup (dCons (dC (.int 1)) (dCons (dC (.int 1)) (dCons (dC (.int 1)) (dNil))))) (dCons (dTup (dCons (dC (.int 4)) (dCons (dC (.int 3)) (dCons (dC (.int 1)) (dNil))))) (dCons (dTup (dCons (dC (.int 5)) (dNil))) (dCons (dTup (dCons (dC (.int 3)) (dCons (dC (.int 4)) (dNil)))) (dCons (dTup (dCons (dTup (dCons (dC (.int 2)) (dNil))) (dNil))) (dCons (dTup (dCons (dC (.int 2)) (dCons (dC (.bl true)) (dNil)))) (dNil)))))))))))))) walkD) L__law_near_2)
  (dRet (dBin addD (dOwn 5) (dF (dLst (dCons (dTup (dCons (dVar 2) (dCons (dVar 3) (dCons (dC (.int 2)) (dNil))))) (dCons (dTup (dCons (dVar 3) (dCons (dVar 4) (dCons (dVar 2) (dNil))))) (dCons (dTup (dCons (dTup (dCons (dVar 2) (dCons (dVar 3) (dNil)))) (dCons (dVar 4) (dNil)))) (dCons (dTup (dCons (dVar 2) (dCons (dC (.int 2)) (dCons (dVar 4) (dCons (dTup (dNil)) (dNil)))))) (dNil))))))))))))
def m__law_near : List D → TS → R TS D := mOf 8 d__law_near
theorem ok__law_near (T : Txt K mg)  {f : Addr} {fd : FuncData} (F : Fun K "_law_near" "_law_near" s__law_near f fd) : FnOk P w K mg base (L2.CX P w) 1 f fd ["deck", "signature"] (spOf mg (PCT K) 2 m__law_near) := by
  exact fnok_mk0 (N := N__law_near) F sc__law_near fun cdv A outer s H E C pc hr => by exact (pbd_cons (psd_asgT (pd_var 1) (pgd_tup 3 rfl (pgsd_cons (pgd_name 2 sc__law_near.nd) (pgsd_cons (pgd_name 3 sc__law_near.nd) (pgsd_cons (pgd_name 4 sc__law_near.nd) pgsd_nil)))))
  (pbd_cons (psd_asg 5 sc__law_near.nd (pv_o (pf_lst (pad_cons (pd_f (pf_list T.n_list (pd_var 1))) (pad_cons (pd_sl (pd_var 1) part_none (part_some pd_int)) (pad_cons (pd_add (pd_var 1) (pd_tup (pad_cons pd_int pad_nil))) (pad_cons pd_non (pad_cons (pd_str [97, 98, 99] (by rfl) ⟨by decide, by decide⟩) (pad_cons pd_int (pad_cons (pd_tup pad_nil) (pad_cons (pd_tup (pad_cons (pd_var 2) (pad_cons (pd_var 3) (pad_cons (pd_f (pf_list T.n_list (pd_var 4))) pad_nil)))) pad_nil)))))))))))
  (pbd_cons (psd_for (passes_of rfl) rfl (pid_any (pd_tup (pad_cons pd_int (pad_cons pd_int (pad_cons pd_int (pad_cons pd_int (pad_cons (pd_neg pd_int) (pad_cons pd_bl (pad_cons pd_non (pad_cons (pd_str [97] (by rfl) ⟨by decide, by decide⟩) pad_nil)))))))))) (pgd_name 6 sc__law_near.nd) (pbd_one (psd_meth 5 PySem.F.slot_list_extend PySem.F.type_list_extend mt_extend md_ext (pad_cons (pd_f (pf_lst (pad_cons (pd_tup (pad_cons (pd_var 6) (pad_cons (pd_var 3) (pad_cons (pd_var 4) pad_nil)))) (pad_cons (pd_tup (pad_cons (pd_var 2) (pad_cons (pd_var 6) (pad_cons (pd_var 4) pad_nil)))) (pad_cons (pd_tup (pad_cons (pd_var 2) (pad_cons (pd_var 3) (pad_cons (pd_tup (pad_cons (pd_var 6) pad_nil)) pad_nil)))) (pad_cons (pd_tup (pad_cons (pd_var 2) (pad_cons (pd_var 3) (pad_cons (pd_add (pd_var 4) (pd_tup (pad_cons (pd_var 6) pad_nil))) pad_nil)))) pad_nil)))))) pad_nil))))
  (pbd_cons (psd_for (passes_of rfl) rfl (pid_any (pd_tup (pad_cons (pd_tup pad_nil) (pad_cons (pd_tup (pad_cons pd_int (pad_cons pd_int pad_nil))) (pad_cons (pd_tup (pad_cons pd_int (pad_cons pd_int (pad_cons pd_int pad_nil)))) (pad_cons (pd_tup (pad_cons pd_int (pad_cons pd_int (pad_cons pd_int pad_nil)))) (pad_cons (pd_tup (pad_cons pd_int (pad_cons pd_int (pad_cons pd_int pad_nil)))) (pad_cons (pd_tup (pad_cons pd_int (pad_cons pd_int (pad_cons pd_int (pad_cons pd_int pad_nil))))) (pad_cons (pd_tup (pad_cons pd_int (pad_cons pd_int (pad_cons pd_int pad_nil)))) (pad_cons (pd_tup (pad_cons pd_int (pad_cons pd_int (pad_cons pd_int pad_nil)))) (pad_cons (pd_tup (pad_cons pd_int pad_nil)) (pad_cons (pd_tup (pad_cons pd_int (pad_cons pd_int pad_nil))) (pad_cons (pd_tup (pad_cons (pd_tup (pad_cons pd_int pad_nil)) pad_nil)) (pad_cons (pd_tup (pad_cons pd_int (pad_cons pd_bl pad_nil))) pad_nil)))))))))))))) (pgd_name 7 sc__law_near.nd) (pbd_one (psd_meth 5 PySem.F.slot_list_append PySem.F.type_list_append mt_append md_app (pad_cons (pd_tup (pad_cons (pd_var 2) (pad_cons (pd_var 3) (pad_cons (pd_var 7) pad_nil)))) pad_nil))))
  (pbd_one (psd_ret (pd_add (pd_own 5) (pd_f (pf_lst (pad_cons (pd_tup (pad_cons (pd_var 2) (pad_cons (pd_var 3) (pad_cons pd_int pad_nil)))) (pad_cons (pd_tup (pad_cons (pd_var 3) (pad_cons (pd_var 4) (pad_cons (pd_var 2) pad_nil)))) (pad_cons (pd_tup (pad_cons (pd_tup (pad_cons (pd_var 2) (pad_cons (pd_var 3) pad_nil))) (pad_cons (pd_var 4) pad_nil))) (pad_cons (pd_tup (pad_cons (pd_var 2) (pad_cons pd_int (pad_cons (pd_var 4) (pad_cons (pd_tup pad_nil) pad_nil))))) pad_nil)))))))))))))
abbrev N__law_int : List Str := ["thing", "low", "high"]
theorem sc__law_int : FnScope N__law_int ["thing", "low", "high"] (defScope s__law_int) := ⟨rfl, rfl, rfl, by decide +kernel, rfl, by decide +kernel, by decide +kernel⟩
def d__law_int : DS TS := dRet (dAndV (dIsi "int" (dVar 0)) (dAndV (dNotV (dIsi "bool" (dVar 0))) (dChain leD leD (dVar 1) (dVar 0) (dVar 2))))
def m__law_int : List D → TS → R TS D := mOf 3 d__law_int
theorem ok__law_int (T : Txt K mg)  {f : Addr} {fd : FuncData} (F : Fun K "_law_int" "_law_int" s__law_int f fd) : FnOk P w K mg base (L2.CX P w) 1 f fd ["thing", "low", "high"] (spOf mg (PCT K) 3 m__law_int) := by
  exact fnok_mk0 (N := N__law_int) F sc__law_int fun cdv A outer s H E C pc hr => by exact (pbd_one (psd_ret (pd_and (pd_isi "int" T.n_isinstance T.n_int (pd_var 0)) (pd_and (pd_not (pd_isi "bool" T.n_isinstance T.n_bool (pd_var 0))) (pd_one (pd_chain k_le k_le (pd_var 1) (pd_var 0) (pd_var 2)))))))
abbrev N__law_judge : List Str := ["thing", "sizes", "count", "size"]
theorem sc__law_judge : FnScope N__law_judge ["thing"] (defScope s__law_judge) := ⟨rfl, rfl, rfl, by decide +kernel, rfl, by decide +kernel, by decide +kernel⟩
def L__law_judge_1 : DS TS := dAsg 2 [] (dV (dBin mulI (dVar 2) (dVar 3)))
def d__law_judge : DS TS := dSeq (dIfS (dOr (dNot (dTr (dIsi "tuple" (dVar 0)))) (dOr (dB (dBin neO (dCallB lenD (dCons (dVar 0) (dNil))) (dC (.int 3)))) (dOr (dNot (dTr (dCall m__law_int (dCons (dBin ixD (dVar 0) (dC (.int 0))) (dCons (dC (.int 1)) (dCons (dC (.int 3)) (dNil))))))) (dNot (dTr (dCall m__law_int (dCons (dBin ixD (dVar 0) (dC (.int 1))) (dCons (dC (.int 1)) (dCons (dC (.int 2)) (dNil)))))))))) (dRet (dC (.bl false))) (dNext))
  (dSeq (dPar 1 2 [] [] (dV (dBin ixD (dVar 0) (dC (.int 2)))) (dV (dC (.int 1))))
  (dSeq (dIfS (dOr (dNot (dTr (dIsi "tuple" (dVar 1)))) (dOr (dNot (dB (dChain leD leD (dC (.int 1)) (dCallB lenD (dCons (dVar 1) (dNil))) (dC (.int 3))))) (dNot (dTr (dCallB allD (dCons (dF (dLc (gN 3) [3] [] (dWalk (dVar 1) walkD) (dYes) (dCall m__law_int (dCons (dVar 3) (dCons (dC (.int 1)) (dCons (dC (.int 4)) (dNil))))))) (dNil))))))) (dRet (dC (.bl false))) (dNext))
  (dSeq (dFor (gN 3) [] (dWalk (dVar 1) walkD) L__law_judge_1)
  (dRet (dBin leD (dVar 2) (dC (.int 16)))))))
def m__law_judge : List D → TS → R TS D := mOf 4 d__law_judge
theorem ok__law_judge (T : Txt K mg) (h__law_int : Fn P w K mg base (PCT K) "_law_int" 1 3 m__law_int) {f : Addr} {fd : FuncData} (F : Fun K "_law_judge" "_law_judge" s__law_judge f fd) : FnOk P w K mg base (L2.CX P w) 2 f fd ["thing"] (spOf mg (PCT K) 1 m__law_judge) := by
  exact fnok_mk0 (N := N__law_judge) F sc__law_judge fun cdv A outer s H E C pc hr => by exact (pbd_cons (psd_if (ptd_w (pwd_or (ptd_not (ptd_tr (pd_isi "tuple" T.n_isinstance T.n_tuple (pd_var 0)))) (pwd_or (ptd_c (k_ne hr.units) (pd_len T.n_len (pad_cons (pd_var 0) pad_nil)) pd_int) (pwd_or (ptd_not (ptd_tr (pd_call h__law_int pc hr (by decide) (takes_of rfl rfl rfl rfl) (pad_cons (pd_ix (pd_var 0) pd_int) (pad_cons pd_int (pad_cons pd_int pad_nil))) (dLen_cons (dLen_cons (dLen_cons dLen_nil)))))) (pwd_or1 (ptd_not (ptd_tr (pd_call h__law_int pc hr (by decide) (takes_of rfl rfl rfl rfl) (pad_cons (pd_ix (pd_var 0) pd_int) (pad_cons pd_int (pad_cons pd_int pad_nil))) (dLen_cons (dLen_cons (dLen_cons dLen_nil))))))))))) (pbd_one (psd_ret pd_bl)) pbd_nil)
  (pbd_cons (psd_par 1 2 rfl sc__law_judge.nd (pv_v (pd_ix (pd_var 0) pd_int)) (pv_v pd_int))
  (pbd_cons (psd_if (ptd_w (pwd_or (ptd_not (ptd_tr (pd_isi "tuple" T.n_isinstance T.n_tuple (pd_var 1)))) (pwd_or (ptd_not (ptd_chain k_le k_le pd_int (pd_len T.n_len (pad_cons (pd_var 1) pad_nil)) pd_int)) (pwd_or1 (ptd_not (ptd_tr (pd_all rfl T.n_all (pad_cons (pd_f (pf_lc (own := [("size", 3)]) (sc := []) (sa := []) rfl sc__law_judge.nd (pid_any (pd_var 1)) (blkOk_by (own := [("size", 3)]) (N := N__law_judge) (sc := defScope s__law_judge) (by decide +kernel)) (fun _ _ _ _ _ => (pgd_name 3 sc__law_judge.nd)) (no_gN 3) (fun _ _ _ _ _ => ptsd_nil) (fun _ _ _ _ _ => (pd_call h__law_int pc hr (by decide) takes0 (pad_cons (pd_var 3) (pad_cons pd_int (pad_cons pd_int pad_nil))) (dLen_cons (dLen_cons (dLen_cons dLen_nil))))))) pad_nil)))))))) (pbd_one (psd_ret pd_bl)) pbd_nil)
  (pbd_cons (psd_for (passes_of rfl) rfl (pid_any (pd_var 1)) (pgd_name 3 sc__law_judge.nd) (pbd_one (psd_asg 2 sc__law_judge.nd (pv_v (pd_mulI (pd_var 2) (pd_var 3))))))
  (pbd_one (psd_ret (pd_c k_le (pd_var 2) pd_int)))))))
abbrev N__law_same : List Str := ["told", "due", "waiting", "one", "two", "k"]
theorem sc__law_same : FnScope N__law_same ["told", "due"] (defScope s__law_same) := ⟨rfl, rfl, rfl, by decide +kernel, rfl, by decide +kernel, by decide +kernel⟩
def L__law_same_1 : DS TS := dSeq (dMeth 2 [] dNil fPop (gT 2 (gsCons (gN 3) (gsCons (gN 4) (gsNil)))))
  (dIfS (dTr (dIsi "tuple" (dVar 4))) (dSeq (dIfS (dOr (dNot (dTr (dIsi "tuple" (dVar 3)))) (dB (dBin neO (dCallB lenD (dCons (dVar 3) (dNil))) (dCallB lenD (dCons (dVar 4) (dNil)))))) (dRet (dC (.bl false))) (dNext))
  (dMeth 2 [] (dCons (dF (dLc (gN 5) [5] [] (dRng rng1 (dCons (dCallB lenD (dCons (dVar 4) (dNil))) (dNil))) (dYes) (dTup (dCons (dBin ixD (dVar 3) (dVar 5)) (dCons (dBin ixD (dVar 4) (dVar 5)) (dNil)))))) (dNil)) fExt kDrop)) (dIfS (dB (dBin (isF false) (dVar 4) (dC .non))) (dIfS (dB (dBin (isF true) (dVar 3) (dC .non))) (dRet (dC (.bl false))) (dNext)) (dIfS (dTr (dIsi "bool" (dVar 4))) (dIfS (dOr (dNot (dTr (dIsi "bool" (dVar 3)))) (dB (dBin neO (dVar 3) (dVar 4)))) (dRet (dC (.bl false))) (dNext)) (dIfS (dTr (dIsi "str" (dVar 4))) (dIfS (dOr (dNot (dTr (dIsi "str" (dVar 3)))) (dB (dBin neO (dVar 3) (dVar 4)))) (dRet (dC (.bl false))) (dNext)) (dIfS (dOr (dNot (dTr (dIsi "int" (dVar 3)))) (dOr (dTr (dIsi "bool" (dVar 3))) (dB (dBin neO (dVar 3) (dVar 4))))) (dRet (dC (.bl false))) (dNext))))))
def Q__law_same_2 : DT TS := dB (dBin neO (dOwn 2) (dF (dLst (dNil))))
def d__law_same : DS TS := dSeq (dAsg 2 [] (dO (dLst (dCons (dTup (dCons (dVar 0) (dCons (dVar 1) (dNil)))) (dNil)))))
  (dSeq (dWhile whileFuel Q__law_same_2 L__law_same_1)
  (dRet (dC (.bl true))))
def m__law_same : List D → TS → R TS D := mOf 6 d__law_same
theorem ok__law_same (T : Txt K mg)  {f : Addr} {fd : FuncData} (F : Fun K "_law_same" "_law_same" s__law_same f fd) : FnOk P w K mg base (L2.CX P w) 1 f fd ["told", "due"] (spOf mg (PCT K) 2 m__law_same) := by
  exact fnok_mk0 (N := N__law_same) F sc__law_same fun cdv A outer s H E C pc hr => by exact (pbd_cons (psd_asg 2 sc__law_same.nd (pv_o (pf_lst (pad_cons (pd_tup (pad_cons (pd_var 0) (pad_cons (pd_var 1) pad_nil))) pad_nil))))
  (pbd_cons (psd_while whileFuel (passes_of rfl) (ptd_c (k_ne hr.units) (pd_own 2) (pd_f (pf_lst pad_nil))) (pbd_cons (psd_methA0 2 PySem.F.slot_list_pop PySem.F.type_list_pop mt_pop md_pop (pgd_tup 2 rfl (pgsd_cons (pgd_name 3 sc__law_same.nd) (pgsd_cons (pgd_name 4 sc__law_same.nd) pgsd_nil))))
  (pbd_one (psd_if (ptd_tr (pd_isi "tuple" T.n_isinstance T.n_tuple (pd_var 4))) (pbd_cons (psd_if (ptd_w (pwd_or (ptd_not (ptd_tr (pd_isi "tuple" T.n_isinstance T.n_tuple (pd_var 3)))) (pwd_or1 (ptd_c (k_ne hr.units) (pd_len T.n_len (pad_cons (pd_var 3) pad_nil)) (pd_len T.n_len (pad_cons (pd_var 4) pad_nil)))))) (pbd_one (psd_ret pd_bl)) pbd_nil)
  (pbd_one (psd_meth 2 PySem.F.slot_list_extend PySem.F.type_list_extend mt_extend md_ext (pad_cons (pd_f (pf_lc (own := [("k", 5)]) (sc := []) (sa := []) rfl sc__law_same.nd (pid_rng1 T.n_range (pad_cons (pd_len T.n_len (pad_cons (pd_var 4) pad_nil)) pad_nil)) (blkOk_by (own := [("k", 5)]) (N := N__law_same) (sc := defScope s__law_same) (by decide +kernel)) (fun _ _ _ _ _ => (pgd_name 5 sc__law_same.nd)) (no_gN 5) (fun _ _ _ _ _ => ptsd_nil) (fun _ _ _ _ _ => (pd_tup (pad_cons (pd_ix (pd_var 3) (pd_var 5)) (pad_cons (pd_ix (pd_var 4) (pd_var 5)) pad_nil)))))) pad_nil)))) (pbd_one (psd_if (ptd_c k_is (pd_var 4) pd_non) (pbd_one (psd_if (ptd_c k_isnot (pd_var 3) pd_non) (pbd_one (psd_ret pd_bl)) pbd_nil)) (pbd_one (psd_if (ptd_tr (pd_isi "bool" T.n_isinstance T.n_bool (pd_var 4))) (pbd_one (psd_if (ptd_w (pwd_or (ptd_not (ptd_tr (pd_isi "bool" T.n_isinstance T.n_bool (pd_var 3)))) (pwd_or1 (ptd_c (k_ne hr.units) (pd_var 3) (pd_var 4))))) (pbd_one (psd_ret pd_bl)) pbd_nil)) (pbd_one (psd_if (ptd_tr (pd_isi "str" T.n_isinstance T.n_str (pd_var 4))) (pbd_one (psd_if (ptd_w (pwd_or (ptd_not (ptd_tr (pd_isi "str" T.n_isinstance T.n_str (pd_var 3)))) (pwd_or1 (ptd_c (k_ne hr.units) (pd_var 3) (pd_var 4))))) (pbd_one (psd_ret pd_bl)) pbd_nil)) (pbd_one (psd_if (ptd_w (pwd_or (ptd_not (ptd_tr (pd_isi "int" T.n_isinstance T.n_int (pd_var 3)))) (pwd_or (ptd_tr (pd_isi "bool" T.n_isinstance T.n_bool (pd_var 3))) (pwd_or1 (ptd_c (k_ne hr.units) (pd_var 3) (pd_var 4)))))) (pbd_one (psd_ret pd_bl)) pbd_nil))))))))))))
  (pbd_one (psd_ret pd_bl))))
abbrev N_is_row : List Str := ["thing", "fewest", "most"]
theorem sc_is_row : FnScope N_is_row ["thing", "fewest", "most"] (defScope s_is_row) := ⟨rfl, rfl, rfl, by decide +kernel, rfl, by decide +kernel, by decide +kernel⟩
def d_is_row : DS TS := dRet (dAndV (dIsi "tuple" (dVar 0)) (dChain leD leD (dVar 1) (dCallB lenD (dCons (dVar 0) (dNil))) (dVar 2)))
def m_is_row : List D → TS → R TS D := mOf 3 d_is_row
theorem ok_is_row (T : Txt K mg)  {f : Addr} {fd : FuncData} (F : Fun K "is_row" "is_row" s_is_row f fd) : FnOk P w K mg base (L2.CX P w) 1 f fd ["thing", "fewest", "most"] (spOf mg (PCT K) 3 m_is_row) := by
  exact fnok_mk0 (N := N_is_row) F sc_is_row fun cdv A outer s H E C pc hr => by exact (pbd_one (psd_ret (pd_and (pd_isi "tuple" T.n_isinstance T.n_tuple (pd_var 0)) (pd_one (pd_chain k_le k_le (pd_var 1) (pd_len T.n_len (pad_cons (pd_var 0) pad_nil)) (pd_var 2))))))
abbrev N_is_int : List Str := ["thing"]
theorem sc_is_int : FnScope N_is_int ["thing"] (defScope s_is_int) := ⟨rfl, rfl, rfl, by decide +kernel, rfl, by decide +kernel, by decide +kernel⟩
def d_is_int : DS TS := dRet (dAndV (dIsi "int" (dVar 0)) (dNotV (dIsi "bool" (dVar 0))))
def m_is_int : List D → TS → R TS D := mOf 1 d_is_int
theorem ok_is_int (T : Txt K mg)  {f : Addr} {fd : FuncData} (F : Fun K "is_int" "is_int" s_is_int f fd) : FnOk P w K mg base (L2.CX P w) 1 f fd ["thing"] (spOf mg (PCT K) 1 m_is_int) := by
  exact fnok_mk0 (N := N_is_int) F sc_is_int fun cdv A outer s H E C pc hr => by exact (pbd_one (psd_ret (pd_and (pd_isi "int" T.n_isinstance T.n_int (pd_var 0)) (pd_one (pd_not (pd_isi "bool" T.n_isinstance T.n_bool (pd_var 0)))))))
abbrev N_within : List Str := ["thing", "low", "high"]
theorem sc_within : FnScope N_within ["thing", "low", "high"] (defScope s_within) := ⟨rfl, rfl, rfl, by decide +kernel, rfl, by decide +kernel, by decide +kernel⟩
def d_within : DS TS := dRet (dAndV (dCall m_is_int (dCons (dVar 0) (dNil))) (dChain leD leD (dVar 1) (dVar 0) (dVar 2)))
def m_within : List D → TS → R TS D := mOf 3 d_within
theorem ok_within (T : Txt K mg) (h_is_int : Fn P w K mg base (PCT K) "is_int" 1 1 m_is_int) {f : Addr} {fd : FuncData} (F : Fun K "within" "within" s_within f fd) : FnOk P w K mg base (L2.CX P w) 2 f fd ["thing", "low", "high"] (spOf mg (PCT K) 3 m_within) := by
  exact fnok_mk0 (N := N_within) F sc_within fun cdv A outer s H E C pc hr => by exact (pbd_one (psd_ret (pd_and (pd_call h_is_int pc hr (by decide) (takes_of rfl rfl rfl rfl) (pad_cons (pd_var 0) pad_nil) (dLen_cons dLen_nil)) (pd_one (pd_chain k_le k_le (pd_var 1) (pd_var 0) (pd_var 2))))))
abbrev N_product_of : List Str := ["numbers", "found", "number"]
theorem sc_product_of : FnScope N_product_of ["numbers"] (defScope s_product_of) := ⟨rfl, rfl, rfl, by decide +kernel, rfl, by decide +kernel, by decide +kernel⟩
def L_product_of_1 : DS TS := dAug 1 mulI (dVar 2)
def d_product_of : DS TS := dSeq (dAsg 1 [] (dV (dC (.int 1))))
  (dSeq (dFor (gN 2) [] (dWalk (dVar 0) walkD) L_product_of_1)
  (dRet (dVar 1)))
def m_product_of : List D → TS → R TS D := mOf 3 d_product_of
theorem ok_product_of (T : Txt K mg)  {f : Addr} {fd : FuncData} (F : Fun K "product_of" "product_of" s_product_of f fd) : FnOk P w K mg base (L2.CX P w) 1 f fd ["numbers"] (spOf mg (PCT K) 1 m_product_of) := by
  exact fnok_mk0 (N := N_product_of) F sc_product_of fun cdv A outer s H E C pc hr => by exact (pbd_cons (psd_asg 1 sc_product_of.nd (pv_v pd_int))
  (pbd_cons (psd_for (passes_of rfl) rfl (pid_any (pd_var 0)) (pgd_name 2 sc_product_of.nd) (pbd_one (psd_imul 1 sc_product_of.nd (pd_var 2))))
  (pbd_one (psd_ret (pd_var 1)))))
abbrev N_are_sizes : List Str := ["thing", "size"]
theorem sc_are_sizes : FnScope N_are_sizes ["thing"] (defScope s_are_sizes) := ⟨rfl, rfl, rfl, by decide +kernel, rfl, by decide +kernel, by decide +kernel⟩
def d_are_sizes : DS TS := dSeq (dIfS (dOr (dNot (dTr (dCall m_is_row (dCons (dVar 0) (dCons (dC (.int 1)) (dCons (dC (.int 3)) (dNil))))))) (dNot (dTr (dCallB allD (dCons (dF (dLc (gN 1) [1] [] (dWalk (dVar 0) walkD) (dYes) (dCall m_within (dCons (dVar 1) (dCons (dC (.int 1)) (dCons (dC (.int 4)) (dNil))))))) (dNil)))))) (dRet (dC (.bl false))) (dNext))
  (dRet (dBin leD (dCall m_product_of (dCons (dVar 0) (dNil))) (dC (.int 16))))
def m_are_sizes : List D → TS → R TS D := mOf 2 d_are_sizes
theorem ok_are_sizes (T : Txt K mg) (h_is_row : Fn P w K mg base (PCT K) "is_row" 1 3 m_is_row) (h_within : Fn P w K mg base (PCT K) "within" 2 3 m_within) (h_product_of : Fn P w K mg base (PCT K) "product_of" 1 1 m_product_of) {f : Addr} {fd : FuncData} (F : Fun K "are_sizes" "are_sizes" s_are_sizes f fd) : FnOk P w K mg base (L2.CX P w) 3 f fd ["thing"] (spOf mg (PCT K) 1 m_are_sizes) := by
  exact fnok_mk0 (N := N_are_sizes) F sc_are_sizes fun cdv A outer s H E C pc hr => by exact (pbd_cons (psd_if (ptd_w (pwd_or (ptd_not (ptd_tr (pd_call h_is_row pc hr (by decide) (takes_of rfl rfl rfl rfl) (pad_cons (pd_var 0) (pad_cons pd_int (pad_cons (pd_gint T.c_MOST_PROCESSES) pad_nil))) (dLen_cons (dLen_cons (dLen_cons dLen_nil)))))) (pwd_or1 (ptd_not (ptd_tr (pd_all rfl T.n_all (pad_cons (pd_f (pf_lc (own := [("size", 1)]) (sc := []) (sa := []) rfl sc_are_sizes.nd (pid_any (pd_var 0)) (blkOk_by (own := [("size", 1)]) (N := N_are_sizes) (sc := defScope s_are_sizes) (by decide +kernel)) (fun _ _ _ _ _ => (pgd_name 1 sc_are_sizes.nd)) (no_gN 1) (fun _ _ _ _ _ => ptsd_nil) (fun _ _ _ _ _ => (pd_call h_within pc hr (by decide) takes0 (pad_cons (pd_var 1) (pad_cons pd_int (pad_cons (pd_gint T.c_MOST_STATES) pad_nil))) (dLen_cons (dLen_cons (dLen_cons dLen_nil))))))) pad_nil))))))) (pbd_one (psd_ret pd_bl)) pbd_nil)
  (pbd_one (psd_ret (pd_c k_le (pd_call h_product_of pc hr (by decide) (takes_of rfl rfl rfl rfl) (pad_cons (pd_var 0) pad_nil) (dLen_cons dLen_nil)) (pd_gint T.c_MOST_CONTROLS)))))
abbrev N_is_signature : List Str := ["thing"]
theorem sc_is_signature : FnScope N_is_signature ["thing"] (defScope s_is_signature) := ⟨rfl, rfl, rfl, by decide +kernel, rfl, by decide +kernel, by decide +kernel⟩
def d_is_signature : DS TS := dSeq (dIfS (dOr (dNot (dTr (dCall m_is_row (dCons (dVar 0) (dCons (dC (.int 3)) (dCons (dC (.int 3)) (dNil))))))) (dNot (dTr (dCall m_within (dCons (dBin ixD (dVar 0) (dC (.int 0))) (dCons (dC (.int 1)) (dCons (dCallB lenD (dCons (dC (.str [97, 98, 99])) (dNil))) (dNil)))))))) (dRet (dC (.bl false))) (dNext))
  (dRet (dAndV (dCall m_within (dCons (dBin ixD (dVar 0) (dC (.int 1))) (dCons (dC (.int 1)) (dCons (dC (.int 2)) (dNil))))) (dCall m_are_sizes (dCons (dBin ixD (dVar 0) (dC (.int 2))) (dNil)))))
def m_is_signature : List D → TS → R TS D := mOf 1 d_is_signature
theorem ok_is_signature (T : Txt K mg) (h_is_row : Fn P w K mg base (PCT K) "is_row" 1 3 m_is_row) (h_within : Fn P w K mg base (PCT K) "within" 2 3 m_within) (h_are_sizes : Fn P w K mg base (PCT K) "are_sizes" 3 1 m_are_sizes) {f : Addr} {fd : FuncData} (F : Fun K "is_signature" "is_signature" s_is_signature f fd) : FnOk P w K mg base (L2.CX P w) 4 f fd ["thing"] (spOf mg (PCT K) 1 m_is_signature) := by
  exact fnok_mk0 (N := N_is_signature) F sc_is_signature fun cdv A outer s H E C pc hr => by exact (pbd_cons (psd_if (ptd_w (pwd_or (ptd_not (ptd_tr (pd_call h_is_row pc hr (by decide) (takes_of rfl rfl rfl rfl) (pad_cons (pd_var 0) (pad_cons pd_int (pad_cons pd_int pad_nil))) (dLen_cons (dLen_cons (dLen_cons dLen_nil)))))) (pwd_or1 (ptd_not (ptd_tr (pd_call h_within pc hr (by decide) (takes_of rfl rfl rfl rfl) (pad_cons (pd_ix (pd_var 0) pd_int) (pad_cons pd_int (pad_cons (pd_len T.n_len (pad_cons (pd_gstr T.c_ALPHABET (by rfl) ⟨by decide, by decide⟩) pad_nil)) pad_nil))) (dLen_cons (dLen_cons (dLen_cons dLen_nil))))))))) (pbd_one (psd_ret pd_bl)) pbd_nil)
  (pbd_one (psd_ret (pd_and (pd_call h_within pc hr (by decide) (takes_of rfl rfl rfl rfl) (pad_cons (pd_ix (pd_var 0) pd_int) (pad_cons pd_int (pad_cons (pd_gint T.c_MOST_CHANNELS) pad_nil))) (dLen_cons (dLen_cons (dLen_cons dLen_nil)))) (pd_one (pd_call h_are_sizes pc hr (by decide) (takes_of rfl rfl rfl rfl) (pad_cons (pd_ix (pd_var 0) pd_int) pad_nil) (dLen_cons dLen_nil)))))))
abbrev N_need_signature : List Str := ["signature"]
theorem sc_need_signature : FnScope N_need_signature ["signature"] (defScope s_need_signature) := ⟨rfl, rfl, rfl, by decide +kernel, rfl, by decide +kernel, by decide +kernel⟩
def d_need_signature : DS TS := dIfS (dNot (dTr (dCall m_is_signature (dCons (dVar 0) (dNil))))) (dRaise "BadSignature") (dNext)
def m_need_signature : List D → TS → R TS D := mOf 1 d_need_signature
theorem ok_need_signature (T : Txt K mg) (h_is_signature : Fn P w K mg base (PCT K) "is_signature" 4 1 m_is_signature) {f : Addr} {fd : FuncData} (F : Fun K "need_signature" "need_signature" s_need_signature f fd) : FnOk P w K mg base (L2.CX P w) 5 f fd ["signature"] (spOf mg (PCT K) 1 m_need_signature) := by
  obtain ⟨q_BadSignature, e_BadSignature⟩ := T.e_BadSignature
  exact fnok_mk0 (N := N_need_signature) F sc_need_signature fun cdv A outer s H E C pc hr => by exact (pbd_one (psd_if (ptd_not (ptd_tr (pd_call h_is_signature pc hr (by decide) (takes_of rfl rfl rfl rfl) (pad_cons (pd_var 0) pad_nil) (dLen_cons dLen_nil)))) (pbd_one (psd_raise e_BadSignature rfl (takes_of rfl rfl rfl rfl))) pbd_nil))
abbrev N_controls_in : List Str := ["signature", "found", "size", "control", "state"]
theorem sc_controls_in : FnScope N_controls_in ["signature"] (defScope s_controls_in) := ⟨rfl, rfl, rfl, by decide +kernel, rfl, by decide +kernel, by decide +kernel⟩
def L_controls_in_1 : DS TS := dAsg 1 [] (dV (dF (dLc2 (gN 3) (dRng rng1 (dCons (dVar 2) (dNil))) [4] (gN 4) [3, 4] [] (dWalk (dVar 1) walkD) (dYes) (dYes) (dBin addD (dVar 3) (dTup (dCons (dVar 4) (dNil)))))))
def d_controls_in : DS TS := dSeq (dAsg 1 [] (dV (dF (dLst (dCons (dTup (dNil)) (dNil))))))
  (dSeq (dFor (gN 2) [] (dWalk (dBin ixD (dVar 0) (dC (.int 2))) walkD) L_controls_in_1)
  (dRet (dVar 1)))
def m_controls_in : List D → TS → R TS D := mOf 5 d_controls_in
theorem ok_controls_in (T : Txt K mg)  {f : Addr} {fd : FuncData} (F : Fun K "controls_in" "controls_in" s_controls_in f fd) : FnOk P w K mg base (L2.CX P w) 1 f fd ["signature"] (spOf mg (PCT K) 1 m_controls_in) := by
  exact fnok_mk0 (N := N_controls_in) F sc_controls_in fun cdv A outer s H E C pc hr => by exact (pbd_cons (psd_asg 1 sc_controls_in.nd (pv_v (pd_f (pf_lst (pad_cons (pd_tup pad_nil) pad_nil)))))
  (pbd_cons (psd_for (passes_of rfl) rfl (pid_any (pd_ix (pd_var 0) pd_int)) (pgd_name 2 sc_controls_in.nd) (pbd_one (psd_setLc2 1 (hv := (fun h => cte_f (ctv_v h))) (own := [("control", 3), ("state", 4)]) (sc := []) (sb := []) (sa := []) (v1 := [4]) rfl sc_controls_in.nd (pid_any (pd_var 1)) (blkOk_by (own := [("control", 3), ("state", 4)]) (N := N_controls_in) (sc := defScope s_controls_in) (by decide +kernel)) (fun _ _ _ _ _ => (pgd_name 3 sc_controls_in.nd)) (no_gN 3) (fun _ _ _ _ _ => ptsd_nil) (fun _ _ _ _ _ => (pid_rng1 T.n_range (pad_cons (pd_var 2) pad_nil))) (fun _ _ _ _ _ => (pgd_name 4 sc_controls_in.nd)) (no_gN 4) (fun _ _ _ _ _ => ptsd_nil) (fun _ _ _ _ _ => (pd_add (pd_var 3) (pd_tup (pad_cons (pd_var 4) pad_nil)))))))
  (pbd_one (psd_ret (pd_var 1)))))
abbrev N_controls_of : List Str := ["signature"]
theorem sc_controls_of : FnScope N_controls_of ["signature"] (defScope s_controls_of) := ⟨rfl, rfl, rfl, by decide +kernel, rfl, by decide +kernel, by decide +kernel⟩
def d_controls_of : DS TS := dSeq (dDrop (dCall m_need_signature (dCons (dVar 0) (dNil))))
  (dRet (dCallB tupleD (dCons (dCall m_controls_in (dCons (dVar 0) (dNil))) (dNil))))
def m_controls_of : List D → TS → R TS D := mOf 1 d_controls_of
theorem ok_controls_of (T : Txt K mg) (h_need_signature : Fn P w K mg base (PCT K) "need_signature" 5 1 m_need_signature) (h_controls_in : Fn P w K mg base (PCT K) "controls_in" 1 1 m_controls_in) {f : Addr} {fd : FuncData} (F : Fun K "controls_of" "controls_of" s_controls_of f fd) : FnOk P w K mg base (L2.CX P w) 6 f fd ["signature"] (spOf mg (PCT K) 1 m_controls_of) := by
  exact fnok_mk0 (N := N_controls_of) F sc_controls_of fun cdv A outer s H E C pc hr => by exact (pbd_cons (psd_drop (pd_call h_need_signature pc hr (by decide) (takes_of rfl rfl rfl rfl) (pad_cons (pd_var 0) pad_nil) (dLen_cons dLen_nil)))
  (pbd_one (psd_ret (pd_tuple T.n_tuple (pad_cons (pd_call h_controls_in pc hr (by decide) (takes_of rfl rfl rfl rfl) (pad_cons (pd_var 0) pad_nil) (dLen_cons dLen_nil)) pad_nil)))))
abbrev N__law_refused : List Str := ["thing", "word"]
theorem sc__law_refused : FnScope N__law_refused ["thing"] (defScope s__law_refused) := ⟨rfl, rfl, rfl, by decide +kernel, rfl, by decide +kernel, by decide +kernel⟩
def d__law_refused : DS TS := dSeq (dAsg 1 [] (dV (dC (.str []))))
  (dSeq (dTry subF (dDrop (dCall m_controls_of (dCons (dVar 0) (dNil)))) (("BadSignature", dAsg 1 [] (dV (dC (.str [115, 105, 103, 110, 97, 116, 117, 114, 101])))) :: []))
  (dRet (dBin eqO (dVar 1) (dC (.str [115, 105, 103, 110, 97, 116, 117, 114, 101])))))
def m__law_refused : List D → TS → R TS D := mOf 2 d__law_refused
theorem ok__law_refused (T : Txt K mg) (h_controls_of : Fn P w K mg base (PCT K) "controls_of" 6 1 m_controls_of) {f : Addr} {fd : FuncData} (F : Fun K "_law_refused" "_law_refused" s__law_refused f fd) : FnOk P w K mg base (L2.CX P w) 7 f fd ["thing"] (spOf mg (PCT K) 1 m__law_refused) := by
  obtain ⟨q_BadSignature, e_BadSignature⟩ := T.e_BadSignature
  exact fnok_mk0 (N := N__law_refused) F sc__law_refused fun cdv A outer s H E C pc hr => by exact (pbd_cons (psd_asg 1 sc__law_refused.nd (pv_v (pd_str [] (by rfl) ⟨by decide, by decide⟩)))
  (pbd_cons (psd_try rfl rfl (takes_of rfl rfl rfl rfl) T.sub (fun W1 pn1 xe1 tk1 po1 => (pbd_one (psd_drop (pd_call h_controls_of pc hr (by decide) tk1 (pad_cons (pd_var 0) pad_nil) (dLen_cons dLen_nil))))) (.cons e_BadSignature.g rfl rfl (fun _ _ _ => (pbd_one (psd_asg 1 sc__law_refused.nd (pv_v (pd_str [115, 105, 103, 110, 97, 116, 117, 114, 101] (by rfl) ⟨by decide, by decide⟩))))) .nil))
  (pbd_one (psd_ret (pd_c (k_eq hr.units) (pd_var 1) (pd_str [115, 105, 103, 110, 97, 116, 117, 114, 101] (by rfl) ⟨by decide, by decide⟩))))))
abbrev N__law_controls : List Str := ["sizes", "found", "size", "longer", "row", "state"]
theorem sc__law_controls : FnScope N__law_controls ["sizes"] (defScope s__law_controls) := ⟨rfl, rfl, rfl, by decide +kernel, rfl, by decide +kernel, by decide +kernel⟩
def L__law_controls_1 : DS TS := dMeth 3 [] (dCons (dF (dLc (gN 5) [5] [] (dRng rng1 (dCons (dVar 2) (dNil))) (dYes) (dBin addD (dVar 4) (dTup (dCons (dVar 5) (dNil)))))) (dNil)) fExt kDrop
def L__law_controls_2 : DS TS := dSeq (dAsg 3 [] (dO (dLst (dNil))))
  (dSeq (dFor (gN 4) [] (dWalk (dVar 1) walkD) L__law_controls_1)
  (dAsg 1 [3] (dV (dOwn 3))))
def d__law_controls : DS TS := dSeq (dAsg 1 [] (dV (dF (dLst (dCons (dTup (dNil)) (dNil))))))
  (dSeq (dFor (gN 2) [] (dWalk (dVar 0) walkD) L__law_controls_2)
  (dRet (dVar 1)))
def m__law_controls : List D → TS → R TS D := mOf 6 d__law_controls
theorem ok__law_controls (T : Txt K mg)  {f : Addr} {fd : FuncData} (F : Fun K "_law_controls" "_law_controls" s__law_controls f fd) : FnOk P w K mg base (L2.CX P w) 1 f fd ["sizes"] (spOf mg (PCT K) 1 m__law_controls) := by
  exact fnok_mk0 (N := N__law_controls) F sc__law_controls fun cdv A outer s H E C pc hr => by exact (pbd_cons (psd_asg 1 sc__law_controls.nd (pv_v (pd_f (pf_lst (pad_cons (pd_tup pad_nil) pad_nil)))))
  (pbd_cons (psd_for (passes_of rfl) rfl (pid_any (pd_var 0)) (pgd_name 2 sc__law_controls.nd) (pbd_cons (psd_asg 3 sc__law_controls.nd (pv_o (pf_lst pad_nil)))
  (pbd_cons (psd_for (passes_of rfl) rfl (pid_any (pd_var 1)) (pgd_name 4 sc__law_controls.nd) (pbd_one (psd_meth 3 PySem.F.slot_list_extend PySem.F.type_list_extend mt_extend md_ext (pad_cons (pd_f (pf_lc (own := [("state", 5)]) (sc := []) (sa := []) rfl sc__law_controls.nd (pid_rng1 T.n_range (pad_cons (pd_var 2) pad_nil)) (blkOk_by (own := [("state", 5)]) (N := N__law_controls) (sc := defScope s__law_controls) (by decide +kernel)) (fun _ _ _ _ _ => (pgd_name 5 sc__law_controls.nd)) (no_gN 5) (fun _ _ _ _ _ => ptsd_nil) (fun _ _ _ _ _ => (pd_add (pd_var 4) (pd_tup (pad_cons (pd_var 5) pad_nil)))))) pad_nil))))
  (pbd_one (psd_asg 1 sc__law_controls.nd (pv_v (pd_own 3)))))))
  (pbd_one (psd_ret (pd_var 1)))))
abbrev N_law : List Str := ["script", "deck", "turn", "signature", "near", "thing", "due"]
theorem sc_law : FnScope N_law ["script"] (defScope s_law) := ⟨rfl, rfl, rfl, by decide +kernel, rfl, by decide +kernel, by decide +kernel⟩
def L_law_1 : DS TS := dSeq (dAsg 6 [] (dV (dCall m__law_judge (dCons (dVar 5) (dNil)))))
  (dSeq (dIfS (dOr (dNot (dTr (dCall m__law_same (dCons (dCall m_is_signature (dCons (dVar 5) (dNil))) (dCons (dVar 6) (dNil)))))) (dAnd (dB (dBin (isF false) (dVar 6) (dC (.bl false)))) (dNot (dTr (dCall m__law_refused (dCons (dVar 5) (dNil))))))) (dRet (dC (.bl false))) (dNext))
  (dIfS (dAnd (dTr (dVar 6)) (dAnd (dB (dBin ltD (dCallB lenD (dCons (dBin ixD (dVar 5) (dC (.int 2))) (dNil))) (dC (.int 4)))) (dNot (dTr (dCall m__law_same (dCons (dCall m_controls_of (dCons (dVar 5) (dNil))) (dCons (dCallB tupleD (dCons (dCall m__law_controls (dCons (dBin ixD (dVar 5) (dC (.int 2))) (dNil))) (dNil))) (dNil)))))))) (dRet (dC (.bl false))) (dNext)))
def L_law_2 : DS TS := dSeq (dAsg 3 [] (dV (dCall m__law_signature (dCons (dVar 1) (dNil)))))
  (dSeq (dAsg 4 [] (dV (dCall m__law_near (dCons (dVar 1) (dCons (dVar 3) (dNil))))))
  (dSeq (dFor (gN 5) [] (dWalk (dBin addD (dF (dLst (dCons (dVar 3) (dNil)))) (dVar 4)) walkD) L_law_1)
  (dIfS (dOr (dNot (dTr (dCall m__law_same (dCons (dCallK m_controls_of [0] dNil (dCons (dVar 3) (dNil))) (dCons (dCallB tupleD (dCons (dCall m__law_controls (dCons (dBin ixD (dVar 3) (dC (.int 2))) (dNil))) (dNil))) (dNil)))))) (dB (dBin (isF true) (dCallK m_is_signature [0] dNil (dCons (dC .non) (dNil))) (dC (.bl false))))) (dRet (dC (.bl false))) (dNext))))
noncomputable def d_law : DS DeckSt := dSeq (dFor (gN 2) [] (dRng rng1 (dCons (dBin addD (dC (.int 2)) (dCallB min2D (dCons (dCallB lenX (dCons (dVar 0) (dNil))) (dCons (dC (.int 6)) (dNil))))) (dNil))) (dForget [1] (dTape (chT tapes) L_law_2))) (dRet (dC (.bl true)))
theorem ok_law (T : Txt K mg) (h__law_signature : Fn P w K mg base (PCT K) "_law_signature" 3 1 m__law_signature) (h__law_near : Fn P w K mg base (PCT K) "_law_near" 1 2 m__law_near) (h__law_judge : Fn P w K mg base (PCT K) "_law_judge" 2 1 m__law_judge) (h__law_same : Fn P w K mg base (PCT K) "_law_same" 1 2 m__law_same) (h_is_signature : Fn P w K mg base (PCT K) "is_signature" 4 1 m_is_signature) (h__law_refused : Fn P w K mg base (PCT K) "_law_refused" 7 1 m__law_refused) (h__law_controls : Fn P w K mg base (PCT K) "_law_controls" 1 1 m__law_controls) (h_controls_of : Fn P w K mg base (PCT K) "controls_of" 6 1 m_controls_of) (hk_controls_of_0_signature : Fk P w K mg base (PCT K) "controls_of" 6 1 m_controls_of 0 ["signature"] [0]) (hk_is_signature_0_thing : Fk P w K mg base (PCT K) "is_signature" 4 1 m_is_signature 0 ["thing"] [0]) (hG : True) (cdv : Value) (f : Addr) (A : Around) (outer : List PySem.Env) (s : Shared) (H : Hp) (E : XK) (C : Deck DeckSt) (pc : PCk K C) (hr : Room 7 (A.deeper (envOfC "law" (defScope s_law) s.heap.objs.size f cdv))) : PBd (cxOf (L2.CX P w) P w K mg base N_law "law" (defScope s_law) f cdv A outer s H E) C (fun cls d _ H => E cls d H) (defBody s_law).tail d_law := by
  exact (pbd_cons (psd_for (passes_of rfl) rfl (pid_rng1 T.n_range (pad_cons (pd_add pd_int (pd_min2 rfl T.n_min (pad_cons (pd_lenX pc T.n_len (pad_cons (pd_var 0) pad_nil)) (pad_cons pd_int pad_nil)))) pad_nil)) (pgd_name 2 sc_law.nd) (pbd_forget [1] (pbd_tape (fun _ => chT_ok) fun st0 => by
    have pc : PCT K (C.tp st0) := ⟨C, st0, pc, rfl⟩
    exact (pbd_cons (psd_asg 3 sc_law.nd (pv_v (pd_call h__law_signature pc hr (by decide) (takes_of rfl rfl rfl rfl) (pad_cons (pd_var 1) pad_nil) (dLen_cons dLen_nil))))
  (pbd_cons (psd_asg 4 sc_law.nd (pv_v (pd_call h__law_near pc hr (by decide) (takes_of rfl rfl rfl rfl) (pad_cons (pd_var 1) (pad_cons (pd_var 3) pad_nil)) (dLen_cons (dLen_cons dLen_nil)))))
  (pbd_cons (psd_for (passes_of rfl) rfl (pid_any (pd_add (pd_f (pf_lst (pad_cons (pd_var 3) pad_nil))) (pd_var 4))) (pgd_name 5 sc_law.nd) (pbd_cons (psd_asg 6 sc_law.nd (pv_v (pd_call h__law_judge pc hr (by decide) (takes_of rfl rfl rfl rfl) (pad_cons (pd_var 5) pad_nil) (dLen_cons dLen_nil))))
  (pbd_cons (psd_if (ptd_w (pwd_or (ptd_not (ptd_tr (pd_call h__law_same pc hr (by decide) (takes_of rfl rfl rfl rfl) (pad_cons (pd_call h_is_signature pc hr (by decide) (takes_of rfl rfl rfl rfl) (pad_cons (pd_var 5) pad_nil) (dLen_cons dLen_nil)) (pad_cons (pd_var 6) pad_nil)) (dLen_cons (dLen_cons dLen_nil))))) (pwd_or1 (ptd_w (pwd_and (ptd_c k_is (pd_var 6) pd_bl) (pwd_and1 (ptd_not (ptd_tr (pd_call h__law_refused pc hr (by decide) (takes_of rfl rfl rfl rfl) (pad_cons (pd_var 5) pad_nil) (dLen_cons dLen_nil)))))))))) (pbd_one (psd_ret pd_bl)) pbd_nil)
  (pbd_one (psd_if (ptd_w (pwd_and (ptd_tr (pd_var 6)) (pwd_and (ptd_c k_lt (pd_len T.n_len (pad_cons (pd_ix (pd_var 5) pd_int) pad_nil)) pd_int) (pwd_and1 (ptd_not (ptd_tr (pd_call h__law_same pc hr (by decide) (takes_of rfl rfl rfl rfl) (pad_cons (pd_call h_controls_of pc hr (by decide) (takes_of rfl rfl rfl rfl) (pad_cons (pd_var 5) pad_nil) (dLen_cons dLen_nil)) (pad_cons (pd_tuple T.n_tuple (pad_cons (pd_call h__law_controls pc hr (by decide) (takes_of rfl rfl rfl rfl) (pad_cons (pd_ix (pd_var 5) pd_int) pad_nil) (dLen_cons dLen_nil)) pad_nil)) pad_nil)) (dLen_cons (dLen_cons dLen_nil))))))))) (pbd_one (psd_ret pd_bl)) pbd_nil)))))
  (pbd_one (psd_if (ptd_w (pwd_or (ptd_not (ptd_tr (pd_call h__law_same pc hr (by decide) (takes_of rfl rfl rfl rfl) (pad_cons (pd_callk0 hk_controls_of_0_signature pc hr (by decide) (takes_of rfl rfl rfl rfl) (pkd_cons (pd_var 3) pkd_nil) (dLen_cons dLen_nil)) (pad_cons (pd_tuple T.n_tuple (pad_cons (pd_call h__law_controls pc hr (by decide) (takes_of rfl rfl rfl rfl) (pad_cons (pd_ix (pd_var 3) pd_int) pad_nil) (dLen_cons dLen_nil)) pad_nil)) pad_nil)) (dLen_cons (dLen_cons dLen_nil))))) (pwd_or1 (ptd_c k_isnot (pd_callk0 hk_is_signature_0_thing pc hr (by decide) (takes_of rfl rfl rfl rfl) (pkd_cons pd_non pkd_nil) (dLen_cons dLen_nil)) pd_bl)))) (pbd_one (psd_ret pd_bl)) pbd_nil))))))))
  (pbd_one (psd_ret pd_bl)))
end
/-! the deck's two defs, by hand -/
section
variable {P : Program} {w : World} {K : PySem.W.Frag} {mg : Str → Option Value} {base : Heap}
theorem scPick : FnScope ["deck", "many", "cells", "cell", "found"] ["deck", "many"] (defScope s__law_pick) := ⟨rfl, rfl, rfl, by decide +kernel, rfl, by decide +kernel, by decide +kernel⟩
theorem ix2 {a b c : V} {i : Int} {v : V} (h : atI [a, b, c] i = some v) : atI [a, b, c] i = some v := h
theorem e60 : ((10 : Int) ^ (60 : Int).toNat) = 10 ^ 60 := rfl
theorem ok_pick {f : Addr} {fd : FuncData} (F : Fun K "_law_pick" "_law_pick" s__law_pick f fd) (hint : mg "int" = none) : FnOk P w K mg base (L2.CX P w) 1 f fd ["deck", "many"] spPick := by
  refine F.okX scPick (fun vs H Q E h => ?_) (fun cdv A outer s H vs Q E hr h => ?_)
  · obtain ⟨a0, c0, d, n, rfl, _⟩ := h
    rfl
  · obtain ⟨a0, c0, d, n, rfl, ok, ne, h0, hc, n0, n1, k⟩ := h
    have hu : (cxOf (L2.CX P w) P w K mg base ["deck", "many", "cells", "cell", "found"] "_law_pick" (defScope s__law_pick) f cdv A outer s H E).A.units + 64 < cLine := hr.units
    have pw : CPow 10 6 := ⟨by decide, by decide, by decide⟩
    have pw18 : CPow 10 18 := ⟨by decide, by decide, by decide⟩
    obtain ⟨tt, htt, hrd⟩ : ∃ tt, PSs (cxOf (L2.CX P w) P w K mg base ["deck", "many", "cells", "cell", "found"] "_law_pick" (defScope s__law_pick) f cdv A outer s H E) ((defBody s__law_pick).drop 2) tt ∧
        ∀ (H1 : Hp) (x : Option V), (∀ a, a ≠ a0 → a ≠ c0 → ∀ o, H a = some o → H1 a = some o) → H1 a0 = some (.lst [.ref c0, .int (pull d).dig, .int (pull d).mix]) → H1 c0 = some (.lst ((pull d).cells.map V.int)) →
          tt { nx := fun _ H' => Q .non H', rt := Q } [some (.ref a0), some (.int n), some (.ref c0), x, none] H1 := by
      refine ⟨_, pss_cons (ps_if (pt_cmpR op_ge (pe_ix ix_list (pv 0) pe_int (fun _ _ => rfl)) (pe_op op_pow pe_int pe_int) (nomark _))
        (pss_cons (ps_set (i := 4) scPick.nd rfl (Or.inl rfl) (pe_op op_mod (pe_callTy call_int1 rfl hint (by decide +kernel) (pa_cons (pe_ix ix_list (pv 0) pe_int (fun _ _ => rfl)) pa_nil)) (pv 1)))
        (pss_cons (ps_asg (pe_op op_fdiv (pe_ix ix_list (pv 0) pe_int (fun _ _ => rfl)) (pv 1)) (pg_sub (pv 0) pe_int set_list))
        (pss_one (ps_ret (pv 4))))) pss_nil)
        (pss_cons (ps_asg (pe_op op_mod (pe_callTy call_int1 rfl hint (by decide +kernel) (pa_cons (pe_op op_add (pe_op op_mul (pe_ix ix_list (pv 0) pe_int (fun _ _ => rfl)) pe_int) pe_int) pa_nil)) pe_int) (pg_sub (pv 0) pe_int set_list))
        (pss_one (ps_ret (pe_op op_mod (pe_callTy call_int1 rfl hint (by decide +kernel) (pa_cons (pe_op op_fdiv (pe_ix ix_list (pv 0) pe_int (fun _ _ => rfl)) pe_int) pa_nil)) (pv 1))))), ?_⟩
      intro H1 x kk g0 gc
      have c1 : atI [V.ref c0, V.int (pull d).dig, V.int (pull d).mix] 1 = some (V.int (pull d).dig) := rfl
      have c2 : atI [V.ref c0, V.int (pull d).dig, V.int (pull d).mix] 2 = some (V.int (pull d).mix) := rfl
      have ne' : c0 ≠ a0 := fun z => ne z.symm
      refine ⟨_, rfl, a0, _, 1, _, rfl, rfl, SqL.of g0, c1, 10, 6, rfl, rfl, pw, _, _, rfl, rfl, _, rfl, ?_⟩
      refine ite2 (fun h => ?_) (fun h => ?_)
      · have hd : (10 : Int) ^ 6 ≤ (pull d).dig := of_decide_eq_true h
        have ek : pickF d n = ((pull d).dig % n, { pull d with dig := (pull d).dig / n }) := by unfold pickF; rw [if_pos hd]
        rw [ek] at k
        refine ⟨_, rfl, a0, _, 1, _, rfl, rfl, SqL.of g0, c1, .inl ⟨_, rfl, _, rfl, _, _, rfl, rfl, n0, ?_⟩⟩
        refine ⟨_, rfl, a0, _, 1, _, rfl, rfl, SqL.of g0, c1, _, rfl, _, _, rfl, rfl, ⟨n0, n1⟩, _, rfl, a0, _, 1, 1, rfl, rfl, g0, rfl, _, rfl, ?_⟩
        refine k _ (fun a h1 h2 o e => by rw [upd_ne h1]; exact kk a h1 h2 o e) upd_same (by rw [upd_ne ne']; exact gc)
      · have hd : ¬ (10 : Int) ^ 6 ≤ (pull d).dig := fun z => h (decide_eq_true z)
        have ek : pickF d n = (((pull d).mix * 48271 + 11) % 2147483647 / 53 % n, { pull d with mix := ((pull d).mix * 48271 + 11) % 2147483647 }) := by unfold pickF; rw [if_neg hd]
        rw [ek] at k
        have pm := (pull_ok ok)
        have m0 := pm.m0
        have m1 := pm.m1
        refine ⟨_, rfl, a0, _, 2, _, rfl, rfl, SqL.of g0, c2, _, _, rfl, rfl, .inl ⟨by omega, by omega⟩, _, _, rfl, rfl, .inl ⟨_, rfl, _, _, rfl, rfl, (by show (0 : Int) < 2147483647; decide), _, rfl, a0, _, 2, 2, rfl, rfl, g0, rfl, ?_⟩⟩
        have g1 : (upd H1 a0 (.lst ([V.ref c0, V.int (pull d).dig, V.int (pull d).mix].set 2 (V.int (((pull d).mix * 48271 + 11) % 2147483647))))) a0 = some (.lst [V.ref c0, V.int (pull d).dig, V.int (((pull d).mix * 48271 + 11) % 2147483647)]) := upd_same
        have c3 : atI [V.ref c0, V.int (pull d).dig, V.int (((pull d).mix * 48271 + 11) % 2147483647)] 2 = some (V.int (((pull d).mix * 48271 + 11) % 2147483647)) := rfl
        refine ⟨_, rfl, a0, _, 2, _, rfl, rfl, SqL.of g1, c3, _, _, rfl, rfl, ⟨by decide, by decide⟩, .inl ⟨_, rfl, _, rfl, _, _, rfl, rfl, n0, ?_⟩⟩
        exact k _ (fun a h1 h2 o e => by rw [upd_ne h1]; exact kk a h1 h2 o e) upd_same (by rw [upd_ne ne']; exact gc)
    refine ⟨_, pss_cons (ps_set (i := 2) scPick.nd rfl (Or.inl rfl) (pe_ix ix_list (pv 0) pe_int (fun _ _ => rfl)))
      (pss_cons (ps_if (PW.pt (pw_and (pt_cmpR op_lt (pe_ix ix_list (pv 0) pe_int (fun _ _ => rfl)) (pe_op op_pow pe_int pe_int) (nomark _)) (pw_and1 (pt_cmpR (op_neD hu) (pv 2) (pe_lst pa_nil) (nomark _)))))
        (pss_cons (ps_set (i := 3) scPick.nd rfl (Or.inl rfl) (pe_bm PySem.F.plainAttrs_list PySem.F.slot_list_pop PySem.F.type_list_pop mt_popAt (pv 2) (pa_cons pe_int pa_nil)))
        (pss_one (ps_if (pt_cmpR op_ge (pv 3) (pe_op op_pow pe_int pe_int) (nomark _))
          (pss_one (ps_asg (pv 3) (pg_sub (pv 0) pe_int set_list)))
          (pss_one (ps_asg (pe_op op_mod (pe_callTy call_int1 rfl hint (by decide +kernel) (pa_cons (pe_op op_add (pe_op op_add (pe_op op_mul (pe_ix ix_list (pv 0) pe_int (fun _ _ => rfl)) pe_int) (pe_op op_mul (pe_op op_mod (pe_callTy call_int1 rfl hint (by decide +kernel) (pa_cons (pv 3) pa_nil)) pe_int) pe_int)) pe_int) pa_nil)) pe_int) (pg_sub (pv 0) pe_int set_list)))))) pss_nil)
      (by exact htt)), ?_⟩
    have c0' : atI [V.ref c0, V.int d.dig, V.int d.mix] 0 = some (V.ref c0) := rfl
    have c1 : atI [V.ref c0, V.int d.dig, V.int d.mix] 1 = some (V.int d.dig) := rfl
    have c2 : atI [V.ref c0, V.int d.dig, V.int d.mix] 2 = some (V.int d.mix) := rfl
    have ne' : c0 ≠ a0 := fun z => ne z.symm
    refine ⟨_, rfl, a0, _, 0, _, rfl, rfl, SqL.of h0, c0', ?_⟩
    refine ⟨_, rfl, a0, _, 1, _, rfl, rfl, SqL.of h0, c1, 10, 6, rfl, rfl, pw, _, _, rfl, rfl, _, rfl, ?_⟩
    refine ite2 (fun h => ?_) (fun h => ?_)
    rotate_left
    · have hd : ¬ d.dig < (10 : Int) ^ 6 := fun z => h (decide_eq_true z)
      have ep : pull d = d := by unfold pull; rw [if_neg hd]
      refine hrd H none (fun a _ _ o e => e) ?_ ?_
      · rw [ep]; exact h0
      · rw [ep]; exact hc
    have hd : d.dig < (10 : Int) ^ 6 := of_decide_eq_true h
    -- cells != []
    have dpc : ∀ H' : Hp, H' c0 = some (.lst (d.cells.map V.int)) → Dp K H' (.ref c0) (.list (d.cells.map PyData.int)) := fun H' e => .lst (.of e) (by
      have : ∀ l : List Int, DpAll K H' (l.map V.int) (l.map PyData.int) := by
        intro l
        induction l with
        | nil => exact .nil
        | cons x r ih => exact .cons (.int x) ih
      exact this _)
    have shp : SeqAt.shaped (.list (d.cells.map PyData.int)) = true := by
      have h1 : ∀ l : List Int, PyData.canLayAll0 (l.map PyData.int) = true ∧ PyData.depthAll (l.map PyData.int) = 0 := by
        intro l
        induction l with
        | nil => exact ⟨by simp [PyData.canLayAll0], by simp [PyData.depthAll]⟩
        | cons x r ih => exact ⟨by simp [PyData.canLayAll0, PyData.canLay0, ih.1], by simp [PyData.depthAll, PyData.depth, ih.2]⟩
      unfold SeqAt.shaped
      simp [PyData.canLay0, PyData.depth, h1]
    refine ⟨_, rfl, by show 0 ≤ sizeLine; exact Nat.zero_le _, fun p hp => ?_⟩
    have kc : (upd H p (.lst [])) c0 = some (.lst (d.cells.map V.int)) := by rw [upd_ne (ne_of_none hc hp)]; exact hc
    have k0 : (upd H p (.lst [])) a0 = some (.lst [V.ref c0, V.int d.dig, V.int d.mix]) := by rw [upd_ne (ne_of_none h0 hp)]; exact h0
    have ko : ∀ a, a ≠ a0 → a ≠ c0 → ∀ o, H a = some o → (upd H p (.lst [])) a = some o := fun a _ _ o e => by rw [upd_ne (ne_of_none e hp)]; exact e
    refine ⟨_, .list [], dpc _ kc, .lst (.of upd_same) .nil, shp, by decide +kernel, _, rfl, ?_⟩
    cases hcl : d.cells with
    | nil =>
      have ep : pull d = d := by unfold pull; rw [if_pos hd, hcl]
      refine if_false_of (by simp [PyData.eqv, PyData.eqvAll]) ?_
      refine hrd _ none ko ?_ ?_
      · rw [ep]; exact k0
      · rw [ep]; exact kc
    | cons c r =>
      refine if_true_of (by simp [PyData.eqv, PyData.eqvAll]) ?_
      rw [hcl] at kc
      have hcc := ok.cl c (by rw [hcl]; exact List.mem_cons_self)
      refine ⟨_, rfl, .inl ⟨rfl, _, SqL.of kc⟩, c0, _, 0, 0, _, rfl, rfl, kc, by decide, by decide, (PySem.seqIndex_of (by decide) (by simp)), rfl, ?_⟩
      have h0' : (upd (upd H p (.lst [])) c0 (.lst (((c :: r).map V.int).eraseIdx 0))) a0 = some (.lst [V.ref c0, V.int d.dig, V.int d.mix]) := by rw [upd_ne ne]; exact k0
      have hc' : (upd (upd H p (.lst [])) c0 (.lst (((c :: r).map V.int).eraseIdx 0))) c0 = some (.lst (r.map V.int)) := upd_same
      have ko' : ∀ a, a ≠ a0 → a ≠ c0 → ∀ o, H a = some o → (upd (upd H p (.lst [])) c0 (.lst (((c :: r).map V.int).eraseIdx 0))) a = some o := fun a h1 h2 o e => by rw [upd_ne h2]; exact ko a h1 h2 o e
      generalize (upd (upd H p (.lst [])) c0 (.lst (((c :: r).map V.int).eraseIdx 0))) = H2 at h0' hc' ko' ⊢
      refine ⟨_, rfl, 10, 18, rfl, rfl, pw18, _, _, rfl, rfl, _, rfl, ?_⟩
      refine ite2 (fun h => ?_) (fun h => ?_)
      · have hg : (10 : Int) ^ 18 ≤ c := of_decide_eq_true h
        have ep : pull d = { d with cells := r, dig := c } := by unfold pull; rw [if_pos hd, hcl]; dsimp only; rw [if_pos hg]
        refine ⟨_, rfl, _, rfl, a0, _, 1, 1, rfl, rfl, h0', rfl, ?_⟩
        refine hrd _ (some (.int c)) (fun a h1 h2 o e => by rw [upd_ne h1]; exact ko' a h1 h2 o e) ?_ ?_
        · rw [ep]; exact upd_same
        · rw [ep, upd_ne ne']; exact hc'
      · have hg : ¬ (10 : Int) ^ 18 ≤ c := fun z => h (decide_eq_true z)
        have ep : pull d = { d with cells := r, mix := (d.mix * 69621 + c % 2147483563 * 40014 + 3) % 2147483563 } := by unfold pull; rw [if_pos hd, hcl]; dsimp only; rw [if_neg hg]
        have m0 := ok.m0
        have m1 := ok.m1
        have q0 := Int.emod_nonneg c (b := 2147483563) (by omega)
        have q1 := Int.emod_lt_of_pos c (b := 2147483563) (by omega)
        refine ⟨_, rfl, a0, _, 2, _, rfl, rfl, SqL.of h0', c2, _, _, rfl, rfl, .inl ⟨by omega, by omega⟩, _, rfl, .inl ⟨_, rfl, _, _, rfl, rfl, (by show (0 : Int) < 2147483563; decide), _, _, rfl, rfl, .inl ⟨by omega, by omega⟩, _, _, rfl, rfl, _, _, rfl, rfl, .inl ⟨_, rfl, _, _, rfl, rfl, (by show (0 : Int) < 2147483563; decide), _, rfl, a0, _, 2, 2, rfl, rfl, h0', rfl, ?_⟩⟩⟩
        refine hrd _ (some (.int c)) (fun a h1 h2 o e => by rw [upd_ne h1]; exact ko' a h1 h2 o e) ?_ ?_
        · rw [ep]; exact upd_same
        · rw [ep, upd_ne ne']; exact hc'

theorem scDeck : FnScope ["script", "cell"] ["script"] (defScope s__law_deck) := ⟨rfl, rfl, rfl, by decide +kernel, rfl, by decide +kernel, by decide +kernel⟩
theorem cut63 {ns : List Int} (h : ns.length ≤ 63) : cutV (ns.map V.int) none (some 63) = ns.map V.int := by
  unfold cutV
  have e : HT.sIx (ns.map V.int).length (ns.map V.int).length (some 63) = ns.length := by
    rw [show (63 : Int) = ((63 : Nat) : Int) from rfl, HT.sIx_nat, List.length_map]
    omega
  rw [e]
  show ((ns.map V.int).drop 0).take (ns.length - 0) = _
  rw [List.drop_zero, Nat.sub_zero, List.take_of_length_le (by rw [List.length_map]; exact Nat.le_refl _)]
theorem ok_deck {f : Addr} {fd : FuncData} (F : Fun K "_law_deck" "_law_deck" s__law_deck f fd) (hint : mg "int" = none) : FnOk P w K mg base (L2.CX P w) 1 f fd ["script"] (spDeck K) := by
  refine F.okX scDeck (fun vs H Q E h => ?_) (fun cdv A outer s H vs Q E hr h => ?_)
  · obtain ⟨a, ns, rfl, _⟩ := h
    rfl
  · obtain ⟨a, ns, rfl, hS, hl, k⟩ := h
    have pw : CPow 10 60 := ⟨by decide, by decide, by decide⟩
    refine ⟨_, pss_one (ps_ret (pe_lst (pa_cons (pe_lc (own := [("cell", 1)]) (g := gName 1) (tt := tYes) rfl scDeck.nd (pi_list (pe_slice sl_list (pv 0) po_none (po_some pe_int))) (blkOk_by (N := ["script", "cell"]) (sc := defScope s__law_deck) (by decide +kernel))
      (fun _ _ _ _ _ => pg_name (i := 1) scDeck.nd rfl (Or.inl rfl)) (fun _ _ _ _ _ => pts_nil) (fun _ _ _ _ _ => pe_op op_mod (pe_callTy call_int1 rfl hint (by decide +kernel) (pa_cons (pv 1) pa_nil)) (pe_op op_pow pe_int pe_int))) (pa_cons pe_int (pa_cons pe_int pa_nil))))), ?_⟩
    refine ⟨_, rfl, 63, rfl, a, _, rfl, hS, fun q hq => ⟨q, rfl, ⟨_, SqL.of upd_same⟩, fun D hD => ?_⟩⟩
    rw [cut63 hl] at hD ⊢
    have hqD : q ≠ D := ne_of_none (H := upd H q (.lst (ns.map V.int))) upd_same hD
    have nD : H D = none := by
      rw [upd_ne (Ne.symm hqD)] at hD; exact hD
    refine lc_list (K := K) (a := q) (xs := ns.map V.int) (fun i H' => H' = upd (upd H q (.lst (ns.map V.int))) D (.lst (((ns.take i).map fun n => n % 10 ^ 60).map V.int))) rfl (fun i H' _ e => ?_) (fun i x H' hi e => ?_) (fun H' e => ?_)
    · subst e
      exact SqL.of (by rw [upd_ne hqD]; exact upd_same)
    · subst e
      rw [List.getElem?_map] at hi
      obtain ⟨z, hz, rfl⟩ := Option.map_eq_some_iff.mp hi
      have hlt : i < ns.length := (List.getElem?_eq_some_iff.mp hz).1
      refine ⟨rfl, _, rfl, .inl ⟨_, rfl, 10, 60, rfl, rfl, pw, _, _, rfl, rfl, (by show (0 : Int) < 10 ^ 60; decide), _, upd_same, ?_, ?_⟩⟩
      · rw [List.length_map, List.length_map, List.length_take, line_eq]; omega
      · show upd (upd (upd H q (.lst (ns.map V.int))) D (.lst (((ns.take i).map fun n => n % 10 ^ 60).map V.int))) D _ = _
        rw [upd_upd]
        have e2 : ns.take (i + 1) = ns.take i ++ [z] := by
          rw [List.take_add_one, hz]; rfl
        rw [e2, List.map_append, List.map_append]
        rfl
    · subst e
      rw [List.length_map, List.take_length]
      refine ⟨by show 3 ≤ sizeLine; decide, fun p hp => ?_⟩
      have npD : p ≠ D := fun z => by rw [z, upd_same] at hp; cases hp
      have npq : p ≠ q := fun z => by rw [z, upd_ne hqD, upd_same] at hp; cases hp
      have np : H p = none := by rw [upd_ne npD, upd_ne npq] at hp; exact hp
      refine k _ D p ⟨ns.map fun n => n % 10 ^ 60, 0, 6151⟩ (fun b o e => ?_) nD np npD ⟨by simpa using hl, fun x hx => ?_, (by show (0 : Int) ≤ 0; decide), (by show (0 : Int) < 10 ^ 60; decide), (by show (0 : Int) ≤ 6151; decide), (by show (6151 : Int) < 2147483647; decide)⟩ upd_same (by rw [upd_ne (Ne.symm npD)]; exact upd_same)
      · rw [upd_ne (ne_of_none e np), upd_ne (ne_of_none e nD), upd_ne (ne_of_none e hq)]; exact e
      · obtain ⟨n, _, rfl⟩ := List.mem_map.mp hx
        exact ⟨Int.emod_nonneg _ (by decide), Int.emod_lt_of_pos _ (by decide)⟩
end

theorem cov_tapes : cov 5 tapes = true := by decide +kernel
def okT (t : List (Int × Int)) : Bool := turnOk 7 (L_law_2 (none :: some (Sl.val .deck) :: List.replicate 5 none) ⟨t, []⟩)
theorem law_turns_0 : ((tapes.drop (4 * 0)).take 4).all okT = true := by decide +kernel
theorem law_turns_1 : ((tapes.drop (4 * 1)).take 4).all okT = true := by decide +kernel
theorem law_turns_2 : ((tapes.drop (4 * 2)).take 4).all okT = true := by decide +kernel
theorem law_turns_3 : ((tapes.drop (4 * 3)).take 4).all okT = true := by decide +kernel
theorem law_turns_4 : ((tapes.drop (4 * 4)).take 4).all okT = true := by decide +kernel
theorem law_turns_5 : ((tapes.drop (4 * 5)).take 4).all okT = true := by decide +kernel
theorem law_turns_6 : ((tapes.drop (4 * 6)).take 4).all okT = true := by decide +kernel
theorem law_turns_7 : ((tapes.drop (4 * 7)).take 4).all okT = true := by decide +kernel
theorem law_turns_8 : ((tapes.drop (4 * 8)).take 4).all okT = true := by decide +kernel
theorem law_turns_9 : ((tapes.drop (4 * 9)).take 4).all okT = true := by decide +kernel
theorem law_turns_10 : ((tapes.drop (4 * 10)).take 4).all okT = true := by decide +kernel
theorem law_turns_11 : ((tapes.drop (4 * 11)).take 4).all okT = true := by decide +kernel
theorem law_turns_12 : ((tapes.drop (4 * 12)).take 4).all okT = true := by decide +kernel
theorem law_turns_13 : ((tapes.drop (4 * 13)).take 4).all okT = true := by decide +kernel
theorem law_turns_14 : ((tapes.drop (4 * 14)).take 4).all okT = true := by decide +kernel
theorem law_turns : ∀ t ∈ tapes, okT t = true := all_chunks (n := 4) (k := 15) (by decide) (fun i hi => match i, hi with
  | 0, _ => law_turns_0
  | 1, _ => law_turns_1
  | 2, _ => law_turns_2
  | 3, _ => law_turns_3
  | 4, _ => law_turns_4
  | 5, _ => law_turns_5
  | 6, _ => law_turns_6
  | 7, _ => law_turns_7
  | 8, _ => law_turns_8
  | 9, _ => law_turns_9
  | 10, _ => law_turns_10
  | 11, _ => law_turns_11
  | 12, _ => law_turns_12
  | 13, _ => law_turns_13
  | 14, _ => law_turns_14
  | i + 15, hi => absurd hi (by omega)) (by decide +kernel)
theorem law_pure (st : DeckSt) (n : Nat) (ok : st.Ok) (hn : n ≤ 63) : ∃ s', d_law (rho0 N_law.length n) st = .rt (.bl true) s' := by
  have hd : ∃ l, (dRng rng1 (dCons (dBin addD (dC (.int 2)) (dCallB min2D (dCons (dCallB lenX (dCons (dVar 0) (dNil))) (dCons (dC (.int 6)) (dNil))))) (dNil)) : DA DeckSt) (rho0 N_law.length n) st = .ok l st := by
    refine ⟨rngD 0 (2 + (if (6 : Int) < (n : Int) then 6 else (n : Int))).toNat, ?_⟩
    show ofO st (rng1 [.int (2 + (if (6 : Int) < (n : Int) then 6 else (n : Int)))]) = _
    unfold rng1
    dsimp only
    rw [if_pos (by split <;> omega)]
    rfl
  obtain ⟨l, hl⟩ := hd
  exact turns_pure (N := 5) ok hl (by decide) fun ρ s I => turn_inv (N := 5) cov_tapes law_turns I

theorem all_mk {l : PySem.W.OpenLaw} {w : World} {K : PySem.W.Frag} {h : Heap} {mg : Str → Option Value} {fa : Addr} (X : K.In h) (G : h.Ns mainGlobals mg) (hfa : mg "law" = some (.ref fa))
    {f0 : Addr} {oc0 : Value} {od0 an0 : Option Addr} {kV0 dc0 pm0 cd0 ct0 : Value} {sl0 : Array (Option Value)}
    {f1 : Addr} {oc1 : Value} {od1 an1 : Option Addr} {kV1 dc1 pm1 cd1 ct1 : Value} {sl1 : Array (Option Value)}
    {f2 : Addr} {oc2 : Value} {od2 an2 : Option Addr} {kV2 dc2 pm2 cd2 ct2 : Value} {sl2 : Array (Option Value)}
    {f3 : Addr} {oc3 : Value} {od3 an3 : Option Addr} {kV3 dc3 pm3 cd3 ct3 : Value} {sl3 : Array (Option Value)}
    {f4 : Addr} {oc4 : Value} {od4 an4 : Option Addr} {kV4 dc4 pm4 cd4 ct4 : Value} {sl4 : Array (Option Value)}
    {f5 : Addr} {oc5 : Value} {od5 an5 : Option Addr} {kV5 dc5 pm5 cd5 ct5 : Value} {sl5 : Array (Option Value)}
    {f6 : Addr} {oc6 : Value} {od6 an6 : Option Addr} {kV6 dc6 pm6 cd6 ct6 : Value} {sl6 : Array (Option Value)}
    {f7 : Addr} {oc7 : Value} {od7 an7 : Option Addr} {kV7 dc7 pm7 cd7 ct7 : Value} {sl7 : Array (Option Value)}
    {f8 : Addr} {oc8 : Value} {od8 an8 : Option Addr} {kV8 dc8 pm8 cd8 ct8 : Value} {sl8 : Array (Option Value)}
    {f9 : Addr} {oc9 : Value} {od9 an9 : Option Addr} {kV9 dc9 pm9 cd9 ct9 : Value} {sl9 : Array (Option Value)}
    {f10 : Addr} {oc10 : Value} {od10 an10 : Option Addr} {kV10 dc10 pm10 cd10 ct10 : Value} {sl10 : Array (Option Value)}
    {f11 : Addr} {oc11 : Value} {od11 an11 : Option Addr} {kV11 dc11 pm11 cd11 ct11 : Value} {sl11 : Array (Option Value)}
    {f12 : Addr} {oc12 : Value} {od12 an12 : Option Addr} {kV12 dc12 pm12 cd12 ct12 : Value} {sl12 : Array (Option Value)}
    {f13 : Addr} {oc13 : Value} {od13 an13 : Option Addr} {kV13 dc13 pm13 cd13 ct13 : Value} {sl13 : Array (Option Value)}
    {f14 : Addr} {oc14 : Value} {od14 an14 : Option Addr} {kV14 dc14 pm14 cd14 ct14 : Value} {sl14 : Array (Option Value)}
    {f15 : Addr} {oc15 : Value} {od15 an15 : Option Addr} {kV15 dc15 pm15 cd15 ct15 : Value} {sl15 : Array (Option Value)}
    {f16 : Addr} {oc16 : Value} {od16 an16 : Option Addr} {kV16 dc16 pm16 cd16 ct16 : Value} {sl16 : Array (Option Value)}
    {f17 : Addr} {oc17 : Value} {od17 an17 : Option Addr} {kV17 dc17 pm17 cd17 ct17 : Value} {sl17 : Array (Option Value)}
    {f18 : Addr} {oc18 : Value} {od18 an18 : Option Addr} {kV18 dc18 pm18 cd18 ct18 : Value} {sl18 : Array (Option Value)}
    {f19 : Addr} {oc19 : Value} {od19 an19 : Option Addr} {kV19 dc19 pm19 cd19 ct19 : Value} {sl19 : Array (Option Value)}
    {cv0 : Value}
    {e0 : Addr}
    (a0 : PySem.W.nsIn K mainGlobals "_law_deck" = some (some (.ref f0))) (l0 : K.lookup f0 = some ⟨oc0, od0, .func (PySem.W.fnOf "_law_deck" "_law_deck" (defArgs s__law_deck) (defBody s__law_deck) (defScope s__law_deck) .none kV0 dc0 pm0 an0 cd0 ct0), sl0⟩) (c0 : PySem.W.codeIn K cd0 "_law_deck" = true) (k0 : PySem.W.keepIn K (.ref f0) = true)
    (a1 : PySem.W.nsIn K mainGlobals "_law_pick" = some (some (.ref f1))) (l1 : K.lookup f1 = some ⟨oc1, od1, .func (PySem.W.fnOf "_law_pick" "_law_pick" (defArgs s__law_pick) (defBody s__law_pick) (defScope s__law_pick) .none kV1 dc1 pm1 an1 cd1 ct1), sl1⟩) (c1 : PySem.W.codeIn K cd1 "_law_pick" = true) (k1 : PySem.W.keepIn K (.ref f1) = true)
    (a2 : PySem.W.nsIn K mainGlobals "_law_sizes" = some (some (.ref f2))) (l2 : K.lookup f2 = some ⟨oc2, od2, .func (PySem.W.fnOf "_law_sizes" "_law_sizes" (defArgs s__law_sizes) (defBody s__law_sizes) (defScope s__law_sizes) .none kV2 dc2 pm2 an2 cd2 ct2), sl2⟩) (c2 : PySem.W.codeIn K cd2 "_law_sizes" = true) (k2 : PySem.W.keepIn K (.ref f2) = true)
    (a3 : PySem.W.nsIn K mainGlobals "_law_signature" = some (some (.ref f3))) (l3 : K.lookup f3 = some ⟨oc3, od3, .func (PySem.W.fnOf "_law_signature" "_law_signature" (defArgs s__law_signature) (defBody s__law_signature) (defScope s__law_signature) .none kV3 dc3 pm3 an3 cd3 ct3), sl3⟩) (c3 : PySem.W.codeIn K cd3 "_law_signature" = true) (k3 : PySem.W.keepIn K (.ref f3) = true)
    (a4 : PySem.W.nsIn K mainGlobals "_law_near" = some (some (.ref f4))) (l4 : K.lookup f4 = some ⟨oc4, od4, .func (PySem.W.fnOf "_law_near" "_law_near" (defArgs s__law_near) (defBody s__law_near) (defScope s__law_near) .none kV4 dc4 pm4 an4 cd4 ct4), sl4⟩) (c4 : PySem.W.codeIn K cd4 "_law_near" = true) (k4 : PySem.W.keepIn K (.ref f4) = true)
    (a5 : PySem.W.nsIn K mainGlobals "_law_int" = some (some (.ref f5))) (l5 : K.lookup f5 = some ⟨oc5, od5, .func (PySem.W.fnOf "_law_int" "_law_int" (defArgs s__law_int) (defBody s__law_int) (defScope s__law_int) .none kV5 dc5 pm5 an5 cd5 ct5), sl5⟩) (c5 : PySem.W.codeIn K cd5 "_law_int" = true) (k5 : PySem.W.keepIn K (.ref f5) = true)
    (a6 : PySem.W.nsIn K mainGlobals "_law_judge" = some (some (.ref f6))) (l6 : K.lookup f6 = some ⟨oc6, od6, .func (PySem.W.fnOf "_law_judge" "_law_judge" (defArgs s__law_judge) (defBody s__law_judge) (defScope s__law_judge) .none kV6 dc6 pm6 an6 cd6 ct6), sl6⟩) (c6 : PySem.W.codeIn K cd6 "_law_judge" = true) (k6 : PySem.W.keepIn K (.ref f6) = true)
    (a7 : PySem.W.nsIn K mainGlobals "_law_same" = some (some (.ref f7))) (l7 : K.lookup f7 = some ⟨oc7, od7, .func (PySem.W.fnOf "_law_same" "_law_same" (defArgs s__law_same) (defBody s__law_same) (defScope s__law_same) .none kV7 dc7 pm7 an7 cd7 ct7), sl7⟩) (c7 : PySem.W.codeIn K cd7 "_law_same" = true) (k7 : PySem.W.keepIn K (.ref f7) = true)
    (a8 : PySem.W.nsIn K mainGlobals "is_row" = some (some (.ref f8))) (l8 : K.lookup f8 = some ⟨oc8, od8, .func (PySem.W.fnOf "is_row" "is_row" (defArgs s_is_row) (defBody s_is_row) (defScope s_is_row) .none kV8 dc8 pm8 an8 cd8 ct8), sl8⟩) (c8 : PySem.W.codeIn K cd8 "is_row" = true) (k8 : PySem.W.keepIn K (.ref f8) = true)
    (a9 : PySem.W.nsIn K mainGlobals "is_int" = some (some (.ref f9))) (l9 : K.lookup f9 = some ⟨oc9, od9, .func (PySem.W.fnOf "is_int" "is_int" (defArgs s_is_int) (defBody s_is_int) (defScope s_is_int) .none kV9 dc9 pm9 an9 cd9 ct9), sl9⟩) (c9 : PySem.W.codeIn K cd9 "is_int" = true) (k9 : PySem.W.keepIn K (.ref f9) = true)
    (a10 : PySem.W.nsIn K mainGlobals "within" = some (some (.ref f10))) (l10 : K.lookup f10 = some ⟨oc10, od10, .func (PySem.W.fnOf "within" "within" (defArgs s_within) (defBody s_within) (defScope s_within) .none kV10 dc10 pm10 an10 cd10 ct10), sl10⟩) (c10 : PySem.W.codeIn K cd10 "within" = true) (k10 : PySem.W.keepIn K (.ref f10) = true)
    (a11 : PySem.W.nsIn K mainGlobals "product_of" = some (some (.ref f11))) (l11 : K.lookup f11 = some ⟨oc11, od11, .func (PySem.W.fnOf "product_of" "product_of" (defArgs s_product_of) (defBody s_product_of) (defScope s_product_of) .none kV11 dc11 pm11 an11 cd11 ct11), sl11⟩) (c11 : PySem.W.codeIn K cd11 "product_of" = true) (k11 : PySem.W.keepIn K (.ref f11) = true)
    (a12 : PySem.W.nsIn K mainGlobals "are_sizes" = some (some (.ref f12))) (l12 : K.lookup f12 = some ⟨oc12, od12, .func (PySem.W.fnOf "are_sizes" "are_sizes" (defArgs s_are_sizes) (defBody s_are_sizes) (defScope s_are_sizes) .none kV12 dc12 pm12 an12 cd12 ct12), sl12⟩) (c12 : PySem.W.codeIn K cd12 "are_sizes" = true) (k12 : PySem.W.keepIn K (.ref f12) = true)
    (a13 : PySem.W.nsIn K mainGlobals "is_signature" = some (some (.ref f13))) (l13 : K.lookup f13 = some ⟨oc13, od13, .func (PySem.W.fnOf "is_signature" "is_signature" (defArgs s_is_signature) (defBody s_is_signature) (defScope s_is_signature) .none kV13 dc13 pm13 an13 cd13 ct13), sl13⟩) (c13 : PySem.W.codeIn K cd13 "is_signature" = true) (k13 : PySem.W.keepIn K (.ref f13) = true)
    (a14 : PySem.W.nsIn K mainGlobals "need_signature" = some (some (.ref f14))) (l14 : K.lookup f14 = some ⟨oc14, od14, .func (PySem.W.fnOf "need_signature" "need_signature" (defArgs s_need_signature) (defBody s_need_signature) (defScope s_need_signature) .none kV14 dc14 pm14 an14 cd14 ct14), sl14⟩) (c14 : PySem.W.codeIn K cd14 "need_signature" = true) (k14 : PySem.W.keepIn K (.ref f14) = true)
    (a15 : PySem.W.nsIn K mainGlobals "controls_in" = some (some (.ref f15))) (l15 : K.lookup f15 = some ⟨oc15, od15, .func (PySem.W.fnOf "controls_in" "controls_in" (defArgs s_controls_in) (defBody s_controls_in) (defScope s_controls_in) .none kV15 dc15 pm15 an15 cd15 ct15), sl15⟩) (c15 : PySem.W.codeIn K cd15 "controls_in" = true) (k15 : PySem.W.keepIn K (.ref f15) = true)
    (a16 : PySem.W.nsIn K mainGlobals "controls_of" = some (some (.ref f16))) (l16 : K.lookup f16 = some ⟨oc16, od16, .func (PySem.W.fnOf "controls_of" "controls_of" (defArgs s_controls_of) (defBody s_controls_of) (defScope s_controls_of) .none kV16 dc16 pm16 an16 cd16 ct16), sl16⟩) (c16 : PySem.W.codeIn K cd16 "controls_of" = true) (k16 : PySem.W.keepIn K (.ref f16) = true)
    (a17 : PySem.W.nsIn K mainGlobals "_law_refused" = some (some (.ref f17))) (l17 : K.lookup f17 = some ⟨oc17, od17, .func (PySem.W.fnOf "_law_refused" "_law_refused" (defArgs s__law_refused) (defBody s__law_refused) (defScope s__law_refused) .none kV17 dc17 pm17 an17 cd17 ct17), sl17⟩) (c17 : PySem.W.codeIn K cd17 "_law_refused" = true) (k17 : PySem.W.keepIn K (.ref f17) = true)
    (a18 : PySem.W.nsIn K mainGlobals "_law_controls" = some (some (.ref f18))) (l18 : K.lookup f18 = some ⟨oc18, od18, .func (PySem.W.fnOf "_law_controls" "_law_controls" (defArgs s__law_controls) (defBody s__law_controls) (defScope s__law_controls) .none kV18 dc18 pm18 an18 cd18 ct18), sl18⟩) (c18 : PySem.W.codeIn K cd18 "_law_controls" = true) (k18 : PySem.W.keepIn K (.ref f18) = true)
    (a19 : PySem.W.nsIn K mainGlobals "law" = some (some (.ref f19))) (l19 : K.lookup f19 = some ⟨oc19, od19, .func (PySem.W.fnOf "law" "law" (defArgs s_law) (defBody s_law) (defScope s_law) .none kV19 dc19 pm19 an19 cd19 ct19), sl19⟩) (c19 : PySem.W.codeIn K cd19 "law" = true) (k19 : PySem.W.keepIn K (.ref f19) = true)
    (z0 : PySem.W.nsIn K mainGlobals "all" = some none)
    (z1 : PySem.W.nsIn K mainGlobals "bool" = some none)
    (z2 : PySem.W.nsIn K mainGlobals "int" = some none)
    (z3 : PySem.W.nsIn K mainGlobals "isinstance" = some none)
    (z4 : PySem.W.nsIn K mainGlobals "len" = some none)
    (z5 : PySem.W.nsIn K mainGlobals "list" = some none)
    (z6 : PySem.W.nsIn K mainGlobals "min" = some none)
    (z7 : PySem.W.nsIn K mainGlobals "range" = some none)
    (z8 : PySem.W.nsIn K mainGlobals "str" = some none)
    (z9 : PySem.W.nsIn K mainGlobals "tuple" = some none)
    (vs0 : PySem.W.nsIn K mainGlobals "ALPHABET" = some (some cv0)) (vt0 : ∃ t, cv0 = .str "abc" t)
    (v1 : ∃ t, PySem.W.nsIn K mainGlobals "MOST_CHANNELS" = some (some (.int 2 t)))
    (v2 : ∃ t, PySem.W.nsIn K mainGlobals "MOST_CONTROLS" = some (some (.int 16 t)))
    (v3 : ∃ t, PySem.W.nsIn K mainGlobals "MOST_PROCESSES" = some (some (.int 3 t)))
    (v4 : ∃ t, PySem.W.nsIn K mainGlobals "MOST_STATES" = some (some (.int 4 t)))
    (ea0 : PySem.W.nsIn K mainGlobals "BadSignature" = some (some (.ref e0))) (ex0 : PySem.W.excIn K e0 [.type "ValueError", .type "Exception", .type "BaseException", .type "object"] "ValueError.__new__" = true) (ek0 : PySem.W.keepIn K (.ref e0) = true) (eb0 : PySem.W.subIn K (.ref e0) (.type "BaseException") = some true) (et0 : PySem.W.typeIn K (.ref e0) = some (.type "type")) (ei0 : PySem.W.isClsIn K e0 = true)
    (su0_0 : PySem.W.subIn K (.ref e0) (.ref e0) = some true) :
    ∃ fd : FuncData, (∀ (s : Shared) (v : Value), BindsTo s fd ⟨[v], []⟩ [("script", v)]) ∧ ∀ base : Heap, K.In base → base.Ns mainGlobals mg → FnOk l.prog w K mg base (L2.CX l.prog w) 8 fa fd ["script"] (spLaw K) := by
  have e := hfa.symm.trans (PySem.W.mg_of X G a19)
  cases e
  have E0 : ErrOk K mg "BadSignature" e0 := ⟨PySem.W.mg_of X G ea0, ex0, ek0, eb0, et0, ei0⟩
  have T : Txt K mg := ⟨PySem.W.mg_none_of X G z0, PySem.W.mg_none_of X G z1, PySem.W.mg_none_of X G z2, PySem.W.mg_none_of X G z3, PySem.W.mg_none_of X G z4, PySem.W.mg_none_of X G z5, PySem.W.mg_none_of X G z6, PySem.W.mg_none_of X G z7, PySem.W.mg_none_of X G z8, PySem.W.mg_none_of X G z9, (by obtain ⟨t, e⟩ := vt0; subst e; exact ⟨t, PySem.W.mg_of X G vs0⟩), (by obtain ⟨t, e⟩ := v1; exact ⟨t, PySem.W.mg_of X G e⟩), (by obtain ⟨t, e⟩ := v2; exact ⟨t, PySem.W.mg_of X G e⟩), (by obtain ⟨t, e⟩ := v3; exact ⟨t, PySem.W.mg_of X G e⟩), (by obtain ⟨t, e⟩ := v4; exact ⟨t, PySem.W.mg_of X G e⟩), ⟨e0, E0⟩, subT_ok (all_cons ⟨e0, e0, E0.g, E0.g, exm_pair E0 su0_0⟩ all_nil)⟩
  have F0 := fun_mk (st := s__law_deck) l0 c0 k0
  have b0 := F0.binds (ps := ["script"]) fun _ _ _ _ _ _ us hl => match us, hl with | [_], _ => rfl
  have m0 := PySem.W.mg_of X G a0
  have F1 := fun_mk (st := s__law_pick) l1 c1 k1
  have b1 := F1.binds (ps := ["deck", "many"]) fun _ _ _ _ _ _ us hl => match us, hl with | [_, _], _ => rfl
  have m1 := PySem.W.mg_of X G a1
  have F2 := fun_mk (st := s__law_sizes) l2 c2 k2
  have b2 := F2.binds (ps := ["deck"]) fun _ _ _ _ _ _ us hl => match us, hl with | [_], _ => rfl
  have m2 := PySem.W.mg_of X G a2
  have F3 := fun_mk (st := s__law_signature) l3 c3 k3
  have b3 := F3.binds (ps := ["deck"]) fun _ _ _ _ _ _ us hl => match us, hl with | [_], _ => rfl
  have m3 := PySem.W.mg_of X G a3
  have F4 := fun_mk (st := s__law_near) l4 c4 k4
  have b4 := F4.binds (ps := ["deck", "signature"]) fun _ _ _ _ _ _ us hl => match us, hl with | [_, _], _ => rfl
  have m4 := PySem.W.mg_of X G a4
  have F5 := fun_mk (st := s__law_int) l5 c5 k5
  have b5 := F5.binds (ps := ["thing", "low", "high"]) fun _ _ _ _ _ _ us hl => match us, hl with | [_, _, _], _ => rfl
  have m5 := PySem.W.mg_of X G a5
  have F6 := fun_mk (st := s__law_judge) l6 c6 k6
  have b6 := F6.binds (ps := ["thing"]) fun _ _ _ _ _ _ us hl => match us, hl with | [_], _ => rfl
  have m6 := PySem.W.mg_of X G a6
  have F7 := fun_mk (st := s__law_same) l7 c7 k7
  have b7 := F7.binds (ps := ["told", "due"]) fun _ _ _ _ _ _ us hl => match us, hl with | [_, _], _ => rfl
  have m7 := PySem.W.mg_of X G a7
  have F8 := fun_mk (st := s_is_row) l8 c8 k8
  have b8 := F8.binds (ps := ["thing", "fewest", "most"]) fun _ _ _ _ _ _ us hl => match us, hl with | [_, _, _], _ => rfl
  have m8 := PySem.W.mg_of X G a8
  have F9 := fun_mk (st := s_is_int) l9 c9 k9
  have b9 := F9.binds (ps := ["thing"]) fun _ _ _ _ _ _ us hl => match us, hl with | [_], _ => rfl
  have m9 := PySem.W.mg_of X G a9
  have F10 := fun_mk (st := s_within) l10 c10 k10
  have b10 := F10.binds (ps := ["thing", "low", "high"]) fun _ _ _ _ _ _ us hl => match us, hl with | [_, _, _], _ => rfl
  have m10 := PySem.W.mg_of X G a10
  have F11 := fun_mk (st := s_product_of) l11 c11 k11
  have b11 := F11.binds (ps := ["numbers"]) fun _ _ _ _ _ _ us hl => match us, hl with | [_], _ => rfl
  have m11 := PySem.W.mg_of X G a11
  have F12 := fun_mk (st := s_are_sizes) l12 c12 k12
  have b12 := F12.binds (ps := ["thing"]) fun _ _ _ _ _ _ us hl => match us, hl with | [_], _ => rfl
  have m12 := PySem.W.mg_of X G a12
  have F13 := fun_mk (st := s_is_signature) l13 c13 k13
  have b13 := F13.binds (ps := ["thing"]) fun _ _ _ _ _ _ us hl => match us, hl with | [_], _ => rfl
  have m13 := PySem.W.mg_of X G a13
  have F14 := fun_mk (st := s_need_signature) l14 c14 k14
  have b14 := F14.binds (ps := ["signature"]) fun _ _ _ _ _ _ us hl => match us, hl with | [_], _ => rfl
  have m14 := PySem.W.mg_of X G a14
  have F15 := fun_mk (st := s_controls_in) l15 c15 k15
  have b15 := F15.binds (ps := ["signature"]) fun _ _ _ _ _ _ us hl => match us, hl with | [_], _ => rfl
  have m15 := PySem.W.mg_of X G a15
  have F16 := fun_mk (st := s_controls_of) l16 c16 k16
  have b16 := F16.binds (ps := ["signature"]) fun _ _ _ _ _ _ us hl => match us, hl with | [_], _ => rfl
  have m16 := PySem.W.mg_of X G a16
  have F17 := fun_mk (st := s__law_refused) l17 c17 k17
  have b17 := F17.binds (ps := ["thing"]) fun _ _ _ _ _ _ us hl => match us, hl with | [_], _ => rfl
  have m17 := PySem.W.mg_of X G a17
  have F18 := fun_mk (st := s__law_controls) l18 c18 k18
  have b18 := F18.binds (ps := ["sizes"]) fun _ _ _ _ _ _ us hl => match us, hl with | [_], _ => rfl
  have m18 := PySem.W.mg_of X G a18
  have F19 := fun_mk (st := s_law) l19 c19 k19
  have b19 := F19.binds (ps := ["script"]) fun _ _ _ _ _ _ us hl => match us, hl with | [_], _ => rfl
  have m19 := PySem.W.mg_of X G a19
  refine ⟨PySem.W.fnOf "law" "law" (defArgs s_law) (defBody s_law) (defScope s_law) .none kV19 dc19 pm19 an19 cd19 ct19, fun s v => .of_eq rfl, fun base _ _ => ?_⟩
  have h__law_pick := (fn_pick (P := l.prog) (w := w) (base := base) (ok_pick F1 T.n_int) m1 k1 b1).tp
  have o2 := ok__law_sizes (P := l.prog) (w := w) (base := base) T h__law_pick F2
  have h__law_sizes := fn_ofok o2 m2 k2 b2
  have o3 := ok__law_signature (P := l.prog) (w := w) (base := base) T h__law_sizes h__law_pick F3
  have h__law_signature := fn_ofok o3 m3 k3 b3
  have o4 := ok__law_near (P := l.prog) (w := w) (base := base) T  F4
  have h__law_near := fn_ofok o4 m4 k4 b4
  have o5 := ok__law_int (P := l.prog) (w := w) (base := base) T  F5
  have h__law_int := fn_ofok o5 m5 k5 b5
  have o6 := ok__law_judge (P := l.prog) (w := w) (base := base) T h__law_int F6
  have h__law_judge := fn_ofok o6 m6 k6 b6
  have o7 := ok__law_same (P := l.prog) (w := w) (base := base) T  F7
  have h__law_same := fn_ofok o7 m7 k7 b7
  have o8 := ok_is_row (P := l.prog) (w := w) (base := base) T  F8
  have h_is_row := fn_ofok o8 m8 k8 b8
  have o9 := ok_is_int (P := l.prog) (w := w) (base := base) T  F9
  have h_is_int := fn_ofok o9 m9 k9 b9
  have o10 := ok_within (P := l.prog) (w := w) (base := base) T h_is_int F10
  have h_within := fn_ofok o10 m10 k10 b10
  have o11 := ok_product_of (P := l.prog) (w := w) (base := base) T  F11
  have h_product_of := fn_ofok o11 m11 k11 b11
  have o12 := ok_are_sizes (P := l.prog) (w := w) (base := base) T h_is_row h_within h_product_of F12
  have h_are_sizes := fn_ofok o12 m12 k12 b12
  have o13 := ok_is_signature (P := l.prog) (w := w) (base := base) T h_is_row h_within h_are_sizes F13
  have h_is_signature := fn_ofok o13 m13 k13 b13
  have hk_is_signature_0_thing := fk_ofok (a := 0) (ks := ["thing"]) (is := [0]) o13 m13 k13 (kbn_mk F13 fun _ _ _ _ _ _ us ws h1 h2 => match us, ws, h1, h2 with | [], [_], _, _ => rfl)
  have o14 := ok_need_signature (P := l.prog) (w := w) (base := base) T h_is_signature F14
  have h_need_signature := fn_ofok o14 m14 k14 b14
  have o15 := ok_controls_in (P := l.prog) (w := w) (base := base) T  F15
  have h_controls_in := fn_ofok o15 m15 k15 b15
  have o16 := ok_controls_of (P := l.prog) (w := w) (base := base) T h_need_signature h_controls_in F16
  have h_controls_of := fn_ofok o16 m16 k16 b16
  have hk_controls_of_0_signature := fk_ofok (a := 0) (ks := ["signature"]) (is := [0]) o16 m16 k16 (kbn_mk F16 fun _ _ _ _ _ _ us ws h1 h2 => match us, ws, h1, h2 with | [], [_], _, _ => rfl)
  have o17 := ok__law_refused (P := l.prog) (w := w) (base := base) T h_controls_of F17
  have h__law_refused := fn_ofok o17 m17 k17 b17
  have o18 := ok__law_controls (P := l.prog) (w := w) (base := base) T  F18
  have h__law_controls := fn_ofok o18 m18 k18 b18
  exact law_mk (k := 7) F19 sc_law (ok_deck F0 T.n_int) m0 k0 b0 rfl (by decide) (by decide)
    (fun cdv A outer s H E hr => ⟨_, ps_set (i := 1) sc_law.nd rfl (Or.inl rfl) (pe_callS (ok_deck F0 T.n_int) (hr.mono (by decide)) rfl m0 k0 b0 (fun σ => passAt (W := fun cls d _ H => E cls d H) (takes_of rfl rfl rfl rfl) σ) (pa_cons (pv 0) pa_nil)), fun σ H1 D h => h⟩)
    (fun cdv A outer s H E C pc hr => ok_law T h__law_signature h__law_near h__law_judge h__law_same h_is_signature h__law_refused h__law_controls h_controls_of hk_controls_of_0_signature hk_is_signature_0_thing trivial cdv _ A outer s H E C pc hr)
    law_pure
end Mir
open PySem PySem.W PyProof.Rows
set_option maxRecDepth 100000 in
set_option maxHeartbeats 0 in
theorem PySem.Challenge.cw_roadsworn_k07_signatures_holds : PySem.Challenge.rw_roadsworn_k07_signatures.Holds := by
  w_on; o_law; k_head; (case hw => w_witness2)
  k_fill
  refine Mir.walk_law (l := PySem.Challenge.rw_roadsworn_k07_signatures) 8 rfl rfl ⟨rfl, by decide, by decide⟩ (fun w h Y => PySem.W.kIn_of Y) ?F
  case F =>
    intro w mg fa h KX G hmg
    refine' Mir.all_mk KX G hmg ?a0 ?l0 ?c0 ?k0 ?a1 ?l1 ?c1 ?k1 ?a2 ?l2 ?c2 ?k2 ?a3 ?l3 ?c3 ?k3 ?a4 ?l4 ?c4 ?k4 ?a5 ?l5 ?c5 ?k5 ?a6 ?l6 ?c6 ?k6 ?a7 ?l7 ?c7 ?k7 ?a8 ?l8 ?c8 ?k8 ?a9 ?l9 ?c9 ?k9 ?a10 ?l10 ?c10 ?k10 ?a11 ?l11 ?c11 ?k11 ?a12 ?l12 ?c12 ?k12 ?a13 ?l13 ?c13 ?k13 ?a14 ?l14 ?c14 ?k14 ?a15 ?l15 ?c15 ?k15 ?a16 ?l16 ?c16 ?k16 ?a17 ?l17 ?c17 ?k17 ?a18 ?l18 ?c18 ?k18 ?a19 ?l19 ?c19 ?k19 ?z0 ?z1 ?z2 ?z3 ?z4 ?z5 ?z6 ?z7 ?z8 ?z9 ?vs0 ?vt0 ?v1 ?v2 ?v3 ?v4 ?ea0 ?ex0 ?ek0 ?eb0 ?et0 ?ei0 ?su0_0
    (case a0 => k_is)
    (case l0 => k_is)
    (case c0 => k_is)
    (case k0 => k_is)
    (case a1 => k_is)
    (case l1 => k_is)
    (case c1 => k_is)
    (case k1 => k_is)
    (case a2 => k_is)
    (case l2 => k_is)
    (case c2 => k_is)
    (case k2 => k_is)
    (case a3 => k_is)
    (case l3 => k_is)
    (case c3 => k_is)
    (case k3 => k_is)
    (case a4 => k_is)
    (case l4 => k_is)
    (case c4 => k_is)
    (case k4 => k_is)
    (case a5 => k_is)
    (case l5 => k_is)
    (case c5 => k_is)
    (case k5 => k_is)
    (case a6 => k_is)
    (case l6 => k_is)
    (case c6 => k_is)
    (case k6 => k_is)
    (case a7 => k_is)
    (case l7 => k_is)
    (case c7 => k_is)
    (case k7 => k_is)
    (case a8 => k_is)
    (case l8 => k_is)
    (case c8 => k_is)
    (case k8 => k_is)
    (case a9 => k_is)
    (case l9 => k_is)
    (case c9 => k_is)
    (case k9 => k_is)
    (case a10 => k_is)
    (case l10 => k_is)
    (case c10 => k_is)
    (case k10 => k_is)
    (case a11 => k_is)
    (case l11 => k_is)
    (case c11 => k_is)
    (case k11 => k_is)
    (case a12 => k_is)
    (case l12 => k_is)
    (case c12 => k_is)
    (case k12 => k_is)
    (case a13 => k_is)
    (case l13 => k_is)
    (case c13 => k_is)
    (case k13 => k_is)
    (case a14 => k_is)
    (case l14 => k_is)
    (case c14 => k_is)
    (case k14 => k_is)
    (case a15 => k_is)
    (case l15 => k_is)
    (case c15 => k_is)
    (case k15 => k_is)
    (case a16 => k_is)
    (case l16 => k_is)
    (case c16 => k_is)
    (case k16 => k_is)
    (case a17 => k_is)
    (case l17 => k_is)
    (case c17 => k_is)
    (case k17 => k_is)
    (case a18 => k_is)
    (case l18 => k_is)
    (case c18 => k_is)
    (case k18 => k_is)
    (case a19 => k_is)
    (case l19 => k_is)
    (case c19 => k_is)
    (case k19 => k_is)
    (case z0 => k_is)
    (case z1 => k_is)
    (case z2 => k_is)
    (case z3 => k_is)
    (case z4 => k_is)
    (case z5 => k_is)
    (case z6 => k_is)
    (case z7 => k_is)
    (case z8 => k_is)
    (case z9 => k_is)
    (case vs0 => k_is)
    (case vt0 => exact ⟨_, rfl⟩)
    (case v1 => apply Exists.intro; k_is)
    (case v2 => apply Exists.intro; k_is)
    (case v3 => apply Exists.intro; k_is)
    (case v4 => apply Exists.intro; k_is)
    (case ea0 => k_is)
    (case ex0 => k_exc)
    (case ek0 => k_is)
    (case eb0 => k_is)
    (case et0 => k_is)
    (case ei0 => k_is)
    (case su0_0 => k_is)
#print axioms PySem.Challenge.cw_roadsworn_k07_signatures_holds
