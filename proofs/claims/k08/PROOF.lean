import PyProof.Rows.All
import Wide.All
import OpenK.AllK
import Wide.FinOn
import PyProof.EqAt
import PyProof.EqKinds
import PyProof.TupleCall
import HandS.ForMost
import HandS.ForExc
import HandS.IsInst
import HandS.Flow
import HandS.TryMany
import HandS.TupAny
import HandS.TupMul
import HandS.Comp
import HandS.Zip
import HandS.RevRange
import HandS.Defaults
import HandS.Wide
import HandS.Rev
import HandS.StrMore
import HandS.Style
import HandS.CallSlots
import PySem.Challenge.RW_roadsworn_k08_configurations
set_option Elab.async false
set_option linter.all false
set_option maxRecDepth 100000
set_option maxHeartbeats 2000000
/-! Python values as pure data; what a piece of the program does as a function on them; one lemma a construct. -/
namespace Mir
open PySem PySem.Spec L2
open PyProof.Rows hiding St

/-- a value as a tree -/
inductive D where
  | non | bl (b : Bool) | int (i : Int) | str (s : List Nat) | tup (ds : List D) | lst (ds : List D) | dic (ks vs : List D) | deck | ext (n : Nat)

abbrev mkS (l : List Nat) : Str := ⟨l.toArray⟩
def SOk (l : List Nat) : Prop := l.length ≤ 1048576 ∧ ∀ c ∈ l, c < 1114112

/-- the law's deck: where it stands, what it holds -/
structure Deck (S : Type) where
  val : V
  dom : Addr → Prop
  At : S → Hp → Prop
  stab : ∀ s H H', At s H → (∀ a, dom a → H' a = H a) → At s H'
  there : ∀ s H a, At s H → dom a → H a ≠ none
  /-- other objects from outside, n items long: the addresses they are read by -/
  sa : Addr → Prop
  ext : Hp → V → Nat → Prop
  ext_st : ∀ H H' v n, ext H v n → (∀ a, sa a → H' a = H a) → ext H' v n

/-- a value v stands for the tree d, by addresses outside A -/
inductive Dat {S : Type} (C : Deck S) (H : Hp) (A : Addr → Prop) : V → D → Prop
  | non : Dat C H A .non .non
  | bl (b : Bool) : Dat C H A (.bl b) (.bl b)
  | int (i : Int) : Dat C H A (.int i) (.int i)
  | str {l : List Nat} : SOk l → Dat C H A (.str (mkS l)) (.str l)
  | tup {a : Addr} {xs : List V} {ds : List D} : ¬ A a → H a = some (.tup xs) → xs.length = ds.length → (∀ (i : Nat) x d, xs[i]? = some x → ds[i]? = some d → Dat C H A x d) → Dat C H A (.ref a) (.tup ds)
  | lst {a : Addr} {xs : List V} {ds : List D} : ¬ A a → H a = some (.lst xs) → xs.length = ds.length → (∀ (i : Nat) x d, xs[i]? = some x → ds[i]? = some d → Dat C H A x d) → Dat C H A (.ref a) (.lst ds)
  | deck : Dat C H A C.val .deck
  | ext {v : V} {n : Nat} : (∀ a, C.sa a → ¬ A a ∧ H a ≠ none) → C.ext H v n → Dat C H A v (.ext n)

/-- lists of values -/
structure Dats {S : Type} (C : Deck S) (H : Hp) (A : Addr → Prop) (xs : List V) (ds : List D) : Prop where
  len : xs.length = ds.length
  at_ : ∀ (i : Nat) x d, xs[i]? = some x → ds[i]? = some d → Dat C H A x d

/-- all that is tracked outside of dom is kept -/
def Keep (dom : Addr → Prop) (H H' : Hp) : Prop := ∀ a o, ¬ dom a → H a = some o → H' a = some o
theorem Keep.refl {dom : Addr → Prop} {H : Hp} : Keep dom H H := fun _ _ _ h => h
theorem Keep.trans {dom : Addr → Prop} {H H' H'' : Hp} (a : Keep dom H H') (b : Keep dom H' H'') : Keep dom H H'' := fun x o n h => b x o n (a x o n h)
theorem Keep.upd {dom : Addr → Prop} {H : Hp} {p : Addr} {o : HO} (h : H p = none) : Keep dom H (upd H p o) := fun a u _ e => by
  rw [upd_ne (ne_of_none e h)]; exact e

section
variable {S : Type} {C : Deck S} {H H' : Hp} {A A' dom : Addr → Prop} {v : V} {d : D} {xs : List V} {ds : List D}
theorem some_ne {a : Addr} {o : HO} (r : H a = some o) : H a ≠ none := by rw [r]; exact fun z => nomatch z
/-- the heap grows, the forbidden addresses change outside of what was tracked -/
theorem Dat.lift (h : Dat C H A v d) (k : Keep dom H H') (hd : ∀ a, dom a → A a) (hA : ∀ a, A' a → A a ∨ H a = none) : Dat C H' A' v d := by
  induction h with
  | non => exact .non
  | bl b => exact .bl b
  | int i => exact .int i
  | str s => exact .str s
  | @tup a xs ds n r l _ ih =>
    refine .tup (fun z => ?_) (k a _ (fun z => n (hd a z)) r) l ih
    rcases hA a z with z | z
    · exact n z
    · exact some_ne r z
  | @lst a xs ds n r l _ ih =>
    refine .lst (fun z => ?_) (k a _ (fun z => n (hd a z)) r) l ih
    rcases hA a z with z | z
    · exact n z
    · exact some_ne r z
  | deck => exact .deck
  | ext h e =>
    have kk : ∀ a, C.sa a → H' a = H a := fun a ha => by
      obtain ⟨h1, h2⟩ := h a ha
      cases q : H a with
      | none => exact absurd q h2
      | some o => exact k a o (fun z => h1 (hd a z)) q
    refine .ext (fun a ha => ⟨fun z => ?_, by rw [kk a ha]; exact (h a ha).2⟩) (C.ext_st _ _ _ _ e kk)
    rcases hA a z with z | z
    · exact (h a ha).1 z
    · exact (h a ha).2 z
theorem Dats.lift (h : Dats C H A xs ds) (k : Keep dom H H') (hd : ∀ a, dom a → A a) (hA : ∀ a, A' a → A a ∨ H a = none) : Dats C H' A' xs ds :=
  ⟨h.len, fun i x d e1 e2 => (h.at_ i x d e1 e2).lift k hd hA⟩
theorem Dat.keep (h : Dat C H A v d) (k : Keep dom H H') (hd : ∀ a, dom a → A a) : Dat C H' A v d := h.lift k hd fun _ => .inl
theorem Dats.keep (h : Dats C H A xs ds) (k : Keep dom H H') (hd : ∀ a, dom a → A a) : Dats C H' A xs ds := h.lift k hd fun _ => .inl
theorem Dat.less (h : Dat C H A v d) (hA : ∀ a, A' a → A a) : Dat C H A' v d := by
  induction h with
  | non => exact .non
  | bl b => exact .bl b
  | int i => exact .int i
  | str s => exact .str s
  | tup n r l _ ih => exact .tup (fun z => n (hA _ z)) r l ih
  | lst n r l _ ih => exact .lst (fun z => n (hA _ z)) r l ih
  | deck => exact .deck
  | ext h e => exact .ext (fun a ha => ⟨fun z => (h a ha).1 (hA a z), (h a ha).2⟩) e
theorem Dats.less (h : Dats C H A xs ds) (hA : ∀ a, A' a → A a) : Dats C H A' xs ds := ⟨h.len, fun i x d e1 e2 => (h.at_ i x d e1 e2).less hA⟩
/-- what is written at a forbidden address is not seen -/
theorem Dat.write (h : Dat C H A v d) (k : ∀ a, ¬ A a → H' a = H a) : Dat C H' A v d := by
  induction h with
  | non => exact .non
  | bl b => exact .bl b
  | int i => exact .int i
  | str s => exact .str s
  | tup n r l _ ih => exact .tup n ((k _ n).trans r) l ih
  | lst n r l _ ih => exact .lst n ((k _ n).trans r) l ih
  | deck => exact .deck
  | ext h e => exact .ext (fun a ha => ⟨(h a ha).1, by rw [k a (h a ha).1]; exact (h a ha).2⟩) (C.ext_st _ _ _ _ e fun a ha => k a (h a ha).1)
theorem Dats.write (h : Dats C H A xs ds) (k : ∀ a, ¬ A a → H' a = H a) : Dats C H' A xs ds := ⟨h.len, fun i x d e1 e2 => (h.at_ i x d e1 e2).write k⟩
theorem Dats.nil : Dats C H A [] [] := ⟨rfl, fun i x d e => by simp at e⟩
theorem Dats.cons (h : Dat C H A v d) (t : Dats C H A xs ds) : Dats C H A (v :: xs) (d :: ds) := ⟨by simp [t.len], fun i x e e1 e2 => by
  cases i with
  | zero => simp at e1 e2; subst e1; subst e2; exact h
  | succ i => exact t.at_ i x e (by simpa using e1) (by simpa using e2)⟩
theorem Dats.uncons {d : D} {ds : List D} (h : Dats C H A xs (d :: ds)) : ∃ x r, xs = x :: r ∧ Dat C H A x d ∧ Dats C H A r ds := by
  cases xs with
  | nil => exact absurd h.len (by simp)
  | cons x r => exact ⟨x, r, rfl, h.at_ 0 x d rfl rfl, by simpa using h.len, fun i y e e1 e2 => h.at_ (i + 1) y e (by simpa using e1) (by simpa using e2)⟩
theorem Dats.unnil (h : Dats C H A xs []) : xs = [] := List.length_eq_zero_iff.mp h.len
theorem Dats.append {ys : List V} {es : List D} (h : Dats C H A xs ds) (t : Dats C H A ys es) : Dats C H A (xs ++ ys) (ds ++ es) := by
  induction ds generalizing xs with
  | nil => rw [h.unnil]; exact t
  | cons d ds ih =>
    obtain ⟨x, r, rfl, h1, h2⟩ := h.uncons
    exact (ih h2).cons h1
theorem Dats.get {i : Nat} {d : D} (h : Dats C H A xs ds) (e : ds[i]? = some d) : ∃ x, xs[i]? = some x ∧ Dat C H A x d := by
  have hl : i < ds.length := (List.getElem?_eq_some_iff.mp e).1
  have hx : i < xs.length := by rw [h.len]; exact hl
  exact ⟨xs[i], List.getElem?_eq_getElem hx, h.at_ i _ d (List.getElem?_eq_getElem hx) e⟩
theorem Dat.tup_mk {a : Addr} (n : ¬ A a) (r : H a = some (.tup xs)) (h : Dats C H A xs ds) : Dat C H A (.ref a) (.tup ds) := .tup n r h.len h.at_
theorem Dat.lst_mk {a : Addr} (n : ¬ A a) (r : H a = some (.lst xs)) (h : Dats C H A xs ds) : Dat C H A (.ref a) (.lst ds) := .lst n r h.len h.at_
theorem Dat.of_tup (h : Dat C H A v (.tup ds)) : ∃ a xs, v = .ref a ∧ ¬ A a ∧ H a = some (.tup xs) ∧ Dats C H A xs ds := by
  cases h with
  | tup n r l i => exact ⟨_, _, rfl, n, r, l, i⟩
theorem Dat.of_lst (h : Dat C H A v (.lst ds)) : ∃ a xs, v = .ref a ∧ ¬ A a ∧ H a = some (.lst xs) ∧ Dats C H A xs ds := by
  cases h with
  | lst n r l i => exact ⟨_, _, rfl, n, r, l, i⟩
end

/-- a slot: data, or a list that this frame alone knows -/
inductive Sl where
  | val (d : D)
  | own (ds : List D)
abbrev En := List (Option Sl)

/-- the outcome of an expression: a value, an own error by its name, or nothing that is told -/
inductive R (S α : Type) where
  | ok (a : α) (s : S)
  | ex (c : Str) (s : S)
  | bad
def R.bind {S α β : Type} (r : R S α) (f : α → S → R S β) : R S β :=
  match r with
  | .ok a s => f a s
  | .ex c s => .ex c s
  | .bad => .bad
def R.map {S α β : Type} (r : R S α) (f : α → β) : R S β :=
  match r with
  | .ok a s => .ok (f a) s
  | .ex c s => .ex c s
  | .bad => .bad
@[simp] theorem R.bind_ok {S α β : Type} {a : α} {s : S} {f : α → S → R S β} : (R.ok a s).bind f = f a s := rfl
@[simp] theorem R.bind_ex {S α β : Type} {c : Str} {s : S} {f : α → S → R S β} : (R.ex c s : R S α).bind f = .ex c s := rfl
@[simp] theorem R.bind_bad {S α β : Type} {f : α → S → R S β} : (R.bad : R S α).bind f = .bad := rfl
@[simp] theorem R.map_ok {S α β : Type} {a : α} {s : S} {f : α → β} : (R.ok a s).map f = .ok (f a) s := rfl
abbrev E1 (S α : Type) := En → S → R S α
abbrev DE (S : Type) := E1 S D
abbrev DT (S : Type) := E1 S Bool
abbrev DA (S : Type) := E1 S (List D)

inductive Out (S : Type) where
  | nx (ρ : En) (s : S)
  | rt (d : D) (s : S)
  | bk (ρ : En) (s : S)
  | ct (ρ : En) (s : S)
  | ex (c : Str) (ρ : En) (s : S)
  | bad
abbrev DS (S : Type) := En → S → Out S

section
variable {S : Type}
def SlAt (C : Deck S) (A0 : Addr → Prop) (H0 : Hp) (A : Addr → Prop) (H : Hp) (v : V) : Sl → Prop
  | .val d => Dat C H A v d
  | .own ds => ∃ a xs, v = .ref a ∧ A a ∧ H0 a = none ∧ ¬ A0 a ∧ H a = some (.lst xs) ∧ Dats C H A xs ds

/-- the state: slots, heap, deck -/
structure SAt (C : Deck S) (A0 : Addr → Prop) (H0 : Hp) (A : Addr → Prop) (H : Hp) (σ : St) (ρ : En) (st : S) : Prop where
  len : σ.length = ρ.length
  sl : ∀ (i : Nat) x, ρ[i]? = some (some x) → ∃ v, σ[i]? = some (some v) ∧ SlAt C A0 H0 A H v x
  apart : ∀ (i j : Nat) ds es, i ≠ j → ρ[i]? = some (some (.own ds)) → ρ[j]? = some (some (.own es)) → σ[i]? ≠ σ[j]?
  fresh : ∀ a, A a → H a ≠ none
  sub : ∀ a, A0 a → A a
  lim : ∀ a, A a → A0 a ∨ H0 a = none
  dom : ∀ a, C.dom a → A0 a
  keep : Keep C.dom H0 H
  at_ : C.At st H
variable {C : Deck S} {A0 A A' : Addr → Prop} {H0 H H' : Hp} {σ : St} {ρ : En} {st st' : S}
theorem SAt.domA (I : SAt C A0 H0 A H σ ρ st) : ∀ a, C.dom a → A a := fun a h => I.sub a (I.dom a h)
/-- own slots stand outside of dom -/
theorem SAt.next (I : SAt C A0 H0 A H σ ρ st) (k : Keep C.dom H H') (h : C.At st' H') : SAt C A0 H0 A H' σ ρ st' where
  len := I.len
  sl := fun i x e => by
    obtain ⟨v, e1, q⟩ := I.sl i x e
    refine ⟨v, e1, ?_⟩
    cases x with
    | val d => exact Dat.keep q k I.domA
    | own ds =>
      obtain ⟨a, xs, rfl, h1, h2, h3, h4, h5⟩ := q
      exact ⟨a, xs, rfl, h1, h2, h3, k a _ (fun z => h3 (I.dom a z)) h4, h5.keep k I.domA⟩
  apart := I.apart
  fresh := fun a ha => by
    by_cases z : C.dom a
    · exact C.there _ _ a h z
    · cases e : H a with
      | none => exact absurd e (I.fresh a ha)
      | some o => rw [k a o z e]; exact fun z => nomatch z
  sub := I.sub
  lim := I.lim
  dom := I.dom
  keep := I.keep.trans k
  at_ := h

/-- a slot is given data -/
theorem SAt.set {v : V} {d : D} {i : Nat} (I : SAt C A0 H0 A H σ ρ st) (h : Dat C H A v d) : SAt C A0 H0 A H (σ.set i (some v)) (ρ.set i (some (.val d))) st where
  len := by rw [List.length_set, List.length_set]; exact I.len
  sl := fun j x e => by
    by_cases hj : j = i
    · subst hj
      have hl : j < ρ.length := by have := (List.getElem?_eq_some_iff.mp e).1; rwa [List.length_set] at this
      rw [List.getElem?_set_self hl] at e
      cases e
      exact ⟨v, by rw [List.getElem?_set_self (by rw [I.len]; exact hl)], h⟩
    · rw [List.getElem?_set_ne (Ne.symm hj)] at e
      obtain ⟨w, e1, q⟩ := I.sl j x e
      exact ⟨w, by rw [List.getElem?_set_ne (Ne.symm hj)]; exact e1, q⟩
  apart := fun j k ds es n e1 e2 => by
    have ne : ∀ {j ds}, (ρ.set i (some (.val d)))[j]? = some (some (.own ds)) → j ≠ i ∧ ρ[j]? = some (some (.own ds)) := fun {j ds} e => by
      by_cases hj : j = i
      · subst hj
        have hl : j < ρ.length := by have := (List.getElem?_eq_some_iff.mp e).1; rwa [List.length_set] at this
        rw [List.getElem?_set_self hl] at e
        cases e
      · exact ⟨hj, by rwa [List.getElem?_set_ne (Ne.symm hj)] at e⟩
    obtain ⟨n1, q1⟩ := ne e1
    obtain ⟨n2, q2⟩ := ne e2
    rw [List.getElem?_set_ne (Ne.symm n1), List.getElem?_set_ne (Ne.symm n2)]
    exact I.apart j k ds es n q1 q2
  fresh := I.fresh
  sub := I.sub
  lim := I.lim
  dom := I.dom
  keep := I.keep
  at_ := I.at_
/-- the addresses that stay forbidden when the own slots in sc are given away -/
def Amin (A : Addr → Prop) (σ : St) (ρ : En) (sc : List Nat) : Addr → Prop := fun a => A a ∧ ∀ i ∈ sc, ∀ ds, ρ[i]? = some (some (.own ds)) → σ[i]? ≠ some (some (.ref a))
theorem Amin.sub {sc : List Nat} {a : Addr} (h : Amin A σ ρ sc a) : A a := h.1
theorem Amin.nil : Amin A σ ρ [] = A := by
  funext a
  exact propext ⟨fun h => h.1, fun h => ⟨h, fun _ z => nomatch z⟩⟩
theorem Amin.more {sc sc' : List Nat} {a : Addr} (hs : ∀ i ∈ sc, i ∈ sc') (h : Amin A σ ρ sc' a) : Amin A σ ρ sc a := ⟨h.1, fun i hi => h.2 i (hs i hi)⟩
theorem SAt.own_ne (I : SAt C A0 H0 A H σ ρ st) {i : Nat} {ds : List D} {a : Addr} (e : ρ[i]? = some (some (.own ds))) (ha : A0 a) : σ[i]? ≠ some (some (.ref a)) := fun z => by
  obtain ⟨v, e1, a', xs, rfl, h1, h2, h3, h4, h5⟩ := I.sl i _ e
  rw [e1] at z
  cases z
  exact h3 ha
theorem SAt.sub0 (I : SAt C A0 H0 A H σ ρ st) (sc : List Nat) : ∀ a, A0 a → Amin A σ ρ sc a := fun a h => ⟨I.sub a h, fun _ _ _ e => I.own_ne e h⟩
theorem SAt.dom0 (I : SAt C A0 H0 A H σ ρ st) (sc : List Nat) : ∀ a, C.dom a → Amin A σ ρ sc a := fun a h => I.sub0 sc a (I.dom a h)
/-- the own slots in sc become data -/
def frz (sc : List Nat) (ρ : En) : En := ρ.mapIdx fun i x => match x with
  | some (.own ds) => if i ∈ sc then some (.val (.lst ds)) else x
  | _ => x
theorem frz_get {sc : List Nat} {ρ : En} {i : Nat} : (frz sc ρ)[i]? = (ρ[i]?).map fun x => match x with
    | some (.own ds) => if i ∈ sc then some (.val (.lst ds)) else x
    | _ => x := by
  unfold frz
  rw [List.getElem?_mapIdx]
@[simp] theorem frz_nil (ρ : En) : frz [] ρ = ρ := by
  refine List.ext_getElem? fun i => ?_
  rw [frz_get]
  cases ρ[i]? with
  | none => rfl
  | some x => cases x with
    | none => rfl
    | some y => cases y <;> simp
theorem SAt.freeze (I : SAt C A0 H0 A H σ ρ st) (sc : List Nat) : SAt C A0 H0 (Amin A σ ρ sc) H σ (frz sc ρ) st where
  len := by unfold frz; rw [List.length_mapIdx]; exact I.len
  sl := fun i x e => by
    rw [frz_get] at e
    cases q : ρ[i]? with
    | none => rw [q] at e; cases e
    | some y =>
      rw [q] at e
      cases y with
      | none => simp at e
      | some y =>
        obtain ⟨v, e1, s⟩ := I.sl i y q
        refine ⟨v, e1, ?_⟩
        cases y with
        | val d =>
          simp at e
          subst e
          exact Dat.less s fun _ => Amin.sub
        | own ds =>
          obtain ⟨a, xs, rfl, h1, h2, h3, h4, h5⟩ := s
          by_cases hi : i ∈ sc
          · simp [hi] at e
            subst e
            exact Dat.lst_mk (fun z => z.2 i hi ds q e1) h4 (h5.less fun _ => Amin.sub)
          · simp [hi] at e
            subst e
            refine ⟨a, xs, rfl, ⟨h1, fun j hj es ej => ?_⟩, h2, h3, h4, h5.less fun _ => Amin.sub⟩
            have := I.apart j i es ds (fun z => hi (z ▸ hj)) ej q
            rw [e1] at this
            exact this
  apart := fun i j ds es n e1 e2 => by
    have ow : ∀ {i : Nat} {ds : List D}, (frz sc ρ)[i]? = some (some (Sl.own ds)) → ρ[i]? = some (some (Sl.own ds)) := fun {i ds} e => by
      rw [frz_get] at e
      cases q : ρ[i]? with
      | none => rw [q] at e; cases e
      | some y =>
        rw [q] at e
        cases y with
        | none => simp at e
        | some y => cases y with
          | val d => simp at e
          | own ds' =>
            by_cases hi : i ∈ sc
            · simp [hi] at e
            · simpa [hi] using e
    exact I.apart i j ds es n (ow e1) (ow e2)
  fresh := fun a h => I.fresh a h.1
  sub := I.sub0 sc
  lim := fun a h => I.lim a h.1
  dom := I.dom
  keep := I.keep
  at_ := I.at_

/-! ### goals -/
/-- what is wanted of an outcome: ok by P, an own error by the wish W -/
def RG (C : Deck S) (mg : Str → Option Value) (W : WX) (σ : St) (H : Hp) {α : Type} (r : R S α) (P : α → S → Hp → Prop) : Prop :=
  match r with
  | .ok a s => ∀ H', Keep C.dom H H' → C.At s H' → P a s H'
  | .ex c s => ∀ a H', mg c = some (.ref a) → Keep C.dom H H' → C.At s H' → W (.ref a) none σ H'
  | .bad => False
section
variable {mg : Str → Option Value} {W : WX} {α β : Type} {r : R S α} {P P' : α → S → Hp → Prop}
theorem RG.move (h : RG C mg W σ H r P) (k : Keep C.dom H H') : RG C mg W σ H' r P := by
  cases r with
  | ok a s => exact fun H'' k' t => h H'' (k.trans k') t
  | ex c s => exact fun a H'' m k' t => h a H'' m (k.trans k') t
  | bad => exact h
theorem RG.imp (h : RG C mg W σ H r P) (f : ∀ a s H', Keep C.dom H H' → C.At s H' → P a s H' → P' a s H') : RG C mg W σ H r P' := by
  cases r with
  | ok a s => exact fun H' k t => f a s H' k t (h H' k t)
  | ex c s => exact h
  | bad => exact h
theorem RG.bind {g : α → S → R S β} {P : β → S → Hp → Prop} (h : RG C mg W σ H (r.bind g) P) : RG C mg W σ H r fun a s H' => RG C mg W σ H' (g a s) P := by
  cases r with
  | ok a s => exact fun H' k _ => RG.move (r := g a s) h k
  | ex c s => exact h
  | bad => exact h
end
/-- the reading of an expression by what it does -/
def cte (C : Deck S) (mg : Str → Option Value) (W : WX) (sc : List Nat) (de : DE S) : TE := fun σ H Q => ∃ A0 H0 A ρ st, SAt C A0 H0 A H σ ρ st ∧
  RG C mg W σ H (de ρ st) fun d _ H' => ∀ v, Dat C H' (Amin A σ ρ sc) v d → Q v H'
def ctt (C : Deck S) (mg : Str → Option Value) (W : WX) (dt : DT S) : TT := fun σ H Q => ∃ A0 H0 A ρ st, SAt C A0 H0 A H σ ρ st ∧ RG C mg W σ H (dt ρ st) fun b _ H' => Q b H'
def cta (C : Deck S) (mg : Str → Option Value) (W : WX) (sc : List Nat) (da : DA S) : TA := fun σ H Q => ∃ A0 H0 A ρ st, SAt C A0 H0 A H σ ρ st ∧
  RG C mg W σ H (da ρ st) fun ds _ H' => ∀ vs, Dats C H' (Amin A σ ρ sc) vs ds → Q vs H'
/-- a fresh list -/
def ctf (C : Deck S) (mg : Str → Option Value) (W : WX) (sc : List Nat) (da : DA S) : TE := fun σ H Q => ∃ A0 H0 A ρ st, SAt C A0 H0 A H σ ρ st ∧
  RG C mg W σ H (da ρ st) fun ds _ H1 => ∀ p xs, H1 p = none → Dats C H1 (Amin A σ ρ sc) xs ds → xs.length ≤ sizeLine → Q (.ref p) (upd H1 p (.lst xs))
def SG (C : Deck S) (mg : Str → Option Value) (W : WX) (A0 : Addr → Prop) (H0 : Hp) (o : Out S) (D : Ends) : Prop :=
  match o with
  | .nx ρ s => ∀ A H σ, SAt C A0 H0 A H σ ρ s → D.nx σ H
  | .rt d s => ∀ H v, Keep C.dom H0 H → C.At s H → Dat C H A0 v d → D.rt v H
  | .bk ρ s => ∀ A H σ, SAt C A0 H0 A H σ ρ s → D.bk σ H
  | .ct ρ s => ∀ A H σ, SAt C A0 H0 A H σ ρ s → D.ct σ H
  | .ex c ρ s => ∀ a A H σ, mg c = some (.ref a) → SAt C A0 H0 A H σ ρ s → W (.ref a) none σ H
  | .bad => False
def cts (C : Deck S) (mg : Str → Option Value) (W : WX) (ds : DS S) : TS := fun D σ H => ∃ A0 H0 A ρ st, SAt C A0 H0 A H σ ρ st ∧ SG C mg W A0 H0 (ds ρ st) D

variable {X : Cx} {W : WX}
theorem pe_imp {e : Expr} {t t' : TE} (h : PE X e t) (i : ∀ σ H Q, t' σ H Q → t σ H Q) : PE X e t' := ⟨fun pins s σ H Q I q => h.run pins s σ H Q I (i σ H Q q)⟩
theorem pt_imp {e : Expr} {t t' : TT} (h : PT X e t) (i : ∀ σ H Q, t' σ H Q → t σ H Q) : PT X e t' := ⟨fun pins s σ H Q I q => h.run pins s σ H Q I (i σ H Q q)⟩
theorem pw_imp {e : Expr} {t t' : TT} (h : PW X e t) (i : ∀ σ H Q, t' σ H Q → t σ H Q) : PW X e t' := ⟨fun wh pins s σ H Q I q => h.run wh pins s σ H Q I (i σ H Q q)⟩
theorem pa_imp {es : List Expr} {t t' : TA} (h : PA X es t) (i : ∀ σ H Q, t' σ H Q → t σ H Q) : PA X es t' := ⟨fun pos pins s σ H Q I q => h.run pos pins s σ H Q I (i σ H Q q)⟩
theorem ps_imp {st : Stmt} {t t' : TS} (h : PS X st t) (i : ∀ D σ H, t' D σ H → t D σ H) : PS X st t' := ⟨fun pins s σ H D I q => h.run pins s σ H D I (i D σ H q)⟩
theorem pss_imp {st : List Stmt} {t t' : TS} (h : PSs X st t) (i : ∀ D σ H, t' D σ H → t D σ H) : PSs X st t' := ⟨fun pins s σ H D I q => h.run pins s σ H D I (i D σ H q)⟩

/-- an expression does de; sc: the own slots that its value may go through -/
def PD (X : Cx) (C : Deck S) (W : WX) (e : Expr) (sc : List Nat) (de : DE S) : Prop := PE X e (cte C X.mg W sc de)
def PTd (X : Cx) (C : Deck S) (W : WX) (e : Expr) (dt : DT S) : Prop := PT X e (ctt C X.mg W dt)
def PWd (X : Cx) (C : Deck S) (W : WX) (e : Expr) (dt : DT S) : Prop := PW X e (ctt C X.mg W dt)
def PAd (X : Cx) (C : Deck S) (W : WX) (es : List Expr) (sc : List Nat) (da : DA S) : Prop := PA X es (cta C X.mg W sc da)
def PF (X : Cx) (C : Deck S) (W : WX) (e : Expr) (sc : List Nat) (da : DA S) : Prop := PE X e (ctf C X.mg W sc da)
def PSd (X : Cx) (C : Deck S) (W : WX) (s : Stmt) (ds : DS S) : Prop := PS X s (cts C X.mg W ds)
def PBd (X : Cx) (C : Deck S) (W : WX) (b : List Stmt) (ds : DS S) : Prop := PSs X b (cts C X.mg W ds)

/-! ### names, constants -/
variable {e a b : Expr} {es : List Expr} {pos : Pos} {sc sc' sa sb : List Nat} {de da db : DE S} {dt dt' : DT S} {dl : DA S}
theorem RG.done {α : Type} {x : α} {mg : Str → Option Value} {P : α → S → Hp → Prop} (h : RG C mg W σ H (.ok x st) P) (t : C.At st H) : P x st H := h H Keep.refl t
def dC (d : D) : DE S := fun _ s => .ok d s
def dVar (i : Nat) : DE S := fun ρ s => match ρ[i]? with
  | some (some (.val d)) => .ok d s
  | _ => .bad
def dOwn (i : Nat) : DE S := fun ρ s => match ρ[i]? with
  | some (some (.own ds)) => .ok (.lst ds) s
  | some (some (.val d)) => .ok d s
  | _ => .bad
theorem pd_of (h : PE X e t) (i : ∀ (A0 : Addr → Prop) (H0 : Hp) (A : Addr → Prop) (ρ : En) (st : S) (σ : St) (H : Hp) (Q : VK), SAt C A0 H0 A H σ ρ st →
    RG C X.mg W σ H (de ρ st) (fun d _ H' => ∀ v, Dat C H' (Amin A σ ρ sc) v d → Q v H') → t σ H Q) : PD X C W e sc de :=
  pe_imp h fun σ H Q ⟨A0, H0, A, ρ, st, I, g⟩ => i A0 H0 A ρ st σ H Q I g
theorem pd_int {i : Int} {j} : PD X C W (.Constant (.int i) j pos) [] (dC (.int i)) := pd_of pe_int fun _ _ _ _ _ _ _ _ I g => g.done I.at_ _ (.int i)
theorem pd_bl {k : Bool} {j} : PD X C W (.Constant (.bool k) j pos) [] (dC (.bl k)) := pd_of pe_bl fun _ _ _ _ _ _ _ _ I g => g.done I.at_ _ (.bl k)
theorem pd_non {j} : PD X C W (.Constant .none j pos) [] (dC .non) := pd_of pe_non fun _ _ _ _ _ _ _ _ I g => g.done I.at_ _ .non
theorem pd_str {x : Str} {j} (l : List Nat) (hx : x = mkS l) (hl : SOk l) : PD X C W (.Constant (.str x) j pos) [] (dC (.str l)) := by
  subst hx
  exact pd_of pe_str fun _ _ _ _ _ _ _ _ I g => g.done I.at_ _ (.str hl)
theorem pd_var (i : Nat) {x : Str} (hN : X.N[i]? = some x := by rfl) (hv : Vis X.env.scope x := by first | exact Or.inl rfl | exact Or.inr (Or.inl rfl) | exact Or.inr (Or.inr rfl)) (hd : (x == ("__debug__" : Str)) = false := by decide)
    (hcd : (x == ("__classdict__" : Str)) = false := by decide) : PD X C W (.Name x pos) [] (dVar i) :=
  pd_of (pe_var hN hv hd hcd) fun A0 H0 A ρ st σ H Q I g => by
    unfold dVar at g
    split at g
    · rename_i d q
      obtain ⟨v, e1, h⟩ := I.sl i _ q
      exact ⟨v, e1, g.done I.at_ v (by rw [Amin.nil]; exact h)⟩
    · exact g.elim
theorem pd_own (i : Nat) {x : Str} (hN : X.N[i]? = some x := by rfl) (hv : Vis X.env.scope x := by first | exact Or.inl rfl | exact Or.inr (Or.inl rfl) | exact Or.inr (Or.inr rfl)) (hd : (x == ("__debug__" : Str)) = false := by decide)
    (hcd : (x == ("__classdict__" : Str)) = false := by decide) : PD X C W (.Name x pos) [i] (dOwn i) :=
  pd_of (pe_var hN hv hd hcd) fun A0 H0 A ρ st σ H Q I g => by
    unfold dOwn at g
    split at g
    · rename_i ds q
      obtain ⟨v, e1, a, xs, rfl, h1, h2, h3, h4, h5⟩ := I.sl i _ q
      exact ⟨_, e1, g.done I.at_ _ (Dat.lst_mk (fun z => z.2 i (by simp) ds q e1) h4 (h5.less fun _ => Amin.sub))⟩
    · rename_i d q
      obtain ⟨v, e1, h⟩ := I.sl i _ q
      exact ⟨v, e1, g.done I.at_ v (Dat.less h fun _ => Amin.sub)⟩
    · exact g.elim
/-- a module's name that holds a plain value -/
theorem pd_glob {x : Str} {d : D} {v : V} {u : Value} (hm : X.mg x = some u) (r : RelV v u) (hd : ∀ (H : Hp) (A : Addr → Prop), Dat C H A v d) (hg : Gl X x := by rfl) (hdb : (x == ("__debug__" : Str)) = false := by decide) : PD X C W (.Name x pos) [] (dC d) :=
  pd_of (pe_glob hg hm r hdb) fun _ _ _ _ _ _ _ _ I g => g.done I.at_ _ (hd _ _)
/-- more slots may be named -/
theorem pd_more (h : PD X C W e sc de) (hs : ∀ i ∈ sc, i ∈ sc') : PD X C W e sc' de :=
  pd_of h fun A0 H0 A ρ st σ H Q I g => ⟨A0, H0, A, ρ, st, I, g.imp fun d s H' _ _ q v dv => q v (dv.less fun _ => Amin.more hs)⟩

/-! ### argument lists, displays -/
def dNil : DA S := fun _ s => .ok [] s
def dCons (de : DE S) (dl : DA S) : DA S := fun ρ s => (de ρ s).bind fun d s1 => (dl ρ s1).bind fun ds s2 => .ok (d :: ds) s2
theorem pad_nil : PAd X C W [] [] (dNil : DA S) := pa_imp pa_nil fun σ H Q ⟨A0, H0, A, ρ, st, I, g⟩ => g.done I.at_ [] Dats.nil
theorem pad_cons (h : PD X C W e sa de) (t : PAd X C W es sb dl) (hs : starEach (e :: es) X.env = (false, eval e X.env) :: starEach es X.env := by rfl) : PAd X C W (e :: es) (sa ++ sb) (dCons de dl) :=
  pa_imp (pa_cons h t hs) fun σ H Q ⟨A0, H0, A, ρ, st, I, g⟩ =>
    ⟨A0, H0, A, ρ, st, I, g.bind.imp fun d s1 H1 k1 t1 g1 v dv => by
      have I1 := I.next k1 t1
      refine ⟨A0, H0, A, ρ, s1, I1, g1.bind.imp fun ds s2 H2 k2 t2 g2 vs dvs => ?_⟩
      exact g2.done t2 (v :: vs) (.cons ((dv.keep k2 (I1.dom0 sa)).less fun _ => Amin.more fun i hi => List.mem_append_left _ hi) (dvs.less fun _ => Amin.more fun i hi => List.mem_append_right _ hi))⟩
def dTup (dl : DA S) : DE S := fun ρ s => (dl ρ s).bind fun ds s1 => if ds.length ≤ 65536 then .ok (.tup ds) s1 else .bad
theorem small_line {n : Nat} (h : n ≤ 65536) : n ≤ sizeLine := by rw [sizeLine_eq]; omega
theorem pd_tup {x1} (h : PAd X C W es sc dl) : PD X C W (.Tuple es x1 pos) sc (dTup dl) :=
  pd_of (pe_tup h) fun A0 H0 A ρ st σ H Q I g => ⟨A0, H0, A, ρ, st, I, g.bind.imp fun ds s1 H1 k1 t1 g1 vs dvs => by
    by_cases hl : ds.length ≤ 65536
    · rw [if_pos hl] at g1
      have I1 := I.next k1 t1
      refine ⟨by rw [dvs.len]; exact small_line hl, fun p hp => ?_⟩
      have kp : Keep C.dom H1 (upd H1 p (.tup vs)) := Keep.upd hp
      refine g1 _ kp (C.stab _ _ _ t1 fun a ha => upd_ne fun z => ?_) (.ref p) (Dat.tup_mk (fun z => I1.fresh p z.1 hp) upd_same (dvs.keep kp (I1.dom0 sc)))
      subst z
      exact C.there _ _ _ t1 ha hp
    · rw [if_neg hl] at g1; exact g1.elim⟩
def dLst (dl : DA S) : DA S := fun ρ s => (dl ρ s).bind fun ds s1 => if ds.length ≤ 65536 then .ok ds s1 else .bad
theorem pf_of (h : PE X e t) (i : ∀ (A0 : Addr → Prop) (H0 : Hp) (A : Addr → Prop) (ρ : En) (st : S) (σ : St) (H : Hp) (Q : VK), SAt C A0 H0 A H σ ρ st →
    RG C X.mg W σ H (dl ρ st) (fun ds _ H1 => ∀ p xs, H1 p = none → Dats C H1 (Amin A σ ρ sc) xs ds → xs.length ≤ sizeLine → Q (.ref p) (upd H1 p (.lst xs))) → t σ H Q) : PF X C W e sc dl :=
  pe_imp h fun σ H Q ⟨A0, H0, A, ρ, st, I, g⟩ => i A0 H0 A ρ st σ H Q I g
theorem pf_lst (h : PAd X C W es sc dl) : PF X C W (.List es pos) sc (dLst dl) :=
  pf_of (pe_lst h) fun A0 H0 A ρ st σ H Q I g => ⟨A0, H0, A, ρ, st, I, g.bind.imp fun ds s1 H1 k1 t1 g1 vs dvs => by
    by_cases hl : ds.length ≤ 65536
    · rw [if_pos hl] at g1
      have hz : vs.length ≤ sizeLine := by rw [dvs.len]; exact small_line hl
      exact ⟨hz, fun p hp => g1.done t1 p vs hp dvs hz⟩
    · rw [if_neg hl] at g1; exact g1.elim⟩
/-- a fresh list as a value -/
def dF (dl : DA S) : DE S := fun ρ s => (dl ρ s).map .lst
theorem RG.map {α β : Type} {r : R S α} {f : α → β} {mg : Str → Option Value} {P : β → S → Hp → Prop} (h : RG C mg W σ H (r.map f) P) : RG C mg W σ H r fun a s H' => P (f a) s H' := by
  cases r with
  | ok a s => exact h
  | ex c s => exact h
  | bad => exact h
theorem RG.keepOk {α : Type} {r : R S α} {mg : Str → Option Value} {P : α → S → Hp → Prop} (h : RG C mg W σ H r P) : RG C mg W σ H r fun a s H' => ∀ H'', Keep C.dom H' H'' → C.At s H'' → P a s H'' := by
  cases r with
  | ok a s => exact fun H' k _ H'' k' t => h H'' (k.trans k') t
  | ex c s => exact h
  | bad => exact h
theorem at_upd {s : S} {p : Addr} {o : HO} (t : C.At s H) (hp : H p = none) : C.At s (upd H p o) := C.stab _ _ _ t fun a ha => upd_ne fun z => by
  subst z
  exact C.there _ _ _ t ha hp
theorem pd_f (h : PF X C W e sc dl) : PD X C W e sc (dF dl) :=
  pd_of h fun A0 H0 A ρ st σ H Q I g => ⟨A0, H0, A, ρ, st, I, g.map.keepOk.imp fun ds s1 H1 k1 t1 g1 p xs hp dxs hz => by
    have I1 := I.next k1 t1
    have kp : Keep C.dom H1 (upd H1 p (.lst xs)) := Keep.upd hp
    exact g1 _ kp (at_upd t1 hp) (.ref p) (Dat.lst_mk (fun z => I1.fresh p z.1 hp) upd_same (dxs.keep kp (I1.dom0 sc)))⟩
end
end Mir

set_option Elab.async false
set_option linter.all false
set_option maxRecDepth 100000
set_option maxHeartbeats 2000000
namespace Mir
open PySem PySem.Spec L2
open PyProof.Rows hiding St

/-! ### equality of data -/
mutual
def eqD : D → D → Bool
  | .non, .non => true
  | .bl a, .bl b => a == b
  | .bl a, .int j => (if a then 1 else 0) == j
  | .int i, .bl b => i == (if b then 1 else 0)
  | .int i, .int j => i == j
  | .str x, .str y => x == y
  | .tup xs, .tup ys => eqDs xs ys
  | .lst xs, .lst ys => eqDs xs ys
  | _, _ => false
def eqDs : List D → List D → Bool
  | [], [] => true
  | x :: xs, y :: ys => eqD x y && eqDs xs ys
  | _, _ => false
end
mutual
def toPy : D → PyData
  | .non => .none
  | .bl b => .bool b
  | .int i => .int i
  | .str l => .str (mkS l)
  | .tup ds => .tuple (toPys ds)
  | .lst ds => .list (toPys ds)
  | .dic _ _ => .dict []
  | .deck => .dict []
  | .ext _ => .dict []
def toPys : List D → List PyData
  | [] => []
  | d :: ds => toPy d :: toPys ds
end
/-- data, at most n deep -/
def fit : Nat → D → Bool
  | _, .non => true
  | _, .bl _ => true
  | _, .int _ => true
  | _, .str _ => true
  | n + 1, .tup ds => ds.all (fit n)
  | n + 1, .lst ds => ds.all (fit n)
  | _, _ => false
theorem mkS_eq (x y : List Nat) : ((mkS x) == (mkS y)) = (x == y) := by
  rw [Bool.eq_iff_iff, beq_iff_eq, beq_iff_eq]
  constructor
  · intro h
    have := congrArg (fun s : Str => s.cps.toList) h
    simpa using this
  · intro h; rw [h]
theorem dec_mkS (x y : List Nat) : decide (mkS x = mkS y) = (x == y) := by
  rw [← mkS_eq]
  rw [Bool.eq_iff_iff]; simp
def plainD : D → Bool
  | .dic _ _ => false
  | .deck => false
  | .ext _ => false
  | _ => true
theorem fit_plain : ∀ {n : Nat} {d : D}, fit n d = true → plainD d = true
  | n, .non, _ => rfl
  | n, .bl _, _ => rfl
  | n, .int _, _ => rfl
  | n, .str _, _ => rfl
  | n, .tup _, _ => rfl
  | n, .lst _, _ => rfl
  | 0, .dic _ _, h => by simp [fit] at h
  | n + 1, .dic _ _, h => by simp [fit] at h
  | 0, .deck, h => by simp [fit] at h
  | n + 1, .deck, h => by simp [fit] at h
  | 0, .ext _, h => by simp [fit] at h
  | n + 1, .ext _, h => by simp [fit] at h
mutual
theorem eqv_py : ∀ (n m : Nat) (a b : D), fit n a = true → fit m b = true → PyData.eqv (toPy a) (toPy b) = eqD a b
  | n, m, .non, b, ha, hb => by cases b <;> first | (have := fit_plain hb; simp [plainD] at this; done) | simp [toPy, PyData.eqv, eqD]
  | n, m, .bl x, b, ha, hb => by cases b <;> first | (have := fit_plain hb; simp [plainD] at this; done) | simp [toPy, PyData.eqv, eqD]
  | n, m, .int x, b, ha, hb => by cases b <;> first | (have := fit_plain hb; simp [plainD] at this; done) | simp [toPy, PyData.eqv, eqD]
  | n, m, .str x, b, ha, hb => by cases b <;> first | (have := fit_plain hb; simp [plainD] at this; done) | simp only [toPy, PyData.eqv, eqD, mkS_eq]
  | 0, m, .tup x, b, ha, hb => by simp [fit] at ha
  | 0, m, .lst x, b, ha, hb => by simp [fit] at ha
  | n + 1, m, .tup x, b, ha, hb => by
    cases b with
    | tup y =>
      cases m with
      | zero => simp [fit] at hb
      | succ m =>
        simp only [fit] at ha hb
        simp only [toPy, PyData.eqv, eqD]
        exact eqvs_py n m x y ha hb
    | dic _ _ => have := fit_plain hb; simp [plainD] at this
    | deck => have := fit_plain hb; simp [plainD] at this
    | ext _ => have := fit_plain hb; simp [plainD] at this
    | _ => simp [toPy, PyData.eqv, eqD]
  | n + 1, m, .lst x, b, ha, hb => by
    cases b with
    | lst y =>
      cases m with
      | zero => simp [fit] at hb
      | succ m =>
        simp only [fit] at ha hb
        simp only [toPy, PyData.eqv, eqD]
        exact eqvs_py n m x y ha hb
    | dic _ _ => have := fit_plain hb; simp [plainD] at this
    | deck => have := fit_plain hb; simp [plainD] at this
    | ext _ => have := fit_plain hb; simp [plainD] at this
    | _ => simp [toPy, PyData.eqv, eqD]
  | 0, m, .dic _ _, b, ha, hb => by simp [fit] at ha
  | n + 1, m, .dic _ _, b, ha, hb => by simp [fit] at ha
  | 0, m, .deck, b, ha, hb => by simp [fit] at ha
  | n + 1, m, .deck, b, ha, hb => by simp [fit] at ha
  | 0, m, .ext _, b, ha, hb => by simp [fit] at ha
  | n + 1, m, .ext _, b, ha, hb => by simp [fit] at ha
theorem eqvs_py : ∀ (n m : Nat) (a b : List D), a.all (fit n) = true → b.all (fit m) = true → PyData.eqvAll (toPys a) (toPys b) = eqDs a b
  | n, m, [], [], _, _ => by simp [toPys, PyData.eqvAll, eqDs]
  | n, m, [], y :: ys, _, _ => by simp [toPys, PyData.eqvAll, eqDs]
  | n, m, x :: xs, [], _, _ => by simp [toPys, PyData.eqvAll, eqDs]
  | n, m, x :: xs, y :: ys, ha, hb => by
    simp only [List.all_cons, Bool.and_eq_true] at ha hb
    simp only [toPys, PyData.eqvAll, eqDs, eqv_py n m x y ha.1 hb.1, eqvs_py n m xs ys ha.2 hb.2]
end
theorem strOk_mk {l : List Nat} (h : SOk l) : PyData.strOk (mkS l) = true := by
  unfold PyData.strOk
  rw [show (mkS l).cps = l.toArray from rfl, List.all_toArray, List.all_eq_true]
  exact fun c hc => decide_eq_true (h.2 c hc)
section
variable {S : Type} {C : Deck S} {K : PySem.W.Frag} {H : Hp} {A : Addr → Prop}
mutual
theorem dp_of : ∀ (n : Nat) (d : D) (v : V), Dat C H A v d → fit n d = true → Dp K H v (toPy d) ∧ (toPy d).canLay0 = true ∧ (toPy d).depth ≤ n
  | n, .non, v, h, _ => by cases h; exact ⟨by simp only [toPy]; exact .non, by simp [toPy, PyData.canLay0], by simp [toPy, PyData.depth]⟩
  | n, .bl b, v, h, _ => by cases h; exact ⟨by simp only [toPy]; exact .bl b, by simp [toPy, PyData.canLay0], by simp [toPy, PyData.depth]⟩
  | n, .int i, v, h, _ => by cases h; exact ⟨by simp only [toPy]; exact .int i, by simp [toPy, PyData.canLay0], by simp [toPy, PyData.depth]⟩
  | n, .str l, v, h, _ => by cases h with | str s => exact ⟨by simp only [toPy]; exact .str _, by simp only [toPy, PyData.canLay0]; exact strOk_mk s, by simp [toPy, PyData.depth]⟩
  | 0, .tup ds, v, h, f => by simp [fit] at f
  | n + 1, .tup ds, v, h, f => by
    obtain ⟨a, xs, rfl, na, r, hd⟩ := h.of_tup
    simp only [fit] at f
    obtain ⟨h1, h2, h3⟩ := dps_of n ds xs hd f
    exact ⟨by simp only [toPy]; exact .tup (.of r) h1, by simpa only [toPy, PyData.canLay0] using h2, by simp only [toPy, PyData.depth]; omega⟩
  | 0, .lst ds, v, h, f => by simp [fit] at f
  | n + 1, .lst ds, v, h, f => by
    obtain ⟨a, xs, rfl, na, r, hd⟩ := h.of_lst
    simp only [fit] at f
    obtain ⟨h1, h2, h3⟩ := dps_of n ds xs hd f
    exact ⟨by simp only [toPy]; exact .lst (.of r) h1, by simpa only [toPy, PyData.canLay0] using h2, by simp only [toPy, PyData.depth]; omega⟩
  | 0, .dic _ _, _, _, f => by simp [fit] at f
  | n + 1, .dic _ _, _, _, f => by simp [fit] at f
  | 0, .deck, _, _, f => by simp [fit] at f
  | n + 1, .deck, _, _, f => by simp [fit] at f
  | 0, .ext _, _, _, f => by simp [fit] at f
  | n + 1, .ext _, _, _, f => by simp [fit] at f
theorem dps_of : ∀ (n : Nat) (ds : List D) (xs : List V), Dats C H A xs ds → ds.all (fit n) = true → DpAll K H xs (toPys ds) ∧ PyData.canLayAll0 (toPys ds) = true ∧ PyData.depthAll (toPys ds) ≤ n
  | n, [], xs, h, _ => by rw [h.unnil]; exact ⟨by simp only [toPys]; exact .nil, by simp [toPys, PyData.canLayAll0], by simp [toPys, PyData.depthAll]⟩
  | n, d :: ds, xs, h, f => by
    obtain ⟨x, r, rfl, h1, h2⟩ := h.uncons
    simp only [List.all_cons, Bool.and_eq_true] at f
    obtain ⟨p1, p2, p3⟩ := dp_of n d x h1 f.1
    obtain ⟨q1, q2, q3⟩ := dps_of n ds r h2 f.2
    exact ⟨by simp only [toPys]; exact .cons p1 q1, by simp only [toPys, PyData.canLayAll0, p2, q2, Bool.and_self], by simp only [toPys, PyData.depthAll]; omega⟩
end
theorem dp_shaped {d : D} {v : V} (h : Dat C H A v d) (f : fit 64 d = true) : Dp K H v (toPy d) ∧ SeqAt.shaped (toPy d) = true := by
  obtain ⟨h1, h2, h3⟩ := dp_of (K := K) 64 d v h f
  exact ⟨h1, by unfold SeqAt.shaped; rw [h2]; simp [h3]⟩
end

/-! ### operators -/
section
variable {S : Type} {C : Deck S} {X : Cx} {W : WX} {A0 A A' : Addr → Prop} {H0 H H' : Hp} {σ : St} {ρ : En} {st st' : S}
/-- what stands around a value's rule -/
structure VAt (C : Deck S) (A : Addr → Prop) (H : Hp) (s : S) : Prop where
  fresh : ∀ a, A a → H a ≠ none
  dom : ∀ a, C.dom a → A a
  at_ : C.At s H
theorem SAt.vat (I : SAt C A0 H0 A H σ ρ st) (sc : List Nat) : VAt C (Amin A σ ρ sc) H st := ⟨fun a h => I.fresh a h.1, I.dom0 sc, I.at_⟩
/-- a new object, as data -/
theorem VAt.new {s : S} {p : Addr} {o : HO} (I : VAt C A H s) (hp : H p = none) : Keep C.dom H (upd H p o) ∧ C.At s (upd H p o) ∧ ¬ A p :=
  ⟨Keep.upd hp, at_upd I.at_ hp, fun z => I.fresh p z hp⟩
def OpD (C : Deck S) (r : R2) (f : D → D → Option D) : Prop := ∀ (A : Addr → Prop) (s : S) (H : Hp) (x y : V) (dx dy d : D) (Q : VK), VAt C A H s → Dat C H A x dx → Dat C H A y dy → f dx dy = some d →
  (∀ H' v, Keep C.dom H H' → C.At s H' → Dat C H' A v d → Q v H') → r x y H Q
def ofO {α : Type} (s : S) : Option α → R S α
  | some a => .ok a s
  | none => .bad
@[simp] theorem ofO_some {α : Type} {s : S} {a : α} : ofO s (some a) = .ok a s := rfl
@[simp] theorem ofO_none {α : Type} {s : S} : (ofO s none : R S α) = .bad := rfl
def dBin (f : D → D → Option D) (da db : DE S) : DE S := fun ρ s => (da ρ s).bind fun x s1 => (db ρ s1).bind fun y s2 => ofO s2 (f x y)
theorem RG.ofO {α : Type} {s : S} {o : Option α} {mg : Str → Option Value} {P : α → S → Hp → Prop} (h : RG C mg W σ H (ofO s o) P) : ∃ a, o = some a ∧ ∀ H', Keep C.dom H H' → C.At s H' → P a s H' := by
  cases o with
  | none => exact h.elim
  | some a => exact ⟨a, rfl, h⟩
variable {e a b c : Expr} {es : List Expr} {pos : Pos} {sc sc' sa sb : List Nat} {de da db dc : DE S} {dt dt' : DT S} {dl : DA S} {f f' : D → D → Option D} {r r' : R2}
theorem tOp_d (I : SAt C A0 H0 A H σ ρ st) {Q : VK} (hr : OpD C r f) (g : RG C X.mg W σ H (dBin f da db ρ st) fun d _ H' => ∀ v, Dat C H' (Amin A σ ρ (sa ++ sb)) v d → Q v H') : tOp r (cte C X.mg W sa da) (cte C X.mg W sb db) σ H Q :=
  ⟨A0, H0, A, ρ, st, I, g.bind.imp fun d s1 H1 k1 t1 g1 v dv => by
    have I1 := I.next k1 t1
    refine ⟨A0, H0, A, ρ, s1, I1, g1.bind.imp fun d2 s2 H2 k2 t2 g2 v2 dv2 => ?_⟩
    obtain ⟨d3, e3, q⟩ := g2.ofO
    have I2 := I1.next k2 t2
    exact hr (Amin A σ ρ (sa ++ sb)) s2 H2 v v2 d d2 d3 Q (I2.vat _) ((dv.keep k2 (I1.dom0 sa)).less fun _ => Amin.more fun i hi => List.mem_append_left _ hi) (dv2.less fun _ => Amin.more fun i hi => List.mem_append_right _ hi) e3
      fun H' v' k t h => q H' k t v' h⟩
theorem pd_bin {op : Operator} (ho : OpR X (binaryOp op) r) (hr : OpD C r f) (ha : PD X C W a sa da) (hb : PD X C W b sb db) : PD X C W (.BinOp a op b pos) (sa ++ sb) (dBin f da db) :=
  pd_of (pe_op ho ha hb) fun A0 H0 A ρ st σ H Q I g => tOp_d I hr g
theorem OpD.or (h : OpD C r f) (h' : OpD C r' f') : OpD C (fun x y H Q => r x y H Q ∨ r' x y H Q) (fun x y => (f x y).or (f' x y)) := fun A s H x y dx dy d Q I h1 h2 e q => by
  dsimp only at e
  cases z : f dx dy with
  | some d' =>
    rw [z] at e
    cases e
    exact .inl (h A s H x y dx dy _ Q I h1 h2 z q)
  | none =>
    rw [z] at e
    exact .inr (h' A s H x y dx dy _ Q I h1 h2 e q)
/-- ints -/
def fI (g : Int → Int → Option Int) : D → D → Option D
  | .int i, .int j => (g i j).map .int
  | _, _ => none
theorem od_int {Cc : Int → Int → Prop} {g : Int → Int → Int} (k : Int → Int → Bool) (hk : ∀ i j, k i j = true → Cc i j) : OpD C (rI Cc fun i j => .int (g i j)) (fI fun i j => if k i j then some (g i j) else none) := by
  intro A s H x y dx dy d Q I h1 h2 e q
  cases h1 with
  | int i =>
    cases h2 with
    | int j =>
      simp only [fI] at e
      by_cases z : k i j = true
      · rw [if_pos z] at e
        simp only [Option.map_some, Option.some.injEq] at e
        subst e
        exact ⟨i, j, rfl, rfl, hk i j z, q H _ Keep.refl I.at_ (.int _)⟩
      · rw [if_neg z] at e; cases e
    | _ => cases e
  | _ => cases e
theorem od_int0 {g : Int → Int → Int} : OpD C (rI0 fun i j => .int (g i j)) (fI fun i j => some (g i j)) := by
  intro A s H x y dx dy d Q I h1 h2 e q
  cases h1 with
  | int i =>
    cases h2 with
    | int j =>
      simp only [fI, Option.map_some, Option.some.injEq] at e
      subst e
      exact ⟨i, j, rfl, rfl, q H _ Keep.refl I.at_ (.int _)⟩
    | _ => cases e
  | _ => cases e
theorem line_eq : sizeLine = 16777216 := sizeLine_eq
def addS : D → D → Option D
  | .str x, .str y => if x.length + y.length ≤ 1048576 then some (.str (x ++ y)) else none
  | _, _ => none
theorem SOk.app {x y : List Nat} (h : SOk x) (h' : SOk y) (l : x.length + y.length ≤ 1048576) : SOk (x ++ y) := ⟨by rw [List.length_append]; exact l, fun c hc => (List.mem_append.mp hc).elim (h.2 c) (h'.2 c)⟩
theorem mkS_app (x y : List Nat) : mkS x ++ mkS y = mkS (x ++ y) := by
  show Str.mk (x.toArray ++ y.toArray) = Str.mk (x ++ y).toArray
  congr 1
  simp
theorem mkS_len (x : List Nat) : (mkS x).length = x.length := by show x.toArray.size = _; simp
theorem od_addS : OpD C (fun x y H Q => ∃ i j, x = .str i ∧ y = .str j ∧ i.length + j.length ≤ sizeLine ∧ Q (.str (i ++ j)) H) addS := by
  intro A s H x y dx dy d Q I h1 h2 e q
  cases h1 with
  | str o1 =>
    cases h2 with
    | str o2 =>
      rename_i l1 l2
      simp only [addS] at e
      by_cases z : l1.length + l2.length ≤ 1048576
      · rw [if_pos z] at e
        cases e
        refine ⟨_, _, rfl, rfl, by rw [mkS_len, mkS_len, line_eq]; omega, ?_⟩
        rw [mkS_app]
        exact q H _ Keep.refl I.at_ (.str (o1.app o2 z))
      · rw [if_neg z] at e; cases e
    | _ => cases e
  | _ => cases e
def addT : D → D → Option D
  | .tup x, .tup y => if x.length + y.length ≤ 65536 then some (.tup (x ++ y)) else none
  | _, _ => none
theorem od_addT {K : PySem.W.Frag} : OpD C (rCatA K) addT := by
  intro A s H x y dx dy d Q I h1 h2 e q
  cases dx with
  | tup ds =>
    cases dy with
    | tup es =>
      simp only [addT] at e
      by_cases z : ds.length + es.length ≤ 65536
      · rw [if_pos z] at e
        cases e
        obtain ⟨p1, xs, rfl, n1, r1, t1⟩ := h1.of_tup
        obtain ⟨p2, ys, rfl, n2, r2, t2⟩ := h2.of_tup
        refine ⟨p1, p2, xs, ys, rfl, rfl, .of r1, .of r2, by rw [t1.len, t2.len, line_eq]; omega, fun ex => ?_, fun _ ey => ?_, fun _ _ p hp => ?_⟩
        · have e1 : ds = [] := List.length_eq_zero_iff.mp (by rw [← t1.len, ex]; rfl)
          rw [e1, List.nil_append] at q
          exact q H _ Keep.refl I.at_ h2
        · have e1 : es = [] := List.length_eq_zero_iff.mp (by rw [← t2.len, ey]; rfl)
          rw [e1, List.append_nil] at q
          exact q H _ Keep.refl I.at_ h1
        · obtain ⟨k, t, n⟩ := I.new (o := .tup (xs ++ ys)) hp
          exact q _ _ k t (Dat.tup_mk n upd_same ((t1.append t2).keep k I.dom))
      · rw [if_neg z] at e; cases e
    | _ => cases e
  | _ => cases e
def addL : D → D → Option D
  | .lst x, .lst y => if x.length + y.length ≤ 65536 then some (.lst (x ++ y)) else none
  | _, _ => none
theorem od_addL : OpD C rCat addL := by
  intro A s H x y dx dy d Q I h1 h2 e q
  cases dx with
  | lst ds =>
    cases dy with
    | lst es =>
      simp only [addL] at e
      by_cases z : ds.length + es.length ≤ 65536
      · rw [if_pos z] at e
        cases e
        obtain ⟨p1, xs, rfl, n1, r1, t1⟩ := h1.of_lst
        obtain ⟨p2, ys, rfl, n2, r2, t2⟩ := h2.of_lst
        refine ⟨p1, p2, xs, ys, rfl, rfl, r1, r2, by rw [t1.len, t2.len, line_eq]; omega, fun p hp => ?_⟩
        obtain ⟨k, t, n⟩ := I.new (o := .lst (xs ++ ys)) hp
        exact q _ _ k t (Dat.lst_mk n upd_same ((t1.append t2).keep k I.dom))
      · rw [if_neg z] at e; cases e
    | _ => cases e
  | _ => cases e
/-- a + b -/
def addD : D → D → Option D
  | .int i, .int j => some (.int (i + j))
  | .str x, .str y => if x.length + y.length ≤ 1048576 then some (.str (x ++ y)) else none
  | .tup x, .tup y => if x.length + y.length ≤ 65536 then some (.tup (x ++ y)) else none
  | .lst x, .lst y => if x.length + y.length ≤ 65536 then some (.lst (x ++ y)) else none
  | _, _ => none
def rAddD (K : PySem.W.Frag) : R2 := fun x y H Q => (rI0 fun i j => V.int (i + j)) x y H Q ∨ (∃ i j, x = .str i ∧ y = .str j ∧ i.length + j.length ≤ sizeLine ∧ Q (.str (i ++ j)) H) ∨ rCatA K x y H Q ∨ rCat x y H Q
theorem opr_add : OpR X (binaryOp .Add) (rAddD X.K) := op_add.or (op_add_str.or (op_catA.or op_cat))
theorem OpD.imp (h : OpD C r f) (i : ∀ x y d, f' x y = some d → f x y = some d) : OpD C r f' := fun A s H x y dx dy d Q I h1 h2 e q => h A s H x y dx dy d Q I h1 h2 (i _ _ _ e) q
theorem od_add0 {K : PySem.W.Frag} : OpD C (rAddD K) (fun x y => (fI (fun i j => some (i + j)) x y).or ((addS x y).or ((addT x y).or (addL x y)))) := od_int0.or (od_addS.or (od_addT.or od_addL))
theorem od_add {K : PySem.W.Frag} : OpD C (rAddD K) addD := od_add0.imp fun x y d e => by
  cases x <;> cases y <;> simp only [addD] at e <;> try cases e
  all_goals simp only [fI, addS, addT, addL, Option.map_some, Option.none_or, Option.some_or, Option.or_none]
  all_goals exact e
theorem pd_add (ha : PD X C W a sa da) (hb : PD X C W b sb db) : PD X C W (.BinOp a .Add b pos) (sa ++ sb) (dBin addD da db) := pd_bin opr_add od_add ha hb
def subD : D → D → Option D
  | .int i, .int j => some (.int (i - j))
  | _, _ => none
theorem pd_sub (ha : PD X C W a sa da) (hb : PD X C W b sb db) : PD X C W (.BinOp a .Sub b pos) (sa ++ sb) (dBin subD da db) := pd_bin op_sub (od_int0.imp fun x y d e => by cases x <;> cases y <;> first | (cases e; rfl) | cases e) ha hb

/-! ### comparisons -/
def cmpI (g : Int → Int → Bool) : D → D → Option D
  | .int i, .int j => some (.bl (g i j))
  | _, _ => none
theorem oc_int {g : Int → Int → Bool} : OpD C (rI0 fun i j => .bl (g i j)) (cmpI g) := by
  intro A s H x y dx dy d Q I h1 h2 e q
  cases h1 with
  | int i =>
    cases h2 with
    | int j => cases e; exact ⟨i, j, rfl, rfl, q H _ Keep.refl I.at_ (.bl _)⟩
    | _ => cases e
  | _ => cases e
def eqF (neg : Bool) : D → D → Option D := fun x y => if fit 64 x && fit 64 y then some (.bl (if neg then !eqD x y else eqD x y)) else none
theorem oc_eq {K : PySem.W.Frag} : OpD C (rEqD K) (eqF false) := by
  intro A s H x y dx dy d Q I h1 h2 e q
  unfold eqF at e
  by_cases z : (fit 64 dx && fit 64 dy) = true
  · rw [if_pos z] at e
    simp only [Bool.and_eq_true] at z
    cases e
    obtain ⟨p1, s1⟩ := dp_shaped (K := K) h1 z.1
    obtain ⟨p2, s2⟩ := dp_shaped (K := K) h2 z.2
    refine ⟨_, _, p1, p2, s1, s2, ?_⟩
    rw [eqv_py 64 64 dx dy z.1 z.2]
    exact q H _ Keep.refl I.at_ (.bl _)
  · rw [if_neg z] at e; cases e
theorem oc_ne {K : PySem.W.Frag} : OpD C (rNeD K) (eqF true) := by
  intro A s H x y dx dy d Q I h1 h2 e q
  unfold eqF at e
  by_cases z : (fit 64 dx && fit 64 dy) = true
  · rw [if_pos z] at e
    simp only [Bool.and_eq_true] at z
    cases e
    obtain ⟨p1, s1⟩ := dp_shaped (K := K) h1 z.1
    obtain ⟨p2, s2⟩ := dp_shaped (K := K) h2 z.2
    refine ⟨_, _, p1, p2, s1, s2, ?_⟩
    rw [eqv_py 64 64 dx dy z.1 z.2]
    exact q H _ Keep.refl I.at_ (.bl _)
  · rw [if_neg z] at e; cases e
/-- is None -/
def isN (neg : Bool) : D → D → Option D
  | x, .non => match x with
    | .non => some (.bl (!neg))
    | .ext _ => none
    | .deck => none
    | _ => some (.bl neg)
  | _, _ => none
theorem oc_isN : OpD C (fun x y H Q => y = .non ∧ Q (.bl (decide (x = .non))) H) (isN false) := by
  intro A s H x y dx dy d Q I h1 h2 e q
  cases dy <;> simp only [isN] at e <;> try cases e
  cases h2
  refine ⟨rfl, ?_⟩
  cases h1 <;> simp only [isN] at e <;> cases e <;> exact q H _ Keep.refl I.at_ (by simpa using Dat.bl _)
theorem oc_notN : OpD C (fun x y H Q => y = .non ∧ Q (.bl (!decide (x = .non))) H) (isN true) := by
  intro A s H x y dx dy d Q I h1 h2 e q
  cases dy <;> simp only [isN] at e <;> try cases e
  cases h2
  refine ⟨rfl, ?_⟩
  cases h1 <;> simp only [isN] at e <;> cases e <;> exact q H _ Keep.refl I.at_ (by simpa using Dat.bl _)
theorem pd_cmp {op : CmpOp} (ho : OpR X (compareOp op) r) (hr : OpD C r f) (ha : PD X C W a sa da) (hb : PD X C W b sb db) (hm : behindInMarks op b = false) : PD X C W (.Compare a [op] [b] pos) (sa ++ sb) (dBin f da db) :=
  pd_of (pe_cmpR ho ha hb hm) fun A0 H0 A ρ st σ H Q I g => tOp_d I hr g
/-- a value that is True or False -/
def asB : D → Option Bool
  | .bl b => some b
  | _ => none
def dB (de : DE S) : DT S := fun ρ s => (de ρ s).bind fun d s1 => ofO s1 (asB d)
theorem asB_some {d : D} {b : Bool} (h : asB d = some b) : d = .bl b := by cases d <;> simp [asB] at h; subst h; rfl
theorem ptd_of (h : PT X e t) (i : ∀ (A0 : Addr → Prop) (H0 : Hp) (A : Addr → Prop) (ρ : En) (st : S) (σ : St) (H : Hp) (Q : Bool → Hp → Prop), SAt C A0 H0 A H σ ρ st →
    RG C X.mg W σ H (dt ρ st) (fun b _ H' => Q b H') → t σ H Q) : PTd X C W e dt :=
  pt_imp h fun σ H Q ⟨A0, H0, A, ρ, st, I, g⟩ => i A0 H0 A ρ st σ H Q I g
theorem ptd_cmp {op : CmpOp} (ho : OpR X (compareOp op) r) (hr : OpD C r f) (ha : PD X C W a sa da) (hb : PD X C W b sb db) (hm : behindInMarks op b = false) : PTd X C W (.Compare a [op] [b] pos) (dB (dBin f da db)) :=
  ptd_of (pt_cmpR ho ha hb hm) fun A0 H0 A ρ st σ H Q I g => tOp_d (sa := sa) (sb := sb) I hr (g.bind.imp fun d s1 H1 k1 t1 g1 v dv => by
    obtain ⟨b, eb, q⟩ := g1.ofO
    have := asB_some eb
    subst this
    cases dv
    exact ⟨b, rfl, q H1 Keep.refl t1⟩)
end
end Mir

set_option Elab.async false
set_option linter.all false
set_option maxRecDepth 100000
set_option maxHeartbeats 2000000
namespace Mir
open PySem PySem.Spec L2
open PyProof.Rows hiding St

section
variable {S : Type} {C : Deck S} {X : Cx} {W : WX} {A0 A A' : Addr → Prop} {H0 H H' : Hp} {σ : St} {ρ : En} {st st' : S}
variable {e a b c : Expr} {es rest : List Expr} {pos p p2 : Pos} {sc sc' sa sb : List Nat} {de da db dc : DE S} {dt dt' du : DT S} {dl : DA S} {f f' : D → D → Option D} {r r' : R2}
/-! ### comparisons by their operators -/
def ltD : D → D → Option D
  | .int i, .int j => some (.bl (decide (i < j)))
  | .str x, .str y => some (.bl (decide (x < y)))
  | _, _ => none
def rLtD : R2 := fun x y H Q => (rI0 fun i j => V.bl (decide (i < j))) x y H Q ∨ ∃ i j, x = .str i ∧ y = .str j ∧ Q (.bl (decide (i.cps.toList < j.cps.toList))) H
theorem opr_lt : OpR X (compareOp .Lt) rLtD := op_lt.or op_lt_str
theorem od_lt : OpD C rLtD ltD := by
  intro A s H x y dx dy d Q I h1 h2 e q
  cases h1 <;> cases h2 <;> simp only [ltD] at e <;> first | cases e | skip
  · exact .inl ⟨_, _, rfl, rfl, q H _ Keep.refl I.at_ (.bl _)⟩
  · refine .inr ⟨_, _, rfl, rfl, ?_⟩
    exact q H _ Keep.refl I.at_ (.bl _)
def leD : D → D → Option D := cmpI fun i j => decide (i ≤ j)
def gtD : D → D → Option D := cmpI fun i j => decide (j < i)
def geD : D → D → Option D := cmpI fun i j => decide (j ≤ i)
def eqO : D → D → Option D := eqF false
def neO : D → D → Option D := eqF true
/-- an operator of comparison, with what it does -/
structure CmpOk (X : Cx) (C : Deck S) (op : CmpOp) (r : R2) (f : D → D → Option D) : Prop where
  opr : OpR X (compareOp op) r
  od : OpD C r f
theorem k_lt : CmpOk X C .Lt rLtD ltD := ⟨opr_lt, od_lt⟩
theorem k_le : CmpOk X C .LtE (rI0 fun i j => .bl (decide (i ≤ j))) leD := ⟨op_le, oc_int⟩
theorem k_gt : CmpOk X C .Gt (rI0 fun i j => .bl (decide (j < i))) gtD := ⟨op_gt, oc_int⟩
theorem k_ge : CmpOk X C .GtE (rI0 fun i j => .bl (decide (j ≤ i))) geD := ⟨op_ge, oc_int⟩
theorem k_eq (hu : X.A.units + 64 < cLine) : CmpOk X C .Eq (rEqD X.K) eqO := ⟨op_eqD hu, oc_eq⟩
theorem k_ne (hu : X.A.units + 64 < cLine) : CmpOk X C .NotEq (rNeD X.K) neO := ⟨op_neD hu, oc_ne⟩
/-- is None, is True, is False -/
def isF (neg : Bool) : D → D → Option D
  | .non, .non => some (.bl (!neg))
  | .bl _, .non => some (.bl neg)
  | .int _, .non => some (.bl neg)
  | .str _, .non => some (.bl neg)
  | .tup _, .non => some (.bl neg)
  | .lst _, .non => some (.bl neg)
  | .dic _ _, .non => some (.bl neg)
  | .non, .bl _ => some (.bl neg)
  | .bl a, .bl b => some (.bl (if neg then a != b else a == b))
  | .int _, .bl _ => some (.bl neg)
  | .str _, .bl _ => some (.bl neg)
  | .tup _, .bl _ => some (.bl neg)
  | .lst _, .bl _ => some (.bl neg)
  | _, _ => none
def rIsB (neg : Bool) : R2 := fun x y H Q => ((∃ b, y = .bl b) ∨ y = .non) ∧ Q (.bl (if neg then !decide (x = y) else decide (x = y))) H
theorem isSame_lit {M : Model} {A : Around} {E : Value → Shared → Prop} {s : Shared} {x y : V} {u v : Value} {R : Bool → Shared → Prop} (rx : RelV x u) (ry : RelV y v) (hy : (∃ b, y = .bl b) ∨ y = .non) (q : R (decide (x = y)) s) : wpAny M A (isSame u v) R E s := by
  have eq_ : ∀ {u v : Value} {k : Bool}, plainIs u v = true → (u == v) = k → k = decide (x = y) → wpAny M A (isSame u v) R E s := fun h1 h2 h3 => wpAny_isSame_plain h1 (by rw [h2, h3]; exact q)
  rcases hy with ⟨b, rfl⟩ | rfl
  · cases ry
    cases x with
    | ref a => cases rx; exact eq_ rfl rfl (by simp)
    | non => cases rx; exact eq_ rfl rfl (by simp)
    | bl b' => cases rx; cases b <;> cases b' <;> exact eq_ rfl rfl (by simp)
    | int i => obtain ⟨t, rfl⟩ := rx; exact eq_ rfl rfl (by simp)
    | str x => obtain ⟨t, rfl⟩ := rx; exact eq_ rfl rfl (by simp)
    | byt x => obtain ⟨t, rfl⟩ := rx; exact eq_ rfl rfl (by simp)
    | flt x => obtain ⟨t, rfl⟩ := rx; exact eq_ rfl rfl (by simp)
    | ty n => cases rx; exact eq_ rfl rfl (by simp)
  · cases ry
    cases x with
    | ref a => cases rx; exact eq_ rfl rfl (by simp)
    | non => cases rx; exact eq_ rfl rfl (by simp)
    | bl b' => cases rx; exact eq_ rfl rfl (by simp)
    | int i => obtain ⟨t, rfl⟩ := rx; exact eq_ rfl rfl (by simp)
    | str x => obtain ⟨t, rfl⟩ := rx; exact eq_ rfl rfl (by simp)
    | byt x => obtain ⟨t, rfl⟩ := rx; exact eq_ rfl rfl (by simp)
    | flt x => obtain ⟨t, rfl⟩ := rx; exact eq_ rfl rfl (by simp)
    | ty n => cases rx; exact eq_ rfl rfl (by simp)
theorem op_isB : OpR X (compareOp .Is) (rIsB false) := by
  intro pins s σ H x y v u Q I rx ry h
  obtain ⟨hy, q⟩ := h
  show wpAny _ _ ((isSame v u) >>= fun z => pure (Value.bool z)) _ _ s
  exact wpAny_bind (isSame_lit rx ry hy (wpAny_pure (fin_bl I q rfl)))
theorem op_notB : OpR X (compareOp .IsNot) (rIsB true) := by
  intro pins s σ H x y v u Q I rx ry h
  obtain ⟨hy, q⟩ := h
  show wpAny _ _ ((isSame v u) >>= fun z => pure (Value.bool (!z))) _ _ s
  exact wpAny_bind (isSame_lit rx ry hy (wpAny_pure (fin_bl I q rfl)))
theorem oc_is (neg : Bool) : OpD C (rIsB neg) (isF neg) := by
  intro A s H x y dx dy d Q I h1 h2 e q
  cases h2 with
  | non =>
    refine ⟨.inr rfl, ?_⟩
    cases h1 <;> simp only [isF] at e <;> first | (cases e; done) | skip
    all_goals (cases e; refine q H _ Keep.refl I.at_ ?_; cases neg <;> simpa using Dat.bl _)
  | bl k =>
    refine ⟨.inl ⟨k, rfl⟩, ?_⟩
    cases h1 <;> simp only [isF] at e <;> first | (cases e; done) | skip
    all_goals (cases e; refine q H _ Keep.refl I.at_ ?_)
    all_goals (cases neg <;> cases k <;> first | exact .bl _ | (rename_i m; cases m <;> exact .bl _))
  | _ => cases h1 <;> simp only [isF] at e <;> cases e
theorem k_is : CmpOk X C .Is (rIsB false) (isF false) := ⟨op_isB, oc_is _⟩
theorem k_isnot : CmpOk X C .IsNot (rIsB true) (isF true) := ⟨op_notB, oc_is _⟩
/-- one sign in a text; a flat thing in a list or tuple -/
def flatD : D → Bool
  | .non => true
  | .bl _ => true
  | .int _ => true
  | .str _ => true
  | _ => false
def inF (neg : Bool) : D → D → Option D
  | .str [c], .str z => some (.bl (if neg then !z.contains c else z.contains c))
  | x, .tup ys => if flatD x && ys.all flatD then some (.bl (if neg then !ys.any (fun y => eqD y x) else ys.any fun y => eqD y x)) else none
  | x, .lst ys => if flatD x && ys.all flatD then some (.bl (if neg then !ys.any (fun y => eqD y x) else ys.any fun y => eqD y x)) else none
  | _, _ => none

/-! ### a comparison as a value and as a test -/
theorem pd_c {op : CmpOp} (k : CmpOk X C op r f) (ha : PD X C W a sa da) (hb : PD X C W b sb db) (hm : behindInMarks op b = false := by exact nomark _) : PD X C W (.Compare a [op] [b] pos) (sa ++ sb) (dBin f da db) := pd_cmp k.opr k.od ha hb hm
theorem ptd_c {op : CmpOp} (k : CmpOk X C op r f) (ha : PD X C W a sa da) (hb : PD X C W b sb db) (hm : behindInMarks op b = false := by exact nomark _) : PTd X C W (.Compare a [op] [b] pos) (dB (dBin f da db)) := ptd_cmp k.opr k.od ha hb hm
/-- a op b op' c -/
def dChain (f f' : D → D → Option D) (da db dc : DE S) : DE S := fun ρ s => (da ρ s).bind fun x s1 => (db ρ s1).bind fun y s2 => (ofO s2 ((f x y).bind asB)).bind fun k s3 =>
  if k = true then (dc ρ s3).bind fun z s4 => ofO s4 (f' y z) else .ok (.bl false) s3
theorem chain_d (I : SAt C A0 H0 A H σ ρ st) {Q : VK} (hr : OpD C r f) (hr' : OpD C r' f') (g : RG C X.mg W σ H (dChain f f' da db dc ρ st) fun d _ H' => ∀ v, Dat C H' (Amin A σ ρ (sa ++ sb ++ sc)) v d → Q v H') :
    tChain r r' (cte C X.mg W sa da) (cte C X.mg W sb db) (cte C X.mg W sc dc) σ H Q :=
  ⟨A0, H0, A, ρ, st, I, g.bind.imp fun d s1 H1 k1 t1 g1 v dv => by
    have I1 := I.next k1 t1
    refine ⟨A0, H0, A, ρ, s1, I1, g1.bind.imp fun d2 s2 H2 k2 t2 g2 v2 dv2 => ?_⟩
    have I2 := I1.next k2 t2
    obtain ⟨k, ek, q⟩ := g2.bind.ofO
    obtain ⟨d3, e3, e4⟩ := Option.bind_eq_some_iff.mp ek
    have := asB_some e4
    subst this
    have m1 : ∀ i ∈ sa, i ∈ sa ++ sb ++ sc := fun i hi => List.mem_append_left _ (List.mem_append_left _ hi)
    have m2 : ∀ i ∈ sb, i ∈ sa ++ sb ++ sc := fun i hi => List.mem_append_left _ (List.mem_append_right _ hi)
    have m3 : ∀ i ∈ sc, i ∈ sa ++ sb ++ sc := fun i hi => List.mem_append_right _ hi
    have dv' : Dat C H2 (Amin A σ ρ (sa ++ sb ++ sc)) v d := (dv.keep k2 (I1.dom0 sa)).less fun _ => Amin.more m1
    have dv2' : Dat C H2 (Amin A σ ρ (sa ++ sb ++ sc)) v2 d2 := dv2.less fun _ => Amin.more m2
    refine hr (Amin A σ ρ (sa ++ sb ++ sc)) s2 H2 v v2 d d2 _ _ (I2.vat _) dv' dv2' e3 fun H3 v3 k3 t3 dv3 => ?_
    cases dv3
    refine ⟨k, rfl, ?_⟩
    have q' := (q H2 Keep.refl t2).move k3
    have I3 := I2.next k3 t3
    cases k with
    | false => exact q' H3 Keep.refl t3 _ (.bl false)
    | true =>
      refine ⟨A0, H0, A, ρ, s2, I3, q'.bind.imp fun d4 s4 H4 k4 t4 g4 v4 dv4 => ?_⟩
      have I4 := I3.next k4 t4
      obtain ⟨d5, e5, q5⟩ := g4.ofO
      exact hr' (Amin A σ ρ (sa ++ sb ++ sc)) s4 H4 v2 v4 d2 d4 d5 Q (I4.vat _) (dv2'.keep (k3.trans k4) (I2.dom0 _)) (dv4.less fun _ => Amin.more m3) e5 fun H' v' k t h => q5 H' k t v' h⟩
theorem pd_chain {op op' : CmpOp} (k : CmpOk X C op r f) (k' : CmpOk X C op' r' f') (ha : PD X C W a sa da) (hb : PD X C W b sb db) (hc : PD X C W c sc dc) (hm : lastMarks [op, op'] [b, c] = false := by with_unfolding_all rfl) :
    PD X C W (.Compare a [op, op'] [b, c] pos) (sa ++ sb ++ sc) (dChain f f' da db dc) :=
  pd_of (pe_chain k.opr k'.opr ha hb hc hm) fun A0 H0 A ρ st σ H Q I g => chain_d I k.od k'.od g
theorem ptd_chain {op op' : CmpOp} (k : CmpOk X C op r f) (k' : CmpOk X C op' r' f') (ha : PD X C W a sa da) (hb : PD X C W b sb db) (hc : PD X C W c sc dc) (hm : lastMarks [op, op'] [b, c] = false := by with_unfolding_all rfl) :
    PTd X C W (.Compare a [op, op'] [b, c] pos) (dB (dChain f f' da db dc)) :=
  ptd_of (pt_chain k.opr k'.opr ha hb hc hm) fun A0 H0 A ρ st σ H Q I g => chain_d (sa := sa) (sb := sb) (sc := sc) I k.od k'.od (g.bind.imp fun d s1 H1 k1 t1 g1 v dv => by
    obtain ⟨b, eb, q⟩ := g1.ofO
    have := asB_some eb
    subst this
    cases dv
    exact ⟨b, rfl, q H1 Keep.refl t1⟩)

/-! ### truth, and, or, not, if -/
def truD : D → Option Bool
  | .non => some false
  | .bl b => some b
  | .int i => some (i != 0)
  | .str l => some (!l.isEmpty)
  | .tup ds => some (!ds.isEmpty)
  | .lst ds => some (!ds.isEmpty)
  | _ => none
theorem tru_of {K : PySem.W.Frag} {v : V} {d : D} {k : Bool} (h : Dat C H A v d) (e : truD d = some k) : TruV K v H k := by
  have em : ∀ {xs : List V} {ds : List D}, Dats C H A xs ds → (!xs.isEmpty) = !ds.isEmpty := fun {xs ds} t => by
    have := t.len
    cases xs <;> cases ds <;> simp at this ⊢
  cases d with
  | non => cases h; cases e; exact rfl
  | bl b => cases h; cases e; exact rfl
  | int i => cases h; cases e; exact rfl
  | str l =>
    cases h with
    | str s =>
      cases e
      refine ⟨by rw [mkS_len, line_eq]; have := s.1; omega, ?_⟩
      rw [mkS_len]
      cases l <;> simp
      omega
  | tup ds =>
    obtain ⟨p, xs, rfl, n, r, t⟩ := h.of_tup
    cases e
    exact .inr (.inl ⟨xs, .of r, (em t).symm⟩)
  | lst ds =>
    obtain ⟨p, xs, rfl, n, r, t⟩ := h.of_lst
    cases e
    exact .inl ⟨xs, .of r, (em t).symm⟩
  | dic _ _ => cases e
  | deck => cases e
  | ext _ => cases e
def dTr (de : DE S) : DT S := fun ρ s => (de ρ s).bind fun d s1 => ofO s1 (truD d)
/-- any expression as a test, by its truth -/
theorem ptd_tr (h : PD X C W e sc de) (he : ∀ whole, isTrue e X.env whole = (do let v ← whole; standAt e.pos; holding [v] (truthy v)) := by intro _; rfl) : PTd X C W e (dTr de) :=
  ptd_of (pt_truth h he) fun A0 H0 A ρ st σ H Q I g => ⟨A0, H0, A, ρ, st, I, g.bind.imp fun d s1 H1 k1 t1 g1 v dv => by
    obtain ⟨k, ek, q⟩ := g1.ofO
    exact ⟨k, tru_of dv ek, q H1 Keep.refl t1⟩⟩
def dNot (dt : DT S) : DT S := fun ρ s => (dt ρ s).map (!·)
def dAnd (dt du : DT S) : DT S := fun ρ s => (dt ρ s).bind fun k s1 => if k = true then du ρ s1 else .ok false s1
def dOr (dt du : DT S) : DT S := fun ρ s => (dt ρ s).bind fun k s1 => if k = true then .ok true s1 else du ρ s1
theorem ptd_not (h : PTd X C W a dt) : PTd X C W (.UnaryOp .Not a pos) (dNot dt) :=
  ptd_of (pt_not h) fun A0 H0 A ρ st σ H Q I g => ⟨A0, H0, A, ρ, st, I, g.map.imp fun k s1 H1 k1 t1 g1 => g1⟩
theorem pwd_of (h : PW X e t) (i : ∀ (A0 : Addr → Prop) (H0 : Hp) (A : Addr → Prop) (ρ : En) (st : S) (σ : St) (H : Hp) (Q : Bool → Hp → Prop), SAt C A0 H0 A H σ ρ st →
    RG C X.mg W σ H (dt ρ st) (fun b _ H' => Q b H') → t σ H Q) : PWd X C W e dt :=
  pw_imp h fun σ H Q ⟨A0, H0, A, ρ, st, I, g⟩ => i A0 H0 A ρ st σ H Q I g
theorem pwd_and1 (h : PTd X C W a dt) : PWd X C W (.BoolOp .And [a] pos) dt := pwd_of (pw_and1 h) fun A0 H0 A ρ st σ H Q I g => ⟨A0, H0, A, ρ, st, I, g⟩
theorem pwd_or1 (h : PTd X C W a dt) : PWd X C W (.BoolOp .Or [a] pos) dt := pwd_of (pw_or1 h) fun A0 H0 A ρ st σ H Q I g => ⟨A0, H0, A, ρ, st, I, g⟩
theorem pwd_and (h : PTd X C W a dt) (h' : PWd X C W (.BoolOp .And (b :: rest) pos) du) : PWd X C W (.BoolOp .And (a :: b :: rest) pos) (dAnd dt du) :=
  pwd_of (pw_and h h') fun A0 H0 A ρ st σ H Q I g => ⟨A0, H0, A, ρ, st, I, g.bind.imp fun k s1 H1 k1 t1 g1 => by
    cases k with
    | true => exact ⟨A0, H0, A, ρ, s1, I.next k1 t1, g1⟩
    | false => exact g1.done t1⟩
theorem pwd_or (h : PTd X C W a dt) (h' : PWd X C W (.BoolOp .Or (b :: rest) pos) du) : PWd X C W (.BoolOp .Or (a :: b :: rest) pos) (dOr dt du) :=
  pwd_of (pw_or h h') fun A0 H0 A ρ st σ H Q I g => ⟨A0, H0, A, ρ, st, I, g.bind.imp fun k s1 H1 k1 t1 g1 => by
    cases k with
    | true => exact g1.done t1
    | false => exact ⟨A0, H0, A, ρ, s1, I.next k1 t1, g1⟩⟩
theorem ptd_w (h : PWd X C W e dt) : PTd X C W e dt := PW.pt h
/-- as values -/
def dAndV (da db : DE S) : DE S := fun ρ s => (da ρ s).bind fun d s1 => (ofO s1 (truD d)).bind fun k s2 => if k = true then db ρ s2 else .ok d s2
def dOrV (da db : DE S) : DE S := fun ρ s => (da ρ s).bind fun d s1 => (ofO s1 (truD d)).bind fun k s2 => if k = true then .ok d s2 else db ρ s2
theorem pd_one {op} (h : PD X C W a sa da) : PD X C W (.BoolOp op [a] pos) sa da := pd_of (pe_one h) fun A0 H0 A ρ st σ H Q I g => ⟨A0, H0, A, ρ, st, I, g⟩
theorem pd_and (ha : PD X C W a sa da) (hb : PD X C W (.BoolOp .And (b :: rest) pos) sb db) : PD X C W (.BoolOp .And (a :: b :: rest) pos) (sa ++ sb) (dAndV da db) :=
  pd_of (pe_andT ha hb) fun A0 H0 A ρ st σ H Q I g => ⟨A0, H0, A, ρ, st, I, g.bind.imp fun d s1 H1 k1 t1 g1 v dv => by
    obtain ⟨k, ek, q⟩ := g1.bind.ofO
    refine ⟨k, tru_of dv ek, ?_⟩
    have q' := q H1 Keep.refl t1
    cases k with
    | true => exact ⟨A0, H0, A, ρ, s1, I.next k1 t1, q'.imp fun d2 s2 H2 _ _ g2 v2 dv2 => g2 v2 (dv2.less fun _ => Amin.more fun i hi => List.mem_append_right _ hi)⟩
    | false => exact q'.done t1 v (dv.less fun _ => Amin.more fun i hi => List.mem_append_left _ hi)⟩
theorem pd_or (ha : PD X C W a sa da) (hb : PD X C W (.BoolOp .Or (b :: rest) pos) sb db) : PD X C W (.BoolOp .Or (a :: b :: rest) pos) (sa ++ sb) (dOrV da db) :=
  pd_of (pe_orT ha hb) fun A0 H0 A ρ st σ H Q I g => ⟨A0, H0, A, ρ, st, I, g.bind.imp fun d s1 H1 k1 t1 g1 v dv => by
    obtain ⟨k, ek, q⟩ := g1.bind.ofO
    refine ⟨k, tru_of dv ek, ?_⟩
    have q' := q H1 Keep.refl t1
    cases k with
    | false => exact ⟨A0, H0, A, ρ, s1, I.next k1 t1, q'.imp fun d2 s2 H2 _ _ g2 v2 dv2 => g2 v2 (dv2.less fun _ => Amin.more fun i hi => List.mem_append_right _ hi)⟩
    | true => exact q'.done t1 v (dv.less fun _ => Amin.more fun i hi => List.mem_append_left _ hi)⟩
def dNotV (de : DE S) : DE S := fun ρ s => (de ρ s).bind fun d s1 => (ofO s1 (truD d)).map fun k => .bl (!k)
theorem pd_not (h : PD X C W a sa da) : PD X C W (.UnaryOp .Not a pos) [] (dNotV da) :=
  pd_of (pe_notT h) fun A0 H0 A ρ st σ H Q I g => ⟨A0, H0, A, ρ, st, I, g.bind.imp fun d s1 H1 k1 t1 g1 v dv => by
    obtain ⟨k, ek, q⟩ := g1.map.ofO
    exact ⟨k, tru_of dv ek, q H1 Keep.refl t1 _ (.bl _)⟩⟩
def dIf (dt : DT S) (da db : DE S) : DE S := fun ρ s => (dt ρ s).bind fun k s1 => if k = true then da ρ s1 else db ρ s1
theorem pd_if (hc : PTd X C W c dt) (ha : PD X C W a sa da) (hb : PD X C W b sb db) : PD X C W (.IfExp c a b pos) (sa ++ sb) (dIf dt da db) :=
  pd_of (pe_ifExp hc ha hb) fun A0 H0 A ρ st σ H Q I g => ⟨A0, H0, A, ρ, st, I, g.bind.imp fun k s1 H1 k1 t1 g1 => by
    cases k with
    | true => exact ⟨A0, H0, A, ρ, s1, I.next k1 t1, g1.imp fun d2 s2 H2 _ _ g2 v2 dv2 => g2 v2 (dv2.less fun _ => Amin.more fun i hi => List.mem_append_left _ hi)⟩
    | false => exact ⟨A0, H0, A, ρ, s1, I.next k1 t1, g1.imp fun d2 s2 H2 _ _ g2 v2 dv2 => g2 v2 (dv2.less fun _ => Amin.more fun i hi => List.mem_append_right _ hi)⟩⟩

/-! ### subscripts, slices -/
def ixD : D → D → Option D
  | .tup ds, .int i => atI ds i
  | .lst ds, .int i => atI ds i
  | .str l, .int i => (atI l i).map fun c => .str [c]
  | _, _ => none
theorem atI_dats {xs : List V} {ds : List D} {i : Int} {d : D} (t : Dats C H A xs ds) (e : atI ds i = some d) : ∃ x, atI xs i = some x ∧ Dat C H A x d := by
  unfold atI at e ⊢
  rw [t.len]
  obtain ⟨j, e1, e2⟩ := Option.bind_eq_some_iff.mp e
  obtain ⟨x, h1, h2⟩ := t.get e2
  exact ⟨x, by rw [e1]; exact h1, h2⟩
theorem oix : OpD C (rIx X.K) ixD := by
  intro A s H x y dx dy d Q I h1 h2 e q
  cases dy <;> cases dx <;> simp only [ixD] at e <;> try cases e
  case int.str i l =>
    cases h2
    cases h1 with
    | str o =>
      obtain ⟨c, e1, e2⟩ := Option.map_eq_some_iff.mp e
      subst e2
      refine .inr (.inr ⟨_, _, c, rfl, rfl, by rw [mkS_len, line_eq]; have := o.1; omega, by simpa using e1, ?_⟩)
      refine q H (.str (mkS [c])) Keep.refl I.at_ (.str ⟨by simp, fun z hz => ?_⟩)
      obtain ⟨j, _, e3, _⟩ := atI_get e1
      simp at hz
      subst hz
      exact o.2 _ (List.mem_of_getElem? e3)
  case int.tup i ds =>
    cases h2
    obtain ⟨p, xs, rfl, n, r, t⟩ := h1.of_tup
    obtain ⟨x, e1, hx⟩ := atI_dats t e
    exact .inr (.inl ⟨p, xs, i, x, rfl, rfl, .of r, e1, q H _ Keep.refl I.at_ hx⟩)
  case int.lst i ds =>
    cases h2
    obtain ⟨p, xs, rfl, n, r, t⟩ := h1.of_lst
    obtain ⟨x, e1, hx⟩ := atI_dats t e
    exact .inl ⟨p, xs, i, x, rfl, rfl, .of r, e1, q H _ Keep.refl I.at_ hx⟩
theorem pd_ix (ha : PD X C W a sa da) (hb : PD X C W b sb db) (hs : PlainIx b := by exact fun _ _ => rfl) : PD X C W (.Subscript a b pos) (sa ++ sb) (dBin ixD da db) :=
  pd_of (pe_ix ix_seq ha hb hs) fun A0 H0 A ρ st σ H Q I g => tOp_d I oix g
/-- an item of an own list: it does not go through the list itself -/
def dIxO (i : Nat) (db : DE S) : DE S := fun ρ s => match ρ[i]? with
  | some (some (.own ds)) => (db ρ s).bind fun y s1 => ofO s1 (ixD (.lst ds) y)
  | some (some (.val d)) => (db ρ s).bind fun y s1 => ofO s1 (ixD d y)
  | _ => .bad
theorem pd_ixo (i : Nat) {x : Str} (hb : PD X C W b [] db) (hs : PlainIx b := by exact fun _ _ => rfl) (hN : X.N[i]? = some x := by rfl) (hv : Vis X.env.scope x := by first | exact Or.inl rfl | exact Or.inr (Or.inl rfl) | exact Or.inr (Or.inr rfl)) (hd : (x == ("__debug__" : Str)) = false := by decide)
    (hcd : (x == ("__classdict__" : Str)) = false := by decide) : PD X C W (.Subscript (.Name x p) b pos) [] (dIxO i db) :=
  pd_of (pe_ix ix_seq (pe_var hN hv hd hcd) hb hs) fun A0 H0 A ρ st σ H Q I g => by
    unfold dIxO at g
    split at g
    · rename_i ds q
      obtain ⟨v, e1, a, xs, rfl, h1, h2, h3, h4, h5⟩ := I.sl i _ q
      refine ⟨_, e1, A0, H0, A, ρ, st, I, g.bind.imp fun y s1 H1 k1 t1 g1 v dv => ?_⟩
      have I1 := I.next k1 t1
      rw [Amin.nil] at dv
      obtain ⟨d, e, q1⟩ := g1.ofO
      cases y <;> simp only [ixD] at e <;> try cases e
      cases dv
      have h4' : H1 a = some (.lst xs) := k1 a _ (fun z => h3 (I.dom a z)) h4
      obtain ⟨x, e2, hx⟩ := atI_dats (h5.keep k1 I.domA) e
      exact .inl ⟨a, xs, _, x, rfl, rfl, .of h4', e2, q1 H1 Keep.refl t1 _ (by rw [Amin.nil]; exact hx)⟩
    · rename_i d q
      obtain ⟨v, e1, h⟩ := I.sl i _ q
      refine ⟨_, e1, A0, H0, A, ρ, st, I, g.bind.imp fun y s1 H1 k1 t1 g1 v' dv => ?_⟩
      have I1 := I.next k1 t1
      rw [Amin.nil] at dv
      obtain ⟨d', e, q1⟩ := g1.ofO
      have V1 : VAt C A H1 s1 := ⟨I1.fresh, I1.domA, t1⟩
      exact oix A s1 H1 _ _ d y d' Q V1 (Dat.keep h k1 I.domA) dv e fun H' v k t hh => q1 H' k t v (by rw [Amin.nil]; exact hh)
    · exact g.elim
/-- the parts of a slice -/
def PartD (X : Cx) (C : Deck S) (W : WX) (e : Option Expr) (dp : E1 S (Option Int)) : Prop := PO X e fun σ H Q => ∃ A0 H0 A ρ st, SAt C A0 H0 A H σ ρ st ∧ RG C X.mg W σ H (dp ρ st) fun o _ H' => Q o H'
def dNoPart : E1 S (Option Int) := fun _ s => .ok none s
def asI : D → Option Int
  | .int i => some i
  | _ => none
def dPart (de : DE S) : E1 S (Option Int) := fun ρ s => (de ρ s).bind fun d s1 => (ofO s1 (asI d)).map some
theorem po_imp {e : Option Expr} {t t' : TO} (h : PO X e t) (i : ∀ σ H Q, t' σ H Q → t σ H Q) : PO X e t' := ⟨fun pins s σ H Q I q => h.run pins s σ H Q I (i σ H Q q)⟩
theorem part_none : PartD X C W none (dNoPart : E1 S (Option Int)) := po_imp po_none fun σ H Q ⟨A0, H0, A, ρ, st, I, g⟩ => g.done I.at_
theorem part_some (h : PD X C W e sc de) : PartD X C W (some e) (dPart de) := po_imp (po_some h) fun σ H Q ⟨A0, H0, A, ρ, st, I, g⟩ => ⟨A0, H0, A, ρ, st, I, g.bind.imp fun d s1 H1 k1 t1 g1 v dv => by
  obtain ⟨i, ei, q⟩ := g1.map.ofO
  cases d <;> simp only [asI] at ei <;> cases ei
  cases dv
  exact ⟨_, rfl, q H1 Keep.refl t1⟩⟩
def cutL {α : Type} (xs : List α) (lo hi : Option Int) : List α := (xs.drop (HT.sIx xs.length 0 lo)).take (HT.sIx xs.length xs.length hi - HT.sIx xs.length 0 lo)
def slD (d : D) (lo hi : Option Int) : Option D :=
  match d with
  | .str l => some (.str (cutL l lo hi))
  | .tup ds => some (.tup (cutL ds lo hi))
  | .lst ds => some (.lst (cutL ds lo hi))
  | _ => none
theorem cut_dats {xs : List V} {ds : List D} (t : Dats C H A xs ds) (lo hi : Option Int) : Dats C H A (cutV xs lo hi) (cutL ds lo hi) := by
  unfold cutV cutL
  rw [t.len]
  refine ⟨by simp [t.len], fun i x d e1 e2 => ?_⟩
  rw [List.getElem?_take] at e1 e2
  split at e1
  · rename_i hi
    rw [if_pos hi] at e2
    rw [List.getElem?_drop] at e1 e2
    exact t.at_ _ x d e1 e2
  · cases e1
def rSlD (K : PySem.W.Frag) : V → Option Int → Option Int → Hp → VK → Prop := fun x lo hi H Q => rSlL K x lo hi H Q ∨ rSlA K x lo hi H Q ∨ rSlS x lo hi H Q
theorem sl_all : SlR X (rSlD X.K) := sl_list.or (sl_tupA.or sl_str)
theorem cutL_whole {α : Type} {xs : List α} {lo hi : Option Int} (h : HT.sIx xs.length 0 lo = 0 ∧ HT.sIx xs.length xs.length hi = xs.length) : cutL xs lo hi = xs := by
  unfold cutL
  rw [h.1, h.2]; simp
def dSl (de : DE S) (dp dq : E1 S (Option Int)) : DE S := fun ρ s => (de ρ s).bind fun d s1 => (dp ρ s1).bind fun lo s2 => (dq ρ s2).bind fun hi s3 => ofO s3 (slD d lo hi)
theorem pd_sl {lo hi : Option Expr} {dp dq : E1 S (Option Int)} (h : PD X C W e sc de) (hl : PartD X C W lo dp) (hh : PartD X C W hi dq) : PD X C W (.Subscript e (.Slice lo hi none p2) pos) sc (dSl de dp dq) :=
  pd_of (pe_slice sl_all h hl hh) fun A0 H0 A ρ st σ H Q I g => ⟨A0, H0, A, ρ, st, I, g.bind.imp fun d s1 H1 k1 t1 g1 v dv => by
    have I1 := I.next k1 t1
    refine ⟨A0, H0, A, ρ, s1, I1, g1.bind.imp fun l s2 H2 k2 t2 g2 => ?_⟩
    have I2 := I1.next k2 t2
    refine ⟨A0, H0, A, ρ, s2, I2, g2.bind.imp fun u s3 H3 k3 t3 g3 => ?_⟩
    have I3 := I2.next k3 t3
    obtain ⟨d', e', q⟩ := g3.ofO
    have dv3 := dv.keep (k2.trans k3) (I1.dom0 sc)
    have V3 := I3.vat sc
    cases d <;> simp only [slD] at e' <;> cases e'
    case str z =>
      cases dv3 with
      | str o =>
        refine .inr (.inr ⟨_, rfl, by rw [mkS_len, line_eq]; have := o.1; omega, ?_⟩)
        have e : cutS (mkS z) l u = mkS (cutL z l u) := by
          unfold cutS cutL
          rw [mkS_len]
        rw [e]
        refine q H3 Keep.refl t3 _ (.str ⟨?_, fun c hc => o.2 c (List.mem_of_mem_drop (List.mem_of_mem_take hc))⟩)
        have := o.1
        unfold cutL
        rw [List.length_take, List.length_drop]
        omega
    case tup ds =>
      obtain ⟨p, xs, rfl, n, r, t⟩ := dv3.of_tup
      refine .inr (.inl ⟨p, xs, rfl, .of r, fun hw => ?_, fun hw p' hp => ?_⟩)
      · rw [t.len] at hw
        rw [cutL_whole hw] at q
        exact q H3 Keep.refl t3 _ dv3
      · obtain ⟨k, t', n'⟩ := V3.new (o := .tup (cutV xs l u)) hp
        exact q _ k t' _ (Dat.tup_mk n' upd_same ((cut_dats t l u).keep k V3.dom))
    case lst ds =>
      obtain ⟨p, xs, rfl, n, r, t⟩ := dv3.of_lst
      refine .inl ⟨p, xs, rfl, .of r, fun p' hp => ?_⟩
      obtain ⟨k, t', n'⟩ := V3.new (o := .lst (cutV xs l u)) hp
      exact q _ k t' _ (Dat.lst_mk n' upd_same ((cut_dats t l u).keep k V3.dom))⟩
end
end Mir

set_option Elab.async false
set_option linter.all false
set_option maxRecDepth 100000
set_option maxHeartbeats 2000000
namespace Mir
open PySem PySem.Spec L2
open PyProof.Rows hiding St

section
variable {S : Type} {C : Deck S} {X : Cx} {W : WX} {A0 A A' : Addr → Prop} {H0 H H' : Hp} {σ : St} {ρ : En} {st st' : S}
variable {e a b c : Expr} {es rest : List Expr} {pos p p2 : Pos} {sc sc' sa sb : List Nat} {de da db dc : DE S} {dt dt' du : DT S} {dl : DA S}
/-! ### calls of built-ins -/
def CallD (C : Deck S) (r : List V → Hp → VK → Prop) (f : List D → Option D) : Prop := ∀ (A : Addr → Prop) (s : S) (H : Hp) (xs : List V) (ds : List D) (d : D) (Q : VK), VAt C A H s → Dats C H A xs ds → f ds = some d →
  (∀ H' v, Keep C.dom H H' → C.At s H' → Dat C H' A v d → Q v H') → r xs H Q
def dCallB (f : List D → Option D) (dl : DA S) : DE S := fun ρ s => (dl ρ s).bind fun ds s1 => ofO s1 (f ds)
theorem tCB_d {r : List V → Hp → VK → Prop} {f : List D → Option D} (I : SAt C A0 H0 A H σ ρ st) {Q : VK} (hr : CallD C r f) (g : RG C X.mg W σ H (dCallB f dl ρ st) fun d _ H' => ∀ v, Dat C H' (Amin A σ ρ sc) v d → Q v H') :
    tCB r (cta C X.mg W sc dl) σ H Q := ⟨A0, H0, A, ρ, st, I, g.bind.imp fun ds s1 H1 k1 t1 g1 vs dvs => by
  obtain ⟨d, ed, q⟩ := g1.ofO
  exact hr (Amin A σ ρ sc) s1 H1 vs ds d Q ((I.next k1 t1).vat sc) dvs ed fun H' v k t h => q H' k t v h⟩
theorem pd_callB {x : Str} {id : String} {r : List V → Hp → VK → Prop} {f : List D → Option D} (hc : CallR X (.builtin id) r) (hr : CallD C r f) (hm : X.mg x = none) (ha : PAd X C W (e :: es) sc dl) (hv : bootBuiltins x = some (.builtin id) := by decide +kernel) (hg : Gl X x := by rfl) (hn : x ≠ "__name__" := by decide) (hdb : (x == ("__debug__" : Str)) = false := by decide)
    (he : starEach (e :: es) X.env = (false, eval e X.env) :: starEach es X.env := by rfl) (hpl : (backTo pos (starEach es X.env)).any (·.1) = false := by rfl) : PD X C W (.Call (.Name x p) (e :: es) [] pos) sc (dCallB f dl) :=
  pd_of (pe_callB hc hg hm hv ha hn hdb he hpl) fun A0 H0 A ρ st σ H Q I g => tCB_d I hr g
theorem pd_callTy {x : Str} {T : String} {r : List V → Hp → VK → Prop} {f : List D → Option D} (hc : CallR X (.type T) r) (hr : CallD C r f) (hm : X.mg x = none) (ha : PAd X C W (e :: es) sc dl) (hv : bootBuiltins x = some (.type T) := by decide +kernel) (hg : Gl X x := by rfl) (hn : x ≠ "__name__" := by decide) (hdb : (x == ("__debug__" : Str)) = false := by decide)
    (he : starEach (e :: es) X.env = (false, eval e X.env) :: starEach es X.env := by rfl) (hpl : (backTo pos (starEach es X.env)).any (·.1) = false := by rfl) : PD X C W (.Call (.Name x p) (e :: es) [] pos) sc (dCallB f dl) :=
  pd_of (pe_callTy hc hg hm hv ha hn hdb he hpl) fun A0 H0 A ρ st σ H Q I g => tCB_d I hr g
theorem Dats.one {xs : List V} {d : D} (h : Dats C H A xs [d]) : ∃ x, xs = [x] ∧ Dat C H A x d := by
  obtain ⟨x, r, rfl, h1, h2⟩ := h.uncons
  rw [h2.unnil]
  exact ⟨x, rfl, h1⟩
theorem Dats.two {xs : List V} {d d' : D} (h : Dats C H A xs [d, d']) : ∃ x y, xs = [x, y] ∧ Dat C H A x d ∧ Dat C H A y d' := by
  obtain ⟨x, r, rfl, h1, h2⟩ := h.uncons
  obtain ⟨y, rfl, h3⟩ := h2.one
  exact ⟨x, y, rfl, h1, h3⟩
/-- len -/
def lenD : List D → Option D
  | [.str l] => some (.int l.length)
  | [.tup ds] => some (.int ds.length)
  | [.lst ds] => some (.int ds.length)
  | _ => none
theorem cd_len {K : PySem.W.Frag} : CallD C (fun xs H Q => ∃ x n, xs = [x] ∧ LenV K x H n ∧ Q (.int n) H) lenD := by
  intro A s H xs ds d Q I h e q
  match ds, e with
  | [.str l], e =>
    cases e
    obtain ⟨x, rfl, hx⟩ := h.one
    cases hx with
    | str o => exact ⟨_, l.length, rfl, ⟨by rw [mkS_len, line_eq]; have := o.1; omega, by rw [mkS_len]⟩, q H _ Keep.refl I.at_ (.int _)⟩
  | [.tup ds], e =>
    cases e
    obtain ⟨x, rfl, hx⟩ := h.one
    obtain ⟨p, xs, rfl, n, r, t⟩ := hx.of_tup
    exact ⟨_, ds.length, rfl, .inr ⟨xs, .of r, t.len.symm⟩, q H _ Keep.refl I.at_ (.int _)⟩
  | [.lst ds], e =>
    cases e
    obtain ⟨x, rfl, hx⟩ := h.one
    obtain ⟨p, xs, rfl, n, r, t⟩ := hx.of_lst
    exact ⟨_, ds.length, rfl, .inl ⟨xs, .of r, t.len.symm⟩, q H _ Keep.refl I.at_ (.int _)⟩
theorem pd_len (hm : X.mg "len" = none) (ha : PAd X C W [e] sc dl) (hg : Gl X "len" := by rfl) (he : starEach [e] X.env = (false, eval e X.env) :: starEach [] X.env := by rfl) (hpl : (backTo pos (starEach [] X.env)).any (·.1) = false := by rfl) : PD X C W (.Call (.Name "len" p) [e] [] pos) sc (dCallB lenD dl) :=
  pd_callB call_len cd_len hm ha PySem.boot_len hg (by decide) (by decide) he hpl
/-- all, any of a list of bools -/
def allBl : List D → Option (List Bool)
  | [] => some []
  | .bl b :: r => (allBl r).map (b :: ·)
  | _ :: _ => none
theorem allBl_some : ∀ {ds : List D} {bs : List Bool}, allBl ds = some bs → ds = bs.map D.bl
  | [], bs, h => by cases h; rfl
  | .bl b :: r, bs, h => by
    simp only [allBl, Option.map_eq_some_iff] at h
    obtain ⟨t, h1, rfl⟩ := h
    rw [allBl_some h1]; rfl
  | .non :: _, _, h => by cases h
  | .int _ :: _, _, h => by cases h
  | .str _ :: _, _, h => by cases h
  | .tup _ :: _, _, h => by cases h
  | .lst _ :: _, _, h => by cases h
  | .dic _ _ :: _, _, h => by cases h
  | .deck :: _, _, h => by cases h
  | .ext _ :: _, _, h => by cases h
theorem allBl_map : ∀ bs : List Bool, allBl (bs.map D.bl) = some bs
  | [] => rfl
  | b :: bs => by simp [allBl, allBl_map bs]
theorem dats_bl : ∀ {bs : List Bool} {xs : List V}, Dats C H A xs (bs.map D.bl) → xs = bs.map V.bl
  | [], xs, h => h.unnil
  | b :: bs, xs, h => by
    obtain ⟨x, r, rfl, h1, h2⟩ := h.uncons
    cases h1
    rw [dats_bl h2]; rfl
def allD : List D → Option D
  | [.lst ds] => (allBl ds).map fun bs => .bl (bs.all id)
  | _ => none
def anyD : List D → Option D
  | [.lst ds] => (allBl ds).map fun bs => .bl (bs.any id)
  | _ => none
theorem cd_all {K : PySem.W.Frag} : CallD C (rAll K) allD := by
  intro A s H xs ds d Q I h e q
  match ds, e with
  | [.lst ds], e =>
    obtain ⟨bs, e1, rfl⟩ := Option.map_eq_some_iff.mp e
    obtain ⟨x, rfl, hx⟩ := h.one
    obtain ⟨p, xs, rfl, n, r, t⟩ := hx.of_lst
    rw [allBl_some e1] at t
    rw [dats_bl t] at r
    exact ⟨p, bs, rfl, .of r, q H _ Keep.refl I.at_ (.bl _)⟩
theorem cd_any {K : PySem.W.Frag} : CallD C (rAny K) anyD := by
  intro A s H xs ds d Q I h e q
  match ds, e with
  | [.lst ds], e =>
    obtain ⟨bs, e1, rfl⟩ := Option.map_eq_some_iff.mp e
    obtain ⟨x, rfl, hx⟩ := h.one
    obtain ⟨p, xs, rfl, n, r, t⟩ := hx.of_lst
    rw [allBl_some e1] at t
    rw [dats_bl t] at r
    exact ⟨p, bs, rfl, .of r, q H _ Keep.refl I.at_ (.bl _)⟩
theorem pd_all (hc : X.calm = true) (hm : X.mg "all" = none) (ha : PAd X C W [e] sc dl) (hg : Gl X "all" := by rfl) (he : starEach [e] X.env = (false, eval e X.env) :: starEach [] X.env := by rfl) (hpl : (backTo pos (starEach [] X.env)).any (·.1) = false := by rfl) : PD X C W (.Call (.Name "all" p) [e] [] pos) sc (dCallB allD dl) :=
  pd_callB (cr_all hc) cd_all hm ha (by decide +kernel) hg (by decide) (by decide) he hpl
theorem pd_any (hc : X.calm = true) (hm : X.mg "any" = none) (ha : PAd X C W [e] sc dl) (hg : Gl X "any" := by rfl) (he : starEach [e] X.env = (false, eval e X.env) :: starEach [] X.env := by rfl) (hpl : (backTo pos (starEach [] X.env)).any (·.1) = false := by rfl) : PD X C W (.Call (.Name "any" p) [e] [] pos) sc (dCallB anyD dl) :=
  pd_callB (cr_any hc) cd_any hm ha (by decide +kernel) hg (by decide) (by decide) he hpl
/-- tuple, int, min, max -/
def tupleD : List D → Option D
  | [.lst ds] => some (.tup ds)
  | [.tup ds] => some (.tup ds)
  | _ => none
theorem cd_tuple {K : PySem.W.Frag} : CallD C (fun xs H Q => ∃ p ys, xs = [.ref p] ∧ ((SqL K H p ys ∧ ∀ l, H l = none → Q (.ref l) (upd H l (.tup ys))) ∨ (SqT K H p ys ∧ Q (.ref p) H))) tupleD := by
  intro A s H xs ds d Q I h e q
  match ds, e with
  | [.lst ds], e =>
    cases e
    obtain ⟨x, rfl, hx⟩ := h.one
    obtain ⟨p, xs, rfl, n, r, t⟩ := hx.of_lst
    refine ⟨p, xs, rfl, .inl ⟨.of r, fun l hl => ?_⟩⟩
    obtain ⟨k, t', n'⟩ := I.new (o := .tup xs) hl
    exact q _ _ k t' (Dat.tup_mk n' upd_same (t.keep k I.dom))
  | [.tup ds], e =>
    cases e
    obtain ⟨x, rfl, hx⟩ := h.one
    obtain ⟨p, xs, rfl, n, r, t⟩ := hx.of_tup
    exact ⟨p, xs, rfl, .inr ⟨.of r, q _ _ Keep.refl I.at_ hx⟩⟩
theorem pd_tuple (hm : X.mg "tuple" = none) (ha : PAd X C W [e] sc dl) (hg : Gl X "tuple" := by rfl) (he : starEach [e] X.env = (false, eval e X.env) :: starEach [] X.env := by rfl) (hpl : (backTo pos (starEach [] X.env)).any (·.1) = false := by rfl) : PD X C W (.Call (.Name "tuple" p) [e] [] pos) sc (dCallB tupleD dl) :=
  pd_callTy call_tuple_of cd_tuple hm ha (by decide +kernel) hg (by decide) (by decide) he hpl
def intD : List D → Option D
  | [.int i] => some (.int i)
  | [.bl k] => some (.int (if k then 1 else 0))
  | _ => none
theorem cd_int : CallD C (fun xs H Q => (∃ i, xs = [V.int i] ∧ Q (.int i) H) ∨ ∃ k, xs = [V.bl k] ∧ Q (.int (if k then 1 else 0)) H) intD := by
  intro A s H xs ds d Q I h e q
  match ds, e with
  | [.int i], e => cases e; obtain ⟨x, rfl, hx⟩ := h.one; cases hx; exact .inl ⟨i, rfl, q _ _ Keep.refl I.at_ (.int _)⟩
  | [.bl i], e => cases e; obtain ⟨x, rfl, hx⟩ := h.one; cases hx; exact .inr ⟨i, rfl, q _ _ Keep.refl I.at_ (.int _)⟩
theorem pd_intc (hm : X.mg "int" = none) (ha : PAd X C W [e] sc dl) (hg : Gl X "int" := by rfl) (he : starEach [e] X.env = (false, eval e X.env) :: starEach [] X.env := by rfl) (hpl : (backTo pos (starEach [] X.env)).any (·.1) = false := by rfl) : PD X C W (.Call (.Name "int" p) [e] [] pos) sc (dCallB intD dl) :=
  pd_callTy call_int1 cd_int hm ha (by decide +kernel) hg (by decide) (by decide) he hpl
def min2D : List D → Option D
  | [.int i, .int j] => some (.int (if j < i then j else i))
  | _ => none
def max2D : List D → Option D
  | [.int i, .int j] => some (.int (if j > i then j else i))
  | _ => none
theorem cd_min2 : CallD C (fun xs H Q => ∃ i j, xs = [V.int i, .int j] ∧ Q (.int (if j < i then j else i)) H) min2D := by
  intro A s H xs ds d Q I h e q
  match ds, e with
  | [.int i, .int j], e => cases e; obtain ⟨x, y, rfl, hx, hy⟩ := h.two; cases hx; cases hy; exact ⟨i, j, rfl, q _ _ Keep.refl I.at_ (.int _)⟩
theorem cd_max2 : CallD C (fun xs H Q => ∃ i j, xs = [V.int i, .int j] ∧ Q (.int (if j > i then j else i)) H) max2D := by
  intro A s H xs ds d Q I h e q
  match ds, e with
  | [.int i, .int j], e => cases e; obtain ⟨x, y, rfl, hx, hy⟩ := h.two; cases hx; cases hy; exact ⟨i, j, rfl, q _ _ Keep.refl I.at_ (.int _)⟩
theorem pd_min2 (hc : X.calm = true) (hm : X.mg "min" = none) (ha : PAd X C W [a, b] sc dl) (hg : Gl X "min" := by rfl) (he : starEach [a, b] X.env = (false, eval a X.env) :: starEach [b] X.env := by rfl) (hpl : (backTo pos (starEach [b] X.env)).any (·.1) = false := by rfl) : PD X C W (.Call (.Name "min" p) [a, b] [] pos) sc (dCallB min2D dl) :=
  pd_callB (call_min2 hc) cd_min2 hm ha (by decide +kernel) hg (by decide) (by decide) he hpl
theorem pd_max2 (hc : X.calm = true) (hm : X.mg "max" = none) (ha : PAd X C W [a, b] sc dl) (hg : Gl X "max" := by rfl) (he : starEach [a, b] X.env = (false, eval a X.env) :: starEach [b] X.env := by rfl) (hpl : (backTo pos (starEach [b] X.env)).any (·.1) = false := by rfl) : PD X C W (.Call (.Name "max" p) [a, b] [] pos) sc (dCallB max2D dl) :=
  pd_callB (call_max2 hc) cd_max2 hm ha (by decide +kernel) hg (by decide) (by decide) he hpl
/-- list(x): a fresh list -/
def itemsD : D → Option (List D)
  | .lst ds => some ds
  | .tup ds => some ds
  | _ => none
def dListOf (de : DE S) : DA S := fun ρ s => (de ρ s).bind fun d s1 => ofO s1 ((itemsD d).filter fun ds => ds.length ≤ 65536)
theorem pf_list (hm : X.mg "list" = none) (h : PD X C W e sc de) (hg : Gl X "list" := by rfl) (he : starEach [e] X.env = (false, eval e X.env) :: starEach [] X.env := by rfl) (hpl : (backTo pos (starEach [] X.env)).any (·.1) = false := by rfl) : PF X C W (.Call (.Name "list" p) [e] [] pos) sc (dListOf de) :=
  pf_of (pe_callTy call_list_of hg hm (by decide +kernel) (pa_cons h pa_nil he) (by decide) (by decide) he hpl) fun A0 H0 A ρ st σ H Q I g => ⟨A0, H0, A, ρ, st, I, g.bind.imp fun d s1 H1 k1 t1 g1 v dv => by
    obtain ⟨ds, eds, q⟩ := g1.ofO
    obtain ⟨e1, e2⟩ := Option.filter_eq_some_iff.mp eds
    have hl : ds.length ≤ 65536 := by simpa using e2
    cases d <;> simp only [itemsD] at e1 <;> cases e1
    · obtain ⟨p, xs, rfl, n, r, t⟩ := dv.of_tup
      exact ⟨p, xs, rfl, .inr (.of r), fun l hl' => q H1 Keep.refl t1 l xs hl' t (by rw [t.len]; exact small_line hl)⟩
    · obtain ⟨p, xs, rfl, n, r, t⟩ := dv.of_lst
      exact ⟨p, xs, rfl, .inl (.of r), fun l hl' => q H1 Keep.refl t1 l xs hl' t (by rw [t.len]; exact small_line hl)⟩⟩

/-! ### isinstance -/
def tyD : D → Option String
  | .non => some "NoneType"
  | .bl _ => some "bool"
  | .int _ => some "int"
  | .str _ => some "str"
  | .tup _ => some "tuple"
  | .lst _ => some "list"
  | _ => none
theorem tyx_of {K : PySem.W.Frag} {v : V} {d : D} {T : String} (h : Dat C H A v d) (e : tyD d = some T) : TyX K H v (.type T) := by
  cases d <;> simp only [tyD] at e <;> cases e
  · cases h; exact .base .non
  · cases h; exact .base (.bl _)
  · cases h; exact .base (.int _)
  · cases h; exact .base (.str _)
  · obtain ⟨p, xs, rfl, n, r, t⟩ := h.of_tup; exact .base (.tup r)
  · obtain ⟨p, xs, rfl, n, r, t⟩ := h.of_lst; exact .base (.lst r)
def isiD (T : String) (d : D) : Option D := ((tyD d).bind fun t => kitB t T).map .bl
def dIsi (T : String) (de : DE S) : DE S := fun ρ s => (de ρ s).bind fun d s1 => ofO s1 (isiD T d)
theorem pd_isi (T : String) {x : Str} (hm1 : X.mg "isinstance" = none) (hm : X.mg x = none) (h : PD X C W e sc de) (hv : bootBuiltins x = some (.type T) := by decide +kernel) (hg : Gl X x := by rfl) (hg1 : Gl X "isinstance" := by rfl) (hn : x ≠ "__name__" := by decide) (hdb : (x == ("__debug__" : Str)) = false := by decide) {q : Pos}
    (he : starEach [e, .Name x q] X.env = (false, eval e X.env) :: starEach [.Name x q] X.env := by rfl) (he2 : starEach [.Name x q] X.env = (false, eval (.Name x q) X.env) :: starEach [] X.env := by rfl) (hpl : (backTo pos (starEach [.Name x q] X.env)).any (·.1) = false := by rfl) : PD X C W (.Call (.Name "isinstance" p) [e, .Name x q] [] pos) [] (dIsi T de) :=
  pd_of (pe_callB call_isi hg1 hm1 (by decide +kernel) (pa_cons h (pa_cons (pe_bltn (v := .ty T) hg hm hv rfl hn hdb) pa_nil he2) he) (by decide) (by decide) he hpl) fun A0 H0 A ρ st σ H Q I g => ⟨A0, H0, A, ρ, st, I, g.bind.imp fun d s1 H1 k1 t1 g1 v dv => by
    obtain ⟨d2, e2, q⟩ := g1.ofO
    obtain ⟨k, e3, rfl⟩ := Option.map_eq_some_iff.mp e2
    obtain ⟨t, e4, e5⟩ := Option.bind_eq_some_iff.mp e3
    exact ⟨v, .ty T, .type t, .type T, k, rfl, .ty T, tyx_of dv e4, kit_ty e5, q H1 Keep.refl t1 _ (.bl k)⟩⟩
/-! the answers, by cases -/
theorem kb_int_int : kitB "int" "int" = some true := by decide +kernel
theorem kb_bool_int : kitB "bool" "int" = some true := by decide +kernel
theorem kb_none_int : kitB "NoneType" "int" = some false := by decide +kernel
theorem kb_str_int : kitB "str" "int" = some false := by decide +kernel
theorem kb_tup_int : kitB "tuple" "int" = some false := by decide +kernel
theorem kb_lst_int : kitB "list" "int" = some false := by decide +kernel
theorem kb_int_bool : kitB "int" "bool" = some false := by decide +kernel
theorem kb_bool_bool : kitB "bool" "bool" = some true := by decide +kernel
theorem kb_none_bool : kitB "NoneType" "bool" = some false := by decide +kernel
theorem kb_str_bool : kitB "str" "bool" = some false := by decide +kernel
theorem kb_tup_bool : kitB "tuple" "bool" = some false := by decide +kernel
theorem kb_lst_bool : kitB "list" "bool" = some false := by decide +kernel
theorem kb_int_str : kitB "int" "str" = some false := by decide +kernel
theorem kb_bool_str : kitB "bool" "str" = some false := by decide +kernel
theorem kb_none_str : kitB "NoneType" "str" = some false := by decide +kernel
theorem kb_str_str : kitB "str" "str" = some true := by decide +kernel
theorem kb_tup_str : kitB "tuple" "str" = some false := by decide +kernel
theorem kb_lst_str : kitB "list" "str" = some false := by decide +kernel
theorem kb_int_tup : kitB "int" "tuple" = some false := by decide +kernel
theorem kb_bool_tup : kitB "bool" "tuple" = some false := by decide +kernel
theorem kb_none_tup : kitB "NoneType" "tuple" = some false := by decide +kernel
theorem kb_str_tup : kitB "str" "tuple" = some false := by decide +kernel
theorem kb_tup_tup : kitB "tuple" "tuple" = some true := by decide +kernel
theorem kb_lst_tup : kitB "list" "tuple" = some false := by decide +kernel
theorem kb_int_lst : kitB "int" "list" = some false := by decide +kernel
theorem kb_bool_lst : kitB "bool" "list" = some false := by decide +kernel
theorem kb_none_lst : kitB "NoneType" "list" = some false := by decide +kernel
theorem kb_str_lst : kitB "str" "list" = some false := by decide +kernel
theorem kb_tup_lst : kitB "tuple" "list" = some false := by decide +kernel
theorem kb_lst_lst : kitB "list" "list" = some true := by decide +kernel

/-! ### defs -/
/-- a def's promise by its function on data -/
def spOf (mg : Str → Option Value) (PC : Deck S → Prop) (n : Nat) (m : List D → S → R S D) : Sp := fun vs H Q E => ∃ (C : Deck S) (A : Addr → Prop) (s : S) (ds : List D), PC C ∧ VAt C A H s ∧ Dats C H A vs ds ∧ ds.length = n ∧
  match m ds s with
  | .ok d s' => ∀ H' v, Keep C.dom H H' → C.At s' H' → Dat C H' A v d → Q v H'
  | .ex c s' => ∀ a H', mg c = some (.ref a) → Keep C.dom H H' → C.At s' H' → E (.ref a) none H'
  | .bad => False
/-- a def under its name -/
structure Fn (P : Program) (w : World) (K : PySem.W.Frag) (mg : Str → Option Value) (base : Heap) (PC : Deck S → Prop) (x : Str) (k n : Nat) (m : List D → S → R S D) : Prop where
  ex : ∃ (f : Addr) (fd : FuncData) (ps : List Str), FnOk P w K mg base (L2.CX P w) k f fd ps (spOf mg PC n m) ∧ mg x = some (.ref f) ∧ PySem.W.keepIn K (.ref f) = true ∧ Binds K fd ps []
variable {PC : Deck S → Prop}
theorem spOf.imp {mg : Str → Option Value} {n : Nat} {m m' : List D → S → R S D} (h : ∀ ds s, ds.length = n → m' ds s ≠ .bad → m ds s = m' ds s) {vs : List V} {H : Hp} {Q : VK} {E : XK} (g : spOf mg PC n m' vs H Q E) : spOf mg PC n m vs H Q E := by
  obtain ⟨C, A, s, ds, pc, V, D, hl, g⟩ := g
  refine ⟨C, A, s, ds, pc, V, D, hl, ?_⟩
  cases e : m' ds s with
  | bad => rw [e] at g; exact g.elim
  | ok d s' => rw [h ds s hl (by rw [e]; exact fun z => nomatch z), e]; rw [e] at g; exact g
  | ex c s' => rw [h ds s hl (by rw [e]; exact fun z => nomatch z), e]; rw [e] at g; exact g
theorem Fn.imp {P : Program} {w : World} {K : PySem.W.Frag} {mg : Str → Option Value} {base : Heap} {x : Str} {k n : Nat} {m m' : List D → S → R S D} (F : Fn P w K mg base PC x k n m) (h : ∀ ds s, ds.length = n → m' ds s ≠ .bad → m ds s = m' ds s) : Fn P w K mg base PC x k n m' := by
  obtain ⟨f, fd, ps, F, r⟩ := F.ex
  exact ⟨f, fd, ps, F.imp fun vs H Q E g => spOf.imp h g, r⟩
theorem Fn.mono {P : Program} {w : World} {K : PySem.W.Frag} {mg : Str → Option Value} {base : Heap} {x : Str} {k k' n : Nat} {m : List D → S → R S D} (F : Fn P w K mg base PC x k n m) (h : k ≤ k') : Fn P w K mg base PC x k' n m := by
  obtain ⟨f, fd, ps, F, r⟩ := F.ex
  exact ⟨f, fd, ps, F.mono h, r⟩
def dCall (m : List D → S → R S D) (dl : DA S) : DE S := fun ρ s => (dl ρ s).bind m
theorem call_d {n : Nat} {m : List D → S → R S D} (I : SAt C A0 H0 A H σ ρ st) (pc : PC C) {Q : VK} {vs : List V} {ds : List D} (hl : ds.length = n) (dvs : Dats C H (Amin A σ ρ sc) vs ds) (g : RG C X.mg W σ H (m ds st) fun d _ H' => ∀ v, Dat C H' (Amin A σ ρ sc) v d → Q v H') :
    spOf X.mg PC n m vs H Q (WE W σ) := by
  refine ⟨C, Amin A σ ρ sc, st, ds, pc, I.vat sc, dvs, hl, ?_⟩
  cases e : m ds st with
  | bad => rw [e] at g; exact g
  | ok d s' => rw [e] at g; exact fun H' v k t h => g H' k t v h
  | ex c s' => rw [e] at g; exact g
theorem Dats.length_eq {xs : List V} {ds : List D} (h : Dats C H A xs ds) : ds.length = xs.length := h.len.symm
/-- how many arguments are written -/
def dLen (n : Nat) (dl : DA S) : Prop := ∀ ρ s ds s', dl ρ s = .ok ds s' → ds.length = n
theorem dLen_nil : dLen 0 (dNil : DA S) := fun ρ s ds s' e => by cases e; rfl
theorem dLen_cons {n : Nat} (h : dLen n dl) : dLen (n + 1) (dCons de dl) := fun ρ s ds s' e => by
  unfold dCons at e
  cases e1 : de ρ s with
  | bad => rw [e1] at e; cases e
  | ex c s1 => rw [e1] at e; cases e
  | ok d s1 =>
    rw [e1] at e
    simp only [R.bind_ok] at e
    cases e2 : dl ρ s1 with
    | bad => rw [e2] at e; cases e
    | ex c s1 => rw [e2] at e; cases e
    | ok ds2 s2 =>
      rw [e2] at e
      cases e
      rw [List.length_cons, h _ _ _ _ e2]
theorem pd_call {x : Str} {k j n : Nat} {m : List D → S → R S D} (F : Fn X.prog X.w X.K X.mg X.base PC x k n m) (pc : PC C) (hr : Room j X.A) (hk : k ≤ j) (tk : Takes X W) (ha : PAd X C W (e :: es) sc dl) (hn : dLen n dl) (hg : Gl X x := by rfl) (hdb : (x == ("__debug__" : Str)) = false := by decide)
    (he : starEach (e :: es) X.env = (false, eval e X.env) :: starEach es X.env := by rfl) (hpl : (backTo pos (starEach es X.env)).any (·.1) = false := by rfl) : PD X C W (.Call (.Name x p) (e :: es) [] pos) sc (dCall m dl) := by
  obtain ⟨f, fd, ps, F, hm, hkp, hb⟩ := F.ex
  refine pd_of (pe_callS F (hr.mono hk) hg hm hkp hb (fun σ => passAt tk σ) ha hdb he hpl) fun A0 H0 A ρ st σ H Q I g => ?_
  unfold dCall at g
  have hn' := hn ρ st
  refine ⟨A0, H0, A, ρ, st, I, ?_⟩
  cases e1 : dl ρ st with
  | bad => rw [e1] at g; exact g
  | ex c s1 => rw [e1] at g; exact g
  | ok ds s1 =>
    rw [e1] at g
    simp only [R.bind_ok] at g
    exact fun H' k t vs dvs => call_d (I.next k t) pc (hn' _ _ e1) dvs (g.move k)

/-! ### statements -/
def R.out {α : Type} (r : R S α) (ρ : En) (f : α → S → Out S) : Out S :=
  match r with
  | .ok a s => f a s
  | .ex c s => .ex c ρ s
  | .bad => .bad
@[simp] theorem R.out_ok {α : Type} {a : α} {s : S} {ρ : En} {f : α → S → Out S} : (R.ok a s).out ρ f = f a s := rfl
@[simp] theorem R.out_ex {α : Type} {c : Str} {s : S} {ρ : En} {f : α → S → Out S} : (R.ex c s : R S α).out ρ f = .ex c ρ s := rfl
@[simp] theorem R.out_bad {α : Type} {ρ : En} {f : α → S → Out S} : (R.bad : R S α).out ρ f = .bad := rfl
variable {mg : Str → Option Value} {DD : Ends}
theorem SG.out {α : Type} {r : R S α} {f : α → S → Out S} (I : SAt C A0 H0 A H σ ρ st) (g : SG C mg W A0 H0 (r.out ρ f) DD) : RG C mg W σ H r fun a s H' => SAt C A0 H0 A H' σ ρ s ∧ SG C mg W A0 H0 (f a s) DD := by
  cases r with
  | ok a s => exact fun H' k t => ⟨I.next k t, g⟩
  | ex c s => exact fun a H' m k t => g a A H' σ m (I.next k t)
  | bad => exact g
variable {s0 : Stmt} {ss : List Stmt} {ds ds' : DS S}
theorem psd_of {t : TS} (h : PS X s0 t) (i : ∀ (A0 : Addr → Prop) (H0 : Hp) (A : Addr → Prop) (ρ : En) (st : S) (σ : St) (H : Hp) (DD : Ends), SAt C A0 H0 A H σ ρ st → SG C X.mg W A0 H0 (ds ρ st) DD → t DD σ H) : PSd X C W s0 ds :=
  ps_imp h fun DD σ H ⟨A0, H0, A, ρ, st, I, g⟩ => i A0 H0 A ρ st σ H DD I g
def dNext : DS S := fun ρ s => .nx ρ s
def dSeq (ds ds' : DS S) : DS S := fun ρ s => match ds ρ s with
  | .nx ρ' s' => ds' ρ' s'
  | o => o
theorem SG.nx_done {DD : Ends} (g : SG C mg W A0 H0 (.nx ρ st) DD) (I : SAt C A0 H0 A H σ ρ st) : DD.nx σ H := g A H σ I
theorem pbd_nil : PBd X C W [] (dNext : DS S) := pss_imp pss_nil fun DD σ H ⟨A0, H0, A, ρ, st, I, g⟩ => g A H σ I
theorem SG.seq (g : SG C mg W A0 H0 (dSeq ds ds' ρ st) DD) : SG C mg W A0 H0 (ds ρ st) { DD with nx := cts C mg W ds' DD } := by
  unfold dSeq at g
  cases e : ds ρ st with
  | nx ρ' s' => rw [e] at g; exact fun A H σ I => ⟨A0, H0, A, ρ', s', I, g⟩
  | rt d s' => rw [e] at g; exact g
  | bk ρ' s' => rw [e] at g; exact g
  | ct ρ' s' => rw [e] at g; exact g
  | ex c ρ' s' => rw [e] at g; exact g
  | bad => rw [e] at g; exact g
theorem pbd_cons (h : PSd X C W s0 ds) (h' : PBd X C W ss ds') : PBd X C W (s0 :: ss) (dSeq ds ds') := pss_imp (pss_cons h h') fun DD σ H ⟨A0, H0, A, ρ, st, I, g⟩ => ⟨A0, H0, A, ρ, st, I, g.seq⟩
theorem pbd_one (h : PSd X C W s0 ds) : PBd X C W [s0] ds := pss_one h
theorem psd_pass : PSd X C W (.Pass pos) (dNext : DS S) := psd_of ps_pass fun A0 H0 A ρ st σ H DD I g => g A H σ I
def dBreak : DS S := fun ρ s => .bk ρ s
def dCont : DS S := fun ρ s => .ct ρ s
theorem psd_break : PSd X C W (.Break pos) (dBreak : DS S) := psd_of ps_break fun A0 H0 A ρ st σ H DD I g => g A H σ I
theorem psd_cont : PSd X C W (.Continue pos) (dCont : DS S) := psd_of ps_continue fun A0 H0 A ρ st σ H DD I g => g A H σ I
def dRet (de : DE S) : DS S := fun ρ s => (de ρ s).out ρ fun d s1 => .rt d s1
theorem psd_ret (h : PD X C W e sc de) : PSd X C W (.Return (some e) pos) (dRet de) :=
  psd_of (ps_ret h) fun A0 H0 A ρ st σ H DD I g => ⟨A0, H0, A, ρ, st, I, (g.out I).imp fun d s1 H1 k1 t1 ⟨I1, g1⟩ v dv => g1 H1 v I1.keep t1 (dv.less (I1.sub0 sc))⟩
def dRetN : DS S := fun _ s => .rt .non s
theorem psd_retN : PSd X C W (.Return none pos) (dRetN : DS S) := psd_of ps_retN fun A0 H0 A ρ st σ H DD I g => g H .non I.keep I.at_ .non
def dIfS (dt : DT S) (ds ds' : DS S) : DS S := fun ρ s => (dt ρ s).out ρ fun k s1 => if k = true then ds ρ s1 else ds' ρ s1
theorem psd_if {xs ys : List Stmt} (hc : PTd X C W c dt) (ha : PBd X C W xs ds) (hb : PBd X C W ys ds') : PSd X C W (.If c xs ys pos) (dIfS dt ds ds') :=
  psd_of (ps_if hc ha hb) fun A0 H0 A ρ st σ H DD I g => ⟨A0, H0, A, ρ, st, I, (g.out I).imp fun k s1 H1 k1 t1 ⟨I1, g1⟩ => by
    cases k with
    | true => exact ⟨A0, H0, A, ρ, s1, I1, g1⟩
    | false => exact ⟨A0, H0, A, ρ, s1, I1, g1⟩⟩
def dDrop (de : DE S) : DS S := fun ρ s => (de ρ s).out ρ fun _ s1 => .nx ρ s1
theorem psd_drop (h : PD X C W e sc de) (hs : swapsWith e none pos.line X.env = pure false := by rfl) : PSd X C W (.Expr e pos) (dDrop de) :=
  psd_of (ps_expr h hs) fun A0 H0 A ρ st σ H DD I g => ⟨A0, H0, A, ρ, st, I, (g.out I).imp fun d s1 H1 k1 t1 ⟨I1, g1⟩ v dv => g1 A H1 σ I1⟩

/-! ### assignment -/
def scal : Sl → Bool
  | .val .non => true
  | .val (.bl _) => true
  | .val (.int _) => true
  | .val (.str _) => true
  | .val .deck => true
  | _ => false
def frzs (x : Sl) (sc : List Nat) (ρ : En) : En := if scal x then ρ else frz sc ρ
@[simp] theorem frzs_nil (x : Sl) (ρ : En) : frzs x [] ρ = ρ := by unfold frzs; split <;> simp
/-- a value for a slot: data, or a fresh list -/
def ctv (C : Deck S) (mg : Str → Option Value) (W : WX) (sc : List Nat) (dv : E1 S Sl) : TE := fun σ H Q => ∃ A0 H0 A ρ st, SAt C A0 H0 A H σ ρ st ∧
  RG C mg W σ H (dv ρ st) fun x _ H1 => match x with
    | .val d => ∀ v, Dat C H1 (Amin A σ ρ sc) v d → Q v H1
    | .own ds => ∀ p xs, H1 p = none → Dats C H1 (Amin A σ ρ sc) xs ds → xs.length ≤ sizeLine → Q (.ref p) (upd H1 p (.lst xs))
def PV (X : Cx) (C : Deck S) (W : WX) (e : Expr) (sc : List Nat) (dv : E1 S Sl) : Prop := PE X e (ctv C X.mg W sc dv)
def dV (de : DE S) : E1 S Sl := fun ρ s => (de ρ s).map .val
def dO (dl : DA S) : E1 S Sl := fun ρ s => (dl ρ s).map .own
theorem pv_v (h : PD X C W e sc de) : PV X C W e sc (dV de) := pe_imp h fun σ H Q ⟨A0, H0, A, ρ, st, I, g⟩ => ⟨A0, H0, A, ρ, st, I, g.map⟩
theorem pv_o (h : PF X C W e sc dl) : PV X C W e sc (dO dl) := pe_imp h fun σ H Q ⟨A0, H0, A, ρ, st, I, g⟩ => ⟨A0, H0, A, ρ, st, I, g.map⟩
/-- a value that waits to be stored -/
structure Pend (C : Deck S) (A0 : Addr → Prop) (H0 : Hp) (A : Addr → Prop) (H : Hp) (σ : St) (ρ : En) (v : V) (x : Sl) : Prop where
  sl : SlAt C A0 H0 A H v x
  apart : ∀ ds, x = .own ds → ∀ (j : Nat) es, ρ[j]? = some (some (.own es)) → σ[j]? ≠ some (some v)
theorem SAt.give {v : V} {x : Sl} {i : Nat} (I : SAt C A0 H0 A H σ ρ st) (h : Pend C A0 H0 A H σ ρ v x) : SAt C A0 H0 A H (σ.set i (some v)) (ρ.set i (some x)) st where
  len := by rw [List.length_set, List.length_set]; exact I.len
  sl := fun j y e => by
    by_cases hj : j = i
    · subst hj
      have hl : j < ρ.length := by have := (List.getElem?_eq_some_iff.mp e).1; rwa [List.length_set] at this
      rw [List.getElem?_set_self hl] at e
      cases e
      exact ⟨v, by rw [List.getElem?_set_self (by rw [I.len]; exact hl)], h.sl⟩
    · rw [List.getElem?_set_ne (Ne.symm hj)] at e
      obtain ⟨w, e1, q⟩ := I.sl j y e
      exact ⟨w, by rw [List.getElem?_set_ne (Ne.symm hj)]; exact e1, q⟩
  apart := fun j k ds es n e1 e2 => by
    have ne : ∀ {j : Nat} {ds : List D}, (ρ.set i (some x))[j]? = some (some (Sl.own ds)) → (j = i ∧ x = .own ds ∧ (σ.set i (some v))[j]? = some (some v)) ∨ (j ≠ i ∧ ρ[j]? = some (some (Sl.own ds))) := fun {j ds} e => by
      by_cases hj : j = i
      · subst hj
        have hl : j < ρ.length := by have := (List.getElem?_eq_some_iff.mp e).1; rwa [List.length_set] at this
        rw [List.getElem?_set_self hl] at e
        cases e
        exact .inl ⟨rfl, rfl, List.getElem?_set_self (by rw [I.len]; exact hl)⟩
      · exact .inr ⟨hj, by rwa [List.getElem?_set_ne (Ne.symm hj)] at e⟩
    rcases ne e1 with ⟨j1, x1, q1⟩ | ⟨n1, q1⟩ <;> rcases ne e2 with ⟨j2, x2, q2⟩ | ⟨n2, q2⟩
    · exact absurd (j1.trans j2.symm) n
    · rw [q1, List.getElem?_set_ne (Ne.symm n2)]
      exact fun z => h.apart _ x1 k _ q2 z.symm
    · rw [q2, List.getElem?_set_ne (Ne.symm n1)]
      exact h.apart _ x2 j _ q1
    · rw [List.getElem?_set_ne (Ne.symm n1), List.getElem?_set_ne (Ne.symm n2)]
      exact I.apart j k ds es n q1 q2
  fresh := I.fresh
  sub := I.sub
  lim := I.lim
  dom := I.dom
  keep := I.keep
  at_ := I.at_
/-- a fresh list, known to this frame alone -/
theorem SAt.newOwn {p : Addr} {xs : List V} {ds : List D} (I : SAt C A0 H0 A H σ ρ st) (hp : H p = none) (t : Dats C H A xs ds) :
    SAt C A0 H0 (fun a => A a ∨ a = p) (upd H p (.lst xs)) σ ρ st ∧ Pend C A0 H0 (fun a => A a ∨ a = p) (upd H p (.lst xs)) σ ρ (.ref p) (.own ds) := by
  have nA : ¬ A p := fun z => I.fresh p z hp
  have kp : Keep C.dom H (upd H p (.lst xs)) := Keep.upd hp
  have I1 := I.next kp (at_upd I.at_ hp)
  have h0 : H0 p = none := by
    cases e : H0 p with
    | none => rfl
    | some o =>
      by_cases z : C.dom p
      · exact absurd (I.domA p z) nA
      · have := I.keep p o z e; rw [hp] at this; cases this
  have lift : ∀ {v d}, Dat C H A v d → Dat C (upd H p (.lst xs)) (fun a => A a ∨ a = p) v d := fun h => h.lift kp I.domA fun a ha => ha.imp id fun z => by rw [z]; exact hp
  refine ⟨⟨I.len, fun i x e => ?_, I.apart, fun a ha => ?_, fun a ha => .inl (I.sub a ha), fun a ha => ?_, I.dom, I1.keep, I1.at_⟩, ⟨⟨p, xs, rfl, .inr rfl, h0, fun z => nA (I.sub p z), upd_same, t.len, fun i x d e1 e2 => lift (t.at_ i x d e1 e2)⟩, fun ds _ j es e z => ?_⟩⟩
  · obtain ⟨v, e1, q⟩ := I.sl i x e
    refine ⟨v, e1, ?_⟩
    cases x with
    | val d => exact lift q
    | own es =>
      obtain ⟨a, ys, rfl, h1, h2, h3, h4, h5⟩ := q
      exact ⟨a, ys, rfl, .inl h1, h2, h3, by rw [upd_ne (ne_of_none h4 hp)]; exact h4, h5.len, fun i x d e1 e2 => lift (h5.at_ i x d e1 e2)⟩
  · rcases ha with ha | rfl
    · exact I1.fresh a ha
    · rw [upd_same]; exact fun z => nomatch z
  · rcases ha with ha | rfl
    · exact I.lim a ha
    · exact .inr h0
  · obtain ⟨v, e1, a, ys, rfl, h1, h2, h3, h4, h5⟩ := I.sl j _ e
    rw [e1] at z
    cases z
    rw [hp] at h4; cases h4
theorem SAt.freezes (I : SAt C A0 H0 A H σ ρ st) (x : Sl) (sc : List Nat) {v : V} (hv : ∀ d, x = .val d → Dat C H (Amin A σ ρ sc) v d) : ∃ A', SAt C A0 H0 A' H σ (frzs x sc ρ) st ∧ (∀ a, A' a → A a) ∧ (scal x = false → A' = Amin A σ ρ sc) ∧ ∀ d, x = .val d → Dat C H A' v d := by
  unfold frzs
  by_cases hs : scal x = true
  · rw [if_pos hs]
    refine ⟨A, I, fun _ z => z, (by rw [hs]; exact fun z => nomatch z), fun d e => ?_⟩
    subst e
    have h := hv d rfl
    cases h <;> simp only [scal] at hs <;> first | cases hs | skip
    · exact .non
    · exact .bl _
    · exact .int _
    · exact .str (by assumption)
    · exact .deck
  · rw [if_neg hs]
    exact ⟨_, I.freeze sc, fun _ => Amin.sub, fun _ => rfl, fun d e => hv d e⟩
def dAsg (i : Nat) (sc : List Nat) (dv : E1 S Sl) : DS S := fun ρ s => (dv ρ s).out ρ fun x s1 => .nx ((frzs x sc ρ).set i (some x)) s1
/-- the slot is given what was reckoned -/
theorem ctv_give {i : Nat} {dv : E1 S Sl} {DD : Ends} (I : SAt C A0 H0 A H σ ρ st) (g : SG C mg W A0 H0 (dAsg i sc dv ρ st) DD) : ctv C mg W sc dv σ H fun v H' => DD.nx (σ.set i (some v)) H' :=
  ⟨A0, H0, A, ρ, st, I, (g.out I).imp fun x s1 H1 k1 t1 ⟨I1, g1⟩ => by
    cases x with
    | val d =>
      intro v dv
      obtain ⟨A', I2, _, _, h2⟩ := I1.freezes (.val d) sc (v := v) (fun d' e => by cases e; exact dv)
      exact g1 A' H1 _ (I2.give ⟨h2 d rfl, fun ds e => nomatch e⟩)
    | own ds =>
      intro p xs hp t hz
      obtain ⟨A', I2, _, e2, _⟩ := I1.freezes (.own ds) sc (v := .non) (fun d' e => nomatch e)
      have e2 := e2 rfl
      subst e2
      obtain ⟨I3, P3⟩ := I2.newOwn hp t
      exact g1 _ _ _ (I3.give P3)⟩
theorem psd_asg (i : Nat) {x : Str} {px : Pos} {dv : E1 S Sl} (nd : X.N.Nodup) (he : PV X C W e sc dv) (hi : X.N[i]? = some x := by rfl) (hx : Loc X.env.scope x := by first | exact Or.inl rfl | exact Or.inr rfl) (hf : X.fn x = true ∨ X.env.scope.names.lookup x = some .local := by first | exact .inl rfl | exact .inr rfl | assumption)
    (hs : swapsWithSole [.Name x px] e pos.line X.env = pure false := by rfl) (hw : swappedStores [.Name x px] e X.env = pure none := by rfl) (h1 : (assignEach [.Name x px] X.env).map (·.2) = [assign (.Name x px) X.env] := by rfl) : PSd X C W (.Assign [.Name x px] e pos) (dAsg i sc dv) :=
  psd_of (ps_asg he (pg_name nd hi hx hf) hs hw h1) fun A0 H0 A ρ st σ H DD I g => ctv_give I g
end
end Mir

set_option Elab.async false
set_option linter.all false
set_option maxRecDepth 100000
set_option maxHeartbeats 2000000
namespace Mir
open PySem PySem.Spec L2
open PyProof.Rows hiding St

section
variable {S : Type} {C : Deck S} {X : Cx} {W : WX} {A0 A A' : Addr → Prop} {H0 H H' B : Hp} {σ : St} {ρ : En} {st st' : S}
variable {e a b c tg iter : Expr} {es rest : List Expr} {pos p p2 : Pos} {sc sc' sa sb vs : List Nat} {de da db dc : DE S} {dt dt' du : DT S} {dl : DA S} {ds ds' : DS S} {mg : Str → Option Value} {DD : Ends} {xs ys : List Stmt}
/-! ### targets -/
abbrev DG := D → En → Option En
/-- d given to the target makes g of the slots; gs: the slots that it sets -/
def ctg (C : Deck S) (gs : List Nat) (g : DG) : TG := fun v σ H Q => ∃ A0 H0 A ρ st d ρ', SAt C A0 H0 A H σ ρ st ∧ Dat C H A v d ∧ g d ρ = some ρ' ∧
  ∀ σ', SAt C A0 H0 A H σ' ρ' st → (∀ vs : List Nat, (∀ i ∈ gs, i ∈ vs) → wipe σ' vs = wipe σ vs) → Q σ' H
/-- a target makes no list one's own -/
def NoOwn (g : DG) : Prop := ∀ d ρ ρ', g d ρ = some ρ' → ∀ (i : Nat) ds, ρ'[i]? = some (some (.own ds)) → ρ[i]? = some (some (.own ds))
structure PGd (X : Cx) (C : Deck S) (tg : Expr) (gs : List Nat) (g : DG) : Prop where
  pg : PG X tg (ctg C gs g)
  no : NoOwn g
theorem pg_imp {t t' : TG} (h : PG X tg t) (i : ∀ v σ H Q, t' v σ H Q → t v σ H Q) : PG X tg t' := ⟨fun pins s σ H v u Q I r q => h.run pins s σ H v u Q I r (i v σ H Q q)⟩
def gN (i : Nat) : DG := fun d ρ => some (ρ.set i (some (.val d)))
theorem wipe_set {σ : St} {i : Nat} {x : Option V} : ∀ {vs : List Nat}, i ∈ vs → wipe (σ.set i x) vs = wipe σ vs
  | v :: vs, h => by
    unfold wipe
    by_cases hv : v = i
    · subst hv
      by_cases h2 : v ∈ vs
      · rw [wipe_set h2]
      · have e : ∀ (σ : St) (x : Option V) (vs : List Nat), v ∉ vs → wipe (σ.set v x) vs = (wipe σ vs).set v x := by
          intro σ x vs
          induction vs with
          | nil => intro _; rfl
          | cons w ws ih =>
            intro hn
            simp only [List.mem_cons, not_or] at hn
            unfold wipe
            rw [ih hn.2, List.set_comm _ _ (Ne.symm hn.1).symm]
        rw [e _ _ _ h2, List.set_set]
    · have : i ∈ vs := (List.mem_cons.mp h).resolve_left fun z => hv z.symm
      rw [wipe_set this]
theorem pgd_name (i : Nat) {x : Str} (nd : X.N.Nodup) (hi : X.N[i]? = some x := by rfl) (hx : Loc X.env.scope x := by first | exact Or.inl rfl | exact Or.inr rfl) (hf : X.fn x = true ∨ X.env.scope.names.lookup x = some .local := by first | exact .inl rfl | exact .inr rfl | assumption) : PGd X C (.Name x pos) [i] (gN i) where
  no := fun d ρ ρ' e j ds h => by
    cases e
    by_cases hj : j = i
    · subst hj
      have hl : j < ρ.length := by have := (List.getElem?_eq_some_iff.mp h).1; rwa [List.length_set] at this
      rw [List.getElem?_set_self hl] at h; cases h
    · rwa [List.getElem?_set_ne (Ne.symm hj)] at h
  pg := pg_imp (pg_name nd hi hx hf) fun v σ H Q ⟨A0, H0, A, ρ, st, d, ρ', I, hd, e, k⟩ => by
    cases e
    exact k _ (I.set hd) fun vs hv => wipe_set (hv i (by simp))
/-- targets of a tuple, one after another -/
abbrev DGs := List D → En → Option En
def ctgs (C : Deck S) (gs : List Nat) (g : DGs) : TGs := fun vs σ H Q => ∃ A0 H0 A ρ st ds ρ', SAt C A0 H0 A H σ ρ st ∧ Dats C H A vs ds ∧ g ds ρ = some ρ' ∧
  ∀ σ', SAt C A0 H0 A H σ' ρ' st → (∀ vs : List Nat, (∀ i ∈ gs, i ∈ vs) → wipe σ' vs = wipe σ vs) → Q σ' H
structure PGsd (X : Cx) (C : Deck S) (ts : List Expr) (gs : List Nat) (g : DGs) : Prop where
  pg : PGs X ts (ctgs C gs g)
  no : ∀ ds ρ ρ', g ds ρ = some ρ' → ∀ (i : Nat) es, ρ'[i]? = some (some (.own es)) → ρ[i]? = some (some (.own es))
theorem pgs_imp {ts : List Expr} {t t' : TGs} (h : PGs X ts t) (i : ∀ v σ H Q, t' v σ H Q → t v σ H Q) : PGs X ts t' := ⟨fun pins s σ H v u Q I r q => h.run pins s σ H v u Q I r (i v σ H Q q)⟩
def gsNil : DGs := fun ds ρ => match ds with
  | [] => some ρ
  | _ => none
def gsCons (g : DG) (gs : DGs) : DGs := fun ds ρ => match ds with
  | d :: r => (g d ρ).bind fun ρ1 => gs r ρ1
  | [] => none
theorem pgsd_nil : PGsd X C [] [] gsNil := .mk (no := fun ds ρ ρ' e i es h => by cases ds <;> simp only [gsNil] at e <;> cases e; exact h) (pg := pgs_imp pgs_nil fun vs σ H Q ⟨A0, H0, A, ρ, st, ds, ρ', I, hd, e, k⟩ => by
  cases ds with
  | nil => cases e; exact ⟨hd.unnil, k σ I fun _ _ => rfl⟩
  | cons d r => cases e)
theorem pgsd_cons {t : Expr} {ts : List Expr} {g : DG} {gs : DGs} {l l' : List Nat} (h : PGd X C t l g) (h' : PGsd X C ts l' gs) (hs : (assignEach (t :: ts) X.env).map (·.2) = assign t X.env :: (assignEach ts X.env).map (·.2) := by rfl) : PGsd X C (t :: ts) (l ++ l') (gsCons g gs) where
  no := fun ds ρ ρ' e i es q => by
    cases ds with
    | nil => cases e
    | cons d r =>
      obtain ⟨ρ1, e1, e2⟩ := Option.bind_eq_some_iff.mp e
      exact h.no d ρ ρ1 e1 i es (h'.no r ρ1 ρ' e2 i es q)
  pg := pgs_imp (pgs_cons h.pg h'.pg hs) fun vs σ H Q ⟨A0, H0, A, ρ, st, ds, ρ', I, hd, e, k⟩ => by
    cases ds with
    | nil => cases e
    | cons d r =>
      obtain ⟨ρ1, e1, e2⟩ := Option.bind_eq_some_iff.mp e
      obtain ⟨x, vr, rfl, h1, h2⟩ := hd.uncons
      exact ⟨x, vr, rfl, A0, H0, A, ρ, st, d, ρ1, I, h1, e1, fun σ1 I1 w1 => ⟨A0, H0, A, ρ1, st, r, ρ', I1, h2, e2, fun σ2 I2 w2 => k σ2 I2 fun vs hv =>
        (w2 vs fun i hi => hv i (List.mem_append_right _ hi)).trans (w1 vs fun i hi => hv i (List.mem_append_left _ hi))⟩⟩
def gT (n : Nat) (gs : DGs) : DG := fun d ρ => match d with
  | .tup ds => if ds.length = n then gs ds ρ else none
  | _ => none
theorem pgd_tup {ts : List Expr} {k : Nat} {l : List Nat} {gs : DGs} (n : Nat) (hc : X.calm = true) (h : PGsd X C ts l gs) (hn : (assignEach ts X.env).length = n := by rfl) (hst : (assignEach ts X.env).findIdx? (·.1) = none := by rfl) : PGd X C (.Tuple ts k pos) l (gT n gs) where
  no := fun d ρ ρ' e i es q => by
    cases d <;> simp only [gT] at e <;> try cases e
    split at e
    · exact h.no _ _ _ e i es q
    · cases e
  pg := pg_imp (pg_tup hc h.pg hn hst) fun v σ H Q ⟨A0, H0, A, ρ, st, d, ρ', I, hd, e, k⟩ => by
    cases d <;> simp only [gT] at e <;> try cases e
    rename_i ds
    by_cases hl : ds.length = n
    · rw [if_pos hl] at e
      obtain ⟨p, ys, rfl, na, r, t⟩ := hd.of_tup
      exact ⟨p, ys, rfl, .of r, by rw [t.len, hl], A0, H0, A, ρ, st, ds, ρ', I, t, e, k⟩
    · rw [if_neg hl] at e; cases e
/-- t1, t2 = e -/
def dAsgT (g : DG) (sc : List Nat) (de : DE S) : DS S := fun ρ s => (de ρ s).out ρ fun d s1 => match g d (frz sc ρ) with
  | some ρ' => .nx ρ' s1
  | none => .bad
theorem psd_asgT {g : DG} {l : List Nat} (he : PD X C W e sc de) (hg : PGd X C tg l g) (hs : swapsWithSole [tg] e pos.line X.env = pure false := by rfl) (hw : swappedStores [tg] e X.env = pure none := by rfl) (h1 : (assignEach [tg] X.env).map (·.2) = [assign tg X.env] := by rfl) : PSd X C W (.Assign [tg] e pos) (dAsgT g sc de) :=
  psd_of (ps_asg he hg.pg hs hw h1) fun A0 H0 A ρ st σ H DD I g' => ⟨A0, H0, A, ρ, st, I, (g'.out I).imp fun d s1 H1 k1 t1 ⟨I1, g1⟩ v dv => by
    cases e1 : g d (frz sc ρ) with
    | none => rw [e1] at g1; exact g1.elim
    | some ρ' =>
      rw [e1] at g1
      exact ⟨A0, H0, _, _, s1, d, ρ', I1.freeze sc, dv, e1, fun σ' I' _ => g1 _ _ _ I'⟩⟩
/-- a, b = e1, e2: two names -/
def dPar (i j : Nat) (sa sb : List Nat) (dv dw : E1 S Sl) : DS S := fun ρ s => (dv ρ s).out ρ fun x s1 => (dw (frzs x sa ρ) s1).out (frzs x sa ρ) fun y s2 => .nx (((frzs y sb (frzs x sa ρ)).set i (some x)).set j (some y)) s2
theorem Pend.keep {v : V} {x : Sl} (P : Pend C A0 H0 A H σ ρ v x) (I : SAt C A0 H0 A H σ ρ st) (k : Keep C.dom H H') : Pend C A0 H0 A H' σ ρ v x := by
  refine ⟨?_, P.apart⟩
  have s := P.sl
  cases x with
  | val d => exact Dat.keep s k I.domA
  | own ds =>
    obtain ⟨a, ys, rfl, h1, h2, h3, h4, h5⟩ := s
    exact ⟨a, ys, rfl, h1, h2, h3, k a _ (fun z => h3 (I.dom a z)) h4, h5.keep k I.domA⟩

/-! ### what is walked -/
/-- the iterator J hands out ds, from any heap that has what stood at B outside A -/
structure Yields (C : Deck S) (A : Addr → Prop) (B : Hp) (J : It) (ds : List D) : Prop where
  stop : ∀ H, Keep A B H → J.stop ds.length H
  go : ∀ i H, i < ds.length → Keep A B H → J.go i H
  yld : ∀ i H x H', i < ds.length → Keep A B H → J.yld i H x H' → ∃ d, ds[i]? = some d ∧ Keep C.dom H H' ∧ (∀ s, C.At s H → C.At s H') ∧ ∀ A', (∀ a, A' a → H a ≠ none) → (∀ a, A' a → A a ∨ B a = none) → Dat C H' A' x d
def cti (C : Deck S) (mg : Str → Option Value) (W : WX) (sc : List Nat) (di : DA S) : TI := fun σ H R => ∃ A0 H0 A ρ st, SAt C A0 H0 A H σ ρ st ∧ RG C mg W σ H (di ρ st) fun ds _ H1 => ∀ J, Yields C (Amin A σ ρ sc) H1 J ds → R J H1
def PId (X : Cx) (C : Deck S) (W : WX) (tg iter : Expr) (sc : List Nat) (di : DA S) : Prop := PI X tg iter (cti C X.mg W sc di)
theorem pi_imp {w w' : TI} (h : PI X tg iter w) (i : ∀ σ H R, w' σ H R → w σ H R) : PI X tg iter w' := ⟨fun pins s σ H R I q => h.run pins s σ H R I (i σ H R q)⟩
theorem pid_of {w : TI} {di : DA S} (h : PI X tg iter w) (i : ∀ (A0 : Addr → Prop) (H0 : Hp) (A : Addr → Prop) (ρ : En) (st : S) (σ : St) (H : Hp) (R : It → Hp → Prop), SAt C A0 H0 A H σ ρ st →
    RG C X.mg W σ H (di ρ st) (fun ds _ H1 => ∀ J, Yields C (Amin A σ ρ sc) H1 J ds → R J H1) → w σ H R) : PId X C W tg iter sc di := pi_imp h fun σ H R ⟨A0, H0, A, ρ, st, I, g⟩ => i A0 H0 A ρ st σ H R I g
/-- data of the base, at a later heap -/
theorem Dat.later {v : V} {d : D} (h : Dat C B A v d) (k : Keep A B H) (hA : ∀ a, A' a → A a ∨ B a = none) : Dat C H A' v d := h.lift k (fun _ z => z) hA
theorem y_list {K : PySem.W.Frag} {p : Addr} {vs : List V} {ds : List D} (n : ¬ A p) (r : B p = some (.lst vs)) (t : Dats C B A vs ds) : Yields C A B (Itl K p) ds where
  stop := fun H k => ⟨vs, .of (k p _ n r), by rw [t.len]; exact Nat.le_refl _⟩
  go := fun i H hi k => ⟨vs, vs[i]'(by rw [t.len]; exact hi), .of (k p _ n r), List.getElem?_eq_getElem _⟩
  yld := fun i H x H' hi k y => by
    obtain ⟨rfl, y⟩ := y
    have e := y vs (.of (k p _ n r))
    exact ⟨ds[i], List.getElem?_eq_getElem hi, Keep.refl, fun _ z => z, fun A' _ hA => (t.at_ i x _ e (List.getElem?_eq_getElem hi)).later k hA⟩
theorem y_tup {K : PySem.W.Frag} {p : Addr} {vs : List V} {ds : List D} (n : ¬ A p) (r : B p = some (.tup vs)) (t : Dats C B A vs ds) : Yields C A B (Itt K p) ds where
  stop := fun H k => ⟨vs, .of (k p _ n r), by rw [t.len]; exact Nat.le_refl _⟩
  go := fun i H hi k => ⟨vs, vs[i]'(by rw [t.len]; exact hi), .of (k p _ n r), List.getElem?_eq_getElem _⟩
  yld := fun i H x H' hi k y => by
    obtain ⟨rfl, y⟩ := y
    have e := y vs (.of (k p _ n r))
    exact ⟨ds[i], List.getElem?_eq_getElem hi, Keep.refl, fun _ z => z, fun A' _ hA => (t.at_ i x _ e (List.getElem?_eq_getElem hi)).later k hA⟩
theorem y_str {l : List Nat} (o : SOk l) : Yields C A B (Its (mkS l)) (l.map fun c => .str [c]) where
  stop := fun H k => by show (mkS l).cps.size ≤ _; simp
  go := fun i H hi k => by show _ < (mkS l).cps.size; simpa using hi
  yld := fun i H x H' hi k y => by
    obtain ⟨rfl, c, e, rfl⟩ := y
    have e' : l[i]? = some c := by simpa using e
    exact ⟨.str [c], by rw [List.getElem?_map, e']; rfl, Keep.refl, fun _ z => z, fun A' _ hA => .str ⟨by simp, fun z hz => by simp at hz; subst hz; exact o.2 _ (List.mem_of_getElem? e')⟩⟩
/-- lo, lo + 1, .. -/
def rngD (lo : Int) (n : Nat) : List D := (List.range n).map fun (k : Nat) => .int (lo + (k : Int))
theorem rngD_len (lo : Int) (n : Nat) : (rngD lo n).length = n := by simp [rngD]
theorem y_rng {lo : Int} {n : Nat} : Yields C A B (Itr lo n) (rngD lo n) where
  stop := fun H k => by show n ≤ _; rw [rngD_len]; exact Nat.le_refl _
  go := fun i H hi k => by show _ < n; rwa [rngD_len] at hi
  yld := fun i H x H' hi k y => by
    obtain ⟨rfl, rfl⟩ := y
    rw [rngD_len] at hi
    exact ⟨.int (lo + i), by simp [rngD, List.getElem?_range hi], Keep.refl, fun _ z => z, fun A' _ hA => .int _⟩
/-- a list, a tuple, a text by what it is -/
def walkD : D → Option (List D)
  | .lst ds => some ds
  | .tup ds => some ds
  | .str l => some (l.map fun c => .str [c])
  | _ => none
def dWalk (de : DE S) (f : D → Option (List D)) : DA S := fun ρ s => (de ρ s).bind fun d s1 => ofO s1 (f d)
def wL : D → Option (List D)
  | .lst ds => some ds
  | _ => none
def wT : D → Option (List D)
  | .tup ds => some ds
  | _ => none
def wS : D → Option (List D)
  | .str l => some (l.map fun c => .str [c])
  | _ => none
theorem pid_list (h : PD X C W iter sc de) : PId X C W tg iter sc (dWalk de wL) :=
  pid_of (pi_list h) fun A0 H0 A ρ st σ H R I g => ⟨A0, H0, A, ρ, st, I, g.bind.imp fun d s1 H1 k1 t1 g1 v dv => by
    obtain ⟨ds, e, q⟩ := g1.ofO
    cases d <;> simp only [wL] at e <;> cases e
    obtain ⟨p, xs, rfl, n, r, t⟩ := dv.of_lst
    exact ⟨p, rfl, ⟨xs, .of r⟩, q H1 Keep.refl t1 _ (y_list n r t)⟩⟩
theorem pid_tup (h : PD X C W iter sc de) : PId X C W tg iter sc (dWalk de wT) :=
  pid_of (pi_tup h) fun A0 H0 A ρ st σ H R I g => ⟨A0, H0, A, ρ, st, I, g.bind.imp fun d s1 H1 k1 t1 g1 v dv => by
    obtain ⟨ds, e, q⟩ := g1.ofO
    cases d <;> simp only [wT] at e <;> cases e
    obtain ⟨p, xs, rfl, n, r, t⟩ := dv.of_tup
    exact ⟨p, rfl, ⟨xs, .of r⟩, q H1 Keep.refl t1 _ (y_tup n r t)⟩⟩
theorem pid_str (h : PD X C W iter sc de) : PId X C W tg iter sc (dWalk de wS) :=
  pid_of (pi_str h) fun A0 H0 A ρ st σ H R I g => ⟨A0, H0, A, ρ, st, I, g.bind.imp fun d s1 H1 k1 t1 g1 v dv => by
    obtain ⟨ds, e, q⟩ := g1.ofO
    cases d <;> simp only [wS] at e <;> cases e
    cases dv with
    | str o => exact ⟨_, rfl, q H1 Keep.refl t1 _ (y_str o)⟩⟩
/-- whichever it is -/
theorem PId.or {di di' : DA S} (h : PId X C W tg iter sc di) (h' : PId X C W tg iter sc di') {dj : DA S} (k : ∀ ρ s, dj ρ s = di ρ s ∨ dj ρ s = di' ρ s) : PId X C W tg iter sc dj :=
  ⟨fun pins s σ H R I ⟨A0, H0, A, ρ, st, J, g⟩ => by
    rcases k ρ st with e | e
    · rw [e] at g; exact h.run pins s σ H R I ⟨A0, H0, A, ρ, st, J, g⟩
    · rw [e] at g; exact h'.run pins s σ H R I ⟨A0, H0, A, ρ, st, J, g⟩⟩
theorem pid_any (h : PD X C W iter sc de) : PId X C W tg iter sc (dWalk de walkD) := by
  have key : ∀ ρ s, dWalk de walkD ρ s = dWalk de wL ρ s ∨ dWalk de walkD ρ s = dWalk de wT ρ s ∨ dWalk de walkD ρ s = dWalk de wS ρ s := fun ρ s => by
    unfold dWalk
    cases e : de ρ s with
    | bad => exact .inl rfl
    | ex c s1 => exact .inl rfl
    | ok d s1 => cases d <;> first | exact .inl rfl | exact .inr (.inl rfl) | exact .inr (.inr rfl)
  exact ⟨fun pins s σ H R I ⟨A0, H0, A, ρ, st, J, g⟩ => by
    rcases key ρ st with e | e | e <;> rw [e] at g
    · exact (pid_list h).run pins s σ H R I ⟨A0, H0, A, ρ, st, J, g⟩
    · exact (pid_tup h).run pins s σ H R I ⟨A0, H0, A, ρ, st, J, g⟩
    · exact (pid_str h).run pins s σ H R I ⟨A0, H0, A, ρ, st, J, g⟩⟩
def big : Int := 1048576
def rng1 : List D → Option (List D)
  | [.int j] => if j ≤ 65536 ∧ -65536 ≤ j then some (rngD 0 j.toNat) else none
  | _ => none
def rng2 : List D → Option (List D)
  | [.int i, .int j] => if j ≤ 65536 ∧ -65536 ≤ j ∧ i ≤ 65536 ∧ -65536 ≤ i then some (rngD i (j - i).toNat) else none
  | _ => none
def dRng (f : List D → Option (List D)) (dl : DA S) : DA S := fun ρ s => (dl ρ s).bind fun ds s1 => ofO s1 (f ds)
theorem pid_rng1 (hm : X.mg "range" = none) (ha : PAd X C W [a] sc dl) (hg : Gl X "range" := by rfl) (hs : starEach [a] X.env = [(false, eval a X.env)] := by rfl) : PId X C W tg (.Call (.Name "range" p) [a] [] pos) [] (dRng rng1 dl) :=
  pid_of (pi_range1 hg hm ha hs) fun A0 H0 A ρ st σ H R I g => ⟨A0, H0, A, ρ, st, I, g.bind.imp fun ds s1 H1 k1 t1 g1 vs dvs => by
    obtain ⟨l, e, q⟩ := g1.ofO
    match ds, e with
    | [.int j], e =>
      simp only [rng1] at e
      by_cases z : j ≤ 65536 ∧ -65536 ≤ j
      · rw [if_pos z] at e
        cases e
        obtain ⟨x, rfl, hx⟩ := dvs.one
        cases hx
        exact ⟨j, rfl, by omega, by omega, q H1 Keep.refl t1 _ y_rng⟩
      · rw [if_neg z] at e; cases e⟩
theorem pid_rng2 (hm : X.mg "range" = none) (ha : PAd X C W [a, b] sc dl) (hg : Gl X "range" := by rfl) (hs : starEach [a, b] X.env = [(false, eval a X.env), (false, eval b X.env)] := by rfl) (hs2 : starEach [b] X.env = [(false, eval b X.env)] := by rfl) : PId X C W tg (.Call (.Name "range" p) [a, b] [] pos) [] (dRng rng2 dl) :=
  pid_of (pi_range2 hg hm ha hs hs2) fun A0 H0 A ρ st σ H R I g => ⟨A0, H0, A, ρ, st, I, g.bind.imp fun ds s1 H1 k1 t1 g1 vs dvs => by
    obtain ⟨l, e, q⟩ := g1.ofO
    match ds, e with
    | [.int i, .int j], e =>
      simp only [rng2] at e
      by_cases z : j ≤ 65536 ∧ -65536 ≤ j ∧ i ≤ 65536 ∧ -65536 ≤ i
      · rw [if_pos z] at e
        cases e
        obtain ⟨x, y, rfl, hx, hy⟩ := dvs.two
        cases hx
        cases hy
        exact ⟨i, j, rfl, ⟨by omega, by omega, by omega, by omega⟩, q H1 Keep.refl t1 _ y_rng⟩
      · rw [if_neg z] at e; cases e⟩

/-! ### for -/
/-- the base of a loop: what stood ahead of it, without what this frame alone knows -/
noncomputable def reb (A0 A : Addr → Prop) (H : Hp) : Hp := open Classical in fun a => if A a ∧ ¬ A0 a then none else H a
theorem reb_some {a : Addr} {o : HO} (h : reb A0 A H a = some o) : H a = some o ∧ (A a → A0 a) := by
  unfold reb at h
  split at h
  · cases h
  · rename_i n
    exact ⟨h, fun z => Classical.byContradiction fun w => n ⟨z, w⟩⟩
theorem reb_none {a : Addr} (h : reb A0 A H a = none) : (A a ∧ ¬ A0 a) ∨ H a = none := by
  unfold reb at h
  split at h
  · rename_i n; exact .inl n
  · exact .inr h
theorem SAt.rebase (I : SAt C A0 H0 A H σ ρ st) : SAt C A0 (reb A0 A H) A H σ ρ st where
  len := I.len
  sl := fun i x e => by
    obtain ⟨v, e1, q⟩ := I.sl i x e
    refine ⟨v, e1, ?_⟩
    cases x with
    | val d => exact q
    | own ds =>
      obtain ⟨a, ys, rfl, h1, h2, h3, h4, h5⟩ := q
      exact ⟨a, ys, rfl, h1, by unfold reb; rw [if_pos ⟨h1, h3⟩], h3, h4, h5⟩
  apart := I.apart
  fresh := I.fresh
  sub := I.sub
  lim := fun a ha => by
    by_cases z : A0 a
    · exact .inl z
    · exact .inr (by unfold reb; rw [if_pos ⟨ha, z⟩])
  dom := I.dom
  keep := fun a o _ h => (reb_some h).1
  at_ := I.at_
theorem reb_base (I : SAt C A0 H0 A B σ ρ st) {a : Addr} (h : reb A0 A B a = none) (n : ¬ C.dom a) : H0 a = none := by
  cases e : H0 a with
  | none => rfl
  | some o =>
    have q := I.keep a o n e
    rcases reb_none h with ⟨h1, h2⟩ | h1
    · rcases I.lim a h1 with z | z
      · exact absurd z h2
      · rw [z] at e; cases e
    · rw [h1] at q; cases q
theorem SAt.unbase {σ' : St} {ρ' : En} (I : SAt C A0 H0 A B σ ρ st) (J : SAt C A0 (reb A0 A B) A' H σ' ρ' st') : SAt C A0 H0 A' H σ' ρ' st' where
  len := J.len
  sl := fun i x e => by
    obtain ⟨v, e1, q⟩ := J.sl i x e
    refine ⟨v, e1, ?_⟩
    cases x with
    | val d => exact q
    | own ds =>
      obtain ⟨a, ys, rfl, h1, h2, h3, h4, h5⟩ := q
      exact ⟨a, ys, rfl, h1, reb_base I h2 fun z => h3 (I.dom a z), h3, h4, h5⟩
  apart := J.apart
  fresh := J.fresh
  sub := J.sub
  lim := fun a ha => by
    by_cases z : A0 a
    · exact .inl z
    · rcases J.lim a ha with h | h
      · exact .inl h
      · exact .inr (reb_base I h fun w => z (I.dom a w))
  dom := J.dom
  keep := fun a o n h => by
    have q := I.keep a o n h
    refine J.keep a o n ?_
    cases e : reb A0 A B a with
    | some u => have := (reb_some e).1; rw [q] at this; rw [this]
    | none => rw [reb_base I e n] at h; cases h
  at_ := J.at_
theorem SG.rebase {o : Out S} (I : SAt C A0 H0 A B σ ρ st) (g : SG C mg W A0 H0 o DD) : SG C mg W A0 (reb A0 A B) o DD := by
  have kk : ∀ {H : Hp}, Keep C.dom (reb A0 A B) H → Keep C.dom H0 H := fun {H} k a o n h => by
    have q := I.keep a o n h
    refine k a o n ?_
    cases e : reb A0 A B a with
    | some u => have := (reb_some e).1; rw [q] at this; rw [this]
    | none => rw [reb_base I e n] at h; cases h
  cases o with
  | nx ρ s => exact fun A' H σ J => g A' H σ (I.unbase J)
  | rt d s => exact fun H v k t h => g H v (kk k) t h
  | bk ρ s => exact fun A' H σ J => g A' H σ (I.unbase J)
  | ct ρ s => exact fun A' H σ J => g A' H σ (I.unbase J)
  | ex c ρ s => exact fun a A' H σ m J => g a A' H σ m (I.unbase J)
  | bad => exact g
def forL (g : DG) (ds : DS S) : List D → En → S → Out S
  | [], ρ, s => .nx ρ s
  | d :: r, ρ, s => match g d ρ with
    | none => .bad
    | some ρ1 => match ds ρ1 s with
      | .nx ρ' s' => forL g ds r ρ' s'
      | .ct ρ' s' => forL g ds r ρ' s'
      | .bk ρ' s' => .nx ρ' s'
      | o => o
def dFor (g : DG) (sc : List Nat) (di : DA S) (ds : DS S) : DS S := fun ρ s => (di ρ s).out ρ fun l s1 => forL g ds l (frz sc ρ) s1
/-- what the base keeps -/
theorem SAt.kept (J : SAt C A0 (reb A0 A B) A' H σ ρ st) (hd : ∀ a, C.dom a → A a) : Keep A B H := fun a o n h => by
  refine J.keep a o (fun z => n (hd a z)) ?_
  unfold reb
  rw [if_neg fun z => n z.1]; exact h
theorem SAt.lims (J : SAt C A0 (reb A0 A B) A' H σ ρ st) (hs : ∀ a, A0 a → A a) : ∀ a, A' a → A a ∨ B a = none := fun a ha => by
  rcases J.lim a ha with z | z
  · exact .inl (hs a z)
  · exact (reb_none z).imp (·.1) id
theorem psd_for {g : DG} {l : List Nat} {di : DA S} (hp : PassesOwn (model X.prog X.w) X.A X.env X.xe) (hc : X.calm = true) (hi : PId X C W tg iter sc di) (hg : PGd X C tg l g) (hb : PBd X C W xs ds) (hs : ∀ x, foldedSetIterable iter X.env x = pure x := by intro _; rfl) : PSd X C W (.For tg iter xs [] pos) (dFor g sc di ds) :=
  psd_of (ps_for hp hc hi hg.pg hb hs) fun A0 H0 A ρ st σ H DD I gg => ⟨A0, H0, A, ρ, st, I, (gg.out I).imp fun ds' s1 H1 k1 t1 ⟨I1, g1⟩ J Y => by
    have I2 := I1.freeze sc
    have I3 := I2.rebase
    have g3 := SG.rebase I2 g1
    refine ⟨fun i m σ' H' => m = ds'.length - i ∧ i ≤ ds'.length ∧ ∃ A' ρ' s', SAt C A0 (reb A0 (Amin A σ ρ sc) H1) A' H' σ' ρ' s' ∧ SG C X.mg W A0 (reb A0 (Amin A σ ρ sc) H1) (forL g ds (ds'.drop i) ρ' s') DD, ⟨ds'.length, by simp, Nat.zero_le _, _, _, _, I3, by simpa using g3⟩, ?_⟩
    rintro i m σ' H' ⟨rfl, hi, A', ρ', s', I', g'⟩
    have kB : Keep (Amin A σ ρ sc) H1 H' := I'.kept I2.domA
    by_cases hlt : i < ds'.length
    · refine .inr ⟨Y.go i H' hlt kB, fun σ'' H'' => ∃ A'' ρ'' s'', SAt C A0 (reb A0 (Amin A σ ρ sc) H1) A'' H'' σ'' ρ'' s'' ∧ SG C X.mg W A0 (reb A0 (Amin A σ ρ sc) H1) (forL g ds (ds'.drop (i + 1)) ρ'' s'') DD,
        fun σ'' H'' z => ⟨ds'.length - (i + 1), by omega, rfl, hlt, z⟩, fun x H'' y => ?_⟩
      obtain ⟨d, ed, k'', a'', hD⟩ := Y.yld i H' x H'' hlt kB y
      have I'' := I'.next k'' (a'' _ I'.at_)
      have dx := hD A' I'.fresh (I'.lims I2.sub)
      have ed' : ds'.drop i = d :: ds'.drop (i + 1) := by
        rw [List.drop_eq_getElem_cons hlt]
        congr 1
        rw [List.getElem?_eq_getElem hlt] at ed
        exact Option.some.inj ed
      rw [ed'] at g'
      unfold forL at g'
      cases eg : g d ρ' with
      | none => rw [eg] at g'; exact g'.elim
      | some ρ1 =>
        rw [eg] at g'
        dsimp only at g'
        refine ⟨A0, _, A', ρ', s', d, ρ1, I'', dx, eg, fun σ1 I1' _ => ⟨A0, _, A', ρ1, s', I1', ?_⟩⟩
        cases eo : ds ρ1 s' with
        | nx ρ2 s2 => rw [eo] at g'; exact fun A2 H2 σ2 J2 => ⟨A2, ρ2, s2, J2, g'⟩
        | ct ρ2 s2 => rw [eo] at g'; exact fun A2 H2 σ2 J2 => ⟨A2, ρ2, s2, J2, g'⟩
        | bk ρ2 s2 => rw [eo] at g'; exact g'
        | rt d2 s2 => rw [eo] at g'; exact g'
        | ex c2 ρ2 s2 => rw [eo] at g'; exact g'
        | bad => rw [eo] at g'; exact g'
    · have e : i = ds'.length := by omega
      subst e
      rw [List.drop_length] at g'
      exact .inl ⟨Y.stop H' kB, g' A' H' σ' I'⟩⟩
/-! ### while -/
def whileN (dt : DT S) (ds : DS S) : Nat → En → S → Out S
  | 0, _, _ => .bad
  | n + 1, ρ, s => (dt ρ s).out ρ fun k s1 => if k = true then match ds ρ s1 with
      | .nx ρ' s' => whileN dt ds n ρ' s'
      | .ct ρ' s' => whileN dt ds n ρ' s'
      | .bk ρ' s' => .nx ρ' s'
      | o => o
    else .nx ρ s1
def dWhile (n : Nat) (dt : DT S) (ds : DS S) : DS S := whileN dt ds n
theorem psd_while (n : Nat) (hp : PassesOwn (model X.prog X.w) X.A X.env X.xe) (hc : PTd X C W c dt) (hb : PBd X C W xs ds) : PSd X C W (.While c xs [] pos) (dWhile n dt ds) :=
  psd_of (ps_while hp hc hb) fun A0 H0 A ρ st σ H DD I gg => by
    refine ⟨fun m σ' H' => ∃ A' ρ' s', SAt C A0 H0 A' H' σ' ρ' s' ∧ SG C X.mg W A0 H0 (whileN dt ds m ρ' s') DD, ⟨n, A, ρ, st, I, gg⟩, ?_⟩
    rintro m σ' H' ⟨A', ρ', s', I', g'⟩
    cases m with
    | zero => exact g'.elim
    | succ m =>
      unfold whileN at g'
      refine ⟨A0, H0, A', ρ', s', I', (g'.out I').imp fun k s1 H1 k1 t1 ⟨I1, g1⟩ => ?_⟩
      cases k with
      | false => exact g1 A' H1 σ' I1
      | true =>
        simp only [if_true] at g1 ⊢
        refine ⟨fun σ2 H2 => ∃ A2 ρ2 s2, SAt C A0 H0 A2 H2 σ2 ρ2 s2 ∧ SG C X.mg W A0 H0 (whileN dt ds m ρ2 s2) DD, fun σ2 H2 z => ⟨m, Nat.lt_succ_self _, z⟩, A0, H0, A', ρ', s1, I1, ?_⟩
        cases eo : ds ρ' s1 with
        | nx ρ2 s2 => rw [eo] at g1; exact fun A2 H2 σ2 J2 => ⟨A2, ρ2, s2, J2, g1⟩
        | ct ρ2 s2 => rw [eo] at g1; exact fun A2 H2 σ2 J2 => ⟨A2, ρ2, s2, J2, g1⟩
        | bk ρ2 s2 => rw [eo] at g1; exact g1
        | rt d2 s2 => rw [eo] at g1; exact g1
        | ex c2 ρ2 s2 => rw [eo] at g1; exact g1
        | bad => rw [eo] at g1; exact g1
end
end Mir

set_option Elab.async false
set_option linter.all false
set_option maxRecDepth 100000
set_option maxHeartbeats 2000000
namespace Mir
open PySem PySem.Spec L2
open PyProof.Rows hiding St

section
variable {S : Type} {C : Deck S} {X : Cx} {W : WX} {A0 A A' : Addr → Prop} {H0 H H' B : Hp} {σ : St} {ρ : En} {st st' : S}
variable {e a b c tg iter elt tg1 iter1 : Expr} {es rest ifs ifs1 : List Expr} {pos p p2 : Pos} {sc sc' sa sb vs : List Nat} {de da db dc : DE S} {dt dt' du : DT S} {dl di dj : DA S} {ds ds' : DS S} {mg : Str → Option Value} {DD : Ends} {xs ys : List Stmt}
/-! ### comprehensions -/
def wipeE (ρ : En) : List Nat → En
  | [] => ρ
  | v :: vs => (wipeE ρ vs).set v none
theorem SAt.wipe1 {i : Nat} (I : SAt C A0 H0 A H σ ρ st) : SAt C A0 H0 A H (σ.set i none) (ρ.set i none) st where
  len := by rw [List.length_set, List.length_set]; exact I.len
  sl := fun j x e => by
    by_cases hj : j = i
    · subst hj
      have hl : j < ρ.length := by have := (List.getElem?_eq_some_iff.mp e).1; rwa [List.length_set] at this
      rw [List.getElem?_set_self hl] at e; cases e
    · rw [List.getElem?_set_ne (Ne.symm hj)] at e ⊢
      exact I.sl j x e
  apart := fun j k ds es n e1 e2 => by
    have ne : ∀ {j : Nat} {ds : List D}, (ρ.set i none)[j]? = some (some (Sl.own ds)) → j ≠ i ∧ ρ[j]? = some (some (Sl.own ds)) := fun {j ds} e => by
      by_cases hj : j = i
      · subst hj
        have hl : j < ρ.length := by have := (List.getElem?_eq_some_iff.mp e).1; rwa [List.length_set] at this
        rw [List.getElem?_set_self hl] at e; cases e
      · exact ⟨hj, by rwa [List.getElem?_set_ne (Ne.symm hj)] at e⟩
    obtain ⟨n1, q1⟩ := ne e1
    obtain ⟨n2, q2⟩ := ne e2
    rw [List.getElem?_set_ne (Ne.symm n1), List.getElem?_set_ne (Ne.symm n2)]
    exact I.apart j k ds es n q1 q2
  fresh := I.fresh
  sub := I.sub
  lim := I.lim
  dom := I.dom
  keep := I.keep
  at_ := I.at_
theorem SAt.wipe (I : SAt C A0 H0 A H σ ρ st) : ∀ vs : List Nat, SAt C A0 H0 A H (L2.wipe σ vs) (wipeE ρ vs) st
  | [] => I
  | v :: vs => (I.wipe vs).wipe1
/-- a new list that grows beside the slots -/
theorem SAt.beside {p : Addr} {vs : List V} (I : SAt C A0 H0 A H σ ρ st) (hp : H p = none) : SAt C A0 H0 (fun a => A a ∨ a = p) (upd H p (.lst vs)) σ ρ st :=
  (I.newOwn (p := p) (xs := []) (ds := []) hp Dats.nil).1 |> fun J => ⟨J.len, fun i x e => by
    obtain ⟨v, e1, q⟩ := J.sl i x e
    refine ⟨v, e1, ?_⟩
    have w : ∀ a, ¬ (A a ∨ a = p) → upd H p (.lst vs) a = upd H p (.lst []) a := fun a n => by rw [upd_ne fun z => n (.inr z), upd_ne fun z => n (.inr z)]
    cases x with
    | val d => exact Dat.write q w
    | own es =>
      obtain ⟨a, ys, rfl, h1, h2, h3, h4, h5⟩ := q
      have ne : a ≠ p := fun z => by
        obtain ⟨v0, e0, a0, ys0, e3, g1, g2, g3, g4, g5⟩ := I.sl i _ e
        rw [e1] at e0
        cases e0
        cases e3
        rw [z, hp] at g4; cases g4
      exact ⟨a, ys, rfl, h1, h2, h3, by rw [upd_ne ne] at h4 ⊢; exact h4, h5.write w⟩, J.apart, fun a ha => by
        by_cases z : a = p
        · subst z; rw [upd_same]; exact fun z => nomatch z
        · have := J.fresh a ha; rw [upd_ne z] at this ⊢; exact this, J.sub, J.lim, J.dom, fun a o n h => by
        have q := I.keep a o n h
        rw [upd_ne (ne_of_none q hp)]; exact q, at_upd I.at_ hp⟩
theorem SAt.grow {p : Addr} {vs ws : List V} (J : SAt C A0 H0 A H σ ρ st) (hp : H p = some (.lst vs)) (pA : A p) (n0 : ¬ A0 p) (h0 : H0 p = none) (ap : ∀ (i : Nat) ds, ρ[i]? = some (some (.own ds)) → σ[i]? ≠ some (some (.ref p))) : SAt C A0 H0 A (upd H p (.lst ws)) σ ρ st where
  len := J.len
  sl := fun i x e => by
    obtain ⟨v, e1, q⟩ := J.sl i x e
    refine ⟨v, e1, ?_⟩
    have w : ∀ a, ¬ A a → upd H p (.lst ws) a = H a := fun a n => upd_ne fun z => n (z ▸ pA)
    cases x with
    | val d => exact Dat.write q w
    | own es =>
      obtain ⟨a, ys, rfl, h1, h2, h3, h4, h5⟩ := q
      have ne : a ≠ p := fun z => ap i es e (by rw [e1, z])
      exact ⟨a, ys, rfl, h1, h2, h3, by rw [upd_ne ne]; exact h4, h5.write w⟩
  apart := J.apart
  fresh := fun a ha => by
    by_cases z : a = p
    · subst z; rw [upd_same]; exact fun z => nomatch z
    · rw [upd_ne z]; exact J.fresh a ha
  sub := J.sub
  lim := J.lim
  dom := J.dom
  keep := fun a o n h => by
    rw [upd_ne (ne_of_none h h0)]; exact J.keep a o n h
  at_ := C.stab _ _ _ J.at_ fun a ha => upd_ne fun z => n0 (z ▸ J.dom a ha)

/-- an outcome that is no error -/
def nox {α : Type} : R S α → R S α
  | .ok a s => .ok a s
  | _ => .bad
def lcL (g : DG) (dt : DT S) (de : DE S) : List D → En → S → R S (List D)
  | [], _, s => .ok [] s
  | d :: r, ρ, s => match g d ρ with
    | none => .bad
    | some ρ1 => (dt ρ1 s).bind fun k s1 => if k = true then (de ρ1 s1).bind fun x s2 => (lcL g dt de r ρ s2).bind fun xs s3 => .ok (x :: xs) s3 else lcL g dt de r ρ s1
def dLc (g : DG) (vs sc : List Nat) (di : DA S) (dt : DT S) (de : DE S) : DA S := fun ρ s => (di ρ s).bind fun l s1 => if l.length ≤ 65536 then nox (lcL g dt de l (wipeE (frz sc ρ) vs) s1) else .bad
/-- tests of a clause -/
def PTsd (X : Cx) (C : Deck S) (W : WX) (ifs : List Expr) (dt : DT S) : Prop := PTs X ifs (ctt C X.mg W dt)
def dYes : DT S := fun _ s => .ok true s
theorem ptsd_nil : PTsd X C W [] (dYes : DT S) := ⟨fun pins s σ H Q I ⟨A0, H0, A, ρ, st, J, g⟩ => (pts_nil (X := X)).run pins s σ H Q I (g.done J.at_)⟩
theorem ptsd_one (h : PTd X C W c dt) : PTsd X C W [c] dt := pts_one h
abbrev W0 : WX := fun _ _ _ _ => False
theorem RG.nox {α : Type} {r : R S α} {P : α → S → Hp → Prop} (h : RG C mg W σ H (nox r) P) : ∃ a s, r = .ok a s ∧ ∀ H', Keep C.dom H H' → C.At s H' → P a s H' := by
  cases r with
  | ok a s => exact ⟨a, s, rfl, h⟩
  | ex c s => exact h.elim
  | bad => exact h.elim
theorem bind_ok_iff {α β : Type} {r : R S α} {f : α → S → R S β} {b : β} {s : S} (h : r.bind f = .ok b s) : ∃ a s1, r = .ok a s1 ∧ f a s1 = .ok b s := by
  cases r with
  | ok a s1 => exact ⟨a, s1, rfl, h⟩
  | ex c s => cases h
  | bad => cases h
/-- the list that is made so far -/
structure Made (C : Deck S) (A : Addr → Prop) (H : Hp) (p : Addr) (acc : List D) (n : Nat) : Prop where
  ex : ∃ vs, H p = some (.lst vs) ∧ Dats C H A vs acc ∧ vs.length ≤ n
theorem dats_snoc {vs : List V} {acc : List D} {v : V} {d : D} (t : Dats C H A vs acc) (h : Dat C H A v d) : Dats C H A (vs ++ [v]) (acc ++ [d]) := t.append (.cons h .nil)
theorem Yields.more {J : It} {ds : List D} (Y : Yields C A B J ds) (h : ∀ a, A' a → A a) : Yields C A' B J ds where
  stop := fun H k => Y.stop H fun a o n e => k a o (fun z => n (h a z)) e
  go := fun i H hi k => Y.go i H hi fun a o n e => k a o (fun z => n (h a z)) e
  yld := fun i H x H' hi k y => by
    obtain ⟨d, e, k1, k2, k3⟩ := Y.yld i H x H' hi (fun a o n e => k a o (fun z => n (h a z)) e) y
    exact ⟨d, e, k1, k2, fun A2 h1 h2 => k3 A2 h1 fun a ha => (h2 a ha).imp (h a) id⟩
theorem wipe_idem (σ : St) (vs : List Nat) : L2.wipe (L2.wipe σ vs) vs = L2.wipe σ vs := by
  have key : ∀ (ws : List Nat), (∀ i ∈ ws, i ∈ vs) → L2.wipe (L2.wipe σ vs) ws = L2.wipe σ vs := by
    intro ws
    induction ws with
    | nil => intro _; rfl
    | cons w ws ih =>
      intro h
      show (L2.wipe (L2.wipe σ vs) ws).set w none = _
      rw [ih fun i hi => h i (List.mem_cons_of_mem _ hi)]
      refine List.ext_getElem? fun j => ?_
      by_cases hj : w = j
      · subst hj
        by_cases hl : w < (L2.wipe σ vs).length
        · rw [List.getElem?_set_self hl]
          cases q : (L2.wipe σ vs)[w]? with
          | none => rw [List.getElem?_eq_none_iff] at q; omega
          | some x => cases x with
            | none => rfl
            | some v => exact absurd (h w (by simp)) (wipe_some q).2
        · rw [List.getElem?_eq_none (by simpa using hl), List.getElem?_eq_none (by simpa using hl)]
      · rw [List.getElem?_set_ne hj]
  exact key vs fun _ h => h
/-- a heap without what stands at p -/
noncomputable def cutAt (H : Hp) (p : Addr) : Hp := open Classical in fun a => if a = p then none else H a
theorem cut_upd {p : Addr} {o : HO} (h : H p = some o) : upd (cutAt H p) p o = H := by
  funext a
  unfold upd cutAt
  by_cases z : a = p
  · subst z; rw [if_pos rfl, h]
  · rw [if_neg z, if_neg z]
theorem cut_ne {p a : Addr} (h : a ≠ p) : cutAt H p a = H a := by unfold cutAt; rw [if_neg h]
theorem cut_same {p : Addr} : cutAt H p p = none := by unfold cutAt; rw [if_pos rfl]
theorem noOwn_frz {g : DG} (hg : NoOwn g) {vs sc : List Nat} {d : D} {ρ1 : En} (e : g d (wipeE (frz sc ρ) vs) = some ρ1) {i : Nat} (hi : i ∈ sc) {ds : List D} : ρ1[i]? ≠ some (some (.own ds)) := fun z => by
  have q := hg _ _ _ e i ds z
  have w : ∀ vs : List Nat, (wipeE (frz sc ρ) vs)[i]? ≠ some (some (.own ds)) := by
    intro vs
    induction vs with
    | nil =>
      intro q
      have q : (frz sc ρ)[i]? = some (some (.own ds)) := q
      rw [frz_get] at q
      cases h : ρ[i]? with
      | none => rw [h] at q; cases q
      | some y =>
        rw [h] at q
        cases y with
        | none => simp at q
        | some y => cases y <;> simp [hi] at q
    | cons v vs ih =>
      intro q
      have q : ((wipeE (frz sc ρ) vs).set v none)[i]? = some (some (.own ds)) := q
      by_cases hv : v = i
      · subst hv
        have hl : v < (wipeE (frz sc ρ) vs).length := by have := (List.getElem?_eq_some_iff.mp q).1; rwa [List.length_set] at this
        rw [List.getElem?_set_self hl] at q; cases q
      · rw [List.getElem?_set_ne hv] at q
        exact ih q
  exact w vs q
theorem lc_red {g : DG} {l : List Nat} {own : List (Str × Nat)} {Q : VK} (hno : NoOwn g) (hl : ∀ i ∈ l, i ∈ own.map (·.2)) (I : SAt C A0 H0 A H σ ρ st)
    (gg : RG C mg W σ H (dLc g (own.map (·.2)) (sc ++ sa) di dt de ρ st) fun ds _ H1 => ∀ p xs, H1 p = none → Dats C H1 (Amin A σ ρ (sc ++ sa)) xs ds → xs.length ≤ sizeLine → Q (.ref p) (upd H1 p (.lst xs))) :
    tLc (cti C mg W sc di) (ctg C l g) (ctt C mg W0 dt) (cte C mg W0 sa de) (own.map (·.2)) σ H Q := by
  refine ⟨A0, H0, A, ρ, st, I, gg.bind.imp fun ds s1 H1 k1 t1 g1 J Y0 => ?_⟩
  by_cases hz : ds.length ≤ 65536
  rotate_left
  · rw [if_neg hz] at g1; exact g1.elim
  rw [if_pos hz] at g1
  obtain ⟨res, sf, eq0, q⟩ := g1.nox
  intro p hp
  have Y := Y0.more (A' := Amin A σ ρ (sc ++ sa)) fun a h => Amin.more (fun i hi => List.mem_append_left _ hi) h
  have I2 := (I.next k1 t1).freeze (sc ++ sa)
  generalize hA1 : Amin A σ ρ (sc ++ sa) = A1 at I2 Y
  have I3 := (I2.rebase.beside (vs := []) hp).wipe (own.map (·.2))
  have nA1 : ¬ A1 p := fun z => I2.fresh p z hp
  have rp : reb A0 A1 H1 p = none := by
    cases e : reb A0 A1 H1 p with
    | none => rfl
    | some o => have := (reb_some e).1; rw [hp] at this; cases this
  have np : ∀ (ρ' : En) (σ' : St) (s' : S) (A' : Addr → Prop), SAt C A0 (reb A0 A1 H1) A1 H1 σ' ρ' s' → ∀ (i : Nat) ds, ρ'[i]? = some (some (.own ds)) → σ'[i]? ≠ some (some (.ref p)) := fun ρ' σ' s' A' J i ds e z => by
    obtain ⟨v, e1, a, ys, rfl, h1, h2, h3, h4, h5⟩ := J.sl i _ e
    rw [e1] at z
    cases z
    rw [hp] at h4; cases h4
  have npw := np _ _ _ A1 (I2.rebase.wipe (own.map (·.2)))
  refine ⟨fun i m H2 => m = ds.length - i ∧ i ≤ ds.length ∧ ∃ s' acc vs, SAt C A0 (reb A0 A1 H1) (fun a => A1 a ∨ a = p) H2 (L2.wipe σ (own.map (·.2))) (wipeE (frz (sc ++ sa) ρ) (own.map (·.2))) s' ∧ H2 p = some (.lst vs) ∧ Dats C H2 (fun a => A1 a ∨ a = p) vs acc ∧ vs.length ≤ i ∧ Keep C.dom H1 H2 ∧
    ∃ rest, lcL g dt de (ds.drop i) (wipeE (frz (sc ++ sa) ρ) (own.map (·.2))) s' = .ok rest sf ∧ acc ++ rest = res,
    ⟨ds.length, by simp, Nat.zero_le _, s1, [], [], I3, upd_same, Dats.nil, Nat.zero_le _, Keep.upd hp, res, by simpa using eq0, rfl⟩, ?_⟩
  rintro i m H2 ⟨rfl, hi2, s', acc, vs, I', hv, t', hvl, kd, rest, eqr, ea⟩
  have kB : Keep A1 H1 H2 := I'.kept I2.domA
  have lm := I'.lims I2.sub
  by_cases hlt : i < ds.length
  · refine .inr ⟨Y.go i H2 hlt kB, fun H3 => ∃ s' acc vs, SAt C A0 (reb A0 A1 H1) (fun a => A1 a ∨ a = p) H3 (L2.wipe σ (own.map (·.2))) (wipeE (frz (sc ++ sa) ρ) (own.map (·.2))) s' ∧ H3 p = some (.lst vs) ∧ Dats C H3 (fun a => A1 a ∨ a = p) vs acc ∧ vs.length ≤ i + 1 ∧ Keep C.dom H1 H3 ∧
      ∃ rest, lcL g dt de (ds.drop (i + 1)) (wipeE (frz (sc ++ sa) ρ) (own.map (·.2))) s' = .ok rest sf ∧ acc ++ rest = res, fun H3 z => ⟨ds.length - (i + 1), by omega, rfl, hlt, z⟩, fun x H3 y => ?_⟩
    obtain ⟨d, ed, k3, a3, hD⟩ := Y.yld i H2 x H3 hlt kB y
    have J3 := I'.next k3 (a3 _ I'.at_)
    have dx := hD _ I'.fresh lm
    have ed' : ds.drop i = d :: ds.drop (i + 1) := by
      rw [List.drop_eq_getElem_cons hlt]
      congr 1
      rw [List.getElem?_eq_getElem hlt] at ed
      exact Option.some.inj ed
    rw [ed'] at eqr
    unfold lcL at eqr
    cases eg : g d (wipeE (frz (sc ++ sa) ρ) (own.map (·.2))) with
    | none => rw [eg] at eqr; cases eqr
    | some ρ1 =>
      rw [eg] at eqr
      obtain ⟨k, s2, e1, eqr⟩ := bind_ok_iff eqr
      refine ⟨A0, _, _, _, s', d, ρ1, J3, dx, eg, fun σ1 K1 w1 => ⟨(w1 _ hl).trans (wipe_idem _ _), A0, _, _, ρ1, s', K1, ?_⟩⟩
      rw [e1]
      intro H4 k4 t4
      have kp4 : ¬ C.dom p := fun z => nA1 (I2.domA p z)
      have J4 := J3.next k4 t4
      have v4 : H4 p = some (.lst vs) := k4 p _ kp4 (k3 p _ kp4 hv)
      have t4' : Dats C H4 (fun a => A1 a ∨ a = p) vs acc := t'.keep (k3.trans k4) fun a h => .inl (I2.domA a h)
      cases k with
      | false =>
        simp only [Bool.false_eq_true, if_false] at eqr ⊢
        exact ⟨s2, acc, vs, J4, v4, t4', by omega, (kd.trans k3).trans k4, rest, eqr, ea⟩
      | true =>
        simp only [if_true] at eqr ⊢
        obtain ⟨dxv, s3, e3, eqr⟩ := bind_ok_iff eqr
        obtain ⟨rest2, s4, e4, eqr⟩ := bind_ok_iff eqr
        cases eqr
        refine ⟨A0, _, _, ρ1, s2, K1.next k4 t4, ?_⟩
        rw [e3]
        intro H5 k5 t5 yv dyv
        have v5 : H5 p = some (.lst vs) := k5 p _ kp4 v4
        have eA : ∀ a, (A1 a ∨ a = p) → Amin (fun a => A1 a ∨ a = p) σ1 ρ1 sa a := fun a ha => ⟨ha, fun j hj es e => absurd e (noOwn_frz hno eg (List.mem_append_right _ hj))⟩
        have dyv' := dyv.less eA
        have J5 := J4.next k5 t5
        have t5' : Dats C H5 (fun a => A1 a ∨ a = p) vs acc := t4'.keep k5 fun a h => .inl (I2.domA a h)
        refine ⟨vs, v5, by rw [line_eq]; omega, s3, acc ++ [dxv], vs ++ [yv], J5.grow v5 (.inr rfl) (fun z => nA1 (I2.sub p z)) rp npw, upd_same, ?_, by simp; omega, fun a o n h => by rw [upd_ne (ne_of_none h hp)]; exact (((kd.trans k3).trans k4).trans k5) a o n h, rest2, e4, by rw [← ea]; simp⟩
        exact (dats_snoc t5' dyv').write fun a n => upd_ne fun z => n (.inr z)
  · have e : i = ds.length := by omega
    subst e
    rw [List.drop_length] at eqr
    cases eqr
    refine .inl ⟨Y.stop H2 kB, ?_⟩
    rw [List.append_nil] at ea
    subst ea
    have ne : ∀ a, C.dom a → a ≠ p := fun a h z => nA1 (z ▸ I2.domA a h)
    have := q (cutAt H2 p) (fun a o n h => by
      have hne : a ≠ p := ne_of_none h hp
      rw [cut_ne hne]
      exact kd a o n h) (C.stab _ _ _ I'.at_ fun a ha => cut_ne (ne a ha)) p vs cut_same ((t'.write fun a n => cut_ne fun z => n (.inr z)).less fun a ha => .inl (hA1 ▸ ha)) (by rw [line_eq]; omega)
    rw [cut_upd hv] at this
    exact this

theorem pf_lc {g : DG} {l : List Nat} {scope : Scope} {own : List (Str × Nat)} (hc : X.calm = true) (nd : X.N.Nodup) (hi : PId X C W tg iter sc di) (ok : BlkOk X.N X.env.scope scope own)
    (hg : ∀ (s : Shared) (H : Hp) (q : Addr) (cl : List (Str × Addr)) (fp : List Addr), PGd (X.blk s H scope (compEnvC scope cl q X.env) fp) C tg l g) (hno : NoOwn g)
    (ht : ∀ (s : Shared) (H : Hp) (q : Addr) (cl : List (Str × Addr)) (fp : List Addr), PTsd (X.blk s H scope (compEnvC scope cl q X.env) fp) C W0 ifs dt)
    (he : ∀ (s : Shared) (H : Hp) (q : Addr) (cl : List (Str × Addr)) (fp : List Addr), PD (X.blk s H scope (compEnvC scope cl q X.env) fp) C W0 elt sa de)
    (hl : ∀ i ∈ l, i ∈ own.map (·.2) := by decide) (hs : ∀ x, foldedSetIterable iter X.env x = pure x := by intro _; rfl) : PF X C W (.ListComp elt [⟨tg, iter, ifs, 0⟩] scope pos) (sc ++ sa) (dLc g (own.map (·.2)) (sc ++ sa) di dt de) :=
  pf_of (pe_lc (g := ctg C l g) (tt := ctt C X.mg W0 dt) (te := cte C X.mg W0 sa de) hc nd hi ok (fun s H q cl fp => (hg s H q cl fp).pg) ht he hs) fun A0 H0 A ρ st σ H Q I gg => lc_red hno hl I gg
/-- what is wanted of a value for a slot, by what makes a fresh list -/
theorem ctv_o {dl : DA S} {sc : List Nat} {Q : VK} (h : ctv C mg W sc (dO dl) σ H Q) : ctf C mg W sc dl σ H Q := by
  obtain ⟨A0, H0, A, ρ, st, I, g⟩ := h
  exact ⟨A0, H0, A, ρ, st, I, g.map⟩
theorem cte_f {dl : DA S} {sc : List Nat} {Q : VK} (h : cte C mg W sc (dF dl) σ H Q) : ctf C mg W sc dl σ H Q := by
  obtain ⟨A0, H0, A, ρ, st, I, g⟩ := h
  exact ⟨A0, H0, A, ρ, st, I, g.map.keepOk.imp fun ds s1 H1 k1 t1 g1 p xs hp dxs hz => by
    have I1 := I.next k1 t1
    have kp : Keep C.dom H1 (upd H1 p (.lst xs)) := Keep.upd hp
    exact g1 _ kp (at_upd t1 hp) (.ref p) (Dat.lst_mk (fun z => I1.fresh p z.1 hp) upd_same (dxs.keep kp (I1.dom0 sc)))⟩
theorem ctv_v {de : DE S} {sc : List Nat} {Q : VK} (h : ctv C mg W sc (dV de) σ H Q) : cte C mg W sc de σ H Q := by
  obtain ⟨A0, H0, A, ρ, st, I, g⟩ := h
  exact ⟨A0, H0, A, ρ, st, I, g.map⟩
/-- y = [..] on one line, y a local: the list one's own, or data -/
theorem psd_setLc (i : Nat) {y : Str} {py spos : Pos} {g : DG} {l : List Nat} {scope : Scope} {own : List (Str × Nat)} {dv : E1 S Sl} (hv : ∀ {σ : St} {H : Hp} {Q : VK}, ctv C X.mg W (sc ++ sa) dv σ H Q → ctf C X.mg W (sc ++ sa) (dLc g (own.map (·.2)) (sc ++ sa) di dt de) σ H Q)
    (hc : X.calm = true) (nd : X.N.Nodup) (hi : PId X C W tg iter sc di) (ok : BlkOk X.N X.env.scope scope own)
    (hg : ∀ (s : Shared) (H : Hp) (q : Addr) (cl : List (Str × Addr)) (fp : List Addr), PGd (X.blk s H scope (compEnvC scope cl q X.env) fp) C tg l g) (hno : NoOwn g)
    (ht : ∀ (s : Shared) (H : Hp) (q : Addr) (cl : List (Str × Addr)) (fp : List Addr), PTsd (X.blk s H scope (compEnvC scope cl q X.env) fp) C W0 ifs dt)
    (he : ∀ (s : Shared) (H : Hp) (q : Addr) (cl : List (Str × Addr)) (fp : List Addr), PD (X.blk s H scope (compEnvC scope cl q X.env) fp) C W0 elt sa de)
    (hl : ∀ i ∈ l, i ∈ own.map (·.2) := by decide) (hs : ∀ x, foldedSetIterable iter X.env x = pure x := by intro _; rfl)
    (hy : X.N[i]? = some y := by rfl) (hyl : X.env.scope.names.lookup y = some .local := by rfl) (hsw : swapsWith (.ListComp elt [⟨tg, iter, ifs, 0⟩] scope pos) (some (.Name y py)) spos.line X.env = pure true := by exact sw_true rfl rfl rfl (by decide +kernel)) :
    PSd X C W (.Assign [.Name y py] (.ListComp elt [⟨tg, iter, ifs, 0⟩] scope pos) spos) (dAsg i (sc ++ sa) dv) :=
  psd_of (ps_setLc (g := ctg C l g) (tt := ctt C X.mg W0 dt) (te := cte C X.mg W0 sa de) hc nd hy hyl hsw hi ok (fun s H q cl fp => (hg s H q cl fp).pg) ht he hs) fun A0 H0 A ρ st σ H DD I g' => by
    obtain ⟨A0', H0', A', ρ', st', I', g2⟩ := hv (ctv_give I g')
    exact lc_red hno hl I' g2

/-! ### two clauses -/
def lc2L (g : DG) (dt : DT S) (dj : DA S) (v1 : List Nat) (g1 : DG) (dt1 : DT S) (de : DE S) : List D → En → S → R S (List D)
  | [], _, s => .ok [] s
  | d :: r, ρ, s => match g d ρ with
    | none => .bad
    | some ρ1 => (dt ρ1 s).bind fun k s1 => if k = true then (dj ρ1 s1).bind fun l s2 => (lcL g1 dt1 de l (wipeE ρ1 v1) s2).bind fun xs s3 => (lc2L g dt dj v1 g1 dt1 de r ρ s3).bind fun ys s4 => .ok (xs ++ ys) s4
      else lc2L g dt dj v1 g1 dt1 de r ρ s1
def dLc2 (g : DG) (dj : DA S) (v1 : List Nat) (g1 : DG) (vs sc : List Nat) (di : DA S) (dt dt1 : DT S) (de : DE S) : DA S := fun ρ s => (di ρ s).bind fun l s1 => if l.length ≤ 65536 then
  match lc2L g dt dj v1 g1 dt1 de l (wipeE (frz sc ρ) vs) s1 with
  | .ok xs s2 => if xs.length ≤ 65536 then .ok xs s2 else .bad
  | _ => .bad else .bad
theorem noOwn_wipe {ρ : En} {i : Nat} {ds : List D} : ∀ {vs : List Nat}, (wipeE ρ vs)[i]? = some (some (.own ds)) → ρ[i]? = some (some (.own ds))
  | [], h => h
  | v :: vs, h => by
    have h : ((wipeE ρ vs).set v none)[i]? = some (some (.own ds)) := h
    by_cases hv : v = i
    · subst hv
      have hl : v < (wipeE ρ vs).length := by have := (List.getElem?_eq_some_iff.mp h).1; rwa [List.length_set] at this
      rw [List.getElem?_set_self hl] at h; cases h
    · rw [List.getElem?_set_ne hv] at h
      exact noOwn_wipe h
theorem lc2_red {g g1 : DG} {l l1 v1 : List Nat} {own : List (Str × Nat)} {dt1 : DT S} {Q : VK} (hno : NoOwn g) (hno1 : NoOwn g1) (hl : ∀ i ∈ l, i ∈ own.map (·.2)) (hl1 : ∀ i ∈ l1, i ∈ v1) (hv1 : ∀ i ∈ v1, i ∈ own.map (·.2)) (I : SAt C A0 H0 A H σ ρ st)
    (gg : RG C mg W σ H (dLc2 g dj v1 g1 (own.map (·.2)) (sc ++ sb ++ sa) di dt dt1 de ρ st) fun ds _ H1 => ∀ p xs, H1 p = none → Dats C H1 (Amin A σ ρ (sc ++ sb ++ sa)) xs ds → xs.length ≤ sizeLine → Q (.ref p) (upd H1 p (.lst xs))) :
    tLc2 (cti C mg W sc di) (ctg C l g) (ctt C mg W0 dt) (cti C mg W0 sb dj) (ctg C l1 g1) (ctt C mg W0 dt1) (cte C mg W0 sa de) (own.map (·.2)) v1 σ H Q := by
  refine ⟨A0, H0, A, ρ, st, I, gg.bind.imp fun ds s1 H1 k1 t1 g1' J Y0 => ?_⟩
  by_cases hz : ds.length ≤ 65536
  rotate_left
  · rw [if_neg hz] at g1'; exact g1'.elim
  rw [if_pos hz] at g1'
  obtain ⟨res, sf, eq0, hres, q⟩ : ∃ res sf, lc2L g dt dj v1 g1 dt1 de ds (wipeE (frz (sc ++ sb ++ sa) ρ) (own.map (·.2))) s1 = .ok res sf ∧ res.length ≤ 65536 ∧ ∀ H', Keep C.dom H1 H' → C.At sf H' → ∀ p xs, H' p = none → Dats C H' (Amin A σ ρ (sc ++ sb ++ sa)) xs res → xs.length ≤ sizeLine → Q (.ref p) (upd H' p (.lst xs)) := by
    split at g1'
    · rename_i xs s2 e
      by_cases z : xs.length ≤ 65536
      · rw [if_pos z] at g1'
        exact ⟨xs, s2, e, z, g1'⟩
      · rw [if_neg z] at g1'; exact g1'.elim
    · exact g1'.elim
  intro p hp
  have Y := Y0.more (A' := Amin A σ ρ (sc ++ sb ++ sa)) fun a h => Amin.more (fun i hi => List.mem_append_left _ (List.mem_append_left _ hi)) h
  have I2 := (I.next k1 t1).freeze (sc ++ sb ++ sa)
  generalize hA1 : Amin A σ ρ (sc ++ sb ++ sa) = A1 at I2 Y
  have I3 := (I2.rebase.beside (vs := []) hp).wipe (own.map (·.2))
  have nA1 : ¬ A1 p := fun z => I2.fresh p z hp
  have rp : reb A0 A1 H1 p = none := by
    cases e : reb A0 A1 H1 p with
    | none => rfl
    | some o => have := (reb_some e).1; rw [hp] at this; cases this
  have kp4 : ¬ C.dom p := fun z => nA1 (I2.domA p z)
  have sub1 : ∀ a, C.dom a → A1 a ∨ a = p := fun a h => .inl (I2.domA a h)
  -- an own slot of the block stands as it stood
  have npw : ∀ (i : Nat) ds, (wipeE (frz (sc ++ sb ++ sa) ρ) (own.map (·.2)))[i]? = some (some (.own ds)) → (L2.wipe σ (own.map (·.2)))[i]? ≠ some (some (.ref p)) := fun i ds e z => by
    obtain ⟨v, e1, a, ys, rfl, h1, h2, h3, h4, h5⟩ := (I2.rebase.wipe (own.map (·.2))).sl i _ e
    rw [e1] at z
    cases z
    rw [hp] at h4; cases h4
  -- what is known ahead of a turn
  refine ⟨fun i m H2 => m = ds.length - i ∧ i ≤ ds.length ∧ ∃ s' acc vs, SAt C A0 (reb A0 A1 H1) (fun a => A1 a ∨ a = p) H2 (L2.wipe σ (own.map (·.2))) (wipeE (frz (sc ++ sb ++ sa) ρ) (own.map (·.2))) s' ∧ H2 p = some (.lst vs) ∧ Dats C H2 (fun a => A1 a ∨ a = p) vs acc ∧ Keep C.dom H1 H2 ∧
    ∃ rest, lc2L g dt dj v1 g1 dt1 de (ds.drop i) (wipeE (frz (sc ++ sb ++ sa) ρ) (own.map (·.2))) s' = .ok rest sf ∧ acc ++ rest = res,
    ⟨ds.length, by simp, Nat.zero_le _, s1, [], [], I3, upd_same, Dats.nil, Keep.upd hp, res, by simpa using eq0, rfl⟩, ?_⟩
  rintro i m H2 ⟨rfl, hi2, s', acc, vs, I', hv, t', kd, rest, eqr, ea⟩
  have kB : Keep A1 H1 H2 := I'.kept I2.domA
  have lm := I'.lims I2.sub
  by_cases hlt : i < ds.length
  · refine .inr ⟨Y.go i H2 hlt kB, fun H3 => ∃ s' acc vs, SAt C A0 (reb A0 A1 H1) (fun a => A1 a ∨ a = p) H3 (L2.wipe σ (own.map (·.2))) (wipeE (frz (sc ++ sb ++ sa) ρ) (own.map (·.2))) s' ∧ H3 p = some (.lst vs) ∧ Dats C H3 (fun a => A1 a ∨ a = p) vs acc ∧ Keep C.dom H1 H3 ∧
      ∃ rest, lc2L g dt dj v1 g1 dt1 de (ds.drop (i + 1)) (wipeE (frz (sc ++ sb ++ sa) ρ) (own.map (·.2))) s' = .ok rest sf ∧ acc ++ rest = res, fun H3 z => ⟨ds.length - (i + 1), by omega, rfl, hlt, z⟩, fun x H3 y => ?_⟩
    obtain ⟨d, ed, k3, a3, hD⟩ := Y.yld i H2 x H3 hlt kB y
    have J3 := I'.next k3 (a3 _ I'.at_)
    have dx := hD _ I'.fresh lm
    have ed' : ds.drop i = d :: ds.drop (i + 1) := by
      rw [List.drop_eq_getElem_cons hlt]
      congr 1
      rw [List.getElem?_eq_getElem hlt] at ed
      exact Option.some.inj ed
    rw [ed'] at eqr
    unfold lc2L at eqr
    cases eg : g d (wipeE (frz (sc ++ sb ++ sa) ρ) (own.map (·.2))) with
    | none => rw [eg] at eqr; cases eqr
    | some ρ1 =>
      rw [eg] at eqr
      obtain ⟨k, s2, e1, eqr⟩ := bind_ok_iff eqr
      refine ⟨A0, _, _, _, s', d, ρ1, J3, dx, eg, fun σ1 K1 w1 => ⟨(w1 _ hl).trans (wipe_idem _ _), A0, _, _, ρ1, s', K1, ?_⟩⟩
      rw [e1]
      intro H4 k4 t4
      have J4 := J3.next k4 t4
      have K4 := K1.next k4 t4
      have v4 : H4 p = some (.lst vs) := k4 p _ kp4 (k3 p _ kp4 hv)
      have t4' : Dats C H4 (fun a => A1 a ∨ a = p) vs acc := t'.keep (k3.trans k4) sub1
      have kd4 := (kd.trans k3).trans k4
      cases k with
      | false =>
        simp only [Bool.false_eq_true, if_false] at eqr ⊢
        exact ⟨s2, acc, vs, J4, v4, t4', kd4, rest, eqr, ea⟩
      | true =>
        simp only [if_true] at eqr ⊢
        obtain ⟨ds1, s3, e3, eqr⟩ := bind_ok_iff eqr
        obtain ⟨xs1, s4, e4, eqr⟩ := bind_ok_iff eqr
        obtain ⟨rest2, s5, e5, eqr⟩ := bind_ok_iff eqr
        cases eqr
        have fz : ∀ (ρ2 : En), (∀ (j : Nat) es, ρ2[j]? = some (some (.own es)) → ρ1[j]? = some (some (.own es))) → ∀ ws, (∀ j ∈ ws, j ∈ sc ++ sb ++ sa) → ∀ σ2 a, (A1 a ∨ a = p) → Amin (fun a => A1 a ∨ a = p) σ2 ρ2 ws a := fun ρ2 h ws hw σ2 a ha => ⟨ha, fun j hj es e => absurd (h j es e) (noOwn_frz hno eg (hw j hj))⟩
        refine ⟨A0, _, _, ρ1, s2, K4, ?_⟩
        rw [e3]
        intro H5 k5 t5 J1 Y1'
        have Y1 := Y1'.more (A' := fun a => A1 a ∨ a = p) (fz ρ1 (fun _ _ z => z) sb (fun j hj => List.mem_append_left _ (List.mem_append_right _ hj)) σ1)
        have K5 := (K4.next k5 t5).wipe v1
        have npi : ∀ (i : Nat) ds, (wipeE ρ1 v1)[i]? = some (some (.own ds)) → (L2.wipe σ1 v1)[i]? ≠ some (some (.ref p)) := fun i es e z => by
          have q1 := hno _ _ _ eg i es (noOwn_wipe e)
          obtain ⟨z1, z2⟩ := wipe_some z
          have q2 : i ∉ own.map (·.2) := fun hm => by
            have : ∀ vs : List Nat, i ∈ vs → (wipeE (frz (sc ++ sb ++ sa) ρ) vs)[i]? ≠ some (some (.own es)) := by
              intro vs
              induction vs with
              | nil => intro h; cases h
              | cons v vs ih =>
                intro h w
                have w : ((wipeE (frz (sc ++ sb ++ sa) ρ) vs).set v none)[i]? = some (some (.own es)) := w
                by_cases hv : v = i
                · subst hv
                  have hl : v < (wipeE (frz (sc ++ sb ++ sa) ρ) vs).length := by have := (List.getElem?_eq_some_iff.mp w).1; rwa [List.length_set] at this
                  rw [List.getElem?_set_self hl] at w; cases w
                · rw [List.getElem?_set_ne hv] at w
                  exact ih ((List.mem_cons.mp h).resolve_left fun z => hv z.symm) w
            exact this _ hm q1
          have w2 : (L2.wipe σ1 (own.map (·.2)))[i]? = some (some (.ref p)) := by rw [wipe_out q2]; exact z1
          rw [(w1 _ hl).trans (wipe_idem _ _)] at w2
          exact npw i es q1 w2
        have J5 := J4.next k5 t5
        have v5 : H5 p = some (.lst vs) := k5 p _ kp4 v4
        have t5' : Dats C H5 (fun a => A1 a ∨ a = p) vs acc := t4'.keep k5 sub1
        refine ⟨fun j k H6 => k = ds1.length - j ∧ j ≤ ds1.length ∧ ∃ s6 acc6 vs6, SAt C A0 (reb A0 A1 H1) (fun a => A1 a ∨ a = p) H6 (L2.wipe σ1 v1) (wipeE ρ1 v1) s6 ∧ SAt C A0 (reb A0 A1 H1) (fun a => A1 a ∨ a = p) H6 (L2.wipe σ (own.map (·.2))) (wipeE (frz (sc ++ sb ++ sa) ρ) (own.map (·.2))) s6 ∧
          H6 p = some (.lst vs6) ∧ Dats C H6 (fun a => A1 a ∨ a = p) vs6 acc6 ∧ Keep C.dom H1 H6 ∧ Keep (fun a => A1 a ∨ a = p) H5 H6 ∧ ∃ r6, lcL g1 dt1 de (ds1.drop j) (wipeE ρ1 v1) s6 = .ok r6 s4 ∧ acc6 ++ r6 ++ rest2 = res,
          ⟨ds1.length, by simp, Nat.zero_le _, s3, acc, vs, K5, J5, v5, t5', kd4.trans k5, Keep.refl, xs1, by simpa using e4, by rw [List.append_assoc]; exact ea⟩, ?_⟩
        rintro j k H6 ⟨rfl, hj2, s6, acc6, vs6, K6, J6, v6, t6, kd6, kk6, r6, eq6, ea6⟩
        by_cases hlt6 : j < ds1.length
        · refine .inr ⟨Y1.go j H6 hlt6 kk6, fun H7 => ∃ s6 acc6 vs6, SAt C A0 (reb A0 A1 H1) (fun a => A1 a ∨ a = p) H7 (L2.wipe σ1 v1) (wipeE ρ1 v1) s6 ∧ SAt C A0 (reb A0 A1 H1) (fun a => A1 a ∨ a = p) H7 (L2.wipe σ (own.map (·.2))) (wipeE (frz (sc ++ sb ++ sa) ρ) (own.map (·.2))) s6 ∧
            H7 p = some (.lst vs6) ∧ Dats C H7 (fun a => A1 a ∨ a = p) vs6 acc6 ∧ Keep C.dom H1 H7 ∧ Keep (fun a => A1 a ∨ a = p) H5 H7 ∧ ∃ r6, lcL g1 dt1 de (ds1.drop (j + 1)) (wipeE ρ1 v1) s6 = .ok r6 s4 ∧ acc6 ++ r6 ++ rest2 = res, fun H7 z => ⟨ds1.length - (j + 1), by omega, rfl, hlt6, z⟩, fun x7 H7 y7 => ?_⟩
          obtain ⟨d7, ed7, k7, a7, hD7⟩ := Y1.yld j H6 x7 H7 hlt6 kk6 y7
          have K7 := K6.next k7 (a7 _ K6.at_)
          have J7 := J6.next k7 (a7 _ J6.at_)
          have dx7 := hD7 (fun a => A1 a ∨ a = p) K6.fresh fun a ha => .inl ha
          have ed7' : ds1.drop j = d7 :: ds1.drop (j + 1) := by
            rw [List.drop_eq_getElem_cons hlt6]
            congr 1
            rw [List.getElem?_eq_getElem hlt6] at ed7
            exact Option.some.inj ed7
          rw [ed7'] at eq6
          unfold lcL at eq6
          cases eg7 : g1 d7 (wipeE ρ1 v1) with
          | none => rw [eg7] at eq6; cases eq6
          | some ρ7 =>
            rw [eg7] at eq6
            obtain ⟨k8, s8, e8, eq6⟩ := bind_ok_iff eq6
            refine ⟨A0, _, _, _, s6, d7, ρ7, K7, dx7, eg7, fun σ7 L7 w7 => ⟨(w7 _ hl1).trans (wipe_idem _ _), A0, _, _, ρ7, s6, L7, ?_⟩⟩
            rw [e8]
            intro H8 k9 t8
            have J8 := J7.next k9 t8
            have K8 := K7.next k9 t8
            have v8 : H8 p = some (.lst vs6) := k9 p _ kp4 (k7 p _ kp4 v6)
            have t8' : Dats C H8 (fun a => A1 a ∨ a = p) vs6 acc6 := t6.keep (k7.trans k9) sub1
            have kd8 := (kd6.trans k7).trans k9
            have kk8 : Keep (fun a => A1 a ∨ a = p) H5 H8 := fun a o n h => (k7.trans k9) a o (fun z => n (sub1 a z)) (kk6 a o n h)
            cases k8 with
            | false =>
              simp only [Bool.false_eq_true, if_false] at eq6 ⊢
              exact ⟨s8, acc6, vs6, K8, J8, v8, t8', kd8, kk8, r6, eq6, ea6⟩
            | true =>
              simp only [if_true] at eq6 ⊢
              obtain ⟨dxv, s9, e9, eq6⟩ := bind_ok_iff eq6
              obtain ⟨r9, s10, e10, eq6⟩ := bind_ok_iff eq6
              cases eq6
              refine ⟨A0, _, _, ρ7, s8, L7.next k9 t8, ?_⟩
              rw [e9]
              intro H9 k10 t9 yv dyv
              have v9 : H9 p = some (.lst vs6) := k10 p _ kp4 v8
              have dyv' := dyv.less (fz ρ7 (fun j es z => noOwn_wipe (hno1 _ _ _ eg7 j es z)) sa (fun j hj => List.mem_append_right _ hj) σ7)
              have t9' : Dats C H9 (fun a => A1 a ∨ a = p) vs6 acc6 := t8'.keep k10 sub1
              have hlen : vs6.length ≤ 65536 := by
                rw [t9'.len]
                have := congrArg List.length ea6
                simp only [List.length_append, List.length_cons] at this
                omega
              refine ⟨vs6, v9, by rw [line_eq]; omega, s9, acc6 ++ [dxv], vs6 ++ [yv], (K8.next k10 t9).grow v9 (.inr rfl) (fun z => nA1 (I2.sub p z)) rp npi, (J8.next k10 t9).grow v9 (.inr rfl) (fun z => nA1 (I2.sub p z)) rp npw, upd_same, (dats_snoc t9' dyv').write fun a n => upd_ne fun z => n (.inr z),
                fun a o n h => by rw [upd_ne (ne_of_none h hp)]; exact (kd8.trans k10) a o n h, fun a o n h => by rw [upd_ne fun z => n (.inr z)]; exact k10 a o (fun z => n (sub1 a z)) (kk8 a o n h), r9, e10, by rw [← ea6]; simp⟩
        · have e : j = ds1.length := by omega
          subst e
          rw [List.drop_length] at eq6
          cases eq6
          refine .inl ⟨Y1.stop H6 kk6, _, acc6, vs6, J6, v6, t6, kd6, rest2, e5, by rw [← ea6]; simp⟩
  · have e : i = ds.length := by omega
    subst e
    rw [List.drop_length] at eqr
    cases eqr
    refine .inl ⟨Y.stop H2 kB, ?_⟩
    rw [List.append_nil] at ea
    subst ea
    have ne : ∀ a, C.dom a → a ≠ p := fun a h z => nA1 (z ▸ I2.domA a h)
    have := q (cutAt H2 p) (fun a o n h => by
      have hne : a ≠ p := ne_of_none h hp
      rw [cut_ne hne]
      exact kd a o n h) (C.stab _ _ _ I'.at_ fun a ha => cut_ne (ne a ha)) p vs cut_same ((t'.write fun a n => cut_ne fun z => n (.inr z)).less fun a ha => .inl (hA1 ▸ ha)) (by rw [t'.len, line_eq]; omega)
    rw [cut_upd hv] at this
    exact this

theorem pf_lc2 {g g1 : DG} {l l1 v1 : List Nat} {scope : Scope} {own : List (Str × Nat)} {dt1 : DT S} (hc : X.calm = true) (nd : X.N.Nodup) (hi : PId X C W tg iter sc di) (ok : BlkOk X.N X.env.scope scope own)
    (hg : ∀ (s : Shared) (H : Hp) (q : Addr) (cl : List (Str × Addr)) (fp : List Addr), PGd (X.blk s H scope (compEnvC scope cl q X.env) fp) C tg l g) (hno : NoOwn g)
    (ht : ∀ (s : Shared) (H : Hp) (q : Addr) (cl : List (Str × Addr)) (fp : List Addr), PTsd (X.blk s H scope (compEnvC scope cl q X.env) fp) C W0 ifs dt)
    (hj : ∀ (s : Shared) (H : Hp) (q : Addr) (cl : List (Str × Addr)) (fp : List Addr), PId (X.blk s H scope (compEnvC scope cl q X.env) fp) C W0 tg1 iter1 sb dj)
    (hg1 : ∀ (s : Shared) (H : Hp) (q : Addr) (cl : List (Str × Addr)) (fp : List Addr), PGd (X.blk s H scope (compEnvC scope cl q X.env) fp) C tg1 l1 g1) (hno1 : NoOwn g1)
    (ht1 : ∀ (s : Shared) (H : Hp) (q : Addr) (cl : List (Str × Addr)) (fp : List Addr), PTsd (X.blk s H scope (compEnvC scope cl q X.env) fp) C W0 ifs1 dt1)
    (he : ∀ (s : Shared) (H : Hp) (q : Addr) (cl : List (Str × Addr)) (fp : List Addr), PD (X.blk s H scope (compEnvC scope cl q X.env) fp) C W0 elt sa de)
    (hl : ∀ i ∈ l, i ∈ own.map (·.2) := by decide) (hl1 : ∀ i ∈ l1, i ∈ v1 := by decide) (hv1 : ∀ i ∈ v1, i ∈ own.map (·.2) := by decide) (hs : ∀ x, foldedSetIterable iter X.env x = pure x := by intro _; rfl) (hs1 : ∀ env x, foldedSetIterable iter1 env x = pure x := by intro _ _; rfl) :
    PF X C W (.ListComp elt [⟨tg, iter, ifs, 0⟩, ⟨tg1, iter1, ifs1, 0⟩] scope pos) (sc ++ sb ++ sa) (dLc2 g dj v1 g1 (own.map (·.2)) (sc ++ sb ++ sa) di dt dt1 de) :=
  pf_of (pe_lc2 (vs1 := v1) (g := ctg C l g) (tt := ctt C X.mg W0 dt) (wi1 := cti C X.mg W0 sb dj) (g1 := ctg C l1 g1) (tt1 := ctt C X.mg W0 dt1) (te := cte C X.mg W0 sa de) hc nd hi ok hv1 (fun s H q cl fp => (hg s H q cl fp).pg) ht hj (fun s H q cl fp => (hg1 s H q cl fp).pg) ht1 he hs hs1) fun A0 H0 A ρ st σ H Q I gg => lc2_red hno hno1 hl hl1 hv1 I gg
theorem psd_setLc2 (i : Nat) {y : Str} {py spos : Pos} {g g1 : DG} {l l1 v1 : List Nat} {scope : Scope} {own : List (Str × Nat)} {dt1 : DT S} {dv : E1 S Sl} (hv : ∀ {σ : St} {H : Hp} {Q : VK}, ctv C X.mg W (sc ++ sb ++ sa) dv σ H Q → ctf C X.mg W (sc ++ sb ++ sa) (dLc2 g dj v1 g1 (own.map (·.2)) (sc ++ sb ++ sa) di dt dt1 de) σ H Q)
    (hc : X.calm = true) (nd : X.N.Nodup) (hi : PId X C W tg iter sc di) (ok : BlkOk X.N X.env.scope scope own)
    (hg : ∀ (s : Shared) (H : Hp) (q : Addr) (cl : List (Str × Addr)) (fp : List Addr), PGd (X.blk s H scope (compEnvC scope cl q X.env) fp) C tg l g) (hno : NoOwn g)
    (ht : ∀ (s : Shared) (H : Hp) (q : Addr) (cl : List (Str × Addr)) (fp : List Addr), PTsd (X.blk s H scope (compEnvC scope cl q X.env) fp) C W0 ifs dt)
    (hj : ∀ (s : Shared) (H : Hp) (q : Addr) (cl : List (Str × Addr)) (fp : List Addr), PId (X.blk s H scope (compEnvC scope cl q X.env) fp) C W0 tg1 iter1 sb dj)
    (hg1 : ∀ (s : Shared) (H : Hp) (q : Addr) (cl : List (Str × Addr)) (fp : List Addr), PGd (X.blk s H scope (compEnvC scope cl q X.env) fp) C tg1 l1 g1) (hno1 : NoOwn g1)
    (ht1 : ∀ (s : Shared) (H : Hp) (q : Addr) (cl : List (Str × Addr)) (fp : List Addr), PTsd (X.blk s H scope (compEnvC scope cl q X.env) fp) C W0 ifs1 dt1)
    (he : ∀ (s : Shared) (H : Hp) (q : Addr) (cl : List (Str × Addr)) (fp : List Addr), PD (X.blk s H scope (compEnvC scope cl q X.env) fp) C W0 elt sa de)
    (hl : ∀ i ∈ l, i ∈ own.map (·.2) := by decide) (hl1 : ∀ i ∈ l1, i ∈ v1 := by decide) (hv1 : ∀ i ∈ v1, i ∈ own.map (·.2) := by decide) (hs : ∀ x, foldedSetIterable iter X.env x = pure x := by intro _; rfl) (hs1 : ∀ env x, foldedSetIterable iter1 env x = pure x := by intro _ _; rfl)
    (hy : X.N[i]? = some y := by rfl) (hyl : X.env.scope.names.lookup y = some .local := by rfl) (hsw : swapsWith (.ListComp elt [⟨tg, iter, ifs, 0⟩, ⟨tg1, iter1, ifs1, 0⟩] scope pos) (some (.Name y py)) spos.line X.env = pure true := by exact sw_true rfl rfl rfl (by decide +kernel)) :
    PSd X C W (.Assign [.Name y py] (.ListComp elt [⟨tg, iter, ifs, 0⟩, ⟨tg1, iter1, ifs1, 0⟩] scope pos) spos) (dAsg i (sc ++ sb ++ sa) dv) :=
  psd_of (ps_setLc2 (vs1 := v1) (g := ctg C l g) (tt := ctt C X.mg W0 dt) (wi1 := cti C X.mg W0 sb dj) (g1 := ctg C l1 g1) (tt1 := ctt C X.mg W0 dt1) (te := cte C X.mg W0 sa de) hc nd hy hyl hsw hi ok hv1 (fun s H q cl fp => (hg s H q cl fp).pg) ht hj (fun s H q cl fp => (hg1 s H q cl fp).pg) ht1 he hs hs1) fun A0 H0 A ρ st σ H DD I g' => by
    obtain ⟨A0', H0', A', ρ', st', I', g2⟩ := hv (ctv_give I g')
    exact lc2_red hno hno1 hl hl1 hv1 I' g2
end
end Mir

set_option Elab.async false
set_option linter.all false
set_option maxRecDepth 100000
set_option maxHeartbeats 2000000
namespace Mir
open PySem PySem.Spec L2
open PyProof.Rows hiding St

section
variable {S : Type} {C : Deck S} {X : Cx} {W : WX} {A0 A A' : Addr → Prop} {H0 H H' B : Hp} {σ : St} {ρ : En} {st st' : S}
variable {e a b c tg iter elt : Expr} {es rest ifs : List Expr} {pos p p2 : Pos} {sc sc' sa sb vs : List Nat} {de da db dc : DE S} {dt dt' du : DT S} {dl di dj : DA S} {ds ds' : DS S} {mg : Str → Option Value} {DD : Ends} {xs ys : List Stmt}
/-! ### a list of one's own is changed -/
theorem own_apart (I : SAt C A0 H0 A H σ ρ st) {i : Nat} {es : List D} {q : Addr} (e : ρ[i]? = some (some (.own es))) (h : σ[i]? = some (some (.ref q))) : ∀ (j : Nat) ds, j ≠ i → ρ[j]? = some (some (.own ds)) → σ[j]? ≠ some (some (.ref q)) := fun j ds n ej z => I.apart j i ds es n ej e (z.trans h.symm)
theorem SAt.writeOwn {i : Nat} {gs0 fs : List D} {q : Addr} {ws : List V} (I : SAt C A0 H0 A H σ ρ st) (e : ρ[i]? = some (some (.own gs0))) (hσ : σ[i]? = some (some (.ref q))) (t : Dats C H A ws fs) : SAt C A0 H0 A (upd H q (.lst ws)) σ (ρ.set i (some (.own fs))) st := by
  obtain ⟨v, e1, q', ys, rfl, h1, h2, h3, h4, h5⟩ := I.sl i _ e
  rw [hσ] at e1
  cases e1
  have w : ∀ a, ¬ A a → upd H q (.lst ws) a = H a := fun a n => upd_ne fun z => n (z ▸ h1)
  have hl : i < ρ.length := (List.getElem?_eq_some_iff.mp e).1
  refine ⟨by rw [List.length_set]; exact I.len, fun j x ej => ?_, fun j k ds es n e1 e2 => ?_, fun a ha => ?_, I.sub, I.lim, I.dom, fun a o n h => ?_, C.stab _ _ _ I.at_ fun a ha => upd_ne fun z => h3 (z ▸ I.dom a ha)⟩
  · by_cases hj : j = i
    · subst hj
      rw [List.getElem?_set_self hl] at ej
      cases ej
      exact ⟨_, hσ, q, ws, rfl, h1, h2, h3, upd_same, t.write w⟩
    · rw [List.getElem?_set_ne (Ne.symm hj)] at ej
      obtain ⟨v, e1, s⟩ := I.sl j x ej
      refine ⟨v, e1, ?_⟩
      cases x with
      | val d => exact Dat.write s w
      | own gs =>
        obtain ⟨a, zs, rfl, g1, g2, g3, g4, g5⟩ := s
        have ne : a ≠ q := fun z => own_apart I e hσ j gs hj ej (by rw [e1, z])
        exact ⟨a, zs, rfl, g1, g2, g3, by rw [upd_ne ne]; exact g4, g5.write w⟩
  · have back : ∀ {j : Nat} {ds : List D}, (ρ.set i (some (Sl.own fs)))[j]? = some (some (Sl.own ds)) → ∃ ds', ρ[j]? = some (some (Sl.own ds')) := fun {j ds} e' => by
      by_cases hj : j = i
      · exact ⟨gs0, by rw [hj]; exact e⟩
      · exact ⟨ds, by rwa [List.getElem?_set_ne (Ne.symm hj)] at e'⟩
    obtain ⟨d1, q1⟩ := back e1
    obtain ⟨d2, q2⟩ := back e2
    exact I.apart j k d1 d2 n q1 q2
  · by_cases z : a = q
    · subst z; rw [upd_same]; exact fun z => nomatch z
    · rw [upd_ne z]; exact I.fresh a ha
  · rw [upd_ne (ne_of_none h h2)]; exact I.keep a o n h
/-- what an own slot is -/
theorem SAt.ownAt {i : Nat} {es : List D} (I : SAt C A0 H0 A H σ ρ st) (e : ρ[i]? = some (some (.own es))) : ∃ q ws, σ[i]? = some (some (.ref q)) ∧ H q = some (.lst ws) ∧ Dats C H A ws es ∧ ¬ C.dom q := by
  obtain ⟨v, e1, q', ys, rfl, h1, h2, h3, h4, h5⟩ := I.sl i _ e
  exact ⟨q', ys, e1, h4, h5, fun z => h3 (I.dom _ z)⟩
theorem frz_own {ρ : En} {sc : List Nat} {i : Nat} {es : List D} (h : (frz sc ρ)[i]? = some (some (.own es))) : ρ[i]? = some (some (.own es)) ∧ i ∉ sc := by
  rw [frz_get] at h
  cases q : ρ[i]? with
  | none => rw [q] at h; cases h
  | some y =>
    rw [q] at h
    cases y with
    | none => simp at h
    | some y => cases y with
      | val d => simp at h
      | own ds =>
        by_cases hi : i ∈ sc
        · simp [hi] at h
        · simp [hi] at h; subst h; exact ⟨rfl, hi⟩
theorem frzs_own {x : Sl} {ρ : En} {sc : List Nat} {i : Nat} {es : List D} (h : (frzs x sc ρ)[i]? = some (some (.own es))) : ρ[i]? = some (some (.own es)) := by
  unfold frzs at h
  split at h
  · exact h
  · exact (frz_own h).1
/-- a method of a list of one's own, by values -/
def MtD (C : Deck S) (r : V → List V → Hp → VK → Prop) (f : List D → List D → Option (List D × D)) : Prop := ∀ (A : Addr → Prop) (H : Hp) (p : Addr) (ws vs : List V) (es ds es' : List D) (d : D) (Q : VK), A p → H p = some (.lst ws) → Dats C H A ws es → Dats C H A vs ds → f es ds = some (es', d) →
  (∀ ws' v, Dats C H A ws' es' → Dat C H A v d → Q v (upd H p (.lst ws'))) → r (.ref p) vs H Q
def frzl (ds : List D) (sc : List Nat) (ρ : En) : En := if ds.all (fun d => scal (.val d)) then ρ else frz sc ρ
@[simp] theorem frzl_nil (ds : List D) (ρ : En) : frzl ds [] ρ = ρ := by unfold frzl; split <;> simp
theorem scal_less {v : V} {d : D} (h : Dat C H A v d) (hs : scal (.val d) = true) : Dat C H A' v d := by
  cases h <;> simp only [scal] at hs <;> first | cases hs | skip
  · exact .non
  · exact .bl _
  · exact .int _
  · exact .str (by assumption)
  · exact .deck
theorem SAt.freezel {ds : List D} {vs : List V} (I : SAt C A0 H0 A H σ ρ st) (sc : List Nat) (t : Dats C H (Amin A σ ρ sc) vs ds) : ∃ A', SAt C A0 H0 A' H σ (frzl ds sc ρ) st ∧ Dats C H A' vs ds := by
  unfold frzl
  by_cases hs : ds.all (fun d => scal (.val d)) = true
  · rw [if_pos hs]
    refine ⟨A, I, t.len, fun i x d e1 e2 => scal_less (t.at_ i x d e1 e2) ?_⟩
    exact List.all_eq_true.mp hs d (List.mem_of_getElem? e2)
  · rw [if_neg hs]
    exact ⟨_, I.freeze sc, t⟩
/-- x.m(..) as a statement -/
def dMeth (i : Nat) (sc : List Nat) (dl : DA S) (f : List D → List D → Option (List D × D)) (k : D → En → Option En) : DS S := fun ρ s => match ρ[i]? with
  | some (some (.own _)) => (dl ρ s).out ρ fun ds s1 => match (frzl ds sc ρ)[i]? with
    | some (some (.own es)) => match f es ds with
      | some (es', d) => match k d ((frzl ds sc ρ).set i (some (.own es'))) with
        | some ρ' => .nx ρ' s1
        | none => .bad
      | none => .bad
    | _ => .bad
  | _ => .bad
theorem meth_d {r : V → List V → Hp → VK → Prop} {f : List D → List D → Option (List D × D)} {k : D → En → Option En} {i : Nat} (I : SAt C A0 H0 A H σ ρ st) (hr : MtD C r f) (g : SG C X.mg W A0 H0 (dMeth i sc dl f k ρ st) DD) {R : V → Hp → Prop}
    (fin : ∀ A' H' ρ1 s' d v, SAt C A0 H0 A' H' σ ρ1 s' → Dat C H' A' v d → (∃ ρ', k d ρ1 = some ρ' ∧ SG C X.mg W A0 H0 (.nx ρ' s') DD) → R v H') : ∃ v, σ[i]? = some (some v) ∧ tyV X.K "list" v H ∧ cta C X.mg W sc dl σ H fun vs H1 => r v vs H1 R := by
  unfold dMeth at g
  split at g
  rotate_left
  · exact g.elim
  rename_i es0 q0
  obtain ⟨p, ws, h1, h2, h3, h4⟩ := I.ownAt q0
  refine ⟨_, h1, .inl ⟨rfl, ws, .of h2⟩, A0, H0, A, ρ, st, I, (g.out I).imp fun ds s1 H1 k1 t1 ⟨I1, g1⟩ vs dvs => ?_⟩
  obtain ⟨A', I2, t2⟩ := I1.freezel sc dvs
  split at g1
  rotate_left
  · exact g1.elim
  rename_i es q
  cases ef : f es ds with
  | none => rw [ef] at g1; exact g1.elim
  | some ed =>
    obtain ⟨es', d⟩ := ed
    rw [ef] at g1
    dsimp only at g1
    cases ek : k d ((frzl ds sc ρ).set i (some (.own es'))) with
    | none => rw [ek] at g1; exact g1.elim
    | some ρ' =>
      rw [ek] at g1
      obtain ⟨p', ws', e1, e2, e3, e4⟩ := I2.ownAt q
      rw [h1] at e1
      cases e1
      obtain ⟨v, e5, a, ys, e6, g2, g3, g4, g5, g6⟩ := I2.sl i _ q
      rw [h1] at e5
      cases e5
      cases e6
      refine hr A' H1 p ws' vs es ds es' d R g2 e2 e3 t2 ef fun ws2 v t' dv => ?_
      have I3 := I2.writeOwn q h1 t'
      exact fin A' _ _ s1 d v I3 (dv.write fun a n => upd_ne fun z => n (z ▸ g2)) ⟨ρ', ek, g1⟩
def kDrop : D → En → Option En := fun _ ρ => some ρ
/-- x.m(e, ..) -/
theorem psd_meth (i : Nat) {x m : Str} {id : String} {r : V → List V → Hp → VK → Prop} {f : List D → List D → Option (List D × D)} {q1 q2 q3 : Pos} (slot : Slot "list" m id) (hty : typeOf (.builtin id) = pure (.type "method_descriptor")) (hm : MtR X id r) (hr : MtD C r f) (h : PAd X C W (e :: es) sc dl) (hN : X.N[i]? = some x := by rfl) (hv : Vis X.env.scope x := by first | exact Or.inl rfl | exact Or.inr (Or.inl rfl) | exact Or.inr (Or.inr rfl)) (hd : (x == ("__debug__" : Str)) = false := by decide) (hcd : (x == ("__classdict__" : Str)) = false := by decide)
    (hbase : attributeBase (.Name x q1) m X.env (eval (.Name x q1) X.env) = eval (.Name x q1) X.env := by rfl)
    (hfew : ((backTo q3 (starEach (e :: es) X.env)).all (fun x => !x.1) && (backToKw q3 (keywordEach [] X.env)).all (fun x => x.1.isSome) && decide ((e :: es).length + ([] : List Keyword).length + (if ([] : List Keyword).isEmpty then 0 else 1) < 30)) = true := by rfl)
    (hline : (q2.endLine == q3.line) = true := by rfl) (hst : starEach (e :: es) X.env = (false, eval e X.env) :: starEach es X.env := by rfl) (hplain : (backTo q3 (starEach es X.env)).any (·.1) = false := by rfl)
    (hs : swapsWith (.Call (.Attribute (.Name x q1) m q2) (e :: es) [] q3) none pos.line X.env = pure false := by rfl) : PSd X C W (.Expr (.Call (.Attribute (.Name x q1) m q2) (e :: es) [] q3) pos) (dMeth i sc dl f kDrop) :=
  psd_of (ps_expr (pe_bm PySem.F.plainAttrs_list slot hty hm (pe_var hN hv hd hcd) h hbase hfew hline hst hplain) hs) fun A0 H0 A ρ st σ H DD I g => by
    obtain ⟨v, e1, e2, e3⟩ := meth_d (R := fun _ H' => DD.nx σ H') I hr g fun A' H' ρ1 s' d v J _ ⟨ρ', ek, g'⟩ => by cases ek; exact g' A' H' σ J
    exact ⟨v, e1, e2, e3⟩
/-- t = x.m() -/
theorem psd_methA0 (i : Nat) {x m : Str} {id : String} {r : V → List V → Hp → VK → Prop} {f : List D → List D → Option (List D × D)} {g : DG} {l : List Nat} {q1 q2 q3 : Pos} (slot : Slot "list" m id) (hty : typeOf (.builtin id) = pure (.type "method_descriptor")) (hm : MtR X id r) (hr : MtD C r f) (hg : PGd X C tg l g) (hN : X.N[i]? = some x := by rfl) (hv : Vis X.env.scope x := by first | exact Or.inl rfl | exact Or.inr (Or.inl rfl) | exact Or.inr (Or.inr rfl)) (hd : (x == ("__debug__" : Str)) = false := by decide) (hcd : (x == ("__classdict__" : Str)) = false := by decide)
    (hbase : attributeBase (.Name x q1) m X.env (eval (.Name x q1) X.env) = eval (.Name x q1) X.env := by rfl) (hline : (q2.endLine == q3.line) = true := by rfl)
    (hs : swapsWithSole [tg] (.Call (.Attribute (.Name x q1) m q2) [] [] q3) pos.line X.env = pure false := by rfl) (hw : swappedStores [tg] (.Call (.Attribute (.Name x q1) m q2) [] [] q3) X.env = pure none := by rfl) (h1 : (assignEach [tg] X.env).map (·.2) = [assign tg X.env] := by rfl) :
    PSd X C W (.Assign [tg] (.Call (.Attribute (.Name x q1) m q2) [] [] q3) pos) (dMeth i [] dNil f g) :=
  psd_of (ps_asg (pe_bm0 PySem.F.plainAttrs_list slot hty hm (pe_var hN hv hd hcd) hbase hline) hg.pg hs hw h1) fun A0 H0 A ρ st σ H DD I gg => by
    obtain ⟨v, e1, e2, e3⟩ := meth_d (R := fun x H1 => ctg C l g x σ H1 DD.nx) I hr gg fun A' H' ρ1 s' d v J dv ⟨ρ', ek, g'⟩ => ⟨A0, H0, A', ρ1, s', d, ρ', J, dv, ek, fun σ' J' _ => g' A' H' σ' J'⟩
    refine ⟨v, e1, e2, ?_⟩
    obtain ⟨A0', H0', A', ρ', st', I', g'⟩ := e3
    exact g'.done I'.at_ [] Dats.nil
/-- x.m() as a statement -/
theorem psd_meth0 (i : Nat) {x m : Str} {id : String} {r : V → List V → Hp → VK → Prop} {f : List D → List D → Option (List D × D)} {q1 q2 q3 : Pos} (slot : Slot "list" m id) (hty : typeOf (.builtin id) = pure (.type "method_descriptor")) (hm : MtR X id r) (hr : MtD C r f) (hN : X.N[i]? = some x := by rfl) (hv : Vis X.env.scope x := by first | exact Or.inl rfl | exact Or.inr (Or.inl rfl) | exact Or.inr (Or.inr rfl)) (hd : (x == ("__debug__" : Str)) = false := by decide) (hcd : (x == ("__classdict__" : Str)) = false := by decide)
    (hbase : attributeBase (.Name x q1) m X.env (eval (.Name x q1) X.env) = eval (.Name x q1) X.env := by rfl) (hline : (q2.endLine == q3.line) = true := by rfl)
    (hs : swapsWith (.Call (.Attribute (.Name x q1) m q2) [] [] q3) none pos.line X.env = pure false := by rfl) : PSd X C W (.Expr (.Call (.Attribute (.Name x q1) m q2) [] [] q3) pos) (dMeth i [] dNil f kDrop) :=
  psd_of (ps_expr (pe_bm0 PySem.F.plainAttrs_list slot hty hm (pe_var hN hv hd hcd) hbase hline) hs) fun A0 H0 A ρ st σ H DD I gg => by
    obtain ⟨v, e1, e2, e3⟩ := meth_d (R := fun _ H' => DD.nx σ H') I hr gg fun A' H' ρ1 s' d v J _ ⟨ρ', ek, g'⟩ => by cases ek; exact g' A' H' σ J
    refine ⟨v, e1, e2, ?_⟩
    obtain ⟨A0', H0', A', ρ', st', I', g'⟩ := e3
    exact g'.done I'.at_ [] Dats.nil
/-- append, extend, pop, insert(0, ..) -/
def fApp : List D → List D → Option (List D × D) := fun es ds => match ds with
  | [d] => if es.length < 65536 then some (es ++ [d], .non) else none
  | _ => none
def fExt : List D → List D → Option (List D × D) := fun es ds => match ds with
  | [.lst fs] => if es.length + fs.length ≤ 65536 then some (es ++ fs, .non) else none
  | _ => none
def fPop : List D → List D → Option (List D × D) := fun es ds => match ds with
  | [] => (es.getLast?).map fun d => (es.dropLast, d)
  | _ => none
def fIns : List D → List D → Option (List D × D) := fun es ds => match ds with
  | [.int 0, d] => if es.length < 65536 then some (d :: es, .non) else none
  | _ => none
theorem md_app : MtD C rAppend fApp := by
  intro A H p ws vs es ds es' d Q hA hp t tv e q
  match ds, e with
  | [d0], e =>
    simp only [fApp] at e
    by_cases z : es.length < 65536
    · rw [if_pos z] at e
      cases e
      obtain ⟨v, rfl, hv⟩ := tv.one
      exact ⟨p, ws, v, rfl, rfl, hp, by rw [t.len, line_eq]; omega, q _ _ (dats_snoc t hv) .non⟩
    · rw [if_neg z] at e; cases e
theorem md_ext : MtD C rExtend fExt := by
  intro A H p ws vs es ds es' d Q hA hp t tv e q
  match ds, e with
  | [.lst fs], e =>
    simp only [fExt] at e
    by_cases z : es.length + fs.length ≤ 65536
    · rw [if_pos z] at e
      cases e
      obtain ⟨v, rfl, hv⟩ := tv.one
      obtain ⟨b, zs, rfl, n, r, tz⟩ := hv.of_lst
      exact ⟨p, b, ws, zs, rfl, rfl, hp, r, by rw [t.len, tz.len, line_eq]; omega, q _ _ (t.append tz) .non⟩
    · rw [if_neg z] at e; cases e
theorem Dats.take {xs : List V} {ds : List D} (t : Dats C H A xs ds) (n : Nat) : Dats C H A (xs.take n) (ds.take n) := ⟨by simp [t.len], fun i x d e1 e2 => by
  rw [List.getElem?_take] at e1 e2
  split at e1
  · rename_i h; rw [if_pos h] at e2; exact t.at_ i x d e1 e2
  · cases e1⟩
theorem md_pop : MtD C rPop fPop := by
  intro A H p ws vs es ds es' d Q hA hp t tv e q
  match ds, e with
  | [], e =>
    simp only [fPop, Option.map_eq_some_iff] at e
    obtain ⟨d0, e1, e2⟩ := e
    cases e2
    rw [List.getLast?_eq_getElem?] at e1
    obtain ⟨v, h1, h2⟩ := t.get e1
    refine ⟨p, ws, v, rfl, tv.unnil, hp, by rw [t.len]; exact h1, ?_⟩
    rw [List.dropLast_eq_take] at q ⊢
    exact q _ _ (by rw [t.len]; exact t.take _) h2
theorem insAt0 {ws : List V} {v : V} : ws.insertIdx 0 v = v :: ws := rfl
end
end Mir

set_option Elab.async false
set_option linter.all false
set_option maxRecDepth 100000
set_option maxHeartbeats 2000000
namespace Mir
open PySem PySem.Spec L2
open PyProof.Rows hiding St

section
variable {S : Type} {C : Deck S} {X : Cx} {W : WX} {A0 A A' : Addr → Prop} {H0 H H' B : Hp} {σ : St} {ρ : En} {st st' : S}
variable {e a b c tg iter elt : Expr} {es rest ifs : List Expr} {pos p p2 : Pos} {sc sc' sa sb vs : List Nat} {de da db dc : DE S} {dt dt' du : DT S} {dl di dj : DA S} {ds ds' : DS S} {mg : Str → Option Value} {DD : Ends} {xs ys : List Stmt} {dv dw : E1 S Sl}
/-! ### a, b = e1, e2 -/
theorem ctv_step0 (I : SAt C A0 H0 A H σ ρ st) {f : Sl → S → Out S} (g : SG C X.mg W A0 H0 ((dv ρ st).out ρ f) DD) {R : V → Hp → Prop}
    (fin : ∀ A' H' x s' v, SAt C A0 H0 A' H' σ ρ s' → Pend C A0 H0 A' H' σ ρ v x → Keep C.dom H H' → (∀ a, A a → A' a) → (∀ a, A' a → A a ∨ H a = none) → (∀ ds, x = .own ds → ∃ p, v = .ref p ∧ H p = none) → SG C X.mg W A0 H0 (f x s') DD → R v H') : ctv C X.mg W [] dv σ H R :=
  ⟨A0, H0, A, ρ, st, I, (g.out I).imp fun x s1 H1 k1 t1 ⟨I1, g1⟩ => by
    have hn : ∀ {p}, H1 p = none → H p = none := fun {p} hp => by
      cases e : H p with
      | none => rfl
      | some o =>
        by_cases z : C.dom p
        · exact absurd hp (C.there _ _ _ t1 z)
        · have := k1 p o z e; rw [hp] at this; cases this
    cases x with
    | val d =>
      intro v dv
      rw [Amin.nil] at dv
      exact fin A H1 (.val d) s1 v I1 ⟨dv, fun ds e => nomatch e⟩ k1 (fun _ z => z) (fun _ z => .inl z) (fun ds e => nomatch e) g1
    | own ds =>
      intro p xs hp t hz
      rw [Amin.nil] at t
      obtain ⟨I3, P3⟩ := I1.newOwn hp t
      exact fin _ _ _ s1 _ I3 P3 (k1.trans (Keep.upd hp)) (fun _ z => .inl z) (fun a z => z.imp id fun w => by rw [w]; exact hn hp) (fun ds e => ⟨p, rfl, hn hp⟩) g1⟩
theorem Pend.move {v : V} {x : Sl} (P : Pend C A0 H0 A H σ ρ v x) (I : SAt C A0 H0 A H σ ρ st) (k : Keep C.dom H H') (h1 : ∀ a, A a → A' a) (h2 : ∀ a, A' a → A a ∨ H a = none) : Pend C A0 H0 A' H' σ ρ v x := by
  refine ⟨?_, P.apart⟩
  have s := P.sl
  cases x with
  | val d => exact Dat.lift s k I.domA h2
  | own ds =>
    obtain ⟨a, ys, rfl, g1, g2, g3, g4, g5⟩ := s
    exact ⟨a, ys, rfl, h1 a g1, g2, g3, k a _ (fun z => g3 (I.dom a z)) g4, g5.lift k I.domA h2⟩
theorem psd_par (i j : Nat) {x y : Str} {px py pt : Pos} {kt k2 : Nat} {pt2 : Pos} (hc : X.calm = true) (nd : X.N.Nodup) (ha : PV X C W a sa dv) (hb : PV X C W b sb dw) (hsa : sa = [] := by rfl) (hsb : sb = [] := by rfl) (hi : X.N[i]? = some x := by rfl) (hj : X.N[j]? = some y := by rfl) (hij : i ≠ j := by decide)
    (hx : X.env.scope.names.lookup x = some .local := by rfl) (hy : X.env.scope.names.lookup y = some .local := by rfl)
    (hw : swappedStores [.Tuple [.Name x px, .Name y py] kt pt] (.Tuple [a, b] k2 pt2) X.env = pure (some [x, y]) := by rfl)
    (hs : swapsWithSole [.Tuple [.Name x px, .Name y py] kt pt] (.Tuple [a, b] k2 pt2) pos.line X.env = pure false := by rfl)
    (h1 : starEach [a, b] X.env = (false, eval a X.env) :: starEach [b] X.env := by rfl) (h2 : starEach [b] X.env = (false, eval b X.env) :: starEach [] X.env := by rfl) :
    PSd X C W (.Assign [.Tuple [.Name x px, .Name y py] kt pt] (.Tuple [a, b] k2 pt2) pos) (dPar i j sa sb dv dw) :=
  psd_of (ps_par hc nd hi hj hij hx hy (pa_cons ha (pa_cons hb pa_nil h2) h1) hw hs) fun A0 H0 A ρ st σ H DD I g => by
    subst hsa hsb
    refine ctv_step0 I g fun A1 H1 x1 s1 v1 I1 P1 _ _ _ _ g1 => ?_
    simp only [frzs_nil] at g1
    refine ctv_step0 I1 g1 fun A2 H2 x2 s2 v2 I2 P2 k2 m2 l2 n2 g2 => ?_
    have P1' := P1.move I1 k2 m2 l2
    have I3 := I2.give (i := i) P1'
    have P3 : Pend C A0 H0 A2 H2 (σ.set i (some v1)) (ρ.set i (some x1)) v2 x2 := ⟨P2.sl, fun ds e k es ek => by
      obtain ⟨p, ep, hp⟩ := n2 ds e
      by_cases hk : k = i
      · subst hk
        have hl : k < ρ.length := by have := (List.getElem?_eq_some_iff.mp ek).1; rwa [List.length_set] at this
        rw [List.getElem?_set_self hl] at ek
        cases ek
        obtain ⟨q, ws, rfl, _, _, _, h4, _⟩ := P1.sl
        rw [List.getElem?_set_self (by rw [I.len]; exact hl), ep]
        intro z
        cases z
        rw [hp] at h4; cases h4
      · rw [List.getElem?_set_ne (Ne.symm hk)] at ek ⊢
        exact P2.apart ds e k es ek⟩
    exact ⟨v1, v2, rfl, g2 A2 H2 _ (I3.give P3)⟩

/-! ### x op= e, x[i] = e -/
def dAug (i : Nat) (f : D → D → Option D) (de : DE S) : DS S := fun ρ s => match ρ[i]? with
  | some (some (.val d)) => (de ρ s).out ρ fun y s1 => match f d y with
    | some z => .nx (ρ.set i (some (.val z))) s1
    | none => .bad
  | _ => .bad
theorem psd_aug {op : Operator} {r : R2} {f : D → D → Option D} (i : Nat) {x : Str} (nd : X.N.Nodup) (ho : OpR X (inplaceOp op) r) (hr : OpD C r f) (h : PD X C W e [] de) (hi : X.N[i]? = some x := by rfl) (hx : Loc X.env.scope x := by first | exact Or.inl rfl | exact Or.inr rfl) (hf : X.fn x = true ∨ X.env.scope.names.lookup x = some .local := by first | exact .inl rfl | exact .inr rfl | assumption) :
    PSd X C W (.AugAssign (.Name x p) op e pos) (dAug i f de) :=
  psd_of (ps_aug nd hi hx h ho hf) fun A0 H0 A ρ st σ H DD I g => by
    unfold dAug at g
    split at g
    rotate_left
    · exact g.elim
    rename_i d q
    obtain ⟨v, e1, s⟩ := I.sl i _ q
    refine ⟨v, e1, A0, H0, A, ρ, st, I, (g.out I).imp fun y s1 H1 k1 t1 ⟨I1, g1⟩ w dw => ?_⟩
    rw [Amin.nil] at dw
    cases ef : f d y with
    | none => rw [ef] at g1; exact g1.elim
    | some z =>
      rw [ef] at g1
      exact hr A s1 H1 v w d y z _ ⟨I1.fresh, I1.domA, t1⟩ (Dat.keep s k1 I.domA) dw ef fun H2 u k t hu => g1 A H2 _ ((I1.next k t).set hu)
theorem opr_iadd : OpR X (inplaceOp .Add) (fun x y H Q => (rI0 fun i j => V.int (i + j)) x y H Q ∨ ∃ i j, x = .str i ∧ y = .str j ∧ i.length + j.length ≤ sizeLine ∧ Q (.str (i ++ j)) H) := iop_add.or iop_add_str
def iaddD : D → D → Option D
  | .int i, .int j => some (.int (i + j))
  | .str x, .str y => if x.length + y.length ≤ 1048576 then some (.str (x ++ y)) else none
  | _, _ => none
theorem od_iadd : OpD C (fun x y H Q => (rI0 fun i j => V.int (i + j)) x y H Q ∨ ∃ i j, x = .str i ∧ y = .str j ∧ i.length + j.length ≤ sizeLine ∧ Q (.str (i ++ j)) H) iaddD :=
  ((od_int0 (g := fun i j => i + j)).or od_addS).imp fun x y d e => by
    cases x <;> cases y <;> simp only [iaddD] at e <;> try cases e
    all_goals simp only [fI, addS, Option.map_some, Option.none_or, Option.some_or, Option.or_none]
    all_goals exact e
theorem psd_iadd (i : Nat) {x : Str} (nd : X.N.Nodup) (h : PD X C W e [] de) (hi : X.N[i]? = some x := by rfl) (hx : Loc X.env.scope x := by first | exact Or.inl rfl | exact Or.inr rfl) (hf : X.fn x = true ∨ X.env.scope.names.lookup x = some .local := by first | exact .inl rfl | exact .inr rfl | assumption) :
    PSd X C W (.AugAssign (.Name x p) .Add e pos) (dAug i iaddD de) := psd_aug i nd opr_iadd od_iadd h hi hx hf
def mulOk (i j : Int) : Bool := (-(2 ^ 64) < i && i < 2 ^ 64) || (-(2 ^ 64) < j && j < 2 ^ 64)
theorem mulOk_c (i j : Int) (h : mulOk i j = true) : CMul i j := by
  unfold mulOk at h
  simp only [Bool.or_eq_true, Bool.and_eq_true, decide_eq_true_eq] at h
  exact h
def mulI : D → D → Option D := fI fun i j => if mulOk i j then some (i * j) else none
theorem psd_imul (i : Nat) {x : Str} (nd : X.N.Nodup) (h : PD X C W e [] de) (hi : X.N[i]? = some x := by rfl) (hx : Loc X.env.scope x := by first | exact Or.inl rfl | exact Or.inr rfl) (hf : X.fn x = true ∨ X.env.scope.names.lookup x = some .local := by first | exact .inl rfl | exact .inr rfl | assumption) :
    PSd X C W (.AugAssign (.Name x p) .Mult e pos) (dAug i mulI de) := psd_aug i nd iop_mul (od_int _ mulOk_c) h hi hx hf
/-- l * k, t * k for small ones; ints -/
def repOk (n : Nat) (k : Int) : Bool := decide (k ≤ 65536) && decide (-65536 ≤ k) && decide (n * k.toNat ≤ 65536)
def mulD : D → D → Option D
  | .int i, .int j => if mulOk i j then some (.int (i * j)) else none
  | .lst ds, .int k => if repOk ds.length k then some (.lst (List.replicate k.toNat ds).flatten) else none
  | _, _ => none
theorem rRep_eq : ∃ R, @rRep = R := ⟨_, rfl⟩
theorem pd_mulI (ha : PD X C W a sa da) (hb : PD X C W b sb db) : PD X C W (.BinOp a .Mult b pos) (sa ++ sb) (dBin mulI da db) := pd_bin op_mul (od_int _ mulOk_c) ha hb
def modD : D → D → Option D := fI fun i j => if decide (0 < j) then some (i % j) else none
theorem pd_mod (ha : PD X C W a sa da) (hb : PD X C W b sb db) : PD X C W (.BinOp a .Mod b pos) (sa ++ sb) (dBin modD da db) := pd_bin op_mod (od_int (fun _ j => decide (0 < j)) fun i j h => of_decide_eq_true h) ha hb
def fdivD : D → D → Option D := fI fun i j => if decide (0 < j) && decide (j < 1073741824) then some (i / j) else none
theorem pd_fdiv (ha : PD X C W a sa da) (hb : PD X C W b sb db) : PD X C W (.BinOp a .FloorDiv b pos) (sa ++ sb) (dBin fdivD da db) := pd_bin op_fdiv (od_int (fun _ j => decide (0 < j) && decide (j < 1073741824)) fun i j h => by
  simp only [Bool.and_eq_true, decide_eq_true_eq] at h; exact h) ha hb
def negD : D → Option D
  | .int i => some (.int (-i))
  | _ => none
def dUn (f : D → Option D) (de : DE S) : DE S := fun ρ s => (de ρ s).bind fun d s1 => ofO s1 (f d)
theorem pd_neg (h : PD X C W e sc de) : PD X C W (.UnaryOp .USub e pos) [] (dUn negD de) :=
  pd_of (pe_un un_neg h) fun A0 H0 A ρ st σ H Q I g => ⟨A0, H0, A, ρ, st, I, g.bind.imp fun d s1 H1 k1 t1 g1 v dv => by
    obtain ⟨d', e', q⟩ := g1.ofO
    cases d <;> simp only [negD] at e' <;> cases e'
    cases dv
    exact ⟨_, rfl, q H1 Keep.refl t1 _ (.int _)⟩⟩

/-! ### own errors -/
/-- what is known of an error's class -/
structure ErrOk (K : PySem.W.Frag) (mg : Str → Option Value) (c : Str) (a : Addr) : Prop where
  g : mg c = some (.ref a)
  x : PySem.W.excIn K a [.type "ValueError", .type "Exception", .type "BaseException", .type "object"] "ValueError.__new__" = true
  k : PySem.W.keepIn K (.ref a) = true
  b : PySem.W.subIn K (.ref a) (.type "BaseException") = some true
  t : PySem.W.typeIn K (.ref a) = some (.type "type")
  i : PySem.W.isClsIn K a = true
def dRaise (c : Str) : DS S := fun ρ s => .ex c ρ s
theorem psd_raise {x m : Str} {q : Addr} {j : Nat} {p2 p3 : Pos} (E : ErrOk X.K X.mg x q) (hc : X.calm = true) (tk : Takes X W) (hg : Gl X x := by rfl) (hdb : (x == ("__debug__" : Str)) = false := by decide) :
    PSd X C W (.Raise (some (.Call (.Name x p) [.Constant (.str m) j p2] [] p3)) none pos) (dRaise x : DS S) :=
  psd_of (ps_raise hc tk (pmk_own PySem.F.excBase_ValueError E.x E.g E.k (raises_own E.b E.t) hg hdb)) fun A0 H0 A ρ st σ H DD I g => g q A H σ E.g I
/-- which error's class is one of which -/
def handle (sub : Str → Str → Option Bool) (c : Str) (ρ : En) (s : S) : List (Str × DS S) → Out S
  | [] => .ex c ρ s
  | (x, d) :: r => match sub c x with
    | some true => (match d ρ s with
      | .ex _ _ _ => .bad
      | o => o)
    | some false => handle sub c ρ s r
    | none => .bad
def dTry (sub : Str → Str → Option Bool) (ds : DS S) (hs : List (Str × DS S)) : DS S := fun ρ s => match ds ρ s with
  | .ex c ρ' s' => handle sub c ρ' s' hs
  | o => o
/-- the clauses -/
inductive HsOk (X : Cx) (C : Deck S) : List ExceptHandler → List (Value × (Addr → Value → Option Addr → TS)) → List (Str × DS S) → Prop
  | nil : HsOk X C [] [] []
  | cons {x : Str} {q : Addr} {b0 : Stmt} {suite : List Stmt} {np pos' : Pos} {hds : List ExceptHandler} {l : List (Value × (Addr → Value → Option Addr → TS))} {hs : List (Str × DS S)} {d : DS S} (hm : X.mg x = some (.ref q)) (hg : Gl X x) (hdb : (x == ("__debug__" : Str)) = false)
      (hsu : ∀ (a : Addr) (oe : Obj) (pn : List (Addr × Obj)), PBd (X.suite a ((a, oe) :: pn)) C (fun _ _ _ _ => False) (b0 :: suite) d) (r : HsOk X C hds l hs) :
      HsOk X C (.ExceptHandler (some (.Name x np)) none (b0 :: suite) pos' :: hds) ((.ref q, fun _ _ _ => cts C X.mg (fun _ _ _ _ => False) d) :: l) ((x, d) :: hs)
theorem HsOk.hds {hds : List ExceptHandler} {l : List (Value × (Addr → Value → Option Addr → TS))} {hs : List (Str × DS S)} (h : HsOk X C hds l hs) : HdsOk X hds l := by
  induction h with
  | nil => exact .nil
  | cons hm hg hdb hsu r ih => exact .cons ⟨hg, hdb, .inl hm⟩ (fun a oe cls d pn _ _ => hsu a oe pn) ih
/-- what is known of the classes: sub tells it -/
def SubOk (K : PySem.W.Frag) (mg : Str → Option Value) (sub : Str → Str → Option Bool) : Prop := ∀ c x b, sub c x = some b → ∃ a a', mg c = some (.ref a) ∧ mg x = some (.ref a') ∧ PySem.W.exmOne K (.ref a) (.ref a') = some b
theorem handle_ok {hds : List ExceptHandler} {l : List (Value × (Addr → Value → Option Addr → TS))} {hs : List (Str × DS S)} (h : HsOk X C hds l hs) {sub : Str → Str → Option Bool} (hsub : SubOk X.K X.mg sub) {c : Str} {s : S} (I : SAt C A0 H0 A H σ ρ s) {q : Addr} (hq : X.mg c = some (.ref q)) (g : SG C X.mg W A0 H0 (handle sub c ρ s hs) DD) : wMany X.K W DD l (.ref q) none σ H := by
  induction h with
  | nil => exact g q A H σ hq I
  | @cons x q' b0 suite np pos' hds l hs d hm hg hdb hsu r ih =>
    unfold handle at g
    cases e : sub c x with
    | none => rw [e] at g; exact g.elim
    | some b =>
      rw [e] at g
      obtain ⟨a, a', h1, h2, h3⟩ := hsub c x b e
      rw [hq] at h1
      rw [hm] at h2
      cases h1
      cases h2
      cases b with
      | true =>
        dsimp only at g
        refine ⟨true, h3, fun _ a1 _ => ⟨A0, H0, A, ρ, s, I, ?_⟩, fun z => nomatch z⟩
        cases eo : d ρ s with
        | ex c' ρ' s' => rw [eo] at g; exact g.elim
        | nx ρ' s' => rw [eo] at g; exact g
        | rt d' s' => rw [eo] at g; exact g
        | bk ρ' s' => rw [eo] at g; exact g
        | ct ρ' s' => rw [eo] at g; exact g
        | bad => rw [eo] at g; exact g
      | false => exact ⟨false, h3, (fun z => nomatch z), fun _ => ih g⟩
theorem psd_try {sub : Str → Str → Option Bool} {h0 : ExceptHandler} {hds : List ExceptHandler} {l : List (Value × (Addr → Value → Option Addr → TS))} {hs : List (Str × DS S)} (hst : X.stack = X.env :: X.outer) (hf : X.env.frame = some X.env.locals) (tk : Takes X W) (hsub : SubOk X.K X.mg sub)
    (hb : ∀ (W' : WX) (pn : List (Addr × Obj)) (xe : Value → Shared → Prop), Takes (X.tr pn xe) W' → PassesOwn (model X.prog X.w) X.A X.env xe → PBd (X.tr pn xe) C W' xs ds) (hh : HsOk X C (h0 :: hds) l hs) :
    PSd X C W (.Try xs (h0 :: hds) [] [] pos) (dTry sub ds hs) :=
  psd_of (ps_try_many (tb := fun W' => cts C X.mg W' ds) hst hf tk (fun W' pn xe t p => hb W' pn xe t p) hh.hds) fun A0 H0 A ρ st σ H DD I g => by
    refine ⟨A0, H0, A, ρ, st, I, ?_⟩
    unfold dTry at g
    cases eo : ds ρ st with
    | ex c ρ' s' =>
      rw [eo] at g
      exact fun q A' H' σ' hq J => handle_ok hh hsub J hq g
    | nx ρ' s' => rw [eo] at g; exact g
    | rt d' s' => rw [eo] at g; exact g
    | bk ρ' s' => rw [eo] at g; exact g
    | ct ρ' s' => rw [eo] at g; exact g
    | bad => rw [eo] at g; exact g

/-! ### a def by its body -/
/-- the function of a body -/
def mOf (N : Nat) (ds : DS S) : List D → S → R S D := fun args s => match ds (args.map (fun d => some (.val d)) ++ List.replicate (N - args.length) none) s with
  | .rt d s' => .ok d s'
  | .nx _ s' => .ok .non s'
  | .ex c _ s' => .ex c s'
  | _ => .bad
variable {PC : Deck S → Prop}
theorem start_sat {N : List Str} {vs : List V} {args : List D} {s : S} (V0 : VAt C A H s) (t : Dats C H A vs args) : SAt C A H A H (L2.start N vs) (args.map (fun d => some (.val d)) ++ List.replicate (N.length - args.length) none) s where
  len := by simp [L2.start, t.len]
  sl := fun i x e => by
    by_cases hi : i < args.length
    · rw [List.getElem?_append_left (by simpa using hi), List.getElem?_map] at e
      cases h : args[i]? with
      | none => rw [h] at e; cases e
      | some d =>
        rw [h] at e
        cases e
        obtain ⟨v, h1, h2⟩ := t.get h
        refine ⟨v, ?_, h2⟩
        unfold L2.start
        rw [List.getElem?_append_left (by simpa [t.len] using hi), List.getElem?_map, h1]
        rfl
    · rw [List.getElem?_append_right (by simpa using hi), List.getElem?_replicate] at e
      split at e <;> cases e
  apart := fun i j ds es n e1 e2 => by
    exfalso
    by_cases hi : i < args.length
    · rw [List.getElem?_append_left (by simpa using hi), List.getElem?_map] at e1
      cases h : args[i]? <;> rw [h] at e1 <;> cases e1
    · rw [List.getElem?_append_right (by simpa using hi), List.getElem?_replicate] at e1
      split at e1 <;> cases e1
  fresh := V0.fresh
  sub := fun _ z => z
  lim := fun _ z => .inl z
  dom := V0.dom
  keep := Keep.refl
  at_ := V0.at_
/-- the context of a body -/
structure BX (X : Cx) (W : WX) (j : Nat) : Prop where
  calm : X.calm = true
  tk : Takes X W
  po : PassesOwn (model X.prog X.w) X.A X.env X.xe
  room : Room j X.A
theorem fn_mk0 {P : Program} {w : World} {K : PySem.W.Frag} {mg : Str → Option Value} {base : Heap} {x : Str} {stm : Stmt} {f : Addr} {fd : FuncData} {N ps : List Str} {k : Nat} {ds : DS S} (F : Fun K x x stm f fd) (hg : mg x = some (.ref f)) (hk : PySem.W.keepIn K (.ref f) = true) (hb : Binds K fd ps []) (sc : FnScope N ps (defScope stm))
    (body : ∀ (cdv : Value) (A : Around) (outer : List PySem.Env) (s : Shared) (H : Hp) (E : XK) (C : Deck S), PC C → Room k (A.deeper (envOfC x (defScope stm) s.heap.objs.size f cdv)) → PBd (cxOf (L2.CX P w) P w K mg base N x (defScope stm) f cdv A outer s H E) C (fun cls d _ H => E cls d H) (defBody stm) ds) :
    Fn P w K mg base PC x (k + 1) ps.length (mOf N.length ds) := by
  refine ⟨f, fd, ps, F.okX sc (fun vs H Q E h => ?_) (fun cdv A outer s H vs Q E hr h => ?_), hg, hk, hb⟩
  · obtain ⟨C, A, s, args, pc, V0, t, hl, g⟩ := h
    rw [t.len, hl]
  · obtain ⟨C, A1, s1, args, pc, V0, t, hl, g⟩ := h
    refine ⟨_, body cdv A outer s H E C pc hr, A1, H, A1, _, s1, start_sat V0 t, ?_⟩
    unfold mOf at g
    generalize ho : ds (args.map (fun d => some (.val d)) ++ List.replicate (N.length - args.length) none) s1 = o at g
    cases o with
    | rt d s' => exact fun H' v k a h => g H' v k a h
    | nx ρ s' => exact fun A' H' σ J => g H' .non J.keep J.at_ .non
    | ex c ρ s' => exact fun q A' H' σ m J => g q H' m J.keep J.at_
    | bk ρ s' => exact g.elim
    | ct ρ s' => exact g.elim
    | bad => exact g.elim
end
end Mir

set_option Elab.async false
set_option linter.all false
set_option maxRecDepth 100000
set_option maxHeartbeats 2000000
namespace Mir
open PySem PySem.Spec L2
open PyProof.Rows hiding St

section
variable {S : Type} {C : Deck S} {X : Cx} {W : WX} {A0 A A' : Addr → Prop} {H0 H H' B : Hp} {σ : St} {ρ : En} {st st' : S}
variable {e a b c tg iter elt : Expr} {es rest ifs : List Expr} {pos p p2 : Pos} {sc sc' sa sb vs : List Nat} {de da db dc : DE S} {dt dt' du : DT S} {dl di dj dk : DA S} {ds ds' : DS S} {mg : Str → Option Value} {DD : Ends} {xs ys : List Stmt} {dv dw : E1 S Sl}
/-! ### a module's constants -/
theorem pd_gint {x : Str} {i : Int} (h : ∃ t, X.mg x = some (.int i t)) (hg : Gl X x := by rfl) (hdb : (x == ("__debug__" : Str)) = false := by decide) : PD X C W (.Name x pos) [] (dC (.int i)) := by
  obtain ⟨t, h⟩ := h
  exact pd_glob (v := .int i) h ⟨t, rfl⟩ (fun H A => .int i) hg hdb
theorem pd_gstr {x y : Str} {l : List Nat} (h : ∃ t, X.mg x = some (.str y t)) (hy : y = mkS l) (hl : SOk l) (hg : Gl X x := by rfl) (hdb : (x == ("__debug__" : Str)) = false := by decide) : PD X C W (.Name x pos) [] (dC (.str l)) := by
  obtain ⟨t, h⟩ := h
  subst hy
  exact pd_glob (v := .str _) h ⟨t, rfl⟩ (fun H A => .str hl) hg hdb

/-! ### in -/
theorem flat_of {v : V} {d : D} (h : Dat C H A v d) (f : flatD d = true) : flatV v = true := by
  cases h <;> simp only [flatD] at f <;> first | rfl | cases f
theorem eqV_of {v w : V} {d d' : D} (h : Dat C H A v d) (h' : Dat C H A w d') (f : flatD d = true) (f' : flatD d' = true) : eqV v w = eqD d d' := by
  cases h <;> simp only [flatD] at f <;> first | cases f | skip
  all_goals cases h' <;> simp only [flatD] at f' <;> first | (cases f'; done) | skip
  all_goals first
    | (simp only [eqV, eqD]; done)
    | (simp only [eqV, eqD, mkS_eq]; done)
    | rfl
theorem flats_of {vs : List V} {ds : List D} (t : Dats C H A vs ds) (f : ds.all flatD = true) : vs.all flatV = true := by
  rw [List.all_eq_true] at f ⊢
  intro v hv
  obtain ⟨i, hi⟩ := List.mem_iff_getElem?.mp hv
  have hl : i < ds.length := by rw [← t.len]; exact (List.getElem?_eq_some_iff.mp hi).1
  exact flat_of (t.at_ i v _ hi (List.getElem?_eq_getElem hl)) (f _ (List.getElem_mem hl))
theorem inV_of {v : V} {d : D} (h : Dat C H A v d) (f : flatD d = true) : ∀ {vs : List V} {ds : List D}, Dats C H A vs ds → ds.all flatD = true → inV v vs = ds.any fun y => eqD y d
  | vs, [], t, _ => by rw [t.unnil]; rfl
  | vs, e :: ds, t, g => by
    obtain ⟨x, r, rfl, h1, h2⟩ := t.uncons
    simp only [List.all_cons, Bool.and_eq_true] at g
    show (eqV x v || inV v r) = _
    rw [eqV_of h1 h g.1 f, inV_of h f h2 g.2]; rfl
def rInS (neg : Bool) : R2 := fun x y H Q => ∃ (c : Nat) (z : Str), x = .str ⟨#[c]⟩ ∧ y = .str z ∧ Q (.bl (if neg then !decide (c ∈ z.cps.toList) else decide (c ∈ z.cps.toList))) H
theorem op_inS : OpR X (compareOp .In) (rInS false) := op_in_sign
theorem op_notInS : OpR X (compareOp .NotIn) (rInS true) := op_notIn_sign
theorem oc_in {K : PySem.W.Frag} (neg : Bool) : OpD C (fun x y H Q => rInS neg x y H Q ∨ rIn K neg x y H Q) (inF neg) := by
  intro A s H x y dx dy d Q I h1 h2 e q
  cases dy with
  | str z =>
    cases dx <;> simp only [inF] at e <;> try cases e
    rename_i l
    match l, e with
    | [c], e =>
      simp only [inF] at e
      cases e
      cases h1
      cases h2 with
      | str o =>
        refine .inl ⟨c, _, rfl, rfl, ?_⟩
        refine q H _ Keep.refl I.at_ ?_
        have e : decide (c ∈ (mkS z).cps.toList) = z.contains c := by
          rw [show (mkS z).cps.toList = z from by simp]
          rw [Bool.eq_iff_iff]; simp
        rw [e]
        exact .bl _
    | [], e => simp [inF] at e
    | _ :: _ :: _, e => simp [inF] at e
  | tup ys =>
    have e' : (if flatD dx && ys.all flatD then some (D.bl (if neg then !ys.any (fun y => eqD y dx) else ys.any fun y => eqD y dx)) else none) = some d := by
      cases dx <;> first | exact e | (rename_i l; match l, e with | [], e => exact e | [c], e => exact e | _ :: _ :: _, e => exact e)
    by_cases z : (flatD dx && ys.all flatD) = true
    · rw [if_pos z] at e'
      simp only [Bool.and_eq_true] at z
      cases e'
      obtain ⟨p, vs, rfl, n, r, t⟩ := h2.of_tup
      refine .inr ⟨p, vs, rfl, .inr (.of r), flat_of h1 z.1, flats_of t z.2, ?_⟩
      rw [inV_of h1 z.1 t z.2]
      exact q H _ Keep.refl I.at_ (.bl _)
    · rw [if_neg z] at e'; cases e'
  | lst ys =>
    have e' : (if flatD dx && ys.all flatD then some (D.bl (if neg then !ys.any (fun y => eqD y dx) else ys.any fun y => eqD y dx)) else none) = some d := by
      cases dx <;> first | exact e | (rename_i l; match l, e with | [], e => exact e | [c], e => exact e | _ :: _ :: _, e => exact e)
    by_cases z : (flatD dx && ys.all flatD) = true
    · rw [if_pos z] at e'
      simp only [Bool.and_eq_true] at z
      cases e'
      obtain ⟨p, vs, rfl, n, r, t⟩ := h2.of_lst
      refine .inr ⟨p, vs, rfl, .inl (.of r), flat_of h1 z.1, flats_of t z.2, ?_⟩
      rw [inV_of h1 z.1 t z.2]
      exact q H _ Keep.refl I.at_ (.bl _)
    · rw [if_neg z] at e'; cases e'
  | non => cases dx <;> first | cases e | (rename_i l; match l, e with | [], e => cases e | [c], e => cases e | _ :: _ :: _, e => cases e)
  | bl _ => cases dx <;> first | cases e | (rename_i l; match l, e with | [], e => cases e | [c], e => cases e | _ :: _ :: _, e => cases e)
  | int _ => cases dx <;> first | cases e | (rename_i l; match l, e with | [], e => cases e | [c], e => cases e | _ :: _ :: _, e => cases e)
  | dic _ _ => cases dx <;> first | cases e | (rename_i l; match l, e with | [], e => cases e | [c], e => cases e | _ :: _ :: _, e => cases e)
  | deck => cases dx <;> first | cases e | (rename_i l; match l, e with | [], e => cases e | [c], e => cases e | _ :: _ :: _, e => cases e)
  | ext _ => cases dx <;> first | cases e | (rename_i l; match l, e with | [], e => cases e | [c], e => cases e | _ :: _ :: _, e => cases e)
theorem k_in : CmpOk X C .In (fun x y H Q => rInS false x y H Q ∨ rIn X.K false x y H Q) (inF false) := ⟨op_inS.or op_in_seq, oc_in false⟩
theorem k_notin : CmpOk X C .NotIn (fun x y H Q => rInS true x y H Q ∨ rIn X.K true x y H Q) (inF true) := ⟨op_notInS.or op_notIn_seq, oc_in true⟩

/-! ### calls with keywords -/
def pick {α : Type} (is : List Nat) (l : List α) : List α := is.filterMap fun i => l[i]?
theorem Vals.append' {xs ys : List V} {us ws : List Value} (r : Vals xs us) (q : Vals ys ws) : Vals (xs ++ ys) (us ++ ws) := r.append q
theorem pick_vals {xs : List V} {us : List Value} (r : Vals xs us) : ∀ is : List Nat, Vals (pick is xs) (pick is us)
  | [] => .nil
  | i :: is => by
    unfold pick
    rw [List.filterMap_cons, List.filterMap_cons]
    cases h : xs[i]? with
    | none => rw [r.none_of h]; exact pick_vals r is
    | some x =>
      obtain ⟨u, hu, ru⟩ := r.get h
      rw [hu]
      exact .cons ru (pick_vals r is)
theorem pick_dats {xs : List V} {es : List D} (t : Dats C H A xs es) : ∀ is : List Nat, Dats C H A (pick is xs) (pick is es)
  | [] => .nil
  | i :: is => by
    unfold pick
    rw [List.filterMap_cons, List.filterMap_cons]
    cases h : es[i]? with
    | none =>
      have : xs[i]? = none := by rw [List.getElem?_eq_none_iff] at h ⊢; rw [t.len]; exact h
      rw [this]; exact pick_dats t is
    | some d =>
      obtain ⟨x, hx, hd⟩ := t.get h
      rw [hx]
      exact .cons hd (pick_dats t is)
theorem pick_len {α : Type} {l : List α} : ∀ {is : List Nat}, (∀ i ∈ is, i < l.length) → (pick is l).length = is.length
  | [], _ => rfl
  | i :: is, h => by
    unfold pick
    rw [List.filterMap_cons, List.getElem?_eq_getElem (h i (by simp))]
    simp only [List.length_cons]
    have := pick_len (l := l) (is := is) fun j hj => h j (List.mem_cons_of_mem _ hj)
    unfold pick at this
    rw [this]
variable {PC : Deck S → Prop}
/-- a def that is called with a values by place and the keywords ks; is: where the parameters' values stand among them -/
structure Fk (P : Program) (w : World) (K : PySem.W.Frag) (mg : Str → Option Value) (base : Heap) (PC : Deck S → Prop) (x : Str) (k n : Nat) (m : List D → S → R S D) (a : Nat) (ks : List Str) (is : List Nat) : Prop where
  ex : ∃ (f : Addr) (fd : FuncData) (ps : List Str), FnOk P w K mg base (L2.CX P w) k f fd ps (spOf mg PC n m) ∧ mg x = some (.ref f) ∧ PySem.W.keepIn K (.ref f) = true ∧
    KBn K fd ps a ks (fun us ws => pick is (us ++ ws)) (fun vs zs => pick is (vs ++ zs))
def PKd (X : Cx) (C : Deck S) (W : WX) (kws : List Keyword) (sc : List Nat) (da : DA S) : Prop := PK X kws (cta C X.mg W sc da)
theorem pk_imp {kws : List Keyword} {t t' : TA} (h : PK X kws t) (i : ∀ σ H Q, t' σ H Q → t σ H Q) : PK X kws t' := ⟨fun pos pins s σ H Q I q => h.run pos pins s σ H Q I (i σ H Q q)⟩
theorem pkd_nil : PKd X C W [] [] (dNil : DA S) := pk_imp pk_nil fun σ H Q ⟨A0, H0, A, ρ, st, I, g⟩ => g.done I.at_ [] Dats.nil
theorem pkd_cons {nm : Option Str} {kpos : Pos} {kws : List Keyword} (h : PD X C W e sa de) (t : PKd X C W kws sb dl) : PKd X C W (⟨nm, e, kpos⟩ :: kws) (sa ++ sb) (dCons de dl) :=
  pk_imp (pk_cons h t) fun σ H Q ⟨A0, H0, A, ρ, st, I, g⟩ =>
    ⟨A0, H0, A, ρ, st, I, g.bind.imp fun d s1 H1 k1 t1 g1 v dv => by
      have I1 := I.next k1 t1
      refine ⟨A0, H0, A, ρ, s1, I1, g1.bind.imp fun ds s2 H2 k2 t2 g2 vs dvs => ?_⟩
      exact g2.done t2 (v :: vs) (.cons ((dv.keep k2 (I1.dom0 sa)).less fun _ => Amin.more fun i hi => List.mem_append_left _ hi) (dvs.less fun _ => Amin.more fun i hi => List.mem_append_right _ hi))⟩
def dCallK (m : List D → S → R S D) (is : List Nat) (dl dk : DA S) : DE S := fun ρ s => (dl ρ s).bind fun ds s1 => (dk ρ s1).bind fun es s2 => m (pick is (ds ++ es)) s2
def tCallKS (n m : Nat) (sp : Sp) (gV : List V → List V → List V) (E : St → XK) (t tk : TA) : TE := fun σ H Q => t σ H fun vs H1 => tk σ H1 fun zs H2 => vs.length = n ∧ zs.length = m ∧ sp (gV vs zs) H2 Q (E σ)
theorem run_fnKS {CX : CXT} {k n : Nat} {f : Addr} {fd : FuncData} {ps ks : List Str} {sp : Sp} {E : St → XK} {g : List Value → List Value → List Value} {gV : List V → List V → List V} {pins : List (Addr × Obj)} {s : Shared} {Q : VK} {us ws : List Value} {vs zs : List V} (F : FnOk X.prog X.w X.K X.mg X.base CX k f fd ps sp) (hr : Room k X.A) (hb : KBn X.K fd ps n ks g gV) (hx : PassesAt CX X σ (E σ))
    (I : Inv X pins σ H s) (r : Vals vs us) (rz : Vals zs ws) (l1 : vs.length = n) (l2 : zs.length = ks.length) (h : sp (gV vs zs) H Q (E σ)) : wpAny (model X.prog X.w) X.A (call (.ref f) us (ks.zip ws)) (EP X pins σ Q) X.xe s := by
  have r2 := hb.rel r rz
  refine wpAny_call (codeAny_mono (F.run X.A X.stack s H ⟨us, ks.zip ws⟩ (g us ws) (gV vs zs) Q (E σ) hr I.env0 (hb.to s us ws I.kIn (r.length.symm.trans l1) (rz.length.symm.trans l2)) r2 h) fun r s' hq => ?_)
  cases r with
  | error e => exact hx pins H s e s' I hq
  | ok fl =>
    cases fl with
    | ret u => exact I.after hq
    | next => exact False.elim hq
    | brk => exact False.elim hq
    | cont => exact False.elim hq
theorem callK_fin {a n : Nat} {ks : List Str} {is : List Nat} {m : List D → S → R S D} (I : SAt C A0 H0 A H σ ρ st) (pc : PC C) {Q : VK} {vs zs : List V} {ds es : List D} (l1 : ds.length = a) (l2 : es.length = ks.length) (hn : is.length = n) (hi : ∀ i ∈ is, i < a + ks.length)
    (dvs : Dats C H (Amin A σ ρ sc) vs ds) (dzs : Dats C H (Amin A σ ρ sc) zs es) (g : RG C X.mg W σ H (m (pick is (ds ++ es)) st) fun d _ H' => ∀ v, Dat C H' (Amin A σ ρ sc) v d → Q v H') :
    vs.length = a ∧ zs.length = ks.length ∧ spOf X.mg PC n m (pick is (vs ++ zs)) H Q (WE W σ) :=
  ⟨by rw [dvs.len, l1], by rw [dzs.len, l2], call_d I pc (by rw [pick_len fun i h => by rw [List.length_append, l1, l2]; exact hi i h, hn]) (pick_dats (dvs.append dzs) is) g⟩
/-- f(e, .., k = v, ..) -/
theorem pd_callk {x : Str} {k j n a0 : Nat} {m : List D → S → R S D} {ks : List Str} {is : List Nat} {kws : List Keyword} (F : Fk X.prog X.w X.K X.mg X.base PC x k n m a0 ks is) (pc : PC C) (hr : Room j X.A) (hk : k ≤ j) (tk : Takes X W) (ha : PAd X C W (e :: es) sa dl) (hkw : PKd X C W kws sb dk) (ld : dLen a0 dl) (lk : dLen ks.length dk) (hn : is.length = n := by rfl) (hi : ∀ i ∈ is, i < a0 + ks.length := by decide) (hg : Gl X x := by rfl) (hdb : (x == ("__debug__" : Str)) = false := by decide)
    (hall : (backToKw pos (keywordEach kws X.env)).all (·.1.isSome) = true := by rfl) (hks : (backToKw pos (keywordEach kws X.env)).filterMap (·.1) = ks := by rfl)
    (he : starEach (e :: es) X.env = (false, eval e X.env) :: starEach es X.env := by rfl)
    (hpl : ((backTo pos (starEach (e :: es) X.env)).any (·.1) || (backToKw pos (keywordEach kws X.env)).any (·.1.isNone)) = false := by rfl) : PD X C W (.Call (.Name x p) (e :: es) kws pos) (sa ++ sb) (dCallK m is dl dk) := by
  obtain ⟨f, fd, ps, F, hm, hkp, hb⟩ := F.ex
  refine ⟨fun pins s σ H Q I ⟨A0, H0, A, ρ, st, J, g⟩ => ?_⟩
  refine wpAny_Call_Name_kw (ld_glob I hg hm ?_ hdb)
  have ld' := ld ρ st
  have key : cta C X.mg W sa dl σ H fun vs H1 => cta C X.mg W sb dk σ H1 fun zs H2 => vs.length = a0 ∧ zs.length = ks.length ∧ spOf X.mg PC n m (pick is (vs ++ zs)) H2 Q (WE W σ) := by
    refine ⟨A0, H0, A, ρ, st, J, ?_⟩
    unfold dCallK at g
    cases e1 : dl ρ st with
    | bad => rw [e1] at g; exact g
    | ex c s1 => rw [e1] at g; exact g
    | ok ds s1 =>
      rw [e1] at g
      simp only [R.bind_ok] at g
      intro H1 k1 t1 vs dvs
      have J1 := J.next k1 t1
      have g1 := g.move k1
      refine ⟨A0, H0, A, ρ, s1, J1, ?_⟩
      have lk' := lk ρ s1
      cases e2 : dk ρ s1 with
      | bad => rw [e2] at g1; exact g1
      | ex c s1 => rw [e2] at g1; exact g1
      | ok es2 s2 =>
        rw [e2] at g1
        simp only [R.bind_ok] at g1
        intro H2 k2 t2 zs dzs
        exact callK_fin (J1.next k2 t2) pc (ld' _ _ e1) (lk' _ _ e2) hn hi ((dvs.keep k2 (J1.dom0 sa)).less fun _ => Amin.more fun i hi => List.mem_append_left _ hi) (dzs.less fun _ => Amin.more fun i hi => List.mem_append_right _ hi) (g1.move k2)
  refine PySem.W.callWith_KW (h₀ := X.base) I.ok.mod.kin hkp hall (thn (ha.run pos pins s σ H _ I key) fun us s1 ⟨vs, H1, I1, r, q⟩ => ?_) hpl he
  refine thn (hkw.run pos pins s1 σ H1 _ I1 q) fun ws s2 ⟨zs, H2, I2, rz, l1, l2, q2⟩ => ⟨I2.kIn, ?_⟩
  rw [hks]
  exact run_fnKS (E := WE W) F (hr.mono hk) hb (passAt tk σ) I2 r rz l1 l2 q2
/-- f(k = v, ..) -/
theorem pd_callk0 {x : Str} {k j n : Nat} {m : List D → S → R S D} {ks : List Str} {is : List Nat} {kws : List Keyword} (F : Fk X.prog X.w X.K X.mg X.base PC x k n m 0 ks is) (pc : PC C) (hr : Room j X.A) (hk : k ≤ j) (tk : Takes X W) (hkw : PKd X C W kws sb dk) (lk : dLen ks.length dk) (hn : is.length = n := by rfl) (hi : ∀ i ∈ is, i < 0 + ks.length := by decide) (hg : Gl X x := by rfl) (hdb : (x == ("__debug__" : Str)) = false := by decide)
    (hall : (backToKw pos (keywordEach kws X.env)).all (·.1.isSome) = true := by rfl) (hks : (backToKw pos (keywordEach kws X.env)).filterMap (·.1) = ks := by rfl)
    (hpl : ((backTo pos (starEach [] X.env)).any (·.1) || (backToKw pos (keywordEach kws X.env)).any (·.1.isNone)) = false := by rfl) : PD X C W (.Call (.Name x p) [] kws pos) sb (dCallK m is dNil dk) := by
  obtain ⟨f, fd, ps, F, hm, hkp, hb⟩ := F.ex
  refine ⟨fun pins s σ H Q I ⟨A0, H0, A, ρ, st, J, g⟩ => ?_⟩
  refine wpAny_Call_Name_kw (ld_glob I hg hm ?_ hdb)
  have key : cta C X.mg W sb dk σ H fun zs H2 => ([] : List V).length = 0 ∧ zs.length = ks.length ∧ spOf X.mg PC n m (pick is ([] ++ zs)) H2 Q (WE W σ) := by
    refine ⟨A0, H0, A, ρ, st, J, ?_⟩
    have g1 : RG C X.mg W σ H ((dk ρ st).bind fun es s2 => m (pick is ([] ++ es)) s2) _ := g
    have lk' := lk ρ st
    cases e2 : dk ρ st with
    | bad => rw [e2] at g1; exact g1
    | ex c s1 => rw [e2] at g1; exact g1
    | ok es2 s2 =>
      rw [e2] at g1
      simp only [R.bind_ok] at g1
      intro H2 k2 t2 zs dzs
      exact callK_fin (J.next k2 t2) pc rfl (lk' _ _ e2) hn hi Dats.nil dzs (g1.move k2)
  refine PySem.W.callWith_KW0 (h₀ := X.base) I.ok.mod.kin hkp hall (thn (hkw.run pos pins s σ H _ I key) fun ws s2 ⟨zs, H2, I2, rz, l1, l2, q2⟩ => ⟨I2.kIn, ?_⟩) hpl
  rw [hks]
  exact run_fnKS (E := WE W) (us := []) (vs := []) F (hr.mono hk) hb (passAt tk σ) I2 .nil rz l1 l2 q2
end
end Mir

set_option Elab.async false
set_option linter.all false
set_option maxRecDepth 100000
set_option maxHeartbeats 2000000
namespace Mir
open PySem PySem.Spec L2
open PyProof.Rows hiding St

/-! ### the deck: [cells, digits, mixed] -/
structure DeckSt where
  cells : List Int
  dig : Int
  mix : Int
structure DeckSt.Ok (d : DeckSt) : Prop where
  len : d.cells.length ≤ 63
  cl : ∀ x ∈ d.cells, 0 ≤ x ∧ x < 10 ^ 60
  d0 : 0 ≤ d.dig
  d1 : d.dig < 10 ^ 60
  m0 : 0 ≤ d.mix
  m1 : d.mix < 2147483647
def pull (d : DeckSt) : DeckSt := if d.dig < 10 ^ 6 then (match d.cells with
    | [] => d
    | c :: r => if 10 ^ 18 ≤ c then { d with cells := r, dig := c } else { d with cells := r, mix := (d.mix * 69621 + c % 2147483563 * 40014 + 3) % 2147483563 }) else d
def pickF (d : DeckSt) (n : Int) : Int × DeckSt :=
  if 10 ^ 6 ≤ (pull d).dig then ((pull d).dig % n, { pull d with dig := (pull d).dig / n })
  else (((pull d).mix * 48271 + 11) % 2147483647 / 53 % n, { pull d with mix := ((pull d).mix * 48271 + 11) % 2147483647 })
theorem pickF_range (d : DeckSt) {n : Int} (h : 0 < n) : 0 ≤ (pickF d n).1 ∧ (pickF d n).1 < n := by
  unfold pickF
  split
  · exact ⟨Int.emod_nonneg _ (by omega), Int.emod_lt_of_pos _ h⟩
  · exact ⟨Int.emod_nonneg _ (by omega), Int.emod_lt_of_pos _ h⟩
theorem pull_ok {d : DeckSt} (h : d.Ok) : (pull d).Ok := by
  unfold pull
  split
  · split
    · exact h
    · rename_i c r e
      have hl : r.length ≤ 63 := by have := h.len; rw [e] at this; simp at this; omega
      have hc : ∀ x ∈ r, 0 ≤ x ∧ x < 10 ^ 60 := fun x hx => h.cl x (by rw [e]; exact List.mem_cons_of_mem _ hx)
      have h0 := h.cl c (by rw [e]; exact List.mem_cons_self)
      split
      · exact ⟨hl, hc, h0.1, h0.2, h.m0, h.m1⟩
      · refine ⟨hl, hc, h.d0, h.d1, Int.emod_nonneg _ (by omega), ?_⟩
        have := Int.emod_lt_of_pos (d.mix * 69621 + c % 2147483563 * 40014 + 3) (b := 2147483563) (by omega)
        show _ % 2147483563 < 2147483647
        omega
  · exact h
theorem pickF_ok {d : DeckSt} (h : d.Ok) {n : Int} (hn : 0 < n) : (pickF d n).2.Ok := by
  have p := pull_ok h
  unfold pickF
  split
  · refine ⟨p.len, p.cl, ?_, ?_, p.m0, p.m1⟩
    · exact Int.ediv_nonneg p.d0 (by omega)
    · exact Int.lt_of_le_of_lt (Int.ediv_le_self _ p.d0) p.d1
  · refine ⟨p.len, p.cl, p.d0, p.d1, Int.emod_nonneg _ (by omega), ?_⟩
    exact Int.emod_lt_of_pos _ (by omega)
/-- where the deck stands; the script: a list of n items -/
def mkDeck (K : PySem.W.Frag) (a0 c0 as : Addr) (ns : List Int) (fl : Bool) : Deck DeckSt where
  val := .ref a0
  dom := fun a => a = a0 ∨ a = c0
  At := fun d H => d.Ok ∧ a0 ≠ c0 ∧ H a0 = some (.lst [.ref c0, .int d.dig, .int d.mix]) ∧ H c0 = some (.lst (d.cells.map V.int))
  stab := fun d H H' h k => ⟨h.1, h.2.1, by rw [k a0 (.inl rfl)]; exact h.2.2.1, by rw [k c0 (.inr rfl)]; exact h.2.2.2⟩
  there := fun d H a h ha => by
    rcases ha with rfl | rfl
    · rw [h.2.2.1]; exact fun z => nomatch z
    · rw [h.2.2.2]; exact fun z => nomatch z
  sa := fun a => fl = true ∧ a = as
  ext := fun H v n => v = .ref as ∧ n = ns.length ∧ if fl = true then Rd H as (.lst (ns.map V.int)) else
    ∃ (o : Obj) (its : Array Value) (n : Nat), K.lookup as = some o ∧ o.cls = .type "list" ∧ o.dict = none ∧ o.data = .seq its n ∧ its.size ≤ sizeLine ∧ Vals (ns.map V.int) its.toList
  ext_st := fun H H' v n h k => by
    obtain ⟨h1, h2, h3⟩ := h
    refine ⟨h1, h2, ?_⟩
    by_cases z : fl = true
    · rw [if_pos z] at h3 ⊢
      unfold Rd
      rw [k as ⟨z, rfl⟩]
      exact h3
    · rw [if_neg z] at h3 ⊢
      exact h3
def PCk (K : PySem.W.Frag) (C : Deck DeckSt) : Prop := ∃ a0 c0 as ns fl, C = mkDeck K a0 c0 as ns fl
theorem ext_sq {K : PySem.W.Frag} {C : Deck DeckSt} (pc : PCk K C) {H : Hp} {v : V} {n : Nat} (h : C.ext H v n) : ∃ a xs, v = .ref a ∧ SqL K H a xs ∧ xs.length = n := by
  obtain ⟨a0, c0, as, ns, fl, rfl⟩ := pc
  obtain ⟨h1, h2, h3⟩ := h
  refine ⟨as, ns.map V.int, h1, ?_, by rw [List.length_map, h2]⟩
  by_cases z : fl = true
  · rw [if_pos z] at h3; exact .inl h3
  · rw [if_neg z] at h3; exact .inr h3
section
variable {C : Deck DeckSt} {X : Cx} {W : WX} {A0 A A' : Addr → Prop} {H0 H H' B : Hp} {σ : St} {ρ : En}
/-- len(script) -/
def lenX : List D → Option D
  | [.ext n] => some (.int n)
  | _ => none
theorem cd_lenX {K : PySem.W.Frag} (pc : PCk K C) : CallD C (fun xs H Q => ∃ x n, xs = [x] ∧ LenV K x H n ∧ Q (.int n) H) lenX := by
  intro A s H xs ds d Q I h e q
  match ds, e with
  | [.ext n], e =>
    cases e
    obtain ⟨x, rfl, hx⟩ := h.one
    cases hx with
    | ext h1 h2 =>
      obtain ⟨a, xs, rfl, h3, h4⟩ := ext_sq pc h2
      exact ⟨_, n, rfl, .inl ⟨xs, h3, h4.symm⟩, q H _ Keep.refl I.at_ (.int _)⟩
theorem pd_lenX {e : Expr} {sc : List Nat} {dl : DA DeckSt} {p pos : Pos} (pc : PCk X.K C) (hm : X.mg "len" = none) (ha : PAd X C W [e] sc dl) (hg : Gl X "len" := by rfl) (he : starEach [e] X.env = (false, eval e X.env) :: starEach [] X.env := by rfl) (hpl : (backTo pos (starEach [] X.env)).any (·.1) = false := by rfl) : PD X C W (.Call (.Name "len" p) [e] [] pos) sc (dCallB lenX dl) :=
  pd_callB call_len (cd_lenX pc) hm ha PySem.boot_len hg (by decide) (by decide) he hpl
/-- the deck's draw, as a def's function -/
def mPick : List D → DeckSt → R DeckSt D
  | [.deck, .int n], s => if 0 < n ∧ n < 1073741824 then .ok (.int (pickF s n).1) (pickF s n).2 else .bad
  | _, _ => .bad
/-- what the draw is asked: the deck at a0, its cells at c0 -/
def spPick : Sp := fun vs H Q _ => ∃ (a0 c0 : Addr) (d : DeckSt) (n : Int), vs = [.ref a0, .int n] ∧ d.Ok ∧ a0 ≠ c0 ∧ H a0 = some (.lst [.ref c0, .int d.dig, .int d.mix]) ∧ H c0 = some (.lst (d.cells.map V.int)) ∧ 0 < n ∧ n < 1073741824 ∧
  ∀ H', (∀ a, a ≠ a0 → a ≠ c0 → ∀ o, H a = some o → H' a = some o) → H' a0 = some (.lst [.ref c0, .int (pickF d n).2.dig, .int (pickF d n).2.mix]) → H' c0 = some (.lst ((pickF d n).2.cells.map V.int)) → Q (.int (pickF d n).1) H'
theorem pick_sp {K : PySem.W.Frag} {mg : Str → Option Value} {vs : List V} {H : Hp} {Q : VK} {E : XK} (h : spOf mg (PCk K) 2 mPick vs H Q E) : spPick vs H Q E := by
  obtain ⟨C, A, s, ds, pc, V0, t, hl, g⟩ := h
  obtain ⟨a0, c0, as, ns, fl, rfl⟩ := pc
  match ds, g with
  | [.deck, .int n], g =>
    simp only [mPick] at g
    by_cases z : 0 < n ∧ n < 1073741824
    · rw [if_pos z] at g
      obtain ⟨x, y, rfl, hx, hy⟩ := t.two
      cases hx
      cases hy
      obtain ⟨o1, o2, o3, o4⟩ := V0.at_
      exact ⟨a0, c0, s, n, rfl, o1, o2, o3, o4, z.1, z.2, fun H' k h1 h2 => g H' _ (fun a o n e => k a (fun z => n (.inl z)) (fun z => n (.inr z)) o e) ⟨pickF_ok o1 z.1, o2, h1, h2⟩ (.int _)⟩
    · rw [if_neg z] at g; exact g.elim
def spDeck (K : PySem.W.Frag) : Sp := fun vs H Q _ => ∃ (a : Addr) (ns : List Int), vs = [.ref a] ∧ SqL K H a (ns.map V.int) ∧ ns.length ≤ 63 ∧
  ∀ H' c0 a0 d, (∀ a o, H a = some o → H' a = some o) → H c0 = none → H a0 = none → a0 ≠ c0 → DeckSt.Ok d → H' a0 = some (.lst [.ref c0, .int d.dig, .int d.mix]) → H' c0 = some (.lst (d.cells.map V.int)) → Q (.ref a0) H'

theorem if_true_of {c : Bool} {A B : Prop} (hc : c = true) (h : A) : if c = true then A else B := by
  rw [if_pos hc]
  exact h
theorem if_false_of {c : Bool} {A B : Prop} (hc : c = false) (h : B) : if c = true then A else B := by
  rw [hc, if_neg Bool.false_ne_true]
  exact h
/-- the draw as a def on data -/
theorem fn_pick {P : Program} {w : World} {K : PySem.W.Frag} {mg : Str → Option Value} {base : Heap} {f : Addr} {fd : FuncData} {x : Str} {ps : List Str} (F : FnOk P w K mg base (L2.CX P w) 1 f fd ps spPick) (hg : mg x = some (.ref f)) (hk : PySem.W.keepIn K (.ref f) = true) (hb : Binds K fd ps []) : Fn P w K mg base (PCk K) x 1 2 mPick :=
  ⟨f, fd, ps, F.imp fun vs H Q E h => pick_sp h, hg, hk, hb⟩
def spLaw (K : PySem.W.Frag) : Sp := fun vs H Q _ => ∃ (a : Addr) (ns : List Int), vs = [.ref a] ∧ SqL K H a (ns.map V.int) ∧ ns.length ≤ 63 ∧ ∀ H', Q (.bl true) H'
def rho0 (N n : Nat) : En := some (.val (.ext n)) :: some (.val .deck) :: List.replicate (N - 2) none
theorem law_mk {P : Program} {w : World} {K : PySem.W.Frag} {mg : Str → Option Value} {base : Heap} {stm : Stmt} {f fD : Addr} {fd fdD : FuncData} {N : List Str} {k : Nat} {rest : List Stmt} {p1 p2 p3 p4 p5 : Pos} {ds : DS DeckSt}
    (F : Fun K "law" "law" stm f fd) (sc : FnScope N ["script"] (defScope stm)) (G : FnOk P w K mg base (L2.CX P w) 1 fD fdD ["script"] (spDeck K)) (mD : mg "_law_deck" = some (.ref fD)) (kD : PySem.W.keepIn K (.ref fD) = true) (bD : Binds K fdD ["script"] [])
    (hb : defBody stm = .Assign [.Name "deck" p1] (.Call (.Name "_law_deck" p2) [.Name "script" p3] [] p4) p5 :: rest) (hN : 2 ≤ N.length) (hk : 1 ≤ k)
    (first : ∀ (cdv : Value) (A : Around) (outer : List PySem.Env) (s : Shared) (H : Hp) (E : XK), Room k (A.deeper (envOfC "law" (defScope stm) s.heap.objs.size f cdv)) → ∃ t1, PS (cxOf (L2.CX P w) P w K mg base N "law" (defScope stm) f cdv A outer s H E) (.Assign [.Name "deck" p1] (.Call (.Name "_law_deck" p2) [.Name "script" p3] [] p4) p5) t1 ∧
      ∀ σ H' D, tAsg (tCallS (spDeck K) (WE fun _ _ _ _ => False) (tCons (tVar 0) tNil)) (gName 1) D σ H' → t1 D σ H')
    (hrest : ∀ (cdv : Value) (A : Around) (outer : List PySem.Env) (s : Shared) (H : Hp) (E : XK) (C : Deck DeckSt), PCk K C → Room k (A.deeper (envOfC "law" (defScope stm) s.heap.objs.size f cdv)) → PBd (cxOf (L2.CX P w) P w K mg base N "law" (defScope stm) f cdv A outer s H E) C (fun cls d _ H => E cls d H) rest ds)
    (pure : ∀ (st : DeckSt) (n : Nat), st.Ok → n ≤ 63 → ∃ s', ds (rho0 N.length n) st = .rt (.bl true) s') : FnOk P w K mg base (L2.CX P w) (k + 1) f fd ["script"] (spLaw K) := by
  refine F.okX sc (fun vs H Q E h => ?_) (fun cdv A outer s H vs Q E hr h => ?_)
  · obtain ⟨a, ns, rfl, _⟩ := h
    rfl
  · obtain ⟨a, ns, rfl, hS, hl, q⟩ := h
    obtain ⟨t1, h1, i1⟩ := first cdv A outer s H E hr
    rw [hb]
    have hR : PSs (cxOf (L2.CX P w) P w K mg base N "law" (defScope stm) f cdv A outer s H E) rest (fun D σ H' => ∃ C, PCk K C ∧ cts C mg (fun cls d _ H => E cls d H) ds D σ H') :=
      ⟨fun pins s1 σ H' D I ⟨C, pc, z⟩ => (hrest cdv A outer s H E C pc hr).run pins s1 σ H' D I z⟩
    refine ⟨_, pss_cons h1 hR, i1 _ _ _ ⟨_, rfl, a, ns, rfl, hS, hl, fun H1 c0 a0 d kp nc na ne ok g0 gc => ?_⟩⟩
    -- the script is read as before
    obtain ⟨fl, hfl⟩ : ∃ fl : Bool, if fl = true then Rd H a (.lst (ns.map V.int)) else ∃ (o : Obj) (its : Array Value) (n : Nat), K.lookup a = some o ∧ o.cls = .type "list" ∧ o.dict = none ∧ o.data = .seq its n ∧ its.size ≤ sizeLine ∧ Vals (ns.map V.int) its.toList := by
      rcases hS with z | z
      · exact ⟨true, z⟩
      · exact ⟨false, by rw [if_neg (by decide)]; exact z⟩
    have rdH : fl = true → H a ≠ none := fun z => by
      rw [if_pos z] at hfl
      rcases hfl with r | ⟨o, r⟩ <;> rw [r] <;> exact fun z => nomatch z
    refine ⟨mkDeck K a0 c0 a ns fl, ⟨a0, c0, a, ns, fl, rfl⟩, fun b => b = a0 ∨ b = c0, H1, fun b => b = a0 ∨ b = c0, rho0 N.length ns.length, d, ?_, ?_⟩
    · have es : (L2.start N [V.ref a]).set 1 (some (V.ref a0)) = some (V.ref a) :: some (V.ref a0) :: List.replicate (N.length - 2) none := by
        unfold L2.start
        have : N.length - [V.ref a].length = (N.length - 2) + 1 := by simp; omega
        rw [this, List.replicate_succ]
        rfl
      rw [es]
      refine ⟨by simp [rho0], fun i x e => ?_, fun i j ds es n e1 => ?_, fun b hb => ?_, fun _ z => z, fun _ z => .inl z, fun _ z => z, Keep.refl, ok, (Ne.symm fun z => ne z.symm), g0, gc⟩
      · match i, e with
        | 0, e =>
          cases e
          refine ⟨_, rfl, Dat.ext (fun b hb => ?_) ⟨rfl, rfl, ?_⟩⟩
          · obtain ⟨hf, rfl⟩ := hb
            have hn := rdH hf
            refine ⟨fun z => ?_, fun z => ?_⟩
            · rcases z with z | z
              · exact hn (z ▸ na)
              · exact hn (z ▸ nc)
            · cases e : H b with
              | none => exact hn e
              | some o => rw [kp b o e] at z; cases z
          · by_cases z : fl = true
            · rw [if_pos z] at hfl ⊢
              rcases hfl with r | ⟨o, r⟩
              · exact .inl (kp _ _ r)
              · exact .inr ⟨o, kp _ _ r⟩
            · rw [if_neg z] at hfl ⊢
              exact hfl
        | 1, e => cases e; exact ⟨_, rfl, Dat.deck⟩
        | i + 2, e =>
          exfalso
          have e : (List.replicate (N.length - 2) (none : Option Sl))[i]? = some (some x) := e
          rw [List.getElem?_replicate] at e
          split at e <;> cases e
      · exfalso
        match i, e1 with
        | 0, e => cases e
        | 1, e => cases e
        | i + 2, e =>
          have e : (List.replicate (N.length - 2) (none : Option Sl))[i]? = some (some (Sl.own ds)) := e
          rw [List.getElem?_replicate] at e
          split at e <;> cases e
      · rcases hb with rfl | rfl
        · rw [g0]; exact fun z => nomatch z
        · rw [gc]; exact fun z => nomatch z
    · obtain ⟨s', e⟩ := pure d ns.length ok hl
      rw [e]
      intro H2 v _ _ dv
      cases dv
      exact q H2
theorem walk_law {l : PySem.W.OpenLaw} {q : Program} {loose : List Str} {XP : (Str → Option Value) → Heap → Prop} {YP : World → Heap → Prop} {d : DefRec} {K : Params → PySem.W.Frag} (k : Nat) (hn : l.most = some 63) (hdf : d.params.defaults = []) (hr : Room k callerA)
    (hY : ∀ (w : World) (h : Heap), YP w h → (K w.params).In h)
    (F : ∀ (w : World) (mg : Str → Option Value) (fa : Addr) (h : Heap), (K w.params).In h → h.Ns mainGlobals mg → mg d.name = some (.ref fa) →
      ∃ fd : FuncData, (∀ (s : Shared) (u : Value), BindsTo s fd ⟨[u], []⟩ [("script", u)]) ∧ ∀ base : Heap, (K w.params).In base → base.Ns mainGlobals mg → FnOk l.prog w (K w.params) mg base (L2.CX l.prog w) k fa fd ["script"] (spLaw (K w.params))) :
    PySem.W.WalkO q loose XP YP l.row.toRowW d [] (fun f vs => PySem.call f vs) :=
  L2.walk_of (n := 63) (k := k) (x := "script") (CX := fun w => L2.CX l.prog w) (sp := fun w => spLaw (K w.params)) hn (by decide) hdf hr hY F (fun _ _ a ns hl _ hS => ⟨a, ns, rfl, hS, hl, fun _ => rfl⟩) fun w H s e s' z => by
    obtain ⟨_, _, _, _, _, _, _, _, _, _, _, _, z⟩ := z
    exact z.elim
end
end Mir

set_option Elab.async false
set_option linter.all false
set_option maxRecDepth 100000
set_option maxHeartbeats 2000000
namespace Mir
open PySem PySem.Spec L2
open PyProof.Rows hiding St

theorem no_gN (i : Nat) : NoOwn (gN i) := fun d ρ ρ' e j ds h => by
  cases e
  by_cases hj : j = i
  · subst hj
    have hl : j < ρ.length := by have := (List.getElem?_eq_some_iff.mp h).1; rwa [List.length_set] at this
    rw [List.getElem?_set_self hl] at h; cases h
  · rwa [List.getElem?_set_ne (Ne.symm hj)] at h
def NoOwns (g : DGs) : Prop := ∀ ds ρ ρ', g ds ρ = some ρ' → ∀ (i : Nat) es, ρ'[i]? = some (some (.own es)) → ρ[i]? = some (some (.own es))
theorem no_gsNil : NoOwns gsNil := fun ds ρ ρ' e i es h => by cases ds <;> simp only [gsNil] at e <;> cases e; exact h
theorem no_gsCons {g : DG} {gs : DGs} (h : NoOwn g) (h' : NoOwns gs) : NoOwns (gsCons g gs) := fun ds ρ ρ' e i es q => by
  cases ds with
  | nil => cases e
  | cons d r =>
    obtain ⟨ρ1, e1, e2⟩ := Option.bind_eq_some_iff.mp e
    exact h d ρ ρ1 e1 i es (h' r ρ1 ρ' e2 i es q)
theorem no_gT {gs : DGs} {n : Nat} (h : NoOwns gs) : NoOwn (gT n gs) := fun d ρ ρ' e i es q => by
  cases d <;> simp only [gT] at e <;> try cases e
  split at e
  · exact h _ _ _ e i es q
  · cases e

/-! ### errors' classes -/
theorem exm_pair {K : PySem.W.Frag} {mg : Str → Option Value} {x : Str} {a b : Addr} {r : Bool} (E : ErrOk K mg x b) (s : PySem.W.subIn K (.ref a) (.ref b) = some r) : PySem.W.exmOne K (.ref a) (.ref b) = some r := by
  have e1 : (PySem.W.subIn K (.ref b) (.type "BaseException") == some true) = true := by rw [E.b] <;> rfl
  have e2 : ((PySem.W.clsIn K b).isSome && PySem.W.typeIn K (.ref b) == some (.type "type")) = true := by
    have h2' : (PySem.W.clsIn K b).isSome = true := E.i
    rw [h2', E.t] <;> rfl
  show (if (PySem.W.subIn K (.ref b) (.type "BaseException") == some true) = true then (if ((PySem.W.clsIn K b).isSome && PySem.W.typeIn K (.ref b) == some (.type "type")) = true then PySem.W.subIn K (.ref a) (.ref b) else none) else none) = some r
  rw [if_pos e1, if_pos e2]
  exact s
/-- a table of which error is one of which class -/
def subT (tab : List (Str × Str × Bool)) (c x : Str) : Option Bool := (tab.find? fun e => e.1 == c && e.2.1 == x).map (·.2.2)
theorem subT_ok {K : PySem.W.Frag} {mg : Str → Option Value} {tab : List (Str × Str × Bool)} (h : ∀ e ∈ tab, ∃ a a', mg e.1 = some (.ref a) ∧ mg e.2.1 = some (.ref a') ∧ PySem.W.exmOne K (.ref a) (.ref a') = some e.2.2) : SubOk K mg (subT tab) := fun c x b e => by
  unfold subT at e
  obtain ⟨t, h1, h2⟩ := Option.map_eq_some_iff.mp e
  have hm := List.mem_of_find?_eq_some h1
  have hp := List.find?_some h1
  simp only [Bool.and_eq_true, beq_iff_eq] at hp
  obtain ⟨a, a', q1, q2, q3⟩ := h t hm
  rw [hp.1] at q1
  rw [hp.2] at q2
  rw [h2] at q3
  exact ⟨a, a', q1, q2, q3⟩
theorem all_cons {α : Type} {P : α → Prop} {x : α} {l : List α} (h : P x) (t : ∀ e ∈ l, P e) : ∀ e ∈ x :: l, P e := List.forall_mem_cons.mpr ⟨h, t⟩
theorem all_nil {α : Type} {P : α → Prop} : ∀ e ∈ ([] : List α), P e := List.forall_mem_nil _

section
variable {S : Type} {C : Deck S} {X : Cx} {W : WX} {A0 A A' : Addr → Prop} {H0 H H' B : Hp} {σ : St} {ρ : En} {st st' : S}
variable {e a b c tg iter elt : Expr} {es rest ifs : List Expr} {pos p p2 : Pos} {sc sc' sa sb vs : List Nat} {de da db dc : DE S} {dt dt' du : DT S} {dl di dj dk : DA S} {ds ds' : DS S} {mg : Str → Option Value} {DD : Ends} {xs ys : List Stmt} {dv dw : E1 S Sl}
/-- a ** b -/
def powD : D → D → Option D := fI fun i j => if decide (0 ≤ j) && decide (j ≤ 1000000) && decide (i.natAbs < 2 ^ 64) then some (i ^ j.toNat) else none
theorem pd_pow (ha : PD X C W a sa da) (hb : PD X C W b sb db) : PD X C W (.BinOp a .Pow b pos) (sa ++ sb) (dBin powD da db) := pd_bin op_pow (od_int (fun i j => decide (0 ≤ j) && decide (j ≤ 1000000) && decide (i.natAbs < 2 ^ 64)) fun i j h => by
  simp only [Bool.and_eq_true, decide_eq_true_eq] at h; exact ⟨h.1.1, h.1.2, h.2⟩) ha hb
/-! ### zip, reversed -/
def zipD (ds es : List D) : List D := List.zipWith (fun d e => .tup [d, e]) ds es
theorem Dat.laid {v : V} {d : D} {T : Addr} {o : HO} (h : Dat C H A v d) (hT : H T = none) : Dat C (upd H T o) A v d := by
  induction h with
  | non => exact .non
  | bl b => exact .bl b
  | int i => exact .int i
  | str s => exact .str s
  | tup n r l _ ih => exact .tup n (by rw [upd_ne (ne_of_none r hT)]; exact r) l ih
  | lst n r l _ ih => exact .lst n (by rw [upd_ne (ne_of_none r hT)]; exact r) l ih
  | deck => exact .deck
  | ext h e =>
    have ne : ∀ a, C.sa a → a ≠ T := fun a ha z => (h a ha).2 (z ▸ hT)
    exact .ext (fun a ha => ⟨(h a ha).1, by rw [upd_ne (ne a ha)]; exact (h a ha).2⟩) (C.ext_st _ _ _ _ e fun a ha => upd_ne (ne a ha))
theorem pair_dat {x y : V} {d e : D} {T : Addr} (f : ∀ a, A a → H a ≠ none) (hT : H T = none) (hx : Dat C H A x d) (hy : Dat C H A y e) : Dat C (upd H T (.tup [x, y])) A (.ref T) (.tup [d, e]) :=
  Dat.tup_mk (fun z => f T z hT) upd_same (.cons (hx.laid hT) (.cons (hy.laid hT) .nil))
theorem y_zipL {K : PySem.W.Frag} {p q : Addr} {vs ws : List V} {ds es : List D} (n : ¬ A p) (r : B p = some (.lst vs)) (t : Dats C B A vs ds) (n' : ¬ A q) (r' : B q = some (.lst ws)) (t' : Dats C B A ws es) : Yields C A B (Itz K p q) (zipD ds es) where
  stop := fun H k => ⟨vs, ws, .of (k p _ n r), .of (k q _ n' r'), by simp only [zipD, List.length_zipWith, t.len, t'.len]; omega⟩
  go := fun i H hi k => by
    simp only [zipD, List.length_zipWith] at hi
    exact ⟨vs, ws, vs[i]'(by rw [t.len]; omega), ws[i]'(by rw [t'.len]; omega), .of (k p _ n r), .of (k q _ n' r'), List.getElem?_eq_getElem _, List.getElem?_eq_getElem _⟩
  yld := fun i H x H' hi k y => by
    obtain ⟨T, u, v, rfl, hT, rfl, h1, h2⟩ := y
    have e1 := h1 vs (.of (k p _ n r))
    have e2 := h2 ws (.of (k q _ n' r'))
    simp only [zipD, List.length_zipWith] at hi
    have i1 : i < ds.length := by omega
    have i2 : i < es.length := by omega
    refine ⟨.tup [ds[i], es[i]], by simp [zipD, List.getElem?_zipWith, List.getElem?_eq_getElem i1, List.getElem?_eq_getElem i2], Keep.upd hT, fun s h => at_upd h hT, fun A' f hA => ?_⟩
    have dx := (t.at_ i u _ e1 (List.getElem?_eq_getElem i1)).later k hA
    have dy := (t'.at_ i v _ e2 (List.getElem?_eq_getElem i2)).later k hA
    exact pair_dat f hT dx dy
theorem y_zipT {K : PySem.W.Frag} {p q : Addr} {vs ws : List V} {ds es : List D} (n : ¬ A p) (r : B p = some (.tup vs)) (t : Dats C B A vs ds) (n' : ¬ A q) (r' : B q = some (.tup ws)) (t' : Dats C B A ws es) : Yields C A B (RZ.ItzT K p q) (zipD ds es) where
  stop := fun H k => ⟨vs, ws, .of (k p _ n r), .of (k q _ n' r'), by simp only [zipD, List.length_zipWith, t.len, t'.len]; omega⟩
  go := fun i H hi k => by
    simp only [zipD, List.length_zipWith] at hi
    exact ⟨vs, ws, vs[i]'(by rw [t.len]; omega), ws[i]'(by rw [t'.len]; omega), .of (k p _ n r), .of (k q _ n' r'), List.getElem?_eq_getElem _, List.getElem?_eq_getElem _⟩
  yld := fun i H x H' hi k y => by
    obtain ⟨T, u, v, rfl, hT, rfl, h1, h2⟩ := y
    have e1 := h1 vs (.of (k p _ n r))
    have e2 := h2 ws (.of (k q _ n' r'))
    simp only [zipD, List.length_zipWith] at hi
    have i1 : i < ds.length := by omega
    have i2 : i < es.length := by omega
    refine ⟨.tup [ds[i], es[i]], by simp [zipD, List.getElem?_zipWith, List.getElem?_eq_getElem i1, List.getElem?_eq_getElem i2], Keep.upd hT, fun s h => at_upd h hT, fun A' f hA => ?_⟩
    exact pair_dat f hT ((t.at_ i u _ e1 (List.getElem?_eq_getElem i1)).later k hA) ((t'.at_ i v _ e2 (List.getElem?_eq_getElem i2)).later k hA)
/-- zip of two lists, of two tuples -/
def zip2 : List D → Option (List D)
  | [.lst ds, .lst es] => some (zipD ds es)
  | [.tup ds, .tup es] => some (zipD ds es)
  | _ => none
theorem pid_zip {elts : List Expr} {kk : Nat} {tpos : Pos} (hm : X.mg "zip" = none) (ha : PAd X C W [a, b] sc dl) (hg : Gl X "zip" := by rfl) (hs : starEach [a, b] X.env = (false, eval a X.env) :: starEach [b] X.env := by rfl) (hpl : (backTo pos (starEach [b] X.env)).any (·.1) = false := by rfl) :
    PId X C W (.Tuple elts kk tpos) (.Call (.Name "zip" p) [a, b] [] pos) sc (dRng zip2 dl) :=
  pid_of (RZ.pi_zipA hg hm ha hs hpl) fun A0 H0 A ρ st σ H R I g => ⟨A0, H0, A, ρ, st, I, g.bind.imp fun ds s1 H1 k1 t1 g1 vs dvs => by
    obtain ⟨l, e, q⟩ := g1.ofO
    match ds, e with
    | [.lst ds, .lst es], e =>
      cases e
      obtain ⟨x, y, rfl, hx, hy⟩ := dvs.two
      obtain ⟨p, xs, rfl, n, r, t⟩ := hx.of_lst
      obtain ⟨p', xs', rfl, n', r', t'⟩ := hy.of_lst
      exact ⟨p, p', xs, xs', rfl, .inl ⟨.of r, .of r', q H1 Keep.refl t1 _ (y_zipL n r t n' r' t')⟩⟩
    | [.tup ds, .tup es], e =>
      cases e
      obtain ⟨x, y, rfl, hx, hy⟩ := dvs.two
      obtain ⟨p, xs, rfl, n, r, t⟩ := hx.of_tup
      obtain ⟨p', xs', rfl, n', r', t'⟩ := hy.of_tup
      exact ⟨p, p', xs, xs', rfl, .inr ⟨.of r, .of r', q H1 Keep.refl t1 _ (y_zipT n r t n' r' t')⟩⟩⟩
end
end Mir

set_option Elab.async false
set_option linter.all false
set_option maxRecDepth 100000
set_option maxHeartbeats 2000000
namespace Mir
open PySem PySem.Spec L2
open PyProof.Rows hiding St

/-! ### what the deck will tell, read ahead: a tape -/
structure TS where
  t : List (Int × Int)
  u : List Int
def adv (st : DeckSt) (u : List Int) : DeckSt := u.foldl (fun s n => (pickF s n).2) st
def tapeOk : DeckSt → List (Int × Int) → Prop
  | _, [] => True
  | s, (n, c) :: t => 0 < n ∧ (pickF s n).1 = c ∧ tapeOk (pickF s n).2 t
theorem adv_snoc {st : DeckSt} {u : List Int} {n : Int} : adv st (u ++ [n]) = (pickF (adv st u) n).2 := by
  unfold adv
  rw [List.foldl_append]
  rfl
theorem adv_ok {u : List Int} : ∀ {st : DeckSt}, st.Ok → (∀ n ∈ u, 0 < n) → (adv st u).Ok := by
  induction u with
  | nil => exact fun h _ => h
  | cons n u ih => exact fun h k => ih (st := (pickF _ n).2) (pickF_ok h (k n (.head _))) fun m hm => k m (.tail _ hm)
def Deck.tp (C : Deck DeckSt) (st : DeckSt) : Deck TS where
  val := C.val
  dom := C.dom
  At := fun x H => C.At (adv st x.u) H ∧ tapeOk (adv st x.u) x.t
  stab := fun x H H' h k => ⟨C.stab _ _ _ h.1 k, h.2⟩
  there := fun x H a h ha => C.there _ _ _ h.1 ha
  sa := C.sa
  ext := C.ext
  ext_st := C.ext_st
section
variable {C : Deck DeckSt} {X : Cx} {W : WX} {A0 A A' : Addr → Prop} {H0 H H' B : Hp} {σ : St} {ρ : En} {st : DeckSt}
theorem Dat.tp {v : V} {d : D} (h : Dat C H A v d) : Dat (C.tp st) H A v d := by
  induction h with
  | non => exact .non
  | bl b => exact .bl b
  | int i => exact .int i
  | str s => exact .str s
  | tup n r l _ ih => exact .tup n r l ih
  | lst n r l _ ih => exact .lst n r l ih
  | deck => exact .deck
  | ext h e => exact .ext h e
theorem Dat.un {v : V} {d : D} (h : Dat (C.tp st) H A v d) : Dat C H A v d := by
  induction h with
  | non => exact .non
  | bl b => exact .bl b
  | int i => exact .int i
  | str s => exact .str s
  | tup n r l _ ih => exact .tup n r l ih
  | lst n r l _ ih => exact .lst n r l ih
  | deck => exact .deck
  | ext h e => exact .ext h e
theorem Dats.un {vs : List V} {ds : List D} (h : Dats (C.tp st) H A vs ds) : Dats C H A vs ds := ⟨h.len, fun i x d e1 e2 => (h.at_ i x d e1 e2).un⟩
theorem Dats.tp {vs : List V} {ds : List D} (h : Dats C H A vs ds) : Dats (C.tp st) H A vs ds := ⟨h.len, fun i x d e1 e2 => (h.at_ i x d e1 e2).tp⟩
theorem SAt.tp {x : TS} {s : DeckSt} (I : SAt C A0 H0 A H σ ρ s) (e : adv st x.u = s) (k : tapeOk s x.t) : SAt (C.tp st) A0 H0 A H σ ρ x where
  len := I.len
  sl := fun i y ey => by
    obtain ⟨v, e1, q⟩ := I.sl i y ey
    refine ⟨v, e1, ?_⟩
    cases y with
    | val d => exact Dat.tp q
    | own ds =>
      obtain ⟨a, xs, h1, h2, h3, h4, h5, h6⟩ := q
      exact ⟨a, xs, h1, h2, h3, h4, h5, h6.tp⟩
  apart := I.apart
  fresh := I.fresh
  sub := I.sub
  lim := I.lim
  dom := I.dom
  keep := I.keep
  at_ := ⟨e ▸ I.at_, e ▸ k⟩
theorem SAt.un {x : TS} (I : SAt (C.tp st) A0 H0 A H σ ρ x) : SAt C A0 H0 A H σ ρ (adv st x.u) where
  len := I.len
  sl := fun i y ey => by
    obtain ⟨v, e1, q⟩ := I.sl i y ey
    refine ⟨v, e1, ?_⟩
    cases y with
    | val d => exact Dat.un q
    | own ds =>
      obtain ⟨a, xs, h1, h2, h3, h4, h5, h6⟩ := q
      exact ⟨a, xs, h1, h2, h3, h4, h5, h6.un⟩
  apart := I.apart
  fresh := I.fresh
  sub := I.sub
  lim := I.lim
  dom := I.dom
  keep := I.keep
  at_ := I.at_.1
def mPickT : List D → TS → R TS D
  | [.deck, .int n], ⟨(m, c) :: t, u⟩ => if n = m ∧ n < 1073741824 then .ok (.int c) ⟨t, u ++ [n]⟩ else .bad
  | _, _ => .bad
def PCT (K : PySem.W.Frag) (C' : Deck TS) : Prop := ∃ C st, PCk K C ∧ C' = C.tp st
theorem pick_tp {K : PySem.W.Frag} {mg : Str → Option Value} {vs : List V} {H : Hp} {Q : VK} {E : XK} (h : spOf mg (PCT K) 2 mPickT vs H Q E) : spOf mg (PCk K) 2 mPick vs H Q E := by
  obtain ⟨C', A, x, ds, ⟨C, st, pc, rfl⟩, V0, t, hl, g⟩ := h
  refine ⟨C, A, adv st x.u, ds, pc, ⟨V0.fresh, V0.dom, V0.at_.1⟩, t.un, hl, ?_⟩
  match ds, x, g, V0 with
  | [.deck, .int n], ⟨(m, c) :: t', u⟩, g, V0 =>
    simp only [mPickT] at g
    by_cases z : n = m ∧ n < 1073741824
    · rw [if_pos z] at g
      obtain ⟨rfl, z1⟩ := z
      obtain ⟨k1, k2, k3⟩ := V0.at_.2
      have em : mPick [.deck, .int n] (adv st u) = .ok (.int (pickF (adv st u) n).1) (pickF (adv st u) n).2 := if_pos ⟨k1, z1⟩
      dsimp only
      rw [em]
      show ∀ H' v, Keep C.dom H H' → C.At (pickF (adv st u) n).2 H' → Dat C H' A v (.int (pickF (adv st u) n).1) → Q v H'
      intro H' v k a dv
      refine g H' v k ⟨?_, ?_⟩ ?_
      · rw [adv_snoc]; exact a
      · rw [adv_snoc]; exact k3
      · rw [← k2]; exact dv.tp
    · rw [if_neg z] at g; exact g.elim
theorem Fn.tp {P : Program} {w : World} {K : PySem.W.Frag} {mg : Str → Option Value} {base : Heap} {x : Str} {k : Nat} (F : Fn P w K mg base (PCk K) x k 2 mPick) : Fn P w K mg base (PCT K) x k 2 mPickT := by
  obtain ⟨f, fd, ps, F, r⟩ := F.ex
  exact ⟨f, fd, ps, F.imp fun vs H Q E g => pick_tp g, r⟩
theorem pd_lenXT {C' : Deck TS} {e : Expr} {sc : List Nat} {dl : DA TS} {p pos : Pos} (pc : PCT X.K C') (hm : X.mg "len" = none) (ha : PAd X C' W [e] sc dl) (hg : Gl X "len" := by rfl) (he : starEach [e] X.env = (false, eval e X.env) :: starEach [] X.env := by rfl) (hpl : (backTo pos (starEach [] X.env)).any (·.1) = false := by rfl) : PD X C' W (.Call (.Name "len" p) [e] [] pos) sc (dCallB lenX dl) :=
  pd_callB call_len (fun A s H xs ds d Q I h e q => by
    obtain ⟨C, st, pc, rfl⟩ := pc
    exact cd_lenX pc A (adv st s.u) H xs ds d Q ⟨I.fresh, I.dom, I.at_.1⟩ h.un e fun H' v k a dv => q H' v k ⟨a, by
      cases ds with
      | nil => cases e
      | cons d1 r => cases r with
        | cons _ _ => cases d1 <;> cases e
        | nil => exact I.at_.2⟩ dv.tp) hm ha PySem.boot_len hg (by decide) (by decide) he hpl

/-! ### a piece of the text by a tape -/
def dTape (ch : DeckSt → List (Int × Int)) (d : DS TS) : DS DeckSt := fun ρ st => match d ρ ⟨ch st, []⟩ with
  | .nx ρ' x => .nx ρ' (adv st x.u)
  | .rt v x => .rt v (adv st x.u)
  | .bk ρ' x => .bk ρ' (adv st x.u)
  | .ct ρ' x => .ct ρ' (adv st x.u)
  | .ex c ρ' x => .ex c ρ' (adv st x.u)
  | .bad => .bad
theorem pbd_tape {b : List Stmt} {ch : DeckSt → List (Int × Int)} {d : DS TS} (hch : ∀ st, tapeOk st (ch st)) (h : ∀ st, PBd X (C.tp st) W b d) : PBd X C W b (dTape ch d) :=
  ⟨fun pins s σ H D I ⟨A0, H0, A, ρ, st, J, g⟩ => (h st).run pins s σ H D I ⟨A0, H0, A, ρ, ⟨ch st, []⟩, J.tp rfl (hch st), by
    unfold dTape at g
    generalize ho : d ρ ⟨ch st, []⟩ = o at g
    cases o with
    | nx ρ' x => exact fun A H σ J => g A H σ J.un
    | rt v x => exact fun H v k a dv => g H v k a.1 dv.un
    | bk ρ' x => exact fun A H σ J => g A H σ J.un
    | ct ρ' x => exact fun A H σ J => g A H σ J.un
    | ex c ρ' x => exact fun a A H σ m J => g a A H σ m J.un
    | bad => exact g⟩⟩
end
noncomputable def chT (ts : List (List (Int × Int))) (st : DeckSt) : List (Int × Int) := by
  classical
  exact if h : ∃ t ∈ ts, tapeOk st t then h.choose else []
theorem chT_ok {ts : List (List (Int × Int))} {st : DeckSt} : tapeOk st (chT ts st) := by
  unfold chT
  split
  · rename_i h; exact h.choose_spec.2
  · exact trivial
def cov : Nat → List (List (Int × Int)) → Bool
  | 0, _ => false
  | k + 1, ts => ts.any (·.isEmpty) || (match ts with
    | ((n, _) :: _) :: _ => decide (0 < n) && (List.range n.toNat).all fun c => cov k (ts.filterMap fun t => match t with
      | (m, d) :: r => if m = n ∧ d = (c : Int) then some r else none
      | [] => none)
    | _ => false)
theorem cov_ok : ∀ {k : Nat} {ts : List (List (Int × Int))}, cov k ts = true → ∀ st, ∃ t ∈ ts, tapeOk st t
  | 0, _, h => by cases h
  | k + 1, ts, h => fun st => by
    unfold cov at h
    rw [Bool.or_eq_true] at h
    rcases h with h | h
    · obtain ⟨t, ht, e⟩ := List.any_eq_true.mp h
      cases t with
      | nil => exact ⟨[], ht, trivial⟩
      | cons _ _ => cases e
    · match ts, h with
      | ((n, x) :: r0) :: rs, h =>
        rw [Bool.and_eq_true] at h
        have hn : 0 < n := of_decide_eq_true h.1
        obtain ⟨p0, p1⟩ := pickF_range st hn
        have hc : (pickF st n).1 = (((pickF st n).1.toNat : Nat) : Int) := (Int.toNat_of_nonneg p0).symm
        have hm := List.all_eq_true.mp h.2 (pickF st n).1.toNat (List.mem_range.mpr (by omega))
        obtain ⟨t, ht, q⟩ := cov_ok hm (pickF st n).2
        obtain ⟨t1, h1, h2⟩ := List.mem_filterMap.mp ht
        cases t1 with
        | nil => cases h2
        | cons y r =>
          obtain ⟨m, d⟩ := y
          dsimp only at h2
          by_cases z : m = n ∧ d = (((pickF st n).1.toNat : Nat) : Int)
          · rw [if_pos z] at h2
            cases h2
            exact ⟨_, h1, by rw [z.1]; exact hn, by rw [z.1, z.2, ← hc], by rw [z.1]; exact q⟩
          · rw [if_neg z] at h2; cases h2
theorem chT_mem {k : Nat} {ts : List (List (Int × Int))} (h : cov k ts = true) (st : DeckSt) : chT ts st ∈ ts := by
  unfold chT
  rw [dif_pos (cov_ok h st)]
  exact (cov_ok h st).choose_spec.1

/-! ### slots that are not read any more -/
def fgt (keep : List Nat) (ρ : En) : En := ρ.mapIdx fun i x => if i ∈ keep then x else none
def dForget {S : Type} (keep : List Nat) (d : DS S) : DS S := fun ρ s => d (fgt keep ρ) s
section
variable {S : Type} {C : Deck S} {X : Cx} {W : WX} {A0 A A' : Addr → Prop} {H0 H H' B : Hp} {σ : St} {ρ : En} {st : S}
theorem fgt_get {keep : List Nat} {i : Nat} {x : Sl} (e : (fgt keep ρ)[i]? = some (some x)) : ρ[i]? = some (some x) := by
  unfold fgt at e
  rw [List.getElem?_mapIdx] at e
  cases h : ρ[i]? with
  | none => rw [h] at e; cases e
  | some y =>
    rw [h] at e
    by_cases z : i ∈ keep
    · simpa [z] using e
    · simp [z] at e
theorem SAt.forget (I : SAt C A0 H0 A H σ ρ st) (keep : List Nat) : SAt C A0 H0 A H σ (fgt keep ρ) st where
  len := by unfold fgt; rw [List.length_mapIdx]; exact I.len
  sl := fun i x e => I.sl i x (fgt_get e)
  apart := fun i j ds es n e1 e2 => I.apart i j ds es n (fgt_get e1) (fgt_get e2)
  fresh := I.fresh
  sub := I.sub
  lim := I.lim
  dom := I.dom
  keep := I.keep
  at_ := I.at_
theorem pbd_forget {b : List Stmt} {d : DS S} (keep : List Nat) (h : PBd X C W b d) : PBd X C W b (dForget keep d) :=
  ⟨fun pins s σ H D I ⟨A0, H0, A, ρ, st, J, g⟩ => h.run pins s σ H D I ⟨A0, H0, A, _, st, J.forget keep, g⟩⟩
theorem fgt_one {N : Nat} {x : Option Sl} (hl : ρ.length = N + 2) (h1 : ρ[1]? = some x) : fgt [1] ρ = none :: x :: List.replicate N none := by
  refine List.ext_getElem? fun i => ?_
  unfold fgt
  rw [List.getElem?_mapIdx]
  match i with
  | 0 => 
    rw [List.getElem?_eq_getElem (by omega)]
    simp
  | 1 => rw [h1]; simp
  | i + 2 =>
    by_cases z : i < N
    · rw [List.getElem?_eq_getElem (by omega)]
      simp [z]
    · rw [List.getElem?_eq_none (by omega)]
      simp [z]
/-- a loop by an invariant -/
theorem forL_inv {g : DG} {ds : DS S} (Inv : En → S → Prop) : ∀ {l : List D} {ρ : En} {s : S}, (∀ d ∈ l, ∀ ρ s, Inv ρ s → ∃ ρ1 ρ' s', g d ρ = some ρ1 ∧ ds ρ1 s = .nx ρ' s' ∧ Inv ρ' s') → Inv ρ s → ∃ ρ' s', forL g ds l ρ s = .nx ρ' s' ∧ Inv ρ' s'
  | [], ρ, s, _, h => ⟨ρ, s, rfl, h⟩
  | d :: l, ρ, s, hs, h => by
    obtain ⟨ρ1, ρ', s', e1, e2, h'⟩ := hs d (.head _) ρ s h
    obtain ⟨ρ2, s2, e3, h2⟩ := forL_inv Inv (fun d hd => hs d (.tail _ hd)) h'
    exact ⟨ρ2, s2, by unfold forL; rw [e1]; dsimp only; rw [e2]; exact e3, h2⟩
end
/-- what holds of each stretch holds of all -/
theorem all_chunks {α : Type} {P : α → Bool} {l : List α} {n k : Nat} (hn : 0 < n) (h : ∀ i < k, ((l.drop (n * i)).take n).all P = true) (hl : l.length ≤ n * k) : ∀ t ∈ l, P t = true := fun t ht => by
  obtain ⟨j, hj, rfl⟩ := List.mem_iff_getElem.mp ht
  have hd := Nat.div_add_mod j n
  have hm := Nat.mod_lt j hn
  have hi : j / n < k := Nat.div_lt_of_lt_mul (by omega)
  refine List.all_eq_true.mp (h (j / n) hi) _ (List.mem_of_getElem? (i := j % n) ?_)
  rw [List.getElem?_take_of_lt hm, List.getElem?_drop, hd, List.getElem?_eq_getElem hj]
/-- the outcome of one turn, with the deck where it was -/
def turnOk (N : Nat) : Out TS → Bool
  | .nx ρ x => ρ.length == N && (match ρ[1]? with
    | some (some (Sl.val D.deck)) => true
    | _ => false) && x.u.all fun n => decide (0 < n)
  | _ => false
def InvL (N : Nat) (ρ : En) (st : DeckSt) : Prop := ρ.length = N ∧ ρ[1]? = some (some (.val .deck)) ∧ st.Ok
theorem turn_inv {N : Nat} {ts : List (List (Int × Int))} {d : DS TS} {k : Nat} (hc : cov k ts = true) (hd : ∀ t ∈ ts, turnOk (N + 2) (d (none :: some (.val .deck) :: List.replicate N none) ⟨t, []⟩) = true) {ρ : En} {st : DeckSt} (h : InvL (N + 2) ρ st) :
    ∃ ρ' s', dForget [1] (dTape (chT ts) d) ρ st = .nx ρ' s' ∧ InvL (N + 2) ρ' s' := by
  unfold dForget dTape
  rw [fgt_one h.1 h.2.1]
  have q := hd _ (chT_mem hc st)
  cases e : d (none :: some (.val .deck) :: List.replicate N none) ⟨chT ts st, []⟩ with
  | nx ρ' x =>
    rw [e] at q
    unfold turnOk at q
    dsimp only at q
    rw [Bool.and_eq_true, Bool.and_eq_true] at q
    refine ⟨ρ', _, rfl, by simpa using q.1.1, ?_, adv_ok h.2.2 fun n hn => of_decide_eq_true (List.all_eq_true.mp q.2 n hn)⟩
    have q2 := q.1.2
    split at q2
    · rename_i e; exact e
    · cases q2
  | rt _ _ => rw [e] at q; cases q
  | bk _ _ => rw [e] at q; cases q
  | ct _ _ => rw [e] at q; cases q
  | ex _ _ _ => rw [e] at q; cases q
  | bad => rw [e] at q; cases q
/-- the law's body: one loop of turns, then True -/
theorem turns_pure {N : Nat} {di : DA DeckSt} {b : DS DeckSt} {st : DeckSt} {n : Nat} {l : List D} (ok : st.Ok) (hl : di (rho0 (N + 2) n) st = .ok l st) (hN : 1 ≤ N)
    (hb : ∀ ρ st, InvL (N + 2) ρ st → ∃ ρ' s', b ρ st = .nx ρ' s' ∧ InvL (N + 2) ρ' s') : ∃ s', dSeq (dFor (gN 2) [] di b) (dRet (dC (.bl true))) (rho0 (N + 2) n) st = .rt (.bl true) s' := by
  unfold dSeq dFor
  rw [hl, frz_nil, R.out_ok]
  obtain ⟨ρ', s', e, h⟩ := forL_inv (g := gN 2) (ds := b) (l := l) (ρ := rho0 (N + 2) n) (s := st) (InvL (N + 2)) (fun d _ ρ s I => by
    obtain ⟨ρ', s', e, h⟩ := hb (ρ.set 2 (some (.val d))) s ⟨by rw [List.length_set]; exact I.1, by rw [List.getElem?_set_ne (by decide)]; exact I.2.1, I.2.2⟩
    exact ⟨_, ρ', s', rfl, e, h⟩) ⟨by simp [rho0], rfl, ok⟩
  refine ⟨s', ?_⟩
  rw [e]
  rfl
end Mir

set_option Elab.async false
set_option linter.all false
set_option maxRecDepth 100000
set_option maxHeartbeats 2000000
namespace Mir
open PySem PySem.Spec L2
open PyProof.Rows hiding St
section
variable {S : Type} {PC : Deck S → Prop}
theorem fnok_mk0 {P : Program} {w : World} {K : PySem.W.Frag} {mg : Str → Option Value} {base : Heap} {x : Str} {stm : Stmt} {f : Addr} {fd : FuncData} {N ps : List Str} {k : Nat} {ds : DS S} (F : Fun K x x stm f fd) (sc : FnScope N ps (defScope stm))
    (body : ∀ (cdv : Value) (A : Around) (outer : List PySem.Env) (s : Shared) (H : Hp) (E : XK) (C : Deck S), PC C → Room k (A.deeper (envOfC x (defScope stm) s.heap.objs.size f cdv)) → PBd (cxOf (L2.CX P w) P w K mg base N x (defScope stm) f cdv A outer s H E) C (fun cls d _ H => E cls d H) (defBody stm) ds) :
    FnOk P w K mg base (L2.CX P w) (k + 1) f fd ps (spOf mg PC ps.length (mOf N.length ds)) := by
  refine F.okX sc (fun vs H Q E h => ?_) (fun cdv A outer s H vs Q E hr h => ?_)
  · obtain ⟨C, A, s, args, pc, V0, t, hl, g⟩ := h
    rw [t.len, hl]
  · obtain ⟨C, A1, s1, args, pc, V0, t, hl, g⟩ := h
    refine ⟨_, body cdv A outer s H E C pc hr, A1, H, A1, _, s1, start_sat V0 t, ?_⟩
    unfold mOf at g
    generalize ho : ds (args.map (fun d => some (.val d)) ++ List.replicate (N.length - args.length) none) s1 = o at g
    cases o with
    | rt d s' => exact fun H' v k a h => g H' v k a h
    | nx ρ s' => exact fun A' H' σ J => g H' .non J.keep J.at_ .non
    | ex c ρ s' => exact fun q A' H' σ m J => g q H' m J.keep J.at_
    | bk ρ s' => exact g.elim
    | ct ρ s' => exact g.elim
    | bad => exact g.elim
theorem fn_ofok {P : Program} {w : World} {K : PySem.W.Frag} {mg : Str → Option Value} {base : Heap} {x : Str} {k n : Nat} {m : List D → S → R S D} {f : Addr} {fd : FuncData} {ps : List Str} (o : FnOk P w K mg base (L2.CX P w) k f fd ps (spOf mg PC n m)) (hg : mg x = some (.ref f)) (hk : PySem.W.keepIn K (.ref f) = true) (hb : Binds K fd ps []) : Fn P w K mg base PC x k n m := ⟨f, fd, ps, o, hg, hk, hb⟩
theorem fk_ofok {P : Program} {w : World} {K : PySem.W.Frag} {mg : Str → Option Value} {base : Heap} {x : Str} {k n a : Nat} {ks : List Str} {is : List Nat} {m : List D → S → R S D} {f : Addr} {fd : FuncData} {ps : List Str} (o : FnOk P w K mg base (L2.CX P w) k f fd ps (spOf mg PC n m)) (hg : mg x = some (.ref f)) (hk : PySem.W.keepIn K (.ref f) = true)
    (hb : KBn K fd ps a ks (fun us ws => pick is (us ++ ws)) (fun vs zs => pick is (vs ++ zs))) : Fk P w K mg base PC x k n m a ks is := ⟨f, fd, ps, o, hg, hk, hb⟩
end
theorem kbn_mk {K : PySem.W.Frag} {x : Str} {st : Stmt} {f : Addr} {fd : FuncData} (F : Fun K x x st f fd) {ps ks : List Str} {a : Nat} {is : List Nat}
    (h : ∀ (kV doc pm : Value) (an : Option Addr) (cdv ct : Value) (us ws : List Value), us.length = a → ws.length = ks.length → bindArgs (PySem.W.fnOf x x (defArgs st) (defBody st) (defScope st) .none kV doc pm an cdv ct) ⟨us, ks.zip ws⟩ = pure (ps.zip (pick is (us ++ ws)))) :
    KBn K fd ps a ks (fun us ws => pick is (us ++ ws)) (fun vs zs => pick is (vs ++ zs)) := by
  obtain ⟨oc, od, kV, doc, pm, an, cdv, ct, osl, rfl, lk, hcd⟩ := F.ex
  exact ⟨fun s us ws _ h1 h2 => .of_eq (h kV doc pm an cdv ct us ws h1 h2), fun r q => pick_vals (r.append q) is⟩
end Mir

set_option Elab.async false
set_option linter.all false
set_option maxRecDepth 100000
set_option maxHeartbeats 2000000
namespace Mir
open PySem PySem.Spec L2
open PyProof.Rows hiding St

/-! ### s.find(c), s.find(c, i) for one sign c -/
/-- the first place at or behind k where c stands -/
def fnd (l : List Nat) (c : Nat) (k : Nat) : Int := match (List.range' k (l.length + 1 - k)).find? (fun i => l[i]? == some c) with
  | some i => (i : Int)
  | none => -1
theorem sub_one {l : List Nat} {c i : Nat} : (decide (i + 1 ≤ l.length) && Builtin.Str.subAt (mkS l) (mkS [c]) i) = (l[i]? == some c) := by
  by_cases h : i < l.length
  · have e : Builtin.Str.subAt (mkS l) (mkS [c]) i = (l[i] == c) := by
      unfold Builtin.Str.subAt
      show (l.toArray.extract i (i + 1) == #[c]) = _
      have : l.toArray.extract i (i + 1) = #[l[i]] := by
        apply Array.ext'
        simp only [List.extract_toArray, List.extract_eq_take_drop, Nat.add_sub_cancel_left]
        rw [List.drop_eq_getElem_cons h]
        rfl
      rw [this]
      simp
    rw [e, List.getElem?_eq_getElem h, decide_eq_true (by omega : i + 1 ≤ l.length), Bool.true_and]
    rfl
  · rw [List.getElem?_eq_none (by omega), decide_eq_false (by omega : ¬ i + 1 ≤ l.length), Bool.false_and]
    rfl
theorem occ_stay {l : List Nat} {c k n : Nat} : ∀ is : List Nat, ((forIn is ((#[k] : Array Nat), n) (StrLaws.occBody (mkS l) (mkS [c]) l.length 1)).run.fst.toList) = [k]
  | [] => rfl
  | i :: is => by
    rw [List.forIn_cons]
    unfold StrLaws.occBody
    rw [if_neg (fun z => absurd z.1.1.1 (by simp))]
    exact occ_stay is
theorem occ_one (l : List Nat) (c : Nat) : ∀ (is : List Nat) (n : Nat), (∀ i ∈ is, n ≤ i) → ((forIn is ((#[] : Array Nat), n) (StrLaws.occBody (mkS l) (mkS [c]) l.length 1)).run.fst.toList) = (is.find? fun i => l[i]? == some c).toList
  | [], _, _ => rfl
  | i :: is, n, h => by
    rw [List.forIn_cons, List.find?_cons, ← sub_one]
    unfold StrLaws.occBody
    have hn : n ≤ i := h i (.head _)
    have e1 : (mkS [c]).length = 1 := rfl
    cases z : (decide (i + 1 ≤ l.length) && Builtin.Str.subAt (mkS l) (mkS [c]) i) with
    | true =>
      rw [Bool.and_eq_true, decide_eq_true_eq] at z
      rw [if_pos ⟨⟨⟨by simp, hn⟩, by rw [e1]; exact z.1⟩, z.2⟩]
      exact occ_stay is
    | false =>
      rw [if_neg (fun q => by
        have : (decide (i + 1 ≤ l.length) && Builtin.Str.subAt (mkS l) (mkS [c]) i) = true := by
          rw [Bool.and_eq_true, decide_eq_true_eq]
          exact ⟨q.1.2, q.2⟩
        rw [z] at this
        cases this)]
      have ih := occ_one l c is n fun j hj => h j (.tail _ hj)
      simp only [sub_one] at ih ⊢
      exact ih
theorem occ_fnd {l : List Nat} {c k : Nat} : (match Builtin.Str.occurrences (mkS l) (mkS [c]) k (mkS l).length 1 with
    | i :: _ => (i : Int)
    | [] => -1) = fnd l c k := by
  have e0 : (mkS l).length = l.length := rfl
  rw [StrLaws.occ_eq, e0, occ_one _ _ _ k (fun i hi => (List.mem_range'_1.mp hi).1)]
  unfold fnd
  cases (List.range' k (l.length + 1 - k)).find? fun i => l[i]? == some c <;> rfl
def fromI (n : Nat) (i : Int) : Nat := (max 0 (if i < 0 then i + n else i)).toNat
def findD : D → List D → Option D
  | .str l, [.str [c]] => some (.int (fnd l c 0))
  | .str l, [.str [c], .int i] => some (.int (fnd l c (fromI l.length i)))
  | _, _ => none
/-- ''.join and the like -/
def strsOf : List D → Option (List (List Nat))
  | [] => some []
  | .str l :: r => (strsOf r).map (l :: ·)
  | _ => none
def joinL (sep : List Nat) : List (List Nat) → List Nat
  | [] => []
  | [x] => x
  | x :: r => x ++ sep ++ joinL sep r
def okJoin (sep : List Nat) (ls : List (List Nat)) : Bool := decide ((ls.map (·.length)).sum + ls.length * sep.length ≤ 1048576)
def joinD : D → List D → Option D
  | .str sep, [.lst ds] => (strsOf ds).bind fun ls => if okJoin sep ls then some (.str (joinL sep ls)) else none
  | .str sep, [.tup ds] => (strsOf ds).bind fun ls => if okJoin sep ls then some (.str (joinL sep ls)) else none
  | _, _ => none
theorem joinL_cons {sep x y : List Nat} {r : List (List Nat)} : joinL sep (x :: y :: r) = x ++ sep ++ joinL sep (y :: r) := rfl
theorem fold_join {sep : List Nat} : ∀ (r : List (List Nat)) (a : Array Nat), ((r.map mkS).foldl (fun acc p => acc ++ (mkS sep).cps ++ p.cps) a) = (a.toList ++ (r.map fun x => sep ++ x).flatten).toArray
  | [], a => by simp
  | x :: r, a => by
    rw [List.map_cons, List.foldl_cons, fold_join r]
    simp
theorem joinL_eq {sep : List Nat} : ∀ (r : List (List Nat)) (x : List Nat), joinL sep (x :: r) = x ++ (r.map fun x => sep ++ x).flatten
  | [], x => by simp [joinL]
  | y :: r, x => by rw [joinL_cons, joinL_eq r y]; simp
theorem join_mk {sep : List Nat} {ls : List (List Nat)} : Txt.join (mkS sep) (ls.map mkS) = mkS (joinL sep ls) := by
  show Builtin.Str.glued (mkS sep) (ls.map mkS) = _
  unfold Builtin.Str.glued
  cases ls with
  | nil => rfl
  | cons x r =>
    show Str.mk (((r.map mkS)).foldl (fun acc p => acc ++ (mkS sep).cps ++ p.cps) (mkS x).cps) = _
    rw [fold_join, joinL_eq]
theorem joinL_len {sep : List Nat} : ∀ ls : List (List Nat), (joinL sep ls).length ≤ (ls.map (·.length)).sum + ls.length * sep.length
  | [] => by simp [joinL]
  | [x] => by simp [joinL]
  | x :: y :: r => by
    have := joinL_len (sep := sep) (y :: r)
    rw [joinL_cons]
    simp only [List.length_append, List.map_cons, List.sum_cons, List.length_cons] at this ⊢
    have e : (r.length + 1 + 1) * sep.length = (r.length + 1) * sep.length + sep.length := by rw [Nat.add_mul (r.length + 1), Nat.one_mul]
    omega
theorem joinL_mem {sep : List Nat} {c : Nat} : ∀ ls : List (List Nat), c ∈ joinL sep ls → c ∈ sep ∨ ∃ l ∈ ls, c ∈ l
  | [], h => by cases h
  | [x], h => .inr ⟨x, .head _, h⟩
  | x :: y :: r, h => by
    rw [joinL_cons, List.append_assoc, List.mem_append, List.mem_append] at h
    rcases h with h | h | h
    · exact .inr ⟨x, .head _, h⟩
    · exact .inl h
    · rcases joinL_mem (y :: r) h with z | ⟨l, hl, z⟩
      · exact .inl z
      · exact .inr ⟨l, .tail _ hl, z⟩
section
variable {S : Type} {C : Deck S} {X : Cx} {W : WX} {A0 A A' : Addr → Prop} {H0 H H' B : Hp} {σ : St} {ρ : En} {st st' : S}
variable {e a b c o tg iter elt : Expr} {es rest ifs : List Expr} {pos p p2 : Pos} {sc sc' sa sb vs : List Nat} {de da db dc : DE S} {dt dt' du : DT S} {dl di dj dk : DA S} {ds ds' : DS S} {mg : Str → Option Value} {DD : Ends} {xs ys : List Stmt} {dv dw : E1 S Sl}
theorem strs_of {vs : List V} {ds : List D} {ls : List (List Nat)} (t : Dats C H A vs ds) (e : strsOf ds = some ls) : vs = (ls.map mkS).map V.str ∧ ∀ l ∈ ls, SOk l := by
  induction ds generalizing vs ls with
  | nil => cases e; rw [t.unnil]; exact ⟨rfl, fun _ h => by cases h⟩
  | cons d ds ih =>
    obtain ⟨x, r, rfl, h1, h2⟩ := t.uncons
    cases d <;> simp only [strsOf] at e <;> try cases e
    obtain ⟨l2, e2, rfl⟩ := Option.map_eq_some_iff.mp e
    obtain ⟨q1, q2⟩ := ih h2 e2
    cases h1 with
    | str o =>
      refine ⟨by rw [q1]; rfl, fun l hl => ?_⟩
      cases hl with
      | head => exact o
      | tail _ h => exact q2 l h
def isS : D → Bool
  | .str _ => true
  | _ => false
def MbD (C : Deck S) (K : PySem.W.Frag) (r : V → List V → Hp → VK → Prop) (f : D → List D → Option D) : Prop :=
  ∀ (A : Addr → Prop) (s : S) (H : Hp) (x : V) (xs : List V) (dx : D) (ds : List D) (d : D) (Q : VK), VAt C A H s → Dat C H A x dx → Dats C H A xs ds → f dx ds = some d → (∀ H' v, Keep C.dom H H' → C.At s H' → Dat C H' A v d → Q v H') → r x xs H Q
/-- o.m(..): a method of a text -/
def dMb (f : D → List D → Option D) (de : DE S) (dl : DA S) : DE S := fun ρ s => (de ρ s).bind fun d s1 => if isS d then (dl ρ s1).bind fun ds s2 => ofO s2 (f d ds) else .bad
theorem pd_mb {id : String} {name : Str} {apos cpos : Pos} {r : V → List V → Hp → VK → Prop} {f : D → List D → Option D} (slot : Slot "str" name id) (hty : typeOf (.builtin id) = pure (.type "method_descriptor")) (hm : MtR X id r) (hr : MbD C X.K r f) (ho : PD X C W o sa de) (ha : PAd X C W (e :: es) sb dl)
    (hbase : attributeBase o name X.env (eval o X.env) = eval o X.env := by rfl)
    (hfew : ((backTo cpos (starEach (e :: es) X.env)).all (fun x => !x.1) && (backToKw cpos (keywordEach [] X.env)).all (fun x => x.1.isSome) && decide ((e :: es).length + ([] : List Keyword).length + (if ([] : List Keyword).isEmpty then 0 else 1) < 30)) = true := by rfl)
    (hline : (apos.endLine == cpos.line) = true := by rfl) (hs : starEach (e :: es) X.env = (false, eval e X.env) :: starEach es X.env := by rfl) (hplain : (backTo cpos (starEach es X.env)).any (·.1) = false := by rfl) :
    PD X C W (.Call (.Attribute o name apos) (e :: es) [] cpos) (sa ++ sb) (dMb f de dl) :=
  pd_of (pe_bm PySem.F.plainAttrs_str slot hty hm ho ha hbase hfew hline hs hplain) fun A0 H0 A ρ st σ H Q I g => ⟨A0, H0, A, ρ, st, I, g.bind.imp fun d s1 H1 k1 t1 g1 v dv => by
    by_cases z : isS d = true
    · rw [if_pos z] at g1
      have I1 := I.next k1 t1
      refine ⟨?_, A0, H0, A, ρ, s1, I1, g1.bind.imp fun ds s2 H2 k2 t2 g2 xs dxs => ?_⟩
      · cases d <;> simp only [isS, Bool.false_eq_true] at z
        cases dv
        rfl
      · obtain ⟨d', e', q⟩ := g2.ofO
        have I2 := I1.next k2 t2
        exact hr (Amin A σ ρ (sa ++ sb)) s2 H2 v xs d ds d' Q (I2.vat _) ((dv.keep k2 (I1.dom0 sa)).less fun _ => Amin.more fun i hi => List.mem_append_left _ hi) (dxs.less fun _ => Amin.more fun i hi => List.mem_append_right _ hi) e' fun H3 w k3 t3 dw => q H3 k3 t3 w dw
    · rw [if_neg z] at g1; exact g1.elim⟩
theorem md_find1 {K : PySem.W.Frag} : MbD C K (fun x xs H Q => ∃ a b, x = .str a ∧ xs = [.str b] ∧ Q (.int (Txt.find a b)) H) (fun d ds => if ds.length = 1 then findD d ds else none) := by
  intro A s H x xs dx ds d Q I hx t e q
  dsimp only at e
  by_cases z : ds.length = 1
  · rw [if_pos z] at e
    unfold findD at e
    split at e
    · rename_i l c
      cases e
      cases hx with
      | str o =>
        obtain ⟨y, rfl, hy⟩ := t.one
        cases hy
        refine ⟨_, _, rfl, rfl, ?_⟩
        have : Txt.find (mkS l) (mkS [c]) = fnd l c 0 := occ_fnd
        rw [this]
        exact q H _ Keep.refl I.at_ (.int _)
    · cases z
    · cases e
  · rw [if_neg z] at e; cases e
theorem md_find2 {K : PySem.W.Frag} : MbD C K (fun x xs H Q => ∃ (a b : Str) (i : Int), x = .str a ∧ xs = [.str b, .int i] ∧ Q (.int (Txt.find3 a b i)) H) (fun d ds => if ds.length = 2 then findD d ds else none) := by
  intro A s H x xs dx ds d Q I hx t e q
  dsimp only at e
  by_cases z : ds.length = 2
  · rw [if_pos z] at e
    unfold findD at e
    split at e
    · cases z
    · rename_i l c i
      cases e
      cases hx with
      | str o =>
        obtain ⟨y, z, rfl, hy, hz⟩ := t.two
        cases hy
        cases hz
        refine ⟨_, _, _, rfl, rfl, ?_⟩
        have : Txt.find3 (mkS l) (mkS [c]) i = fnd l c (fromI l.length i) := occ_fnd
        rw [this]
        exact q H _ Keep.refl I.at_ (.int _)
    · cases e
  · rw [if_neg z] at e; cases e
def find1 (d : D) (ds : List D) : Option D := if ds.length = 1 then findD d ds else none
def find2 (d : D) (ds : List D) : Option D := if ds.length = 2 then findD d ds else none
theorem pd_find1 {apos cpos : Pos} (ho : PD X C W o sa de) (ha : PAd X C W [e] sb dl)
    (hbase : attributeBase o "find" X.env (eval o X.env) = eval o X.env := by rfl)
    (hfew : ((backTo cpos (starEach [e] X.env)).all (fun x => !x.1) && (backToKw cpos (keywordEach [] X.env)).all (fun x => x.1.isSome) && decide ([e].length + ([] : List Keyword).length + (if ([] : List Keyword).isEmpty then 0 else 1) < 30)) = true := by rfl)
    (hline : (apos.endLine == cpos.line) = true := by rfl) (hs : starEach [e] X.env = (false, eval e X.env) :: starEach [] X.env := by rfl) (hplain : (backTo cpos (starEach [] X.env)).any (·.1) = false := by rfl) :
    PD X C W (.Call (.Attribute o "find" apos) [e] [] cpos) (sa ++ sb) (dMb find1 de dl) := pd_mb PySem.F.slot_str_find PySem.F.type_str_find mt_find md_find1 ho ha hbase hfew hline hs hplain
theorem pd_find2 {apos cpos : Pos} (ho : PD X C W o sa de) (ha : PAd X C W [e, a] sb dl)
    (hbase : attributeBase o "find" X.env (eval o X.env) = eval o X.env := by rfl)
    (hfew : ((backTo cpos (starEach [e, a] X.env)).all (fun x => !x.1) && (backToKw cpos (keywordEach [] X.env)).all (fun x => x.1.isSome) && decide ([e, a].length + ([] : List Keyword).length + (if ([] : List Keyword).isEmpty then 0 else 1) < 30)) = true := by rfl)
    (hline : (apos.endLine == cpos.line) = true := by rfl) (hs : starEach [e, a] X.env = (false, eval e X.env) :: starEach [a] X.env := by rfl) (hplain : (backTo cpos (starEach [a] X.env)).any (·.1) = false := by rfl) :
    PD X C W (.Call (.Attribute o "find" apos) [e, a] [] cpos) (sa ++ sb) (dMb find2 de dl) := pd_mb PySem.F.slot_str_find PySem.F.type_str_find mt_find3 md_find2 ho ha hbase hfew hline hs hplain
theorem md_join {K : PySem.W.Frag} : MbD C K (fun x xs H Q => ∃ a p, ∃ ys : List Str, x = .str a ∧ xs = [.ref p] ∧ (SqL K H p (ys.map V.str) ∨ SqT K H p (ys.map V.str)) ∧ (ys.map (·.length)).sum + ys.length * a.length ≤ 16777216 ∧ Q (.str (Txt.join a ys)) H) joinD := by
  intro A s H x xs dx ds d Q I hx t e q
  have fin : ∀ {sep : List Nat} {p : Addr} {vs : List V} {es : List D}, SOk sep → (SqL K H p vs ∨ SqT K H p vs) → Dats C H A vs es → ((strsOf es).bind fun ls => if okJoin sep ls then some (D.str (joinL sep ls)) else none) = some d →
      ∃ a q, ∃ ys : List Str, V.str (mkS sep) = .str a ∧ [V.ref p] = [.ref q] ∧ (SqL K H q (ys.map V.str) ∨ SqT K H q (ys.map V.str)) ∧ (ys.map (·.length)).sum + ys.length * a.length ≤ 16777216 ∧ Q (.str (Txt.join a ys)) H := fun {sep p vs es} o hp tv e => by
    obtain ⟨ls, e1, e2⟩ := Option.bind_eq_some_iff.mp e
    by_cases z : okJoin sep ls = true
    · rw [if_pos z] at e2
      cases e2
      obtain ⟨rfl, hl⟩ := strs_of tv e1
      have z' : (ls.map (·.length)).sum + ls.length * sep.length ≤ 1048576 := of_decide_eq_true z
      refine ⟨_, p, ls.map mkS, rfl, rfl, hp, ?_, ?_⟩
      · have e3 : ((ls.map mkS).map (·.length)) = ls.map (·.length) := by rw [List.map_map]; rfl
        rw [e3, List.length_map]
        exact Nat.le_trans z' (by decide)
      · rw [join_mk]
        refine q H _ Keep.refl I.at_ (.str ⟨Nat.le_trans (joinL_len ls) z', fun c hc => ?_⟩)
        rcases joinL_mem ls hc with h | ⟨l, h1, h2⟩
        · exact o.2 c h
        · exact (hl l h1).2 c h2
    · rw [if_neg z] at e2; cases e2
  match dx, ds, e with
  | .str sep, [.lst es], e =>
    cases hx with
    | str o =>
      obtain ⟨y, rfl, hy⟩ := t.one
      obtain ⟨p, vs, rfl, n, r, tv⟩ := hy.of_lst
      exact fin o (.inl (.of r)) tv e
  | .str sep, [.tup es], e =>
    cases hx with
    | str o =>
      obtain ⟨y, rfl, hy⟩ := t.one
      obtain ⟨p, vs, rfl, n, r, tv⟩ := hy.of_tup
      exact fin o (.inr (.of r)) tv e
theorem pd_join {apos cpos : Pos} (ho : PD X C W o sa de) (ha : PAd X C W [e] sb dl)
    (hbase : attributeBase o "join" X.env (eval o X.env) = eval o X.env := by rfl)
    (hfew : ((backTo cpos (starEach [e] X.env)).all (fun x => !x.1) && (backToKw cpos (keywordEach [] X.env)).all (fun x => x.1.isSome) && decide ([e].length + ([] : List Keyword).length + (if ([] : List Keyword).isEmpty then 0 else 1) < 30)) = true := by rfl)
    (hline : (apos.endLine == cpos.line) = true := by rfl) (hs : starEach [e] X.env = (false, eval e X.env) :: starEach [] X.env := by rfl) (hplain : (backTo cpos (starEach [] X.env)).any (·.1) = false := by rfl) :
    PD X C W (.Call (.Attribute o "join" apos) [e] [] cpos) (sa ++ sb) (dMb joinD de dl) := pd_mb PySem.F.slot_str_join PySem.F.type_str_join mt_join md_join ho ha hbase hfew hline hs hplain
end
end Mir

set_option Elab.async false
set_option linter.all false
set_option maxRecDepth 100000
set_option maxHeartbeats 2000000
namespace Mir
open PySem PySem.Spec L2
open PyProof.Rows hiding St

/-! ### x[::-1] of a list, a tuple, a text -/
section
variable {prog : Program} {w : World} {A : Around} {E : Value → Shared → Prop} {s : Shared}
theorem back_at (n : Nat) : Builtin.Slice.sliceAdjust none none (-1) (n : Int) = ((n : Int) - 1, -1) := by
  simp [Builtin.Slice.sliceAdjust]
theorem back_many (n : Nat) : Builtin.Slice.slicePlaces ((n : Int) - 1) (-1) (-1) = n := by
  unfold Builtin.Slice.slicePlaces
  rw [if_neg (by decide)]
  split
  · rw [show (- (-1) : Int) = 1 from rfl, Int.ediv_one]; omega
  · omega
theorem fm_congr {α β : Type} {f g : α → Option β} {l : List α} (h : ∀ a ∈ l, f a = g a) : l.filterMap f = l.filterMap g := by
  induction l with
  | nil => rfl
  | cons a r ih => rw [List.filterMap_cons, List.filterMap_cons, h a (.head _), ih fun b hb => h b (.tail _ hb)]
theorem back_all (xs : Array Value) : ((List.range xs.size).filterMap fun (k : Nat) => xs[((xs.size : Int) - 1 + (k : Int) * -1).toNat]?) = xs.toList.reverse := by
  have e : ((List.range xs.size).filterMap fun (k : Nat) => xs[((xs.size : Int) - 1 + (k : Int) * -1).toNat]?) = ((List.range xs.size).map fun k => xs.size - 1 - k).filterMap (xs[·]?) := by
    rw [List.filterMap_map]
    refine fm_congr fun k hk => ?_
    have := List.mem_range.mp hk
    have e : ((xs.size : Int) - 1 + (k : Int) * -1).toNat = xs.size - 1 - k := by omega
    rw [e]
    rfl
  rw [e, PySem.W.krv_range, List.filterMap_reverse, PySem.W.krv_all]
theorem getItem_back {t sl : Addr} {items : Array Value} {u : Tok} {Q : Value → Shared → Prop} (ht : IsTup s.heap t items) (hs : s.heap.IsSliceOf sl .none .none (.int (-1) u)) (hz : items.size ≤ sizeLine)
    (h : Q (.ref s.heap.objs.size) { s with heap := s.heap.push { cls := .type "tuple", data := .seq items.toList.reverse.toArray } }) : wpAny (model prog w) A (getItem (.ref t) (.ref sl)) Q E s := by
  have ok : sizeOk (.seq items.toList.reverse.toArray) := by
    show items.toList.reverse.toArray.size ≤ sizeLine
    simpa using hz
  obtain ⟨o, e1, e2, e3⟩ := id hs
  have ts : s.TypeIs (.ref sl) "slice" := ⟨o, e1, e2⟩
  unfold getItem
  try with_reducible refine wpAny_holding ?_
  first | refine wpAny_bind (wpAny_pure ?_) | skip
  refine wpAny_bind (wpAny_sequenceKey ht.typeIs (by decide) ?_)
  refine wpAny_bind ?_
  refine wpAny_callSpecial?_slot (name := Str.ofString "__getitem__") ht.typeIs slot_tuple_getitem ?_
  refine wpAny_call_entry slot_tuple_getitem ht.typeIs entry_tuple_getitem ?_ (args_tuple_getitem _ _)
  show wpAny _ _ (Builtin.Tuple.tupleItemsOf (.ref t) >>= _) _ _ s
  refine wpAny_bind (tupleItemsOf_ ht (wpAny_bind (wpAny_typeOf ts ?_)))
  rw [if_pos (by decide)]
  refine wpAny_bind ?_
  unfold Builtin.Slice.sliceApplied Builtin.Slice.sliceFields
  refine wpAny_bind (wpAny_bind (wpAny_field e1 e3 (x := .none) rfl ?_))
  refine wpAny_bind (wpAny_field e1 e3 (x := .none) rfl ?_)
  refine wpAny_bind (wpAny_field e1 e3 (x := .int (-1) u) rfl (wpAny_pure ?_))
  refine wpAny_bind (HT.slicePart_ (.int (-1) u) ?_)
  show wpAny _ _ (if ((-1 : Int) == 0) = true then _ else _) _ _ s
  rw [if_neg (by decide)]
  refine wpAny_bind (HT.slicePart_ .none (wpAny_bind (HT.slicePart_ .none (wpAny_bind (wpAny_pure ?_)))))
  show wpAny _ _ (match Builtin.Slice.sliceAdjust none none (-1) (items.size : Int) with | (lo, hi) => pure (lo, (-1 : Int), Builtin.Slice.slicePlaces lo hi (-1))) _ _ s
  rw [back_at]
  show wpAny _ _ (pure (((items.size : Int) - 1), (-1 : Int), Builtin.Slice.slicePlaces ((items.size : Int) - 1) (-1) (-1))) _ _ s
  rw [back_many]
  refine wpAny_pure ?_
  have no : ¬ ((((items.size : Int) - 1) == 0 && (-1 : Int) == 1 && items.size == items.size) = true) := by simp
  show wpAny _ _ (if (((items.size : Int) - 1) == 0 && (-1 : Int) == 1 && items.size == items.size) = true then _ else _) _ _ s
  rw [if_neg no, back_all]
  first
    | exact wpAny_bind (m := Builtin.Tuple.tupleExact _) (wpAny_newObj_type (wpAny_pure ⟨_, rfl, wpAny_pure h⟩) ok)
    | exact wpAny_bind (m := Builtin.Tuple.tupleExact _) (wpAny_newObj_type (wpAny_bind (wpAny_pure (wpAny_pure ⟨_, rfl, wpAny_pure h⟩))) ok)
    | exact wpAny_bind (wpAny_bind (m := Builtin.Tuple.tupleExact _) (wpAny_newObj_type (wpAny_pure (wpAny_pure ⟨_, rfl, wpAny_pure h⟩)) ok))
    | exact wpAny_bind (wpAny_bind (m := Builtin.Tuple.tupleExact _) (wpAny_newObj_type (wpAny_pure ⟨_, rfl, wpAny_pure h⟩) ok))
end
theorem back_str (l : List Nat) : ((Builtin.Str.strSliceIndices none none (-1) l.length).filterMap (l.toArray[·]?)) = l.reverse := by
  have e : Builtin.Str.strSliceIndices none none (-1) l.length = ((List.range l.length).map fun k => l.length - 1 - k) := PySem.W.krv_sliceRange l.length
  have := PySem.W.krv_all l.toArray
  rw [List.size_toArray] at this
  rw [e, PySem.W.krv_range, List.filterMap_reverse, this]
def tBack (K : PySem.W.Frag) (te : TE) : TE := fun σ H Q => te σ H fun x H1 => (∃ a xs, x = .ref a ∧ SqL K H1 a xs ∧ ∀ p, H1 p = none → Q (.ref p) (upd H1 p (.lst xs.reverse))) ∨
  (∃ a xs, x = .ref a ∧ SqT K H1 a xs ∧ ∀ p, H1 p = none → Q (.ref p) (upd H1 p (.tup xs.reverse))) ∨ ∃ l : List Nat, x = .str (mkS l) ∧ l.length ≤ sizeLine ∧ Q (.str (mkS l.reverse)) H1
theorem pe_back {X : Cx} {e : Expr} {te : TE} {k : Nat} {p1 p2 p3 pos : Pos} (he : PE X e te) : PE X (.Subscript e (.Slice none none (some (.UnaryOp .USub (.Constant (.int 1) k p1) p2)) p3) pos) (tBack X.K te) := by
  refine ⟨fun pins s σ H Q I h => Subscript_ (thn (he.run pins s σ H _ I h) fun v s1 ⟨x, H1, I1, r1, q1⟩ => ?_)⟩
  have st : PO X (some (.UnaryOp .USub (.Constant (.int 1) k p1) p2)) (tPart (tUn (rU fun i => .int (-i)) (tC (.int 1)))) := po_some (pe_un un_neg pe_int)
  refine wpAny_Slice (thn (po_none.run pins s1 σ H1 (fun o H2 => o = none ∧ H2 = H1) I1 ⟨rfl, rfl⟩) fun vl s2 ⟨l, H2, I2, pl, el, e2⟩ => ?_)
  cases el
  cases e2
  refine thn (po_none.run pins s2 σ H1 (fun o H3 => o = none ∧ H3 = H1) I2 ⟨rfl, rfl⟩) fun vu s3 ⟨u, H3, I3, pu, eu, e3⟩ => ?_
  cases eu
  cases e3
  refine thn (st.run pins s3 σ H1 (fun o H4 => o = some (-1) ∧ H4 = H1) I3 ⟨1, rfl, -1, rfl, rfl, rfl⟩) fun vs s4 ⟨o, H4, I4, ps, eo, e4⟩ => ?_
  cases eo
  cases e4
  have I5 : Inv X pins σ H1 { s4 with heap := s4.heap.push { cls := .type "slice", data := .fields #[vl, vu, vs] } } := I4.kept (t' := s4.toks) fun b ob q => Heap.get?_push_of_some _ q
  cases pl
  cases pu
  obtain ⟨tk, rfl⟩ : ∃ tk, vs = .int (-1) tk := by cases ps with | int _ tk => exact ⟨tk, rfl⟩
  show wpAny (model X.prog X.w) X.A (subscriptTail e (.Slice none none (some (.UnaryOp .USub (.Constant (.int 1) k p1) p2)) p3) v (.ref s4.heap.objs.size)) (EP X pins σ Q) X.xe { s4 with heap := s4.heap.push { cls := .type "slice", data := .fields #[.none, .none, .int (-1) tk] } }
  rcases q1 with ⟨a, xs, rfl, hx, q⟩ | ⟨a, xs, rfl, hx, q⟩ | ⟨l, rfl, hz, q⟩
  · cases r1
    obtain ⟨its, r, ht, hz⟩ := I5.list hx
    have hlen := r.length
    refine tail_any (ops := [.ref a, .ref s4.heap.objs.size]) ht.isList.typeIs (PySem.slot_list_getitem.lookup) ?_ (by with_unfolding_all rfl)
    refine wpAny_getItem_list_slice ht.isList (Heap.IsSliceOf.new _ _ _ _) .none .none (.int (-1) tk) (by decide) ?_ (by rw [List.size_toArray]; omega)
    rw [PySem.W.krv_pick]
    refine ⟨.ref _, _, I5.laid (t' := s4.toks) (o := .lst xs.reverse) (fun b ob q => Heap.get?_push_of_some _ q) (Nat.le_refl _) ?_, rfl, q _ (I5.hok.fresh (Nat.le_refl _))⟩
    exact ⟨by rw [List.length_reverse]; exact hz, _, 0, r.reverse, Heap.get?_push_size _ rfl⟩
  · cases r1
    obtain ⟨its, r, ht, hz⟩ := I5.tuple hx
    have hlen := r.length
    refine tail_any (ops := [.ref a, .ref s4.heap.objs.size]) ht.typeIs (slot_tuple_getitem.lookup) ?_ (by with_unfolding_all rfl)
    refine getItem_back ht (Heap.IsSliceOf.new _ _ _ _) (by rw [List.size_toArray]; omega) ?_
    refine ⟨.ref _, _, I5.laid (t' := s4.toks) (o := .tup xs.reverse) (fun b ob q => Heap.get?_push_of_some _ q) (Nat.le_refl _) ?_, rfl, q _ (I5.hok.fresh (Nat.le_refl _))⟩
    exact ⟨by rw [List.length_reverse]; exact hz, _, r.reverse, ⟨_, Heap.get?_push_size _ rfl, rfl, _, rfl⟩⟩
  · obtain ⟨t, rfl⟩ := r1
    refine tail_any (ops := [.str (mkS l) t, .ref s4.heap.objs.size]) (typeIs_str _ _ _) (PySem.F.slot_str_getitem.lookup) ?_ (by with_unfolding_all rfl)
    refine wpAny_getItem_str_slice (l := none) (u := none) (st := some (-1, tk)) ⟨_, Heap.get?_push_size _ rfl, rfl, rfl⟩ rfl ?_
    have e : sliceMade (mkS l) t none none (some (-1, tk)) = .str (mkS l.reverse) := by
      unfold sliceMade slicePicked
      have h1 : ¬ ((((some ((-1 : Int), tk)).map (·.1)).getD 1 == 1 && (Builtin.Str.strSliceIndices ((none : Option (Int × Tok)).map (·.1)) ((none : Option (Int × Tok)).map (·.1)) (((some ((-1 : Int), tk)).map (·.1)).getD 1) (mkS l).length).length == (mkS l).length) = true) := by
        show ¬ (((-1 : Int) == 1 && _) = true)
        simp
      rw [if_neg h1]
      show Made.str ⟨((Builtin.Str.strSliceIndices none none (-1) l.length).filterMap (l.toArray[·]?)).toArray⟩ = _
      rw [back_str]
    rw [e]
    refine ⟨by show l.reverse.toArray.size ≤ sizeLine; simpa using hz, ?_⟩
    exact ⟨.str _, H1, I5.tok _, ⟨_, rfl⟩, q⟩
end Mir

set_option Elab.async false
set_option linter.all false
set_option maxRecDepth 100000
set_option maxHeartbeats 2000000
namespace Mir
open PySem PySem.Spec L2
open PyProof.Rows hiding St

/-! ### text * int, tuple * int, list * int -/
/-- the tuple as it stands on the heap -/
abbrev tupAt (s : Shared) (l : Addr) (its : Array Value) (n : Nat) (dd : Option Addr) (sl : Array (Option Value)) : Prop := s.heap.get? l = some { cls := .type "tuple", dict := dd, data := .seq its n, slots := sl }
theorem tup_once (l : Addr) (its : Array Value) (n : Nat) (dd : Option Addr) (sl : Array (Option Value)) (u : Tok) : Meets (Builtin.«tuple.__mul__» ⟨[.ref l, .int 1 u], []⟩) (fun _ R s => tupAt s l its n dd sl ∧ R (.ok (.ret (Value.ref l))) s) :=
  .of_wp fun prog w A R st hs => by
    obtain ⟨p1, p2, p3, p4, p5⟩ := st
    obtain ⟨at_, fin⟩ := hs
    have index := AutoSeq1.idx_int
    have w1 : (its.isEmpty || (1 : Int) == 1) = true := by simp
    wp_walk using wpAny_loadPart' at_
    repeat (first
      | (refine wpAny_ite_true (decide_eq_true w1) ?_; wp_walk using wpAny_loadPart' at_)
      | (refine wpAny_ite_true (by simp) ?_; wp_walk using wpAny_loadPart' at_)
      | (refine wpAny_ite_false (by simp) ?_; wp_walk using wpAny_loadPart' at_))
    exact ⟨_, rfl, fin⟩
theorem tup_never (l : Addr) (its : Array Value) (n : Nat) (dd : Option Addr) (sl : Array (Option Value)) (k : Int) (u : Tok) (w0 : (decide (k < -(2 ^ 63)) || decide (k ≥ 2 ^ 63)) = false) (w1 : (its.isEmpty || k == 1) = false) (w2 : (decide (k ≤ 0) || its.isEmpty) = true) :
    Meets (Builtin.«tuple.__mul__» ⟨[.ref l, .int k u], []⟩) (fun _ R s => tupAt s l its n dd sl ∧ R (.ok (.ret (Value.ref s.heap.objs.size))) { s with heap := s.heap.push { cls := Value.type "tuple", data := Data.seq #[] }, toks := s.toks }) :=
  .of_wp fun prog w A R st hs => by
    obtain ⟨p1, p2, p3, p4, p5⟩ := st
    obtain ⟨at_, fin⟩ := hs
    have index := AutoSeq1.idx_int
    have n0 : ¬ ((decide (k < -(2 ^ 63)) || decide (k ≥ 2 ^ 63)) = true) := by rw [w0]; exact Bool.false_ne_true
    have n1 : ¬ ((its.isEmpty || k == 1) = true) := by rw [w1]; exact Bool.false_ne_true
    wp_walk using wpAny_loadPart' at_
    repeat (first
      | (refine wpAny_ite_false (decide_eq_false n0) ?_; wp_walk using wpAny_loadPart' at_)
      | (refine wpAny_ite_false (decide_eq_false n1) ?_; wp_walk using wpAny_loadPart' at_)
      | (refine wpAny_ite_true (decide_eq_true w2) ?_; wp_walk using wpAny_loadPart' at_))
    exact ⟨_, rfl, fin⟩
def rTimes (K : PySem.W.Frag) : R2 := fun x y H Q => ∃ l k xs, x = .ref l ∧ y = .int k ∧ SqT K H l xs ∧ xs ≠ [] ∧ -1000 ≤ k ∧ k ≤ 1000 ∧ xs.length ≤ 1000 ∧ (k = 1 → Q (.ref l) H) ∧ (k ≠ 1 → ∀ p, H p = none → Q (.ref p) (upd H p (.tup (List.replicate k.toNat xs).flatten)))
theorem op_times {X : Cx} : OpR X (binaryOp .Mult) (rTimes X.K) := by
  intro pins s σ H x y v u Q I rx ry h
  obtain ⟨l, k, xs, ex, ey, hT, hne, k0, k1, hz, q1, q2⟩ := h
  by_cases two : 2 ≤ k
  · exact op_repT pins s σ H x y v u Q I rx ry ⟨l, k, xs, ex, ey, hT, hne, two, k1, hz, q2 (by omega)⟩
  · subst ex ey
    cases rx
    obtain ⟨t, rfl⟩ := ry
    obtain ⟨its, r, ⟨⟨c, dd, dt, sl⟩, ho, hc, n, hd⟩, hs⟩ := I.tuple hT
    dsimp only at hc hd
    subst hc hd
    have hi : its.toArray.isEmpty = false := by
      cases its with
      | nil => exact absurd (List.eq_nil_of_length_eq_zero r.length) hne
      | cons a b => rfl
    have w0 : (decide (k < -(2 ^ 63)) || decide (k ≥ 2 ^ 63)) = false := by rw [decide_eq_false (by omega), decide_eq_false (by omega)]; rfl
    refine wpAny_binaryOp_repeat_ref (T := "tuple") (U := "int") (by decide) ⟨_, ho, rfl⟩ (fun s' => typeIs_int s' k t) noFill_tuple_mul PySem.F.fills_int_mul PySem.F.slot_int_rmul repeat_tuple PySem.F.slot_int_index.lookup ?_
    refine call_meets PySem.F.slot_int_rmul (typeIs_int s k t) PySem.F.entry_int_rmul (PySem.F.args_int_rmul_2 _ _) (int_rmul_tuple k t l its.toArray n dd sl) ⟨ho, rfl, ⟨_, ho, rfl⟩, ?_⟩
    by_cases one : k = 1
    · subst one
      exact call_meets PySem.F.slot_tuple_mul ⟨_, ho, rfl⟩ PySem.F.entry_tuple_mul (PySem.F.args_tuple_mul_2 _ _) (tup_once l its.toArray n dd sl t) ⟨ho, ⟨.ref l, H, I, rfl, q1 rfl⟩⟩
    · refine call_meets PySem.F.slot_tuple_mul ⟨_, ho, rfl⟩ PySem.F.entry_tuple_mul (PySem.F.args_tuple_mul_2 _ _) (tup_never l its.toArray n dd sl k t w0 (by rw [hi, Bool.false_or]; exact beq_eq_false_iff_ne.mpr one) (by rw [decide_eq_true (by omega), Bool.true_or])) ⟨ho, ?_⟩
      have e : (List.replicate k.toNat xs).flatten = [] := by rw [show k.toNat = 0 by omega]; rfl
      have q2 := q2 one
      rw [e] at q2
      refine ⟨.ref s.heap.objs.size, _, I.laid (t' := s.toks) (o := .tup []) (fun b ob q => Heap.get?_push_of_some _ q) (Nat.le_refl _) ?_, rfl, q2 _ (I.hok.fresh (Nat.le_refl _))⟩
      exact ⟨Nat.zero_le _, [], .nil, IsTup.new _ _⟩
theorem fold_rep {l : List Nat} : ∀ (m : Nat) (a : Array Nat), (List.replicate m l.toArray).foldl (· ++ ·) a = (a.toList ++ (List.replicate m l).flatten).toArray
  | 0, a => by simp
  | m + 1, a => by
    rw [List.replicate_succ, List.foldl_cons, fold_rep m, List.replicate_succ, List.flatten_cons]
    simp
theorem text_mul {l : List Nat} {k : Int} : Txt.mul (mkS l) k = mkS (List.replicate k.toNat l).flatten := by
  unfold Txt.mul
  by_cases h1 : k < 1
  · rw [if_pos h1, show k.toNat = 0 by omega]; rfl
  · rw [if_neg h1]
    by_cases h2 : (k == 1 || (mkS l).length == 0) = true
    · rw [if_pos h2]
      rw [Bool.or_eq_true, beq_iff_eq, beq_iff_eq] at h2
      rcases h2 with h2 | h2
      · subst h2; simp
      · have e : l = [] := List.eq_nil_of_length_eq_zero h2
        subst e
        simp
    · rw [if_neg h2]
      show Str.mk ((List.replicate k.toNat l.toArray).foldl (· ++ ·) #[]) = _
      rw [fold_rep]
      rfl
theorem op_textTimes {X : Cx} : OpR X (binaryOp .Mult) (fun x y H Q => ∃ (l : List Nat) (k : Int), x = .str (mkS l) ∧ y = .int k ∧ -1000 ≤ k ∧ k ≤ 1000 ∧ l.length ≤ 1000 ∧ Q (.str (mkS (List.replicate k.toNat l).flatten)) H) := by
  intro pins s σ H x y v u Q I rx ry h
  obtain ⟨l, k, rfl, rfl, k0, k1, hl, q⟩ := h
  obtain ⟨t, rfl⟩ := rx
  obtain ⟨t', rfl⟩ := ry
  have hlen : (mkS l).length = l.length := rfl
  refine PySem.SB.mul (x := mkS l) ⟨?_, fun h1 h2 => ?_, fun h1 h2 => ?_⟩ fun t2 k2 => ?_
  · rw [decide_eq_false (by omega), decide_eq_false (by omega)]; rfl
  · rw [hlen]
    have : (1000 : Int) ≤ (2 ^ 63 - 1) / k := Int.le_ediv_of_mul_le (by omega) (by omega)
    omega
  · rw [hlen]
    have a1 : l.length * k.toNat ≤ 1000 * 1000 := Nat.mul_le_mul hl (by omega)
    unfold Builtin.Str.tooLong
    rw [sizeLine_eq]
    exact decide_eq_false (by omega)
  · rw [text_mul]
    exact ⟨.str _, H, I.tok _, ⟨_, rfl⟩, q⟩
end Mir

set_option Elab.async false
set_option linter.all false
set_option maxRecDepth 100000
set_option maxHeartbeats 2000000
namespace Mir
open PySem PySem.Spec L2
open PyProof.Rows hiding St
section
variable {S : Type} {C : Deck S} {X : Cx} {W : WX} {A0 A A' : Addr → Prop} {H0 H H' B : Hp} {σ : St} {ρ : En} {st st' : S}
variable {e a b c o tg iter elt : Expr} {es rest ifs : List Expr} {pos p p1 p2 p3 : Pos} {sc sc' sa sb vs : List Nat} {de da db dc : DE S} {dt dt' du : DT S} {dl di dj dk : DA S} {ds ds' : DS S} {mg : Str → Option Value} {DD : Ends} {xs ys : List Stmt} {dv dw : E1 S Sl}
/-! ### backwards -/
def revD : D → Option D
  | .lst ds => some (.lst ds.reverse)
  | .tup ds => some (.tup ds.reverse)
  | .str l => some (.str l.reverse)
  | _ => none
theorem Dats.back {vs : List V} {ds : List D} (t : Dats C H A vs ds) : Dats C H A vs.reverse ds.reverse where
  len := by simp [t.len]
  at_ := fun i x d e1 e2 => by
    have h1 : i < vs.reverse.length := (List.getElem?_eq_some_iff.mp e1).1
    have h2 : i < ds.reverse.length := (List.getElem?_eq_some_iff.mp e2).1
    rw [List.length_reverse] at h1 h2
    rw [List.getElem?_reverse h1] at e1
    rw [List.getElem?_reverse h2] at e2
    rw [t.len] at e1
    exact t.at_ _ x d e1 e2
theorem pd_rev {k : Nat} (h : PD X C W e sc de) : PD X C W (.Subscript e (.Slice none none (some (.UnaryOp .USub (.Constant (.int 1) k p1) p2)) p3) pos) sc (dUn revD de) :=
  pd_of (pe_back h) fun A0 H0 A ρ st σ H Q I g => ⟨A0, H0, A, ρ, st, I, g.bind.imp fun d s1 H1 k1 t1 g1 v dv => by
    obtain ⟨d', e', q⟩ := g1.ofO
    have V1 := (I.next k1 t1).vat sc
    cases d <;> simp only [revD] at e' <;> cases e'
    case str l =>
      cases dv with
      | str o => exact .inr (.inr ⟨l, rfl, by rw [line_eq]; have := o.1; omega, q H1 Keep.refl t1 _ (.str ⟨by rw [List.length_reverse]; exact o.1, fun c hc => o.2 c (List.mem_reverse.mp hc)⟩)⟩)
    case tup ds =>
      obtain ⟨p, xs, rfl, n, r, t⟩ := dv.of_tup
      refine .inr (.inl ⟨p, xs, rfl, .of r, fun p' hp => ?_⟩)
      obtain ⟨k, t', n'⟩ := V1.new (o := .tup xs.reverse) hp
      exact q _ k t' _ (Dat.tup_mk n' upd_same (t.back.keep k V1.dom))
    case lst ds =>
      obtain ⟨p, xs, rfl, n, r, t⟩ := dv.of_lst
      refine .inl ⟨p, xs, rfl, .of r, fun p' hp => ?_⟩
      obtain ⟨k, t', n'⟩ := V1.new (o := .lst xs.reverse) hp
      exact q _ k t' _ (Dat.lst_mk n' upd_same (t.back.keep k V1.dom))⟩
/-! ### times -/
def okT (k : Int) (n : Nat) : Bool := decide (-1000 ≤ k) && decide (k ≤ 1000) && decide (n ≤ 1000) && decide (n * k.toNat ≤ 65536)
theorem okT_of {k : Int} {n : Nat} (h : okT k n = true) : -1000 ≤ k ∧ k ≤ 1000 ∧ n ≤ 1000 ∧ n * k.toNat ≤ 65536 := by
  unfold okT at h
  simpa [Bool.and_eq_true, and_assoc] using h
def many {α : Type} (k : Int) (l : List α) : List α := (List.replicate k.toNat l).flatten
theorem many_len {α : Type} {k : Int} {l : List α} : (many k l).length = l.length * k.toNat := by
  unfold many
  simp [Nat.mul_comm]
theorem many_mem {α : Type} {k : Int} {l : List α} {x : α} (h : x ∈ many k l) : x ∈ l := by
  obtain ⟨y, h1, h2⟩ := List.mem_flatten.mp h
  rw [(List.mem_replicate.mp h1).2] at h2
  exact h2
theorem Dats.many {vs : List V} {ds : List D} (t : Dats C H A vs ds) : ∀ n : Nat, Dats C H A (List.replicate n vs).flatten (List.replicate n ds).flatten
  | 0 => .nil
  | n + 1 => by
    rw [List.replicate_succ, List.replicate_succ, List.flatten_cons, List.flatten_cons]
    exact t.append (Dats.many t n)
def repD : D → D → Option D
  | .str l, .int k => if okT k l.length then some (.str (many k l)) else none
  | .tup ds, .int k => if okT k ds.length && !ds.isEmpty then some (.tup (many k ds)) else none
  | .lst ds, .int k => if okT k ds.length then some (.lst (many k ds)) else none
  | _, _ => none
def rRepD (K : PySem.W.Frag) : R2 := fun x y H Q => (∃ (l : List Nat) (k : Int), x = .str (mkS l) ∧ y = .int k ∧ -1000 ≤ k ∧ k ≤ 1000 ∧ l.length ≤ 1000 ∧ Q (.str (mkS (List.replicate k.toNat l).flatten)) H) ∨ rTimes K x y H Q ∨ rRep x y H Q
theorem opr_rep : OpR X (binaryOp .Mult) (rRepD X.K) := op_textTimes.or (op_times.or op_rep)
theorem od_rep {K : PySem.W.Frag} : OpD C (rRepD K) repD := by
  intro A s H x y dx dy d Q I h1 h2 e q
  cases dy with
  | int k =>
    cases h2
    cases dx <;> simp only [repD] at e <;> try cases e
    case str l =>
      by_cases z : okT k l.length = true
      · rw [if_pos z] at e
        cases e
        obtain ⟨z1, z2, z3, z4⟩ := okT_of z
        cases h1 with
        | str o => exact .inl ⟨l, k, rfl, rfl, z1, z2, z3, q H _ Keep.refl I.at_ (.str ⟨by have := many_len (k := k) (l := l); unfold many at this; rw [this]; omega, fun c hc => o.2 c (many_mem (k := k) hc)⟩)⟩
      · rw [if_neg z] at e; cases e
    case tup ds =>
      by_cases z : (okT k ds.length && !ds.isEmpty) = true
      · rw [if_pos z] at e
        cases e
        rw [Bool.and_eq_true] at z
        obtain ⟨z1, z2, z3, z4⟩ := okT_of z.1
        obtain ⟨p, xs, rfl, n, r, t⟩ := h1.of_tup
        refine .inr (.inl ⟨p, k, xs, rfl, rfl, .of r, fun ex => ?_, z1, z2, by rw [t.len]; exact z3, fun one => ?_, fun _ p' hp => ?_⟩)
        · have : ds = [] := List.length_eq_zero_iff.mp (by rw [← t.len, ex]; rfl)
          rw [this] at z
          exact absurd z.2 (by simp)
        · subst one
          have e1 : many 1 ds = ds := by unfold many; simp
          rw [e1] at q
          exact q H _ Keep.refl I.at_ h1
        · obtain ⟨k', t', n'⟩ := I.new (o := .tup (List.replicate k.toNat xs).flatten) hp
          exact q _ _ k' t' (Dat.tup_mk n' upd_same ((t.many _).keep k' I.dom))
      · rw [if_neg z] at e; cases e
    case lst ds =>
      by_cases z : okT k ds.length = true
      · rw [if_pos z] at e
        cases e
        obtain ⟨z1, z2, z3, z4⟩ := okT_of z
        obtain ⟨p, xs, rfl, n, r, t⟩ := h1.of_lst
        refine .inr (.inr ⟨p, k, xs, rfl, rfl, r, by omega, by omega, by rw [t.len, line_eq]; omega, fun p' hp => ?_⟩)
        obtain ⟨k', t', n'⟩ := I.new (o := .lst (List.replicate k.toNat xs).flatten) hp
        exact q _ _ k' t' (Dat.lst_mk n' upd_same ((t.many _).keep k' I.dom))
      · rw [if_neg z] at e; cases e
  | _ => cases dx <;> cases e
theorem pd_rep (ha : PD X C W a sa da) (hb : PD X C W b sb db) : PD X C W (.BinOp a .Mult b pos) (sa ++ sb) (dBin repD da db) := pd_bin opr_rep od_rep ha hb
/-- x * y, ints or a text, a tuple, a list by an int -/
def timesD (x y : D) : Option D := (mulI x y).or (repD x y)
theorem pd_times (ha : PD X C W a sa da) (hb : PD X C W b sb db) : PD X C W (.BinOp a .Mult b pos) (sa ++ sb) (dBin timesD da db) := pd_bin (f := timesD) (op_mul.or opr_rep) (OpD.or (od_int _ mulOk_c) od_rep) ha hb
/-! ### fresh lists of two -/
def dBinL (f : D → D → Option (List D)) (da db : DE S) : DA S := fun ρ s => (da ρ s).bind fun x s1 => (db ρ s1).bind fun y s2 => ofO s2 (f x y)
def catL : D → D → Option (List D)
  | .lst x, .lst y => if x.length + y.length ≤ 65536 then some (x ++ y) else none
  | _, _ => none
def repL : D → D → Option (List D)
  | .lst ds, .int k => if okT k ds.length then some (many k ds) else none
  | _, _ => none
theorem tOp_l {f : D → D → Option (List D)} {r : R2} (I : SAt C A0 H0 A H σ ρ st) {Q : VK} (hr : ∀ (A : Addr → Prop) (H : Hp) (x y : V) (dx dy : D) (ds : List D) (Q : VK), Dat C H A x dx → Dat C H A y dy → f dx dy = some ds → (∀ p xs, H p = none → Dats C H A xs ds → xs.length ≤ sizeLine → Q (.ref p) (upd H p (.lst xs))) → r x y H Q)
    (g : RG C X.mg W σ H (dBinL f da db ρ st) fun ds _ H1 => ∀ p xs, H1 p = none → Dats C H1 (Amin A σ ρ (sa ++ sb)) xs ds → xs.length ≤ sizeLine → Q (.ref p) (upd H1 p (.lst xs))) : tOp r (cte C X.mg W sa da) (cte C X.mg W sb db) σ H Q :=
  ⟨A0, H0, A, ρ, st, I, g.bind.imp fun d s1 H1 k1 t1 g1 v dv => by
    have I1 := I.next k1 t1
    refine ⟨A0, H0, A, ρ, s1, I1, g1.bind.imp fun d2 s2 H2 k2 t2 g2 v2 dv2 => ?_⟩
    obtain ⟨d3, e3, q⟩ := g2.ofO
    exact hr (Amin A σ ρ (sa ++ sb)) H2 v v2 d d2 d3 Q ((dv.keep k2 (I1.dom0 sa)).less fun _ => Amin.more fun i hi => List.mem_append_left _ hi) (dv2.less fun _ => Amin.more fun i hi => List.mem_append_right _ hi) e3
      (q H2 Keep.refl t2)⟩
theorem pf_cat (ha : PD X C W a sa da) (hb : PD X C W b sb db) : PF X C W (.BinOp a .Add b pos) (sa ++ sb) (dBinL catL da db) :=
  pf_of (pe_op op_cat ha hb) fun A0 H0 A ρ st σ H Q I g => tOp_l I (fun A H x y dx dy ds Q h1 h2 e q => by
    cases dx <;> cases dy <;> simp only [catL] at e <;> try cases e
    rename_i l1 l2
    by_cases z : l1.length + l2.length ≤ 65536
    · rw [if_pos z] at e
      cases e
      obtain ⟨p1, xs, rfl, n1, r1, t1⟩ := h1.of_lst
      obtain ⟨p2, ys, rfl, n2, r2, t2⟩ := h2.of_lst
      have hl : xs.length + ys.length ≤ sizeLine := by rw [t1.len, t2.len, line_eq]; omega
      exact ⟨p1, p2, xs, ys, rfl, rfl, r1, r2, hl, fun p hp => q p _ hp (t1.append t2) (by rw [List.length_append]; exact hl)⟩
    · rw [if_neg z] at e; cases e) g
theorem pf_rep (ha : PD X C W a sa da) (hb : PD X C W b sb db) : PF X C W (.BinOp a .Mult b pos) (sa ++ sb) (dBinL repL da db) :=
  pf_of (pe_op op_rep ha hb) fun A0 H0 A ρ st σ H Q I g => tOp_l I (fun A H x y dx dy ds Q h1 h2 e q => by
    cases dx <;> cases dy <;> simp only [repL] at e <;> try cases e
    rename_i l1 k
    by_cases z : okT k l1.length = true
    · rw [if_pos z] at e
      cases e
      obtain ⟨z1, z2, z3, z4⟩ := okT_of z
      obtain ⟨p, xs, rfl, n, r, t⟩ := h1.of_lst
      cases h2
      have hl : xs.length * k.toNat ≤ sizeLine := by rw [t.len, line_eq]; omega
      exact ⟨p, k, xs, rfl, rfl, r, by omega, by omega, hl, fun p hp => q p _ hp (t.many _) (by have := many_len (k := k) (l := xs); unfold many at this; rw [this]; exact hl)⟩
    · rw [if_neg z] at e; cases e) g
/-! ### sum -/
def intsOf : List D → Option (List Int)
  | [] => some []
  | .int i :: r => (intsOf r).map (i :: ·)
  | _ => none
def sumD : List D → Option D
  | [.lst ds] => (intsOf ds).map fun ns => .int ns.sum
  | _ => none
theorem ints_of {vs : List V} {ds : List D} {ns : List Int} (t : Dats C H A vs ds) (e : intsOf ds = some ns) : vs = ns.map V.int := by
  induction ds generalizing vs ns with
  | nil => cases e; rw [t.unnil]; rfl
  | cons d ds ih =>
    obtain ⟨x, r, rfl, h1, h2⟩ := t.uncons
    cases d <;> simp only [intsOf] at e <;> try cases e
    obtain ⟨l2, e2, rfl⟩ := Option.map_eq_some_iff.mp e
    cases h1
    rw [ih h2 e2]
    rfl
theorem cd_sum {K : PySem.W.Frag} : CallD C (rSum K) sumD := by
  intro A s H xs ds d Q I t e q
  match ds, e with
  | [.lst es], e =>
    obtain ⟨ns, e1, rfl⟩ := Option.map_eq_some_iff.mp e
    obtain ⟨x, rfl, hx⟩ := t.one
    obtain ⟨p, vs, rfl, n, r, tv⟩ := hx.of_lst
    have := ints_of tv e1
    subst this
    exact ⟨p, ns, rfl, .of r, q H _ Keep.refl I.at_ (.int _)⟩
theorem pd_sum (hc : X.calm = true) (hm : X.mg "sum" = none) (ha : PAd X C W [e] sc dl) (hg : Gl X "sum" := by rfl) (he : starEach [e] X.env = (false, eval e X.env) :: starEach [] X.env := by rfl) (hpl : (backTo pos (starEach [] X.env)).any (·.1) = false := by rfl) : PD X C W (.Call (.Name "sum" p) [e] [] pos) sc (dCallB sumD dl) :=
  pd_callB (cr_sum hc) cd_sum hm ha (by decide +kernel) hg (by decide) (by decide) he hpl
end
end Mir

set_option Elab.async false
set_option linter.all false
set_option maxRecDepth 100000
set_option maxHeartbeats 2000000
namespace Mir
open PySem PySem.Spec L2
open PyProof.Rows hiding St
section
variable {S : Type} {C : Deck S} {X : Cx} {W : WX} {A0 A A' : Addr → Prop} {H0 H H' B : Hp} {σ : St} {ρ : En} {st st' : S} {PC : Deck S → Prop}
variable {e a b c o tg iter elt : Expr} {es rest ifs : List Expr} {pos p p1 p2 p3 : Pos} {sc sc' sa sb vs : List Nat} {de da db dc : DE S} {dt dt' du : DT S} {dl di dj dk : DA S} {ds ds' : DS S} {mg : Str → Option Value} {DD : Ends} {xs ys : List Stmt} {dv dw : E1 S Sl}
/-! ### calls that leave defaults out -/
structure Fdf (P : Program) (w : World) (K : PySem.W.Frag) (mg : Str → Option Value) (base : Heap) (PC : Deck S → Prop) (x : Str) (k n : Nat) (m : List D → S → R S D) (a : Nat) (dd : List D) : Prop where
  ex : ∃ (f : Addr) (fd : FuncData) (ps : List Str) (dvs : List V) (ds : List Value), FnOk P w K mg base (L2.CX P w) k f fd ps (spOf mg PC n m) ∧ mg x = some (.ref f) ∧ PySem.W.keepIn K (.ref f) = true ∧ Binds K fd ps ds ∧ Vals dvs ds ∧ a + dd.length = n ∧
    ∀ (C : Deck S) (H : Hp) (A : Addr → Prop), Dats C H A dvs dd
def dCallD (m : List D → S → R S D) (dd : List D) (dl : DA S) : DE S := fun ρ s => (dl ρ s).bind fun ds s1 => m (ds ++ dd) s1
theorem pd_calld {x : Str} {k j n q : Nat} {m : List D → S → R S D} {dd : List D} (F : Fdf X.prog X.w X.K X.mg X.base PC x k n m q dd) (pc : PC C) (hr : Room j X.A) (hk : k ≤ j) (tk : Takes X W) (ha : PAd X C W (e :: es) sc dl) (hn : dLen q dl) (hg : Gl X x := by rfl) (hdb : (x == ("__debug__" : Str)) = false := by decide)
    (he : starEach (e :: es) X.env = (false, eval e X.env) :: starEach es X.env := by rfl) (hpl : (backTo pos (starEach es X.env)).any (·.1) = false := by rfl) : PD X C W (.Call (.Name x p) (e :: es) [] pos) sc (dCallD m dd dl) := by
  obtain ⟨f, fd, ps, dvs, dsv, F, hm, hkp, hb, hv, hq, hd⟩ := F.ex
  refine pd_of (pe_callSD F (hr.mono hk) hg hm hkp hb hv (fun σ => passAt tk σ) ha hdb he hpl) fun A0 H0 A ρ st σ H Q I g => ?_
  unfold dCallD at g
  have hn' := hn ρ st
  refine ⟨A0, H0, A, ρ, st, I, ?_⟩
  cases e1 : dl ρ st with
  | bad => rw [e1] at g; exact g
  | ex c s1 => rw [e1] at g; exact g
  | ok ds s1 =>
    rw [e1] at g
    simp only [R.bind_ok] at g
    exact fun H' k t vs dvs' => call_d (I.next k t) pc (by rw [List.length_append, hn' _ _ e1, hq]) (dvs'.append (hd C H' _)) (g.move k)
theorem fnokD_mk {P : Program} {w : World} {K : PySem.W.Frag} {mg : Str → Option Value} {base : Heap} {x : Str} {stm : Stmt} {f : Addr} {fd : FuncData} {N ps : List Str} {k : Nat} {ds : DS S} {dvs : List V} (F : FunD K x x (defArgs stm) (defBody stm) (defScope stm) dvs [] f fd) (sc : FnScope N ps (defScope stm))
    (body : ∀ (cdv : Value) (A : Around) (outer : List PySem.Env) (s : Shared) (H : Hp) (E : XK) (C : Deck S), PC C → Room k (A.deeper (envOfC x (defScope stm) s.heap.objs.size f cdv)) → PBd (cxOf (L2.CX P w) P w K mg base N x (defScope stm) f cdv A outer s H E) C (fun cls d _ H => E cls d H) (defBody stm) ds) :
    FnOk P w K mg base (L2.CX P w) (k + 1) f fd ps (spOf mg PC ps.length (mOf N.length ds)) := by
  refine F.ok sc (fun vs H Q E h => ?_) (fun cdv A outer s H vs Q E hr h => ?_)
  · obtain ⟨C, A, s, args, pc, V0, t, hl, g⟩ := h
    rw [t.len, hl]
  · obtain ⟨C, A1, s1, args, pc, V0, t, hl, g⟩ := h
    refine ⟨_, body cdv A outer s H E C pc hr, A1, H, A1, _, s1, start_sat V0 t, ?_⟩
    unfold mOf at g
    generalize ho : ds (args.map (fun d => some (.val d)) ++ List.replicate (N.length - args.length) none) s1 = o at g
    cases o with
    | rt d s' => exact fun H' v k a h => g H' v k a h
    | nx ρ s' => exact fun A' H' σ J => g H' .non J.keep J.at_ .non
    | ex c ρ s' => exact fun q A' H' σ m J => g q H' m J.keep J.at_
    | bk ρ s' => exact g.elim
    | ct ρ s' => exact g.elim
    | bad => exact g.elim
theorem fdf_ofok {P : Program} {w : World} {K : PySem.W.Frag} {mg : Str → Option Value} {base : Heap} {x : Str} {k n a : Nat} {m : List D → S → R S D} {f : Addr} {fd : FuncData} {ps : List Str} {dd : List D} {dvs : List V} (o : FnOk P w K mg base (L2.CX P w) k f fd ps (spOf mg PC n m)) (hg : mg x = some (.ref f)) (hk : PySem.W.keepIn K (.ref f) = true)
    (hb : ∃ ds, Vals dvs ds ∧ Binds K fd ps ds) (hq : a + dd.length = n) (hd : ∀ (C : Deck S) (H : Hp) (A : Addr → Prop), Dats C H A dvs dd) : Fdf P w K mg base PC x k n m a dd :=
  let ⟨ds, h1, h2⟩ := hb
  ⟨f, fd, ps, dvs, ds, o, hg, hk, h2, h1, hq, hd⟩
end
theorem funD_mk {K : PySem.W.Frag} {x qual : Str} {st : Stmt} {f T : Addr} {oc ocT : Value} {od an odT : Option Addr} {osl oslT : Array (Option Value)} {kV doc pm cdv ct : Value} {its : List Value} {n : Nat} {dvs : List V} (l : K.lookup f = some ⟨oc, od, .func (PySem.W.fnOf x qual (defArgs st) (defBody st) (defScope st) (.ref T) kV doc pm an cdv ct), osl⟩)
    (lT : K.lookup T = some ⟨ocT, odT, .seq its.toArray n, oslT⟩) (hv : Vals dvs its) (hn : dvs ≠ []) (c : PySem.W.codeIn K cdv qual = true) (k : PySem.W.keepIn K (.ref f) = true) : FunD K x qual (defArgs st) (defBody st) (defScope st) dvs [] f (PySem.W.fnOf x qual (defArgs st) (defBody st) (defScope st) (.ref T) kV doc pm an cdv ct) :=
  ⟨⟨oc, od, .ref T, kV, doc, pm, an, cdv, ct, osl, rfl, l, c, .inr ⟨hn, T, _, its, n, rfl, lT, rfl, hv⟩, .inl rfl⟩, k⟩
end Mir

set_option Elab.async false
set_option linter.all false
set_option maxRecDepth 100000
set_option maxHeartbeats 2000000
namespace Mir
open PySem PySem.Spec L2
open PyProof.Rows hiding St
/-! ### reckoning with what a def does -/
theorem isi_int_non : isiD "int" (.non) = some (.bl false) := congrArg (Option.map D.bl) (show kitB "NoneType" "int" = some false by decide +kernel)
theorem isi_int_bl {b : Bool} : isiD "int" (.bl b) = some (.bl true) := congrArg (Option.map D.bl) (show kitB "bool" "int" = some true by decide +kernel)
theorem isi_int_int {i : Int} : isiD "int" (.int i) = some (.bl true) := congrArg (Option.map D.bl) (show kitB "int" "int" = some true by decide +kernel)
theorem isi_int_str {l : List Nat} : isiD "int" (.str l) = some (.bl false) := congrArg (Option.map D.bl) (show kitB "str" "int" = some false by decide +kernel)
theorem isi_int_tup {ds : List D} : isiD "int" (.tup ds) = some (.bl false) := congrArg (Option.map D.bl) (show kitB "tuple" "int" = some false by decide +kernel)
theorem isi_int_lst {ds : List D} : isiD "int" (.lst ds) = some (.bl false) := congrArg (Option.map D.bl) (show kitB "list" "int" = some false by decide +kernel)
theorem isi_bool_non : isiD "bool" (.non) = some (.bl false) := congrArg (Option.map D.bl) (show kitB "NoneType" "bool" = some false by decide +kernel)
theorem isi_bool_bl {b : Bool} : isiD "bool" (.bl b) = some (.bl true) := congrArg (Option.map D.bl) (show kitB "bool" "bool" = some true by decide +kernel)
theorem isi_bool_int {i : Int} : isiD "bool" (.int i) = some (.bl false) := congrArg (Option.map D.bl) (show kitB "int" "bool" = some false by decide +kernel)
theorem isi_bool_str {l : List Nat} : isiD "bool" (.str l) = some (.bl false) := congrArg (Option.map D.bl) (show kitB "str" "bool" = some false by decide +kernel)
theorem isi_bool_tup {ds : List D} : isiD "bool" (.tup ds) = some (.bl false) := congrArg (Option.map D.bl) (show kitB "tuple" "bool" = some false by decide +kernel)
theorem isi_bool_lst {ds : List D} : isiD "bool" (.lst ds) = some (.bl false) := congrArg (Option.map D.bl) (show kitB "list" "bool" = some false by decide +kernel)
theorem isi_str_non : isiD "str" (.non) = some (.bl false) := congrArg (Option.map D.bl) (show kitB "NoneType" "str" = some false by decide +kernel)
theorem isi_str_bl {b : Bool} : isiD "str" (.bl b) = some (.bl false) := congrArg (Option.map D.bl) (show kitB "bool" "str" = some false by decide +kernel)
theorem isi_str_int {i : Int} : isiD "str" (.int i) = some (.bl false) := congrArg (Option.map D.bl) (show kitB "int" "str" = some false by decide +kernel)
theorem isi_str_str {l : List Nat} : isiD "str" (.str l) = some (.bl true) := congrArg (Option.map D.bl) (show kitB "str" "str" = some true by decide +kernel)
theorem isi_str_tup {ds : List D} : isiD "str" (.tup ds) = some (.bl false) := congrArg (Option.map D.bl) (show kitB "tuple" "str" = some false by decide +kernel)
theorem isi_str_lst {ds : List D} : isiD "str" (.lst ds) = some (.bl false) := congrArg (Option.map D.bl) (show kitB "list" "str" = some false by decide +kernel)
theorem isi_tuple_non : isiD "tuple" (.non) = some (.bl false) := congrArg (Option.map D.bl) (show kitB "NoneType" "tuple" = some false by decide +kernel)
theorem isi_tuple_bl {b : Bool} : isiD "tuple" (.bl b) = some (.bl false) := congrArg (Option.map D.bl) (show kitB "bool" "tuple" = some false by decide +kernel)
theorem isi_tuple_int {i : Int} : isiD "tuple" (.int i) = some (.bl false) := congrArg (Option.map D.bl) (show kitB "int" "tuple" = some false by decide +kernel)
theorem isi_tuple_str {l : List Nat} : isiD "tuple" (.str l) = some (.bl false) := congrArg (Option.map D.bl) (show kitB "str" "tuple" = some false by decide +kernel)
theorem isi_tuple_tup {ds : List D} : isiD "tuple" (.tup ds) = some (.bl true) := congrArg (Option.map D.bl) (show kitB "tuple" "tuple" = some true by decide +kernel)
theorem isi_tuple_lst {ds : List D} : isiD "tuple" (.lst ds) = some (.bl false) := congrArg (Option.map D.bl) (show kitB "list" "tuple" = some false by decide +kernel)
theorem isi_list_non : isiD "list" (.non) = some (.bl false) := congrArg (Option.map D.bl) (show kitB "NoneType" "list" = some false by decide +kernel)
theorem isi_list_bl {b : Bool} : isiD "list" (.bl b) = some (.bl false) := congrArg (Option.map D.bl) (show kitB "bool" "list" = some false by decide +kernel)
theorem isi_list_int {i : Int} : isiD "list" (.int i) = some (.bl false) := congrArg (Option.map D.bl) (show kitB "int" "list" = some false by decide +kernel)
theorem isi_list_str {l : List Nat} : isiD "list" (.str l) = some (.bl false) := congrArg (Option.map D.bl) (show kitB "str" "list" = some false by decide +kernel)
theorem isi_list_tup {ds : List D} : isiD "list" (.tup ds) = some (.bl false) := congrArg (Option.map D.bl) (show kitB "tuple" "list" = some false by decide +kernel)
theorem isi_list_lst {ds : List D} : isiD "list" (.lst ds) = some (.bl true) := congrArg (Option.map D.bl) (show kitB "list" "list" = some true by decide +kernel)
section
variable {S : Type} {ρ ρ' : En} {s s' : S}
theorem lcL_ev {α : Type} {g : DG} {dt : DT S} {de : DE S} {ρ : En} {s : S} (j : α → D) (p : α → Bool) (f : α → D) : ∀ {l : List α}, (∀ d ∈ l, ∃ ρ1, g (j d) ρ = some ρ1 ∧ dt ρ1 s = .ok (p d) s ∧ (p d = true → de ρ1 s = .ok (f d) s)) → lcL g dt de (l.map j) ρ s = .ok ((l.filter p).map f) s
  | [], _ => rfl
  | d :: l, h => by
    obtain ⟨ρ1, e1, e2, e3⟩ := h d (.head _)
    have ih := lcL_ev (l := l) j p f fun d hd => h d (.tail _ hd)
    rw [List.map_cons]
    unfold lcL
    rw [e1]
    dsimp only
    rw [e2, R.bind_ok]
    cases z : p d with
    | true => rw [if_pos rfl, e3 z, R.bind_ok, ih, R.bind_ok, List.filter_cons, if_pos z]; rfl
    | false => rw [if_neg Bool.false_ne_true, ih, List.filter_cons, if_neg (by rw [z]; exact Bool.false_ne_true)]
/-- a comprehension with a test, over what α tells -/
theorem dLc_if {α : Type} {g : DG} {vs sc : List Nat} {di : DA S} {dt : DT S} {de : DE S} (l : List α) (j : α → D) (p : α → Bool) (f : α → D) (hd : di ρ s = .ok (l.map j) s') (hl : l.length ≤ 65536)
    (h : ∀ d ∈ l, ∃ ρ1, g (j d) (wipeE (frz sc ρ) vs) = some ρ1 ∧ dt ρ1 s' = .ok (p d) s' ∧ (p d = true → de ρ1 s' = .ok (f d) s')) : dLc g vs sc di dt de ρ s = .ok ((l.filter p).map f) s' := by
  unfold dLc
  rw [hd, R.bind_ok, if_pos (by rw [List.length_map]; exact hl), lcL_ev j p f h]
  rfl
theorem dLc_ev {α : Type} {g : DG} {vs sc : List Nat} {di : DA S} {de : DE S} (l : List α) (j : α → D) (f : α → D) (hd : di ρ s = .ok (l.map j) s') (hl : l.length ≤ 65536)
    (h : ∀ d ∈ l, ∃ ρ1, g (j d) (wipeE (frz sc ρ) vs) = some ρ1 ∧ de ρ1 s' = .ok (f d) s') : dLc g vs sc di dYes de ρ s = .ok (l.map f) s' := by
  have := dLc_if (dt := dYes) l j (fun _ => true) f hd hl fun d hd => by
    obtain ⟨ρ1, e1, e2⟩ := h d hd
    exact ⟨ρ1, e1, rfl, fun _ => e2⟩
  rw [this, List.filter_eq_self.mpr (by simp)]
theorem allBl_of {α : Type} {l : List α} {q : α → Bool} : allBl (l.map fun d => D.bl (q d)) = some (l.map q) := by
  induction l with
  | nil => rfl
  | cons a l ih => simp only [List.map_cons, allBl, ih]; rfl
theorem allD_ev {α : Type} {l : List α} {q : α → Bool} : allD [.lst (l.map fun d => D.bl (q d))] = some (.bl (l.all q)) := by
  unfold allD
  dsimp only
  rw [allBl_of]
  simp [List.all_map, Function.comp_def]
theorem intsOf_map {α : Type} {l : List α} {q : α → Int} : intsOf (l.map fun d => D.int (q d)) = some (l.map q) := by
  induction l with
  | nil => rfl
  | cons a l ih => simp only [List.map_cons, intsOf, ih]; rfl
theorem strsOf_map {α : Type} {l : List α} {q : α → List Nat} : strsOf (l.map fun d => D.str (q d)) = some (l.map q) := by
  induction l with
  | nil => rfl
  | cons a l ih => simp only [List.map_cons, strsOf, ih]; rfl
theorem joinL_nil {ls : List (List Nat)} : joinL [] ls = ls.flatten := by
  cases ls with
  | nil => rfl
  | cons x r => rw [joinL_eq]; simp
theorem atI_nat {α : Type} {l : List α} {k : Nat} : atI l (k : Int) = l[k]? := by
  unfold atI ixN
  rw [if_pos (by omega)]
  by_cases h : k < l.length
  · rw [if_pos (by omega)]
    simp
  · rw [if_neg (by omega), List.getElem?_eq_none (by omega)]
    rfl
theorem ixD_tup {l : List D} {k : Nat} : ixD (.tup l) (.int (k : Int)) = l[k]? := atI_nat
theorem ixD_lst {l : List D} {k : Nat} : ixD (.lst l) (.int (k : Int)) = l[k]? := atI_nat
theorem ixD_t0 {a : D} {r : List D} : ixD (.tup (a :: r)) (.int 0) = some a := ixD_tup (k := 0)
theorem ixD_t1 {a b : D} {r : List D} : ixD (.tup (a :: b :: r)) (.int 1) = some b := ixD_tup (k := 1)
theorem ixD_t2 {a b c : D} {r : List D} : ixD (.tup (a :: b :: c :: r)) (.int 2) = some c := ixD_tup (k := 2)
theorem ixD_l0 {a : D} {r : List D} : ixD (.lst (a :: r)) (.int 0) = some a := ixD_lst (k := 0)
theorem ixD_l1 {a b : D} {r : List D} : ixD (.lst (a :: b :: r)) (.int 1) = some b := ixD_lst (k := 1)
theorem ixD_l2 {a b c : D} {r : List D} : ixD (.lst (a :: b :: c :: r)) (.int 2) = some c := ixD_lst (k := 2)
theorem ite_ok {S α : Type} {c : Prop} [Decidable c] {a b : α} {s : S} : (if c then R.ok a s else R.ok b s) = R.ok (if c then a else b) s := by split <;> rfl
theorem ite_bl {c : Prop} [Decidable c] {a b : Bool} : (if c then D.bl a else D.bl b) = D.bl (if c then a else b) := by split <;> rfl
theorem ite_rt {S : Type} {c : Prop} [Decidable c] {a b : D} {s : S} : (if c then Out.rt a s else Out.rt b s) = Out.rt (if c then a else b) s := by split <;> rfl
theorem forL_nx {S : Type} {g : DG} {ds : DS S} {d : D} {r : List D} {ρ ρ1 ρ' : En} {s s' : S} (e1 : g d ρ = some ρ1) (e : ds ρ1 s = .nx ρ' s') : forL g ds (d :: r) ρ s = forL g ds r ρ' s' := by
  rw [forL, e1]
  dsimp only
  rw [e]
theorem forL_rt {S : Type} {g : DG} {ds : DS S} {d v : D} {r : List D} {ρ ρ1 : En} {s s' : S} (e1 : g d ρ = some ρ1) (e : ds ρ1 s = .rt v s') : forL g ds (d :: r) ρ s = .rt v s' := by
  rw [forL, e1]
  dsimp only
  rw [e]
theorem whileN_step {S : Type} {dt : DT S} {ds : DS S} {n : Nat} {ρ ρ' : En} {s s1 s2 : S} (h : dt ρ s = .ok true s1) (h' : ds ρ s1 = .nx ρ' s2) : whileN dt ds (n + 1) ρ s = whileN dt ds n ρ' s2 := by
  rw [whileN, h, R.out_ok, if_pos rfl, h']
theorem whileN_end {S : Type} {dt : DT S} {ds : DS S} {n : Nat} {ρ : En} {s s1 : S} (h : dt ρ s = .ok false s1) : whileN dt ds (n + 1) ρ s = .nx ρ s1 := by
  rw [whileN, h, R.out_ok, if_neg Bool.false_ne_true]
theorem ne_int {i j : Int} : neO (.int i) (.int j) = some (.bl (!(i == j))) := rfl
theorem eq_int {i j : Int} : eqO (.int i) (.int j) = some (.bl (i == j)) := rfl
theorem ne_bl {i j : Bool} : neO (.bl i) (.bl j) = some (.bl (!(i == j))) := rfl
theorem eq_bl {i j : Bool} : eqO (.bl i) (.bl j) = some (.bl (i == j)) := rfl
theorem ne_str {i j : List Nat} : neO (.str i) (.str j) = some (.bl (!(i == j))) := rfl
theorem eq_str {i j : List Nat} : eqO (.str i) (.str j) = some (.bl (i == j)) := rfl
/-- what holds of an outcome -/
def Ok1 {α : Type} (r : R DeckSt α) (P : α → Prop) : Prop := ∃ a s, r = .ok a s ∧ s.Ok ∧ P a
theorem Ok1.bind {α β : Type} {r : R DeckSt α} {f : α → DeckSt → R DeckSt β} {P : α → Prop} {Q : β → Prop} (h : Ok1 r P) (k : ∀ a s, s.Ok → P a → Ok1 (f a s) Q) : Ok1 (r.bind f) Q := by
  obtain ⟨a, s, e, ok, p⟩ := h
  rw [e, R.bind_ok]
  exact k a s ok p
theorem Ok1.mk {α : Type} {a : α} {s : DeckSt} {P : α → Prop} (ok : s.Ok) (p : P a) : Ok1 (.ok a s) P := ⟨a, s, rfl, ok, p⟩
theorem Ok1.imp {α : Type} {r : R DeckSt α} {P Q : α → Prop} (h : Ok1 r P) (k : ∀ a, P a → Q a) : Ok1 r Q := by
  obtain ⟨a, s, e, ok, p⟩ := h
  exact ⟨a, s, e, ok, k a p⟩
theorem pick1 {st : DeckSt} (h : st.Ok) {n : Int} (h0 : 0 < n) (h1 : n < 1073741824) : Ok1 (mPick [.deck, .int n] st) fun d => ∃ a : Int, d = .int a ∧ 0 ≤ a ∧ a < n :=
  ⟨_, _, if_pos ⟨h0, h1⟩, pickF_ok h h0, _, rfl, (pickF_range st h0).1, (pickF_range st h0).2⟩
/-- a comprehension whose clause draws -/
theorem lcL_ok {g : DG} {dt : DT DeckSt} {de : DE DeckSt} {ρ : En} (P : D → Prop) : ∀ {l : List D} {s : DeckSt}, s.Ok → (∀ d ∈ l, ∀ s : DeckSt, s.Ok → ∃ ρ1, g d ρ = some ρ1 ∧ Ok1 (dt ρ1 s) fun k => ∀ s1 : DeckSt, s1.Ok → k = true → Ok1 (de ρ1 s1) P) →
    Ok1 (lcL g dt de l ρ s) fun ds => (∀ d ∈ ds, P d) ∧ ds.length ≤ l.length
  | [], s, ok, _ => ⟨[], s, rfl, ok, ⟨fun _ h => absurd h (by simp), Nat.le_refl _⟩⟩
  | d :: l, s, ok, h => by
    obtain ⟨ρ1, e1, h1⟩ := h d (.head _) s ok
    unfold lcL
    rw [e1]
    refine h1.bind fun k s1 ok1 hk => ?_
    by_cases z : k = true
    · rw [if_pos z]
      refine (hk s1 ok1 z).bind fun x s2 ok2 px => ?_
      refine (lcL_ok P ok2 fun d hd => h d (.tail _ hd)).bind fun xs s3 ok3 ⟨q1, q2⟩ => ?_
      exact .mk ok3 ⟨fun y hy => by
        cases hy with
        | head => exact px
        | tail _ hy => exact q1 y hy, by rw [List.length_cons, List.length_cons]; omega⟩
    · rw [if_neg z]
      exact (lcL_ok P ok1 fun d hd => h d (.tail _ hd)).imp fun ds ⟨q1, q2⟩ => ⟨q1, by rw [List.length_cons]; omega⟩
theorem lcL_all {g : DG} {de : DE DeckSt} {ρ : En} (P : D → Prop) : ∀ {l : List D} {s : DeckSt}, s.Ok → (∀ d ∈ l, ∀ s : DeckSt, s.Ok → ∃ ρ1, g d ρ = some ρ1 ∧ Ok1 (de ρ1 s) P) → Ok1 (lcL g dYes de l ρ s) fun ds => (∀ d ∈ ds, P d) ∧ ds.length = l.length
  | [], s, ok, _ => ⟨[], s, rfl, ok, ⟨fun _ h => absurd h (by simp), rfl⟩⟩
  | d :: l, s, ok, h => by
    obtain ⟨ρ1, e1, h1⟩ := h d (.head _) s ok
    unfold lcL
    rw [e1]
    show Ok1 ((de ρ1 s).bind _) _
    refine h1.bind fun x s2 ok2 px => ?_
    refine (lcL_all P ok2 fun d hd => h d (.tail _ hd)).bind fun xs s3 ok3 ⟨q1, q2⟩ => ?_
    exact .mk ok3 ⟨fun y hy => by
      cases hy with
      | head => exact px
      | tail _ hy => exact q1 y hy, by rw [List.length_cons, List.length_cons, q2]⟩
theorem nox_ok {α : Type} {r : R DeckSt α} {P : α → Prop} (h : Ok1 r P) : Ok1 (nox r) P := by
  obtain ⟨a, s, e, ok, p⟩ := h
  rw [e]
  exact ⟨a, s, rfl, ok, p⟩
end
end Mir

set_option Elab.async false
set_option linter.all false
set_option maxRecDepth 100000
set_option maxHeartbeats 4000000
namespace Mir
open PySem PySem.Spec L2
open PyProof.Rows hiding St
/-! printed by gen.py -/
def top (i : Nat) : Stmt := PySem.Challenge.pw_roadsworn_k08_configurations.main.body.getD i (.Pass ⟨0, 0, 0, 0⟩)
abbrev s_is_int : Stmt := top 6
abbrev s_within : Stmt := top 7
abbrev s_is_row : Stmt := top 8
abbrev s_is_word_of : Stmt := top 11
abbrev s_lies_in : Stmt := top 12
abbrev s_product_of : Stmt := top 18
abbrev s_are_sizes : Stmt := top 19
abbrev s_is_signature : Stmt := top 20
abbrev s_need_signature : Stmt := top 21
abbrev s_is_control_of : Stmt := top 22
abbrev s_are_words_of : Stmt := top 25
abbrev s_is_configuration_of : Stmt := top 26
abbrev s_is_configuration : Stmt := top 27
abbrev s_need_configuration : Stmt := top 28
abbrev s_need_both : Stmt := top 29
abbrev s_below_in : Stmt := top 30
abbrev s_letter_count : Stmt := top 31
abbrev s_is_below : Stmt := top 32
abbrev s_letters_in : Stmt := top 33
abbrev s__law_deck : Stmt := top 35
abbrev s__law_pick : Stmt := top 36
abbrev s__law_same : Stmt := top 37
abbrev s__law_sub : Stmt := top 38
abbrev s__law_below : Stmt := top 39
abbrev s__law_word : Stmt := top 40
abbrev s__law_sizes : Stmt := top 41
abbrev s__law_signature : Stmt := top 42
abbrev s__law_configuration : Stmt := top 43
abbrev s__law_int : Stmt := top 44
abbrev s__law_judge : Stmt := top 45
abbrev s__law_near : Stmt := top 46
abbrev s__law_other : Stmt := top 47
abbrev s__law_refused : Stmt := top 48
abbrev s__law_compared : Stmt := top 49
abbrev s_law : Stmt := top 50
def whileFuel : Nat := 1000000
def subTab : List (Str × Str × Bool) := [("BadConfiguration", "BadConfiguration", true), ("BadConfiguration", "BadOther", false), ("BadConfiguration", "BadSignature", false), ("BadOther", "BadConfiguration", false), ("BadOther", "BadOther", true), ("BadOther", "BadSignature", false), ("BadSignature", "BadConfiguration", false), ("BadSignature", "BadOther", false), ("BadSignature", "BadSignature", true)]
def subF : Str → Str → Option Bool := subT subTab
structure Txt (K : PySem.W.Frag) (mg : Str → Option Value) : Prop where
  n_all : mg "all" = none
  n_bool : mg "bool" = none
  n_int : mg "int" = none
  n_isinstance : mg "isinstance" = none
  n_len : mg "len" = none
  n_list : mg "list" = none
  n_min : mg "min" = none
  n_range : mg "range" = none
  n_str : mg "str" = none
  n_sum : mg "sum" = none
  n_tuple : mg "tuple" = none
  n_zip : mg "zip" = none
  c_ALPHABET : ∃ t, mg "ALPHABET" = some (.str "abc" t)
  c_MOST_CHANNELS : ∃ t, mg "MOST_CHANNELS" = some (.int 2 t)
  c_MOST_CONTROLS : ∃ t, mg "MOST_CONTROLS" = some (.int 16 t)
  c_MOST_PROCESSES : ∃ t, mg "MOST_PROCESSES" = some (.int 3 t)
  c_MOST_STATES : ∃ t, mg "MOST_STATES" = some (.int 4 t)
  e_BadConfiguration : ∃ q, ErrOk K mg "BadConfiguration" q
  e_BadOther : ∃ q, ErrOk K mg "BadOther" q
  e_BadSignature : ∃ q, ErrOk K mg "BadSignature" q
  sub : SubOk K mg subF
section
variable {P : Program} {w : World} {K : PySem.W.Frag} {mg : Str → Option Value} {base : Heap}
abbrev m__law_pick : List D → DeckSt → R DeckSt D := mPick
abbrev N__law_sizes : List Str := ["deck"]
theorem sc__law_sizes : FnScope N__law_sizes ["deck"] (defScope s__law_sizes) := ⟨rfl, rfl, rfl, by decide +kernel, rfl, by decide +kernel, by decide +kernel⟩
def d__law_sizes : DS DeckSt := dRet (dBin ixD (dF (dLst (dCons (dTup (dCons (dC (.int 1)) (dNil))) (dCons (dTup (dCons (dC (.int 2)) (dNil))) (dCons (dTup (dCons (dC (.int 3)) (dNil))) (dCons (dTup (dCons (dC (.int 2)) (dCons (dC (.int 2)) (dNil)))) (dCons (dTup (dCons (dC (.int 1)) (dCons (dC (.int 2)) (dNil)))) (dCons (dTup (dCons (dC (.int 4)) (dNil))) (dCons (dTup (dCons (dC (.int 2)) (dCons (dC (.int 1)) (dCons (dC (.int 2)) (dNil))))) (dCons (dTup (dCons (dC (.int 2)) (dCons (dC (.int 2)) (dCons (dC (.int 2)) (dNil))))) (dCons (dTup (dCons (dC (.int 4)) (dCons (dC (.int 4)) (dNil)))) (dCons (dTup (dCons (dC (.int 1)) (dCons (dC (.int 1)) (dNil)))) (dNil))))))))))))) (dCall m__law_pick (dCons (dVar 0) (dCons (dC (.int 10)) (dNil)))))
def m__law_sizes : List D → DeckSt → R DeckSt D := mOf 1 d__law_sizes
theorem ok__law_sizes (T : Txt K mg) (h__law_pick : Fn P w K mg base (PCk K) "_law_pick" 1 2 m__law_pick) {f : Addr} {fd : FuncData} (F : Fun K "_law_sizes" "_law_sizes" s__law_sizes f fd) : FnOk P w K mg base (L2.CX P w) 2 f fd ["deck"] (spOf mg (PCk K) 1 m__law_sizes) := by
  exact fnok_mk0 (N := N__law_sizes) F sc__law_sizes fun cdv A outer s H E C pc hr => by exact (pbd_one (psd_ret (pd_ix (pd_f (pf_lst (pad_cons (pd_tup (pad_cons pd_int pad_nil)) (pad_cons (pd_tup (pad_cons pd_int pad_nil)) (pad_cons (pd_tup (pad_cons pd_int pad_nil)) (pad_cons (pd_tup (pad_cons pd_int (pad_cons pd_int pad_nil))) (pad_cons (pd_tup (pad_cons pd_int (pad_cons pd_int pad_nil))) (pad_cons (pd_tup (pad_cons pd_int pad_nil)) (pad_cons (pd_tup (pad_cons pd_int (pad_cons pd_int (pad_cons pd_int pad_nil)))) (pad_cons (pd_tup (pad_cons pd_int (pad_cons pd_int (pad_cons pd_int pad_nil)))) (pad_cons (pd_tup (pad_cons pd_int (pad_cons pd_int pad_nil))) (pad_cons (pd_tup (pad_cons pd_int (pad_cons pd_int pad_nil))) pad_nil)))))))))))) (pd_call h__law_pick pc hr (by decide) (takes_of rfl rfl rfl rfl) (pad_cons (pd_var 0) (pad_cons pd_int pad_nil)) (dLen_cons (dLen_cons dLen_nil))))))
abbrev N__law_signature : List Str := ["deck"]
theorem sc__law_signature : FnScope N__law_signature ["deck"] (defScope s__law_signature) := ⟨rfl, rfl, rfl, by decide +kernel, rfl, by decide +kernel, by decide +kernel⟩
def d__law_signature : DS DeckSt := dRet (dTup (dCons (dBin addD (dC (.int 1)) (dCall m__law_pick (dCons (dVar 0) (dCons (dC (.int 3)) (dNil))))) (dCons (dBin addD (dC (.int 1)) (dCall m__law_pick (dCons (dVar 0) (dCons (dC (.int 2)) (dNil))))) (dCons (dCall m__law_sizes (dCons (dVar 0) (dNil))) (dNil)))))
def m__law_signature : List D → DeckSt → R DeckSt D := mOf 1 d__law_signature
theorem ok__law_signature (T : Txt K mg) (h__law_sizes : Fn P w K mg base (PCk K) "_law_sizes" 2 1 m__law_sizes) (h__law_pick : Fn P w K mg base (PCk K) "_law_pick" 1 2 m__law_pick) {f : Addr} {fd : FuncData} (F : Fun K "_law_signature" "_law_signature" s__law_signature f fd) : FnOk P w K mg base (L2.CX P w) 3 f fd ["deck"] (spOf mg (PCk K) 1 m__law_signature) := by
  exact fnok_mk0 (N := N__law_signature) F sc__law_signature fun cdv A outer s H E C pc hr => by exact (pbd_one (psd_ret (pd_tup (pad_cons (pd_add pd_int (pd_call h__law_pick pc hr (by decide) (takes_of rfl rfl rfl rfl) (pad_cons (pd_var 0) (pad_cons pd_int pad_nil)) (dLen_cons (dLen_cons dLen_nil)))) (pad_cons (pd_add pd_int (pd_call h__law_pick pc hr (by decide) (takes_of rfl rfl rfl rfl) (pad_cons (pd_var 0) (pad_cons pd_int pad_nil)) (dLen_cons (dLen_cons dLen_nil)))) (pad_cons (pd_call h__law_sizes pc hr (by decide) (takes_of rfl rfl rfl rfl) (pad_cons (pd_var 0) pad_nil) (dLen_cons dLen_nil)) pad_nil))))))
abbrev N__law_word : List Str := ["deck", "letters", "most", "k"]
theorem sc__law_word : FnScope N__law_word ["deck", "letters", "most"] (defScope s__law_word) := ⟨rfl, rfl, rfl, by decide +kernel, rfl, by decide +kernel, by decide +kernel⟩
def d__law_word : DS DeckSt := dRet (dMb joinD (dC (.str [])) (dCons (dF (dLc (gN 3) [3] [] (dRng rng1 (dCons (dCall m__law_pick (dCons (dVar 0) (dCons (dBin addD (dVar 2) (dC (.int 1))) (dNil)))) (dNil))) (dYes) (dBin ixD (dC (.str [97, 98, 99])) (dCall m__law_pick (dCons (dVar 0) (dCons (dVar 1) (dNil))))))) (dNil)))
def m__law_word : List D → DeckSt → R DeckSt D := mOf 4 d__law_word
theorem ok__law_word (T : Txt K mg) (h__law_pick : Fn P w K mg base (PCk K) "_law_pick" 1 2 m__law_pick) {f : Addr} {fd : FuncData} (F : Fun K "_law_word" "_law_word" s__law_word f fd) : FnOk P w K mg base (L2.CX P w) 2 f fd ["deck", "letters", "most"] (spOf mg (PCk K) 3 m__law_word) := by
  exact fnok_mk0 (N := N__law_word) F sc__law_word fun cdv A outer s H E C pc hr => by exact (pbd_one (psd_ret (pd_join (pd_str [] (by rfl) ⟨by decide, by decide⟩) (pad_cons (pd_f (pf_lc (own := [("k", 3)]) (sc := []) (sa := []) rfl sc__law_word.nd (pid_rng1 T.n_range (pad_cons (pd_call h__law_pick pc hr (by decide) (takes_of rfl rfl rfl rfl) (pad_cons (pd_var 0) (pad_cons (pd_add (pd_var 2) pd_int) pad_nil)) (dLen_cons (dLen_cons dLen_nil))) pad_nil)) (blkOk_by (own := [("k", 3)]) (N := N__law_word) (sc := defScope s__law_word) (by decide +kernel)) (fun _ _ _ _ _ => (pgd_name 3 sc__law_word.nd)) (no_gN 3) (fun _ _ _ _ _ => ptsd_nil) (fun _ _ _ _ _ => (pd_ix (pd_str [97, 98, 99] (by rfl) ⟨by decide, by decide⟩) (pd_call h__law_pick pc hr (by decide) takes0 (pad_cons (pd_var 0) (pad_cons (pd_var 1) pad_nil)) (dLen_cons (dLen_cons dLen_nil))))))) pad_nil))))
abbrev N__law_configuration : List Str := ["deck", "signature", "most", "control", "size", "k"]
theorem sc__law_configuration : FnScope N__law_configuration ["deck", "signature", "most"] (defScope s__law_configuration) := ⟨rfl, rfl, rfl, by decide +kernel, rfl, by decide +kernel, by decide +kernel⟩
def d__law_configuration : DS DeckSt := dSeq (dAsg 3 [] (dV (dCallB tupleD (dCons (dF (dLc (gN 4) [4] [] (dWalk (dBin ixD (dVar 1) (dC (.int 2))) walkD) (dYes) (dCall m__law_pick (dCons (dVar 0) (dCons (dVar 4) (dNil)))))) (dNil)))))
  (dRet (dTup (dCons (dVar 3) (dCons (dCallB tupleD (dCons (dF (dLc (gN 5) [5] [] (dRng rng1 (dCons (dBin ixD (dVar 1) (dC (.int 1))) (dNil))) (dYes) (dCall m__law_word (dCons (dVar 0) (dCons (dBin ixD (dVar 1) (dC (.int 0))) (dCons (dVar 2) (dNil))))))) (dNil))) (dNil)))))
def m__law_configuration : List D → DeckSt → R DeckSt D := mOf 6 d__law_configuration
theorem ok__law_configuration (T : Txt K mg) (h__law_pick : Fn P w K mg base (PCk K) "_law_pick" 1 2 m__law_pick) (h__law_word : Fn P w K mg base (PCk K) "_law_word" 2 3 m__law_word) {f : Addr} {fd : FuncData} (F : Fun K "_law_configuration" "_law_configuration" s__law_configuration f fd) : FnOk P w K mg base (L2.CX P w) 3 f fd ["deck", "signature", "most"] (spOf mg (PCk K) 3 m__law_configuration) := by
  exact fnok_mk0 (N := N__law_configuration) F sc__law_configuration fun cdv A outer s H E C pc hr => by exact (pbd_cons (psd_asg 3 sc__law_configuration.nd (pv_v (pd_tuple T.n_tuple (pad_cons (pd_f (pf_lc (own := [("size", 4)]) (sc := []) (sa := []) rfl sc__law_configuration.nd (pid_any (pd_ix (pd_var 1) pd_int)) (blkOk_by (own := [("size", 4)]) (N := N__law_configuration) (sc := defScope s__law_configuration) (by decide +kernel)) (fun _ _ _ _ _ => (pgd_name 4 sc__law_configuration.nd)) (no_gN 4) (fun _ _ _ _ _ => ptsd_nil) (fun _ _ _ _ _ => (pd_call h__law_pick pc hr (by decide) takes0 (pad_cons (pd_var 0) (pad_cons (pd_var 4) pad_nil)) (dLen_cons (dLen_cons dLen_nil)))))) pad_nil))))
  (pbd_one (psd_ret (pd_tup (pad_cons (pd_var 3) (pad_cons (pd_tuple T.n_tuple (pad_cons (pd_f (pf_lc (own := [("k", 5)]) (sc := []) (sa := []) rfl sc__law_configuration.nd (pid_rng1 T.n_range (pad_cons (pd_ix (pd_var 1) pd_int) pad_nil)) (blkOk_by (own := [("k", 5)]) (N := N__law_configuration) (sc := defScope s__law_configuration) (by decide +kernel)) (fun _ _ _ _ _ => (pgd_name 5 sc__law_configuration.nd)) (no_gN 5) (fun _ _ _ _ _ => ptsd_nil) (fun _ _ _ _ _ => (pd_call h__law_word pc hr (by decide) takes0 (pad_cons (pd_var 0) (pad_cons (pd_ix (pd_var 1) pd_int) (pad_cons (pd_var 2) pad_nil))) (dLen_cons (dLen_cons (dLen_cons dLen_nil))))))) pad_nil)) pad_nil))))))
abbrev N__law_near : List Str := ["deck", "signature", "configuration", "control", "words", "k", "c", "found", "state", "last", "word"]
theorem sc__law_near : FnScope N__law_near ["deck", "signature", "configuration"] (defScope s__law_near) := ⟨rfl, rfl, rfl, by decide +kernel, rfl, by decide +kernel, by decide +kernel⟩
def L__law_near_1 : DS DeckSt := dMeth 7 [] (dCons (dTup (dCons (dBin addD (dBin addD (dSl (dVar 3) (dNoPart) (dPart (dVar 5))) (dTup (dCons (dVar 8) (dNil)))) (dSl (dVar 3) (dPart (dBin addD (dVar 5) (dC (.int 1)))) (dNoPart))) (dCons (dVar 4) (dNil)))) (dNil)) fApp kDrop
def L__law_near_2 : DS DeckSt := dMeth 7 [] (dCons (dTup (dCons (dVar 3) (dCons (dBin addD (dBin addD (dSl (dVar 4) (dNoPart) (dPart (dVar 6))) (dTup (dCons (dVar 10) (dNil)))) (dSl (dVar 4) (dPart (dBin addD (dVar 6) (dC (.int 1)))) (dNoPart))) (dNil)))) (dNil)) fApp kDrop
def d__law_near : DS DeckSt := dSeq (dAsgT (gT 2 (gsCons (gN 3) (gsCons (gN 4) (gsNil)))) [] (dVar 2))
  (dSeq (dPar 5 6 [] [] (dV (dCall m__law_pick (dCons (dVar 0) (dCons (dCallB lenD (dCons (dVar 3) (dNil))) (dNil))))) (dV (dCall m__law_pick (dCons (dVar 0) (dCons (dCallB lenD (dCons (dVar 4) (dNil))) (dNil))))))
  (dSeq (dAsg 7 [] (dO (dLst (dCons (dF (dListOf (dVar 2))) (dCons (dTup (dCons (dF (dListOf (dVar 3))) (dCons (dVar 4) (dNil)))) (dCons (dTup (dCons (dVar 3) (dCons (dF (dListOf (dVar 4))) (dNil)))) (dCons (dTup (dCons (dVar 3) (dNil))) (dCons (dTup (dCons (dVar 3) (dCons (dVar 4) (dCons (dTup (dNil)) (dNil))))) (dCons (dC .non) (dCons (dC (.int 0)) (dCons (dC (.str [97])) (dCons (dTup (dNil)) (dNil)))))))))))))
  (dSeq (dFor (gN 8) [] (dWalk (dTup (dCons (dC (.int 0)) (dCons (dC (.int 1)) (dCons (dBin ixD (dBin ixD (dVar 1) (dC (.int 2))) (dVar 5)) (dCons (dBin subD (dBin ixD (dBin ixD (dVar 1) (dC (.int 2))) (dVar 5)) (dC (.int 1))) (dCons (dUn negD (dC (.int 1))) (dCons (dC (.bl true)) (dCons (dC .non) (dCons (dC (.str [48])) (dNil)))))))))) walkD) L__law_near_1)
  (dSeq (dAsg 9 [] (dV (dBin ixD (dC (.str [97, 98, 99])) (dBin subD (dBin ixD (dVar 1) (dC (.int 0))) (dC (.int 1))))))
  (dSeq (dFor (gN 10) [] (dWalk (dTup (dCons (dC (.str [])) (dCons (dVar 9) (dCons (dC (.str [99])) (dCons (dC (.str [100])) (dCons (dC (.str [65])) (dCons (dC (.str [32])) (dCons (dBin timesD (dVar 9) (dC (.int 60))) (dCons (dBin timesD (dVar 9) (dC (.int 61))) (dCons (dBin addD (dBin repD (dC (.str [97])) (dC (.int 59))) (dC (.str [98]))) (dCons (dC .non) (dCons (dC (.int 1)) (dCons (dTup (dCons (dC (.str [97])) (dNil))) (dCons (dC (.str [97, 98])) (dCons (dF (dLst (dCons (dC (.str [97])) (dNil)))) (dNil)))))))))))))))) walkD) L__law_near_2)
  (dSeq (dAsg 7 [7] (dO (dBinL catL (dOwn 7) (dF (dLst (dCons (dTup (dCons (dBin addD (dVar 3) (dTup (dCons (dC (.int 0)) (dNil)))) (dCons (dVar 4) (dNil)))) (dCons (dTup (dCons (dSl (dVar 3) (dPart (dC (.int 1))) (dNoPart)) (dCons (dVar 4) (dNil)))) (dCons (dTup (dCons (dVar 3) (dCons (dBin addD (dVar 4) (dTup (dCons (dC (.str [])) (dNil)))) (dNil)))) (dCons (dTup (dCons (dVar 3) (dCons (dSl (dVar 4) (dPart (dC (.int 1))) (dNoPart)) (dNil)))) (dCons (dTup (dCons (dVar 4) (dCons (dVar 3) (dNil)))) (dNil)))))))))))
  (dRet (dBin addD (dOwn 7) (dF (dLst (dCons (dTup (dCons (dVar 3) (dCons (dBin ixD (dVar 4) (dC (.int 0))) (dNil)))) (dCons (dTup (dCons (dTup (dNil)) (dCons (dTup (dNil)) (dNil)))) (dCons (dTup (dCons (dTup (dNil)) (dCons (dVar 4) (dNil)))) (dCons (dTup (dCons (dVar 3) (dCons (dTup (dNil)) (dNil)))) (dNil)))))))))))))))
def m__law_near : List D → DeckSt → R DeckSt D := mOf 11 d__law_near
theorem ok__law_near (T : Txt K mg) (h__law_pick : Fn P w K mg base (PCk K) "_law_pick" 1 2 m__law_pick) {f : Addr} {fd : FuncData} (F : Fun K "_law_near" "_law_near" s__law_near f fd) : FnOk P w K mg base (L2.CX P w) 2 f fd ["deck", "signature", "configuration"] (spOf mg (PCk K) 3 m__law_near) := by
  exact fnok_mk0 (N := N__law_near) F sc__law_near fun cdv A outer s H E C pc hr => by exact (pbd_cons (psd_asgT (pd_var 2) (pgd_tup 2 rfl (pgsd_cons (pgd_name 3 sc__law_near.nd) (pgsd_cons (pgd_name 4 sc__law_near.nd) pgsd_nil))))
  (pbd_cons (psd_par 5 6 rfl sc__law_near.nd (pv_v (pd_call h__law_pick pc hr (by decide) (takes_of rfl rfl rfl rfl) (pad_cons (pd_var 0) (pad_cons (pd_len T.n_len (pad_cons (pd_var 3) pad_nil)) pad_nil)) (dLen_cons (dLen_cons dLen_nil)))) (pv_v (pd_call h__law_pick pc hr (by decide) (takes_of rfl rfl rfl rfl) (pad_cons (pd_var 0) (pad_cons (pd_len T.n_len (pad_cons (pd_var 4) pad_nil)) pad_nil)) (dLen_cons (dLen_cons dLen_nil)))))
  (pbd_cons (psd_asg 7 sc__law_near.nd (pv_o (pf_lst (pad_cons (pd_f (pf_list T.n_list (pd_var 2))) (pad_cons (pd_tup (pad_cons (pd_f (pf_list T.n_list (pd_var 3))) (pad_cons (pd_var 4) pad_nil))) (pad_cons (pd_tup (pad_cons (pd_var 3) (pad_cons (pd_f (pf_list T.n_list (pd_var 4))) pad_nil))) (pad_cons (pd_tup (pad_cons (pd_var 3) pad_nil)) (pad_cons (pd_tup (pad_cons (pd_var 3) (pad_cons (pd_var 4) (pad_cons (pd_tup pad_nil) pad_nil)))) (pad_cons pd_non (pad_cons pd_int (pad_cons (pd_str [97] (by rfl) ⟨by decide, by decide⟩) (pad_cons (pd_tup pad_nil) pad_nil))))))))))))
  (pbd_cons (psd_for (passes_of rfl) rfl (pid_any (pd_tup (pad_cons pd_int (pad_cons pd_int (pad_cons (pd_ix (pd_ix (pd_var 1) pd_int) (pd_var 5)) (pad_cons (pd_sub (pd_ix (pd_ix (pd_var 1) pd_int) (pd_var 5)) pd_int) (pad_cons (pd_neg pd_int) (pad_cons pd_bl (pad_cons pd_non (pad_cons (pd_str [48] (by rfl) ⟨by decide, by decide⟩) pad_nil)))))))))) (pgd_name 8 sc__law_near.nd) (pbd_one (psd_meth 7 PySem.F.slot_list_append PySem.F.type_list_append mt_append md_app (pad_cons (pd_tup (pad_cons (pd_add (pd_add (pd_sl (pd_var 3) part_none (part_some (pd_var 5))) (pd_tup (pad_cons (pd_var 8) pad_nil))) (pd_sl (pd_var 3) (part_some (pd_add (pd_var 5) pd_int)) part_none)) (pad_cons (pd_var 4) pad_nil))) pad_nil))))
  (pbd_cons (psd_asg 9 sc__law_near.nd (pv_v (pd_ix (pd_str [97, 98, 99] (by rfl) ⟨by decide, by decide⟩) (pd_sub (pd_ix (pd_var 1) pd_int) pd_int))))
  (pbd_cons (psd_for (passes_of rfl) rfl (pid_any (pd_tup (pad_cons (pd_str [] (by rfl) ⟨by decide, by decide⟩) (pad_cons (pd_var 9) (pad_cons (pd_str [99] (by rfl) ⟨by decide, by decide⟩) (pad_cons (pd_str [100] (by rfl) ⟨by decide, by decide⟩) (pad_cons (pd_str [65] (by rfl) ⟨by decide, by decide⟩) (pad_cons (pd_str [32] (by rfl) ⟨by decide, by decide⟩) (pad_cons (pd_times (pd_var 9) pd_int) (pad_cons (pd_times (pd_var 9) pd_int) (pad_cons (pd_add (pd_rep (pd_str [97] (by rfl) ⟨by decide, by decide⟩) pd_int) (pd_str [98] (by rfl) ⟨by decide, by decide⟩)) (pad_cons pd_non (pad_cons pd_int (pad_cons (pd_tup (pad_cons (pd_str [97] (by rfl) ⟨by decide, by decide⟩) pad_nil)) (pad_cons (pd_str [97, 98] (by rfl) ⟨by decide, by decide⟩) (pad_cons (pd_f (pf_lst (pad_cons (pd_str [97] (by rfl) ⟨by decide, by decide⟩) pad_nil))) pad_nil)))))))))))))))) (pgd_name 10 sc__law_near.nd) (pbd_one (psd_meth 7 PySem.F.slot_list_append PySem.F.type_list_append mt_append md_app (pad_cons (pd_tup (pad_cons (pd_var 3) (pad_cons (pd_add (pd_add (pd_sl (pd_var 4) part_none (part_some (pd_var 6))) (pd_tup (pad_cons (pd_var 10) pad_nil))) (pd_sl (pd_var 4) (part_some (pd_add (pd_var 6) pd_int)) part_none)) pad_nil))) pad_nil))))
  (pbd_cons (psd_asg 7 sc__law_near.nd (pv_o (pf_cat (pd_own 7) (pd_f (pf_lst (pad_cons (pd_tup (pad_cons (pd_add (pd_var 3) (pd_tup (pad_cons pd_int pad_nil))) (pad_cons (pd_var 4) pad_nil))) (pad_cons (pd_tup (pad_cons (pd_sl (pd_var 3) (part_some pd_int) part_none) (pad_cons (pd_var 4) pad_nil))) (pad_cons (pd_tup (pad_cons (pd_var 3) (pad_cons (pd_add (pd_var 4) (pd_tup (pad_cons (pd_str [] (by rfl) ⟨by decide, by decide⟩) pad_nil))) pad_nil))) (pad_cons (pd_tup (pad_cons (pd_var 3) (pad_cons (pd_sl (pd_var 4) (part_some pd_int) part_none) pad_nil))) (pad_cons (pd_tup (pad_cons (pd_var 4) (pad_cons (pd_var 3) pad_nil))) pad_nil))))))))))
  (pbd_one (psd_ret (pd_add (pd_own 7) (pd_f (pf_lst (pad_cons (pd_tup (pad_cons (pd_var 3) (pad_cons (pd_ix (pd_var 4) pd_int) pad_nil))) (pad_cons (pd_tup (pad_cons (pd_tup pad_nil) (pad_cons (pd_tup pad_nil) pad_nil))) (pad_cons (pd_tup (pad_cons (pd_tup pad_nil) (pad_cons (pd_var 4) pad_nil))) (pad_cons (pd_tup (pad_cons (pd_var 3) (pad_cons (pd_tup pad_nil) pad_nil))) pad_nil))))))))))))))))
abbrev N__law_int : List Str := ["thing", "low", "high"]
theorem sc__law_int : FnScope N__law_int ["thing", "low", "high"] (defScope s__law_int) := ⟨rfl, rfl, rfl, by decide +kernel, rfl, by decide +kernel, by decide +kernel⟩
def d__law_int : DS DeckSt := dRet (dAndV (dIsi "int" (dVar 0)) (dAndV (dNotV (dIsi "bool" (dVar 0))) (dChain leD leD (dVar 1) (dVar 0) (dVar 2))))
def m__law_int : List D → DeckSt → R DeckSt D := mOf 3 d__law_int
theorem ok__law_int (T : Txt K mg)  {f : Addr} {fd : FuncData} (F : Fun K "_law_int" "_law_int" s__law_int f fd) : FnOk P w K mg base (L2.CX P w) 1 f fd ["thing", "low", "high"] (spOf mg (PCk K) 3 m__law_int) := by
  exact fnok_mk0 (N := N__law_int) F sc__law_int fun cdv A outer s H E C pc hr => by exact (pbd_one (psd_ret (pd_and (pd_isi "int" T.n_isinstance T.n_int (pd_var 0)) (pd_and (pd_not (pd_isi "bool" T.n_isinstance T.n_bool (pd_var 0))) (pd_one (pd_chain k_le k_le (pd_var 1) (pd_var 0) (pd_var 2)))))))
abbrev N__law_judge : List Str := ["signature", "thing", "letters", "channels", "sizes", "word", "k", "sign"]
theorem sc__law_judge : FnScope N__law_judge ["signature", "thing"] (defScope s__law_judge) := ⟨rfl, rfl, rfl, by decide +kernel, rfl, by decide +kernel, by decide +kernel⟩
def L__law_judge_1 : DS DeckSt := dIfS (dOr (dNot (dTr (dIsi "str" (dVar 5)))) (dOr (dB (dBin gtD (dCallB lenD (dCons (dVar 5) (dNil))) (dC (.int 60)))) (dB (dBin neO (dF (dLc (gN 7) [7] [] (dWalk (dVar 5) walkD) (dB (dBin (inF true) (dVar 7) (dSl (dC (.str [97, 98, 99])) (dNoPart) (dPart (dVar 2))))) (dVar 7))) (dF (dLst (dNil))))))) (dRet (dC (.bl false))) (dNext)
def d__law_judge : DS DeckSt := dSeq (dAsgT (gT 3 (gsCons (gN 2) (gsCons (gN 3) (gsCons (gN 4) (gsNil))))) [] (dVar 0))
  (dSeq (dIfS (dOr (dNot (dTr (dIsi "tuple" (dVar 1)))) (dOr (dB (dBin neO (dCallB lenD (dCons (dVar 1) (dNil))) (dC (.int 2)))) (dOr (dNot (dTr (dIsi "tuple" (dBin ixD (dVar 1) (dC (.int 0)))))) (dNot (dTr (dIsi "tuple" (dBin ixD (dVar 1) (dC (.int 1))))))))) (dRet (dC (.bl false))) (dNext))
  (dSeq (dIfS (dOr (dB (dBin neO (dCallB lenD (dCons (dBin ixD (dVar 1) (dC (.int 0))) (dNil))) (dCallB lenD (dCons (dVar 4) (dNil))))) (dB (dBin neO (dCallB lenD (dCons (dBin ixD (dVar 1) (dC (.int 1))) (dNil))) (dVar 3)))) (dRet (dC (.bl false))) (dNext))
  (dSeq (dIfS (dNot (dTr (dCallB allD (dCons (dF (dLc (gN 6) [6] [] (dRng rng1 (dCons (dCallB lenD (dCons (dVar 4) (dNil))) (dNil))) (dYes) (dCall m__law_int (dCons (dBin ixD (dBin ixD (dVar 1) (dC (.int 0))) (dVar 6)) (dCons (dC (.int 0)) (dCons (dBin subD (dBin ixD (dVar 4) (dVar 6)) (dC (.int 1))) (dNil))))))) (dNil))))) (dRet (dC (.bl false))) (dNext))
  (dSeq (dFor (gN 5) [] (dWalk (dBin ixD (dVar 1) (dC (.int 1))) walkD) L__law_judge_1)
  (dRet (dC (.bl true)))))))
def m__law_judge : List D → DeckSt → R DeckSt D := mOf 8 d__law_judge
theorem ok__law_judge (T : Txt K mg) (h__law_int : Fn P w K mg base (PCk K) "_law_int" 1 3 m__law_int) {f : Addr} {fd : FuncData} (F : Fun K "_law_judge" "_law_judge" s__law_judge f fd) : FnOk P w K mg base (L2.CX P w) 2 f fd ["signature", "thing"] (spOf mg (PCk K) 2 m__law_judge) := by
  exact fnok_mk0 (N := N__law_judge) F sc__law_judge fun cdv A outer s H E C pc hr => by exact (pbd_cons (psd_asgT (pd_var 0) (pgd_tup 3 rfl (pgsd_cons (pgd_name 2 sc__law_judge.nd) (pgsd_cons (pgd_name 3 sc__law_judge.nd) (pgsd_cons (pgd_name 4 sc__law_judge.nd) pgsd_nil)))))
  (pbd_cons (psd_if (ptd_w (pwd_or (ptd_not (ptd_tr (pd_isi "tuple" T.n_isinstance T.n_tuple (pd_var 1)))) (pwd_or (ptd_c (k_ne hr.units) (pd_len T.n_len (pad_cons (pd_var 1) pad_nil)) pd_int) (pwd_or (ptd_not (ptd_tr (pd_isi "tuple" T.n_isinstance T.n_tuple (pd_ix (pd_var 1) pd_int)))) (pwd_or1 (ptd_not (ptd_tr (pd_isi "tuple" T.n_isinstance T.n_tuple (pd_ix (pd_var 1) pd_int))))))))) (pbd_one (psd_ret pd_bl)) pbd_nil)
  (pbd_cons (psd_if (ptd_w (pwd_or (ptd_c (k_ne hr.units) (pd_len T.n_len (pad_cons (pd_ix (pd_var 1) pd_int) pad_nil)) (pd_len T.n_len (pad_cons (pd_var 4) pad_nil))) (pwd_or1 (ptd_c (k_ne hr.units) (pd_len T.n_len (pad_cons (pd_ix (pd_var 1) pd_int) pad_nil)) (pd_var 3))))) (pbd_one (psd_ret pd_bl)) pbd_nil)
  (pbd_cons (psd_if (ptd_not (ptd_tr (pd_all rfl T.n_all (pad_cons (pd_f (pf_lc (own := [("k", 6)]) (sc := []) (sa := []) rfl sc__law_judge.nd (pid_rng1 T.n_range (pad_cons (pd_len T.n_len (pad_cons (pd_var 4) pad_nil)) pad_nil)) (blkOk_by (own := [("k", 6)]) (N := N__law_judge) (sc := defScope s__law_judge) (by decide +kernel)) (fun _ _ _ _ _ => (pgd_name 6 sc__law_judge.nd)) (no_gN 6) (fun _ _ _ _ _ => ptsd_nil) (fun _ _ _ _ _ => (pd_call h__law_int pc hr (by decide) takes0 (pad_cons (pd_ix (pd_ix (pd_var 1) pd_int) (pd_var 6)) (pad_cons pd_int (pad_cons (pd_sub (pd_ix (pd_var 4) (pd_var 6)) pd_int) pad_nil))) (dLen_cons (dLen_cons (dLen_cons dLen_nil))))))) pad_nil)))) (pbd_one (psd_ret pd_bl)) pbd_nil)
  (pbd_cons (psd_for (passes_of rfl) rfl (pid_any (pd_ix (pd_var 1) pd_int)) (pgd_name 5 sc__law_judge.nd) (pbd_one (psd_if (ptd_w (pwd_or (ptd_not (ptd_tr (pd_isi "str" T.n_isinstance T.n_str (pd_var 5)))) (pwd_or (ptd_c k_gt (pd_len T.n_len (pad_cons (pd_var 5) pad_nil)) pd_int) (pwd_or1 (ptd_c (k_ne hr.units) (pd_f (pf_lc (own := [("sign", 7)]) (sc := []) (sa := []) rfl sc__law_judge.nd (pid_any (pd_var 5)) (blkOk_by (own := [("sign", 7)]) (N := N__law_judge) (sc := defScope s__law_judge) (by decide +kernel)) (fun _ _ _ _ _ => (pgd_name 7 sc__law_judge.nd)) (no_gN 7) (fun _ _ _ _ _ => (ptsd_one (ptd_c k_notin (pd_var 7) (pd_sl (pd_str [97, 98, 99] (by rfl) ⟨by decide, by decide⟩) part_none (part_some (pd_var 2))) (by rfl)))) (fun _ _ _ _ _ => (pd_var 7)))) (pd_f (pf_lst pad_nil))))))) (pbd_one (psd_ret pd_bl)) pbd_nil)))
  (pbd_one (psd_ret pd_bl)))))))
abbrev N__law_same : List Str := ["told", "due", "waiting", "one", "two", "k"]
theorem sc__law_same : FnScope N__law_same ["told", "due"] (defScope s__law_same) := ⟨rfl, rfl, rfl, by decide +kernel, rfl, by decide +kernel, by decide +kernel⟩
def L__law_same_1 : DS DeckSt := dSeq (dMeth 2 [] dNil fPop (gT 2 (gsCons (gN 3) (gsCons (gN 4) (gsNil)))))
  (dIfS (dTr (dIsi "tuple" (dVar 4))) (dSeq (dIfS (dOr (dNot (dTr (dIsi "tuple" (dVar 3)))) (dB (dBin neO (dCallB lenD (dCons (dVar 3) (dNil))) (dCallB lenD (dCons (dVar 4) (dNil)))))) (dRet (dC (.bl false))) (dNext))
  (dMeth 2 [] (dCons (dF (dLc (gN 5) [5] [] (dRng rng1 (dCons (dCallB lenD (dCons (dVar 4) (dNil))) (dNil))) (dYes) (dTup (dCons (dBin ixD (dVar 3) (dVar 5)) (dCons (dBin ixD (dVar 4) (dVar 5)) (dNil)))))) (dNil)) fExt kDrop)) (dIfS (dB (dBin (isF false) (dVar 4) (dC .non))) (dIfS (dB (dBin (isF true) (dVar 3) (dC .non))) (dRet (dC (.bl false))) (dNext)) (dIfS (dTr (dIsi "bool" (dVar 4))) (dIfS (dOr (dNot (dTr (dIsi "bool" (dVar 3)))) (dB (dBin neO (dVar 3) (dVar 4)))) (dRet (dC (.bl false))) (dNext)) (dIfS (dTr (dIsi "str" (dVar 4))) (dIfS (dOr (dNot (dTr (dIsi "str" (dVar 3)))) (dB (dBin neO (dVar 3) (dVar 4)))) (dRet (dC (.bl false))) (dNext)) (dIfS (dOr (dNot (dTr (dIsi "int" (dVar 3)))) (dOr (dTr (dIsi "bool" (dVar 3))) (dB (dBin neO (dVar 3) (dVar 4))))) (dRet (dC (.bl false))) (dNext))))))
def Q__law_same_2 : DT DeckSt := dB (dBin neO (dOwn 2) (dF (dLst (dNil))))
def d__law_same : DS DeckSt := dSeq (dAsg 2 [] (dO (dLst (dCons (dTup (dCons (dVar 0) (dCons (dVar 1) (dNil)))) (dNil)))))
  (dSeq (dWhile whileFuel Q__law_same_2 L__law_same_1)
  (dRet (dC (.bl true))))
def m__law_same : List D → DeckSt → R DeckSt D := mOf 6 d__law_same
theorem ok__law_same (T : Txt K mg)  {f : Addr} {fd : FuncData} (F : Fun K "_law_same" "_law_same" s__law_same f fd) : FnOk P w K mg base (L2.CX P w) 1 f fd ["told", "due"] (spOf mg (PCk K) 2 m__law_same) := by
  exact fnok_mk0 (N := N__law_same) F sc__law_same fun cdv A outer s H E C pc hr => by exact (pbd_cons (psd_asg 2 sc__law_same.nd (pv_o (pf_lst (pad_cons (pd_tup (pad_cons (pd_var 0) (pad_cons (pd_var 1) pad_nil))) pad_nil))))
  (pbd_cons (psd_while whileFuel (passes_of rfl) (ptd_c (k_ne hr.units) (pd_own 2) (pd_f (pf_lst pad_nil))) (pbd_cons (psd_methA0 2 PySem.F.slot_list_pop PySem.F.type_list_pop mt_pop md_pop (pgd_tup 2 rfl (pgsd_cons (pgd_name 3 sc__law_same.nd) (pgsd_cons (pgd_name 4 sc__law_same.nd) pgsd_nil))))
  (pbd_one (psd_if (ptd_tr (pd_isi "tuple" T.n_isinstance T.n_tuple (pd_var 4))) (pbd_cons (psd_if (ptd_w (pwd_or (ptd_not (ptd_tr (pd_isi "tuple" T.n_isinstance T.n_tuple (pd_var 3)))) (pwd_or1 (ptd_c (k_ne hr.units) (pd_len T.n_len (pad_cons (pd_var 3) pad_nil)) (pd_len T.n_len (pad_cons (pd_var 4) pad_nil)))))) (pbd_one (psd_ret pd_bl)) pbd_nil)
  (pbd_one (psd_meth 2 PySem.F.slot_list_extend PySem.F.type_list_extend mt_extend md_ext (pad_cons (pd_f (pf_lc (own := [("k", 5)]) (sc := []) (sa := []) rfl sc__law_same.nd (pid_rng1 T.n_range (pad_cons (pd_len T.n_len (pad_cons (pd_var 4) pad_nil)) pad_nil)) (blkOk_by (own := [("k", 5)]) (N := N__law_same) (sc := defScope s__law_same) (by decide +kernel)) (fun _ _ _ _ _ => (pgd_name 5 sc__law_same.nd)) (no_gN 5) (fun _ _ _ _ _ => ptsd_nil) (fun _ _ _ _ _ => (pd_tup (pad_cons (pd_ix (pd_var 3) (pd_var 5)) (pad_cons (pd_ix (pd_var 4) (pd_var 5)) pad_nil)))))) pad_nil)))) (pbd_one (psd_if (ptd_c k_is (pd_var 4) pd_non) (pbd_one (psd_if (ptd_c k_isnot (pd_var 3) pd_non) (pbd_one (psd_ret pd_bl)) pbd_nil)) (pbd_one (psd_if (ptd_tr (pd_isi "bool" T.n_isinstance T.n_bool (pd_var 4))) (pbd_one (psd_if (ptd_w (pwd_or (ptd_not (ptd_tr (pd_isi "bool" T.n_isinstance T.n_bool (pd_var 3)))) (pwd_or1 (ptd_c (k_ne hr.units) (pd_var 3) (pd_var 4))))) (pbd_one (psd_ret pd_bl)) pbd_nil)) (pbd_one (psd_if (ptd_tr (pd_isi "str" T.n_isinstance T.n_str (pd_var 4))) (pbd_one (psd_if (ptd_w (pwd_or (ptd_not (ptd_tr (pd_isi "str" T.n_isinstance T.n_str (pd_var 3)))) (pwd_or1 (ptd_c (k_ne hr.units) (pd_var 3) (pd_var 4))))) (pbd_one (psd_ret pd_bl)) pbd_nil)) (pbd_one (psd_if (ptd_w (pwd_or (ptd_not (ptd_tr (pd_isi "int" T.n_isinstance T.n_int (pd_var 3)))) (pwd_or (ptd_tr (pd_isi "bool" T.n_isinstance T.n_bool (pd_var 3))) (pwd_or1 (ptd_c (k_ne hr.units) (pd_var 3) (pd_var 4)))))) (pbd_one (psd_ret pd_bl)) pbd_nil))))))))))))
  (pbd_one (psd_ret pd_bl))))
abbrev N_is_row : List Str := ["thing", "fewest", "most"]
theorem sc_is_row : FnScope N_is_row ["thing", "fewest", "most"] (defScope s_is_row) := ⟨rfl, rfl, rfl, by decide +kernel, rfl, by decide +kernel, by decide +kernel⟩
def d_is_row : DS DeckSt := dRet (dAndV (dIsi "tuple" (dVar 0)) (dChain leD leD (dVar 1) (dCallB lenD (dCons (dVar 0) (dNil))) (dVar 2)))
def m_is_row : List D → DeckSt → R DeckSt D := mOf 3 d_is_row
theorem ok_is_row (T : Txt K mg)  {f : Addr} {fd : FuncData} (F : Fun K "is_row" "is_row" s_is_row f fd) : FnOk P w K mg base (L2.CX P w) 1 f fd ["thing", "fewest", "most"] (spOf mg (PCk K) 3 m_is_row) := by
  exact fnok_mk0 (N := N_is_row) F sc_is_row fun cdv A outer s H E C pc hr => by exact (pbd_one (psd_ret (pd_and (pd_isi "tuple" T.n_isinstance T.n_tuple (pd_var 0)) (pd_one (pd_chain k_le k_le (pd_var 1) (pd_len T.n_len (pad_cons (pd_var 0) pad_nil)) (pd_var 2))))))
abbrev N_is_int : List Str := ["thing"]
theorem sc_is_int : FnScope N_is_int ["thing"] (defScope s_is_int) := ⟨rfl, rfl, rfl, by decide +kernel, rfl, by decide +kernel, by decide +kernel⟩
def d_is_int : DS DeckSt := dRet (dAndV (dIsi "int" (dVar 0)) (dNotV (dIsi "bool" (dVar 0))))
def m_is_int : List D → DeckSt → R DeckSt D := mOf 1 d_is_int
theorem ok_is_int (T : Txt K mg)  {f : Addr} {fd : FuncData} (F : Fun K "is_int" "is_int" s_is_int f fd) : FnOk P w K mg base (L2.CX P w) 1 f fd ["thing"] (spOf mg (PCk K) 1 m_is_int) := by
  exact fnok_mk0 (N := N_is_int) F sc_is_int fun cdv A outer s H E C pc hr => by exact (pbd_one (psd_ret (pd_and (pd_isi "int" T.n_isinstance T.n_int (pd_var 0)) (pd_one (pd_not (pd_isi "bool" T.n_isinstance T.n_bool (pd_var 0)))))))
abbrev N_within : List Str := ["thing", "low", "high"]
theorem sc_within : FnScope N_within ["thing", "low", "high"] (defScope s_within) := ⟨rfl, rfl, rfl, by decide +kernel, rfl, by decide +kernel, by decide +kernel⟩
def d_within : DS DeckSt := dRet (dAndV (dCall m_is_int (dCons (dVar 0) (dNil))) (dChain leD leD (dVar 1) (dVar 0) (dVar 2)))
def m_within : List D → DeckSt → R DeckSt D := mOf 3 d_within
theorem ok_within (T : Txt K mg) (h_is_int : Fn P w K mg base (PCk K) "is_int" 1 1 m_is_int) {f : Addr} {fd : FuncData} (F : Fun K "within" "within" s_within f fd) : FnOk P w K mg base (L2.CX P w) 2 f fd ["thing", "low", "high"] (spOf mg (PCk K) 3 m_within) := by
  exact fnok_mk0 (N := N_within) F sc_within fun cdv A outer s H E C pc hr => by exact (pbd_one (psd_ret (pd_and (pd_call h_is_int pc hr (by decide) (takes_of rfl rfl rfl rfl) (pad_cons (pd_var 0) pad_nil) (dLen_cons dLen_nil)) (pd_one (pd_chain k_le k_le (pd_var 1) (pd_var 0) (pd_var 2))))))
abbrev N_product_of : List Str := ["numbers", "found", "number"]
theorem sc_product_of : FnScope N_product_of ["numbers"] (defScope s_product_of) := ⟨rfl, rfl, rfl, by decide +kernel, rfl, by decide +kernel, by decide +kernel⟩
def L_product_of_1 : DS DeckSt := dAug 1 mulI (dVar 2)
def d_product_of : DS DeckSt := dSeq (dAsg 1 [] (dV (dC (.int 1))))
  (dSeq (dFor (gN 2) [] (dWalk (dVar 0) walkD) L_product_of_1)
  (dRet (dVar 1)))
def m_product_of : List D → DeckSt → R DeckSt D := mOf 3 d_product_of
theorem ok_product_of (T : Txt K mg)  {f : Addr} {fd : FuncData} (F : Fun K "product_of" "product_of" s_product_of f fd) : FnOk P w K mg base (L2.CX P w) 1 f fd ["numbers"] (spOf mg (PCk K) 1 m_product_of) := by
  exact fnok_mk0 (N := N_product_of) F sc_product_of fun cdv A outer s H E C pc hr => by exact (pbd_cons (psd_asg 1 sc_product_of.nd (pv_v pd_int))
  (pbd_cons (psd_for (passes_of rfl) rfl (pid_any (pd_var 0)) (pgd_name 2 sc_product_of.nd) (pbd_one (psd_imul 1 sc_product_of.nd (pd_var 2))))
  (pbd_one (psd_ret (pd_var 1)))))
abbrev N_are_sizes : List Str := ["thing", "size"]
theorem sc_are_sizes : FnScope N_are_sizes ["thing"] (defScope s_are_sizes) := ⟨rfl, rfl, rfl, by decide +kernel, rfl, by decide +kernel, by decide +kernel⟩
def d_are_sizes : DS DeckSt := dSeq (dIfS (dOr (dNot (dTr (dCall m_is_row (dCons (dVar 0) (dCons (dC (.int 1)) (dCons (dC (.int 3)) (dNil))))))) (dNot (dTr (dCallB allD (dCons (dF (dLc (gN 1) [1] [] (dWalk (dVar 0) walkD) (dYes) (dCall m_within (dCons (dVar 1) (dCons (dC (.int 1)) (dCons (dC (.int 4)) (dNil))))))) (dNil)))))) (dRet (dC (.bl false))) (dNext))
  (dRet (dBin leD (dCall m_product_of (dCons (dVar 0) (dNil))) (dC (.int 16))))
def m_are_sizes : List D → DeckSt → R DeckSt D := mOf 2 d_are_sizes
theorem ok_are_sizes (T : Txt K mg) (h_is_row : Fn P w K mg base (PCk K) "is_row" 1 3 m_is_row) (h_within : Fn P w K mg base (PCk K) "within" 2 3 m_within) (h_product_of : Fn P w K mg base (PCk K) "product_of" 1 1 m_product_of) {f : Addr} {fd : FuncData} (F : Fun K "are_sizes" "are_sizes" s_are_sizes f fd) : FnOk P w K mg base (L2.CX P w) 3 f fd ["thing"] (spOf mg (PCk K) 1 m_are_sizes) := by
  exact fnok_mk0 (N := N_are_sizes) F sc_are_sizes fun cdv A outer s H E C pc hr => by exact (pbd_cons (psd_if (ptd_w (pwd_or (ptd_not (ptd_tr (pd_call h_is_row pc hr (by decide) (takes_of rfl rfl rfl rfl) (pad_cons (pd_var 0) (pad_cons pd_int (pad_cons (pd_gint T.c_MOST_PROCESSES) pad_nil))) (dLen_cons (dLen_cons (dLen_cons dLen_nil)))))) (pwd_or1 (ptd_not (ptd_tr (pd_all rfl T.n_all (pad_cons (pd_f (pf_lc (own := [("size", 1)]) (sc := []) (sa := []) rfl sc_are_sizes.nd (pid_any (pd_var 0)) (blkOk_by (own := [("size", 1)]) (N := N_are_sizes) (sc := defScope s_are_sizes) (by decide +kernel)) (fun _ _ _ _ _ => (pgd_name 1 sc_are_sizes.nd)) (no_gN 1) (fun _ _ _ _ _ => ptsd_nil) (fun _ _ _ _ _ => (pd_call h_within pc hr (by decide) takes0 (pad_cons (pd_var 1) (pad_cons pd_int (pad_cons (pd_gint T.c_MOST_STATES) pad_nil))) (dLen_cons (dLen_cons (dLen_cons dLen_nil))))))) pad_nil))))))) (pbd_one (psd_ret pd_bl)) pbd_nil)
  (pbd_one (psd_ret (pd_c k_le (pd_call h_product_of pc hr (by decide) (takes_of rfl rfl rfl rfl) (pad_cons (pd_var 0) pad_nil) (dLen_cons dLen_nil)) (pd_gint T.c_MOST_CONTROLS)))))
abbrev N_is_signature : List Str := ["thing"]
theorem sc_is_signature : FnScope N_is_signature ["thing"] (defScope s_is_signature) := ⟨rfl, rfl, rfl, by decide +kernel, rfl, by decide +kernel, by decide +kernel⟩
def d_is_signature : DS DeckSt := dSeq (dIfS (dOr (dNot (dTr (dCall m_is_row (dCons (dVar 0) (dCons (dC (.int 3)) (dCons (dC (.int 3)) (dNil))))))) (dNot (dTr (dCall m_within (dCons (dBin ixD (dVar 0) (dC (.int 0))) (dCons (dC (.int 1)) (dCons (dCallB lenD (dCons (dC (.str [97, 98, 99])) (dNil))) (dNil)))))))) (dRet (dC (.bl false))) (dNext))
  (dRet (dAndV (dCall m_within (dCons (dBin ixD (dVar 0) (dC (.int 1))) (dCons (dC (.int 1)) (dCons (dC (.int 2)) (dNil))))) (dCall m_are_sizes (dCons (dBin ixD (dVar 0) (dC (.int 2))) (dNil)))))
def m_is_signature : List D → DeckSt → R DeckSt D := mOf 1 d_is_signature
theorem ok_is_signature (T : Txt K mg) (h_is_row : Fn P w K mg base (PCk K) "is_row" 1 3 m_is_row) (h_within : Fn P w K mg base (PCk K) "within" 2 3 m_within) (h_are_sizes : Fn P w K mg base (PCk K) "are_sizes" 3 1 m_are_sizes) {f : Addr} {fd : FuncData} (F : Fun K "is_signature" "is_signature" s_is_signature f fd) : FnOk P w K mg base (L2.CX P w) 4 f fd ["thing"] (spOf mg (PCk K) 1 m_is_signature) := by
  exact fnok_mk0 (N := N_is_signature) F sc_is_signature fun cdv A outer s H E C pc hr => by exact (pbd_cons (psd_if (ptd_w (pwd_or (ptd_not (ptd_tr (pd_call h_is_row pc hr (by decide) (takes_of rfl rfl rfl rfl) (pad_cons (pd_var 0) (pad_cons pd_int (pad_cons pd_int pad_nil))) (dLen_cons (dLen_cons (dLen_cons dLen_nil)))))) (pwd_or1 (ptd_not (ptd_tr (pd_call h_within pc hr (by decide) (takes_of rfl rfl rfl rfl) (pad_cons (pd_ix (pd_var 0) pd_int) (pad_cons pd_int (pad_cons (pd_len T.n_len (pad_cons (pd_gstr T.c_ALPHABET (by rfl) ⟨by decide, by decide⟩) pad_nil)) pad_nil))) (dLen_cons (dLen_cons (dLen_cons dLen_nil))))))))) (pbd_one (psd_ret pd_bl)) pbd_nil)
  (pbd_one (psd_ret (pd_and (pd_call h_within pc hr (by decide) (takes_of rfl rfl rfl rfl) (pad_cons (pd_ix (pd_var 0) pd_int) (pad_cons pd_int (pad_cons (pd_gint T.c_MOST_CHANNELS) pad_nil))) (dLen_cons (dLen_cons (dLen_cons dLen_nil)))) (pd_one (pd_call h_are_sizes pc hr (by decide) (takes_of rfl rfl rfl rfl) (pad_cons (pd_ix (pd_var 0) pd_int) pad_nil) (dLen_cons dLen_nil)))))))
abbrev N_need_signature : List Str := ["signature"]
theorem sc_need_signature : FnScope N_need_signature ["signature"] (defScope s_need_signature) := ⟨rfl, rfl, rfl, by decide +kernel, rfl, by decide +kernel, by decide +kernel⟩
def d_need_signature : DS DeckSt := dIfS (dNot (dTr (dCall m_is_signature (dCons (dVar 0) (dNil))))) (dRaise "BadSignature") (dNext)
def m_need_signature : List D → DeckSt → R DeckSt D := mOf 1 d_need_signature
theorem ok_need_signature (T : Txt K mg) (h_is_signature : Fn P w K mg base (PCk K) "is_signature" 4 1 m_is_signature) {f : Addr} {fd : FuncData} (F : Fun K "need_signature" "need_signature" s_need_signature f fd) : FnOk P w K mg base (L2.CX P w) 5 f fd ["signature"] (spOf mg (PCk K) 1 m_need_signature) := by
  obtain ⟨q_BadSignature, e_BadSignature⟩ := T.e_BadSignature
  exact fnok_mk0 (N := N_need_signature) F sc_need_signature fun cdv A outer s H E C pc hr => by exact (pbd_one (psd_if (ptd_not (ptd_tr (pd_call h_is_signature pc hr (by decide) (takes_of rfl rfl rfl rfl) (pad_cons (pd_var 0) pad_nil) (dLen_cons dLen_nil)))) (pbd_one (psd_raise e_BadSignature rfl (takes_of rfl rfl rfl rfl))) pbd_nil))
abbrev N_is_control_of : List Str := ["signature", "thing", "sizes", "state", "size"]
theorem sc_is_control_of : FnScope N_is_control_of ["signature", "thing"] (defScope s_is_control_of) := ⟨rfl, rfl, rfl, by decide +kernel, rfl, by decide +kernel, by decide +kernel⟩
def d_is_control_of : DS DeckSt := dSeq (dAsg 2 [] (dV (dBin ixD (dVar 0) (dC (.int 2)))))
  (dSeq (dIfS (dNot (dTr (dCall m_is_row (dCons (dVar 1) (dCons (dCallB lenD (dCons (dVar 2) (dNil))) (dCons (dCallB lenD (dCons (dVar 2) (dNil))) (dNil))))))) (dRet (dC (.bl false))) (dNext))
  (dRet (dCallB allD (dCons (dF (dLc (gT 2 (gsCons (gN 3) (gsCons (gN 4) (gsNil)))) [3, 4] [] (dRng zip2 (dCons (dVar 1) (dCons (dVar 2) (dNil)))) (dYes) (dCall m_within (dCons (dVar 3) (dCons (dC (.int 0)) (dCons (dBin subD (dVar 4) (dC (.int 1))) (dNil))))))) (dNil)))))
def m_is_control_of : List D → DeckSt → R DeckSt D := mOf 5 d_is_control_of
theorem ok_is_control_of (T : Txt K mg) (h_is_row : Fn P w K mg base (PCk K) "is_row" 1 3 m_is_row) (h_within : Fn P w K mg base (PCk K) "within" 2 3 m_within) {f : Addr} {fd : FuncData} (F : Fun K "is_control_of" "is_control_of" s_is_control_of f fd) : FnOk P w K mg base (L2.CX P w) 3 f fd ["signature", "thing"] (spOf mg (PCk K) 2 m_is_control_of) := by
  exact fnok_mk0 (N := N_is_control_of) F sc_is_control_of fun cdv A outer s H E C pc hr => by exact (pbd_cons (psd_asg 2 sc_is_control_of.nd (pv_v (pd_ix (pd_var 0) pd_int)))
  (pbd_cons (psd_if (ptd_not (ptd_tr (pd_call h_is_row pc hr (by decide) (takes_of rfl rfl rfl rfl) (pad_cons (pd_var 1) (pad_cons (pd_len T.n_len (pad_cons (pd_var 2) pad_nil)) (pad_cons (pd_len T.n_len (pad_cons (pd_var 2) pad_nil)) pad_nil))) (dLen_cons (dLen_cons (dLen_cons dLen_nil)))))) (pbd_one (psd_ret pd_bl)) pbd_nil)
  (pbd_one (psd_ret (pd_all rfl T.n_all (pad_cons (pd_f (pf_lc (own := [("state", 3), ("size", 4)]) (sc := []) (sa := []) rfl sc_is_control_of.nd (pid_zip T.n_zip (pad_cons (pd_var 1) (pad_cons (pd_var 2) pad_nil))) (blkOk_by (own := [("state", 3), ("size", 4)]) (N := N_is_control_of) (sc := defScope s_is_control_of) (by decide +kernel)) (fun _ _ _ _ _ => (pgd_tup 2 rfl (pgsd_cons (pgd_name 3 sc_is_control_of.nd) (pgsd_cons (pgd_name 4 sc_is_control_of.nd) pgsd_nil)))) (no_gT (no_gsCons (no_gN 3) (no_gsCons (no_gN 4) no_gsNil))) (fun _ _ _ _ _ => ptsd_nil) (fun _ _ _ _ _ => (pd_call h_within pc hr (by decide) takes0 (pad_cons (pd_var 3) (pad_cons pd_int (pad_cons (pd_sub (pd_var 4) pd_int) pad_nil))) (dLen_cons (dLen_cons (dLen_cons dLen_nil))))))) pad_nil))))))
abbrev N_is_word_of : List Str := ["letters", "thing", "most", "letter"]
theorem sc_is_word_of : FnScope N_is_word_of ["letters", "thing", "most"] (defScope s_is_word_of) := ⟨rfl, rfl, rfl, by decide +kernel, rfl, by decide +kernel, by decide +kernel⟩
def d_is_word_of : DS DeckSt := dSeq (dIfS (dOr (dNot (dTr (dIsi "str" (dVar 1)))) (dB (dBin gtD (dCallB lenD (dCons (dVar 1) (dNil))) (dVar 2)))) (dRet (dC (.bl false))) (dNext))
  (dRet (dCallB allD (dCons (dF (dLc (gN 3) [3] [] (dWalk (dVar 1) walkD) (dYes) (dBin (inF false) (dVar 3) (dSl (dC (.str [97, 98, 99])) (dNoPart) (dPart (dVar 0)))))) (dNil))))
def m_is_word_of : List D → DeckSt → R DeckSt D := mOf 4 d_is_word_of
theorem ok_is_word_of (T : Txt K mg)  {f : Addr} {fd : FuncData} (F : Fun K "is_word_of" "is_word_of" s_is_word_of f fd) : FnOk P w K mg base (L2.CX P w) 1 f fd ["letters", "thing", "most"] (spOf mg (PCk K) 3 m_is_word_of) := by
  exact fnok_mk0 (N := N_is_word_of) F sc_is_word_of fun cdv A outer s H E C pc hr => by exact (pbd_cons (psd_if (ptd_w (pwd_or (ptd_not (ptd_tr (pd_isi "str" T.n_isinstance T.n_str (pd_var 1)))) (pwd_or1 (ptd_c k_gt (pd_len T.n_len (pad_cons (pd_var 1) pad_nil)) (pd_var 2))))) (pbd_one (psd_ret pd_bl)) pbd_nil)
  (pbd_one (psd_ret (pd_all rfl T.n_all (pad_cons (pd_f (pf_lc (own := [("letter", 3)]) (sc := []) (sa := []) rfl sc_is_word_of.nd (pid_any (pd_var 1)) (blkOk_by (own := [("letter", 3)]) (N := N_is_word_of) (sc := defScope s_is_word_of) (by decide +kernel)) (fun _ _ _ _ _ => (pgd_name 3 sc_is_word_of.nd)) (no_gN 3) (fun _ _ _ _ _ => ptsd_nil) (fun _ _ _ _ _ => (pd_c k_in (pd_var 3) (pd_sl (pd_gstr T.c_ALPHABET (by rfl) ⟨by decide, by decide⟩) part_none (part_some (pd_var 0))) (by rfl))))) pad_nil)))))
abbrev N_are_words_of : List Str := ["signature", "thing", "most", "word"]
theorem sc_are_words_of : FnScope N_are_words_of ["signature", "thing", "most"] (defScope s_are_words_of) := ⟨rfl, rfl, rfl, by decide +kernel, rfl, by decide +kernel, by decide +kernel⟩
def d_are_words_of : DS DeckSt := dSeq (dIfS (dNot (dTr (dCall m_is_row (dCons (dVar 1) (dCons (dBin ixD (dVar 0) (dC (.int 1))) (dCons (dBin ixD (dVar 0) (dC (.int 1))) (dNil))))))) (dRet (dC (.bl false))) (dNext))
  (dRet (dCallB allD (dCons (dF (dLc (gN 3) [3] [] (dWalk (dVar 1) walkD) (dYes) (dCall m_is_word_of (dCons (dBin ixD (dVar 0) (dC (.int 0))) (dCons (dVar 3) (dCons (dVar 2) (dNil))))))) (dNil))))
def m_are_words_of : List D → DeckSt → R DeckSt D := mOf 4 d_are_words_of
theorem ok_are_words_of (T : Txt K mg) (h_is_row : Fn P w K mg base (PCk K) "is_row" 1 3 m_is_row) (h_is_word_of : Fn P w K mg base (PCk K) "is_word_of" 1 3 m_is_word_of) {f : Addr} {fd : FuncData} (F : Fun K "are_words_of" "are_words_of" s_are_words_of f fd) : FnOk P w K mg base (L2.CX P w) 2 f fd ["signature", "thing", "most"] (spOf mg (PCk K) 3 m_are_words_of) := by
  exact fnok_mk0 (N := N_are_words_of) F sc_are_words_of fun cdv A outer s H E C pc hr => by exact (pbd_cons (psd_if (ptd_not (ptd_tr (pd_call h_is_row pc hr (by decide) (takes_of rfl rfl rfl rfl) (pad_cons (pd_var 1) (pad_cons (pd_ix (pd_var 0) pd_int) (pad_cons (pd_ix (pd_var 0) pd_int) pad_nil))) (dLen_cons (dLen_cons (dLen_cons dLen_nil)))))) (pbd_one (psd_ret pd_bl)) pbd_nil)
  (pbd_one (psd_ret (pd_all rfl T.n_all (pad_cons (pd_f (pf_lc (own := [("word", 3)]) (sc := []) (sa := []) rfl sc_are_words_of.nd (pid_any (pd_var 1)) (blkOk_by (own := [("word", 3)]) (N := N_are_words_of) (sc := defScope s_are_words_of) (by decide +kernel)) (fun _ _ _ _ _ => (pgd_name 3 sc_are_words_of.nd)) (no_gN 3) (fun _ _ _ _ _ => ptsd_nil) (fun _ _ _ _ _ => (pd_call h_is_word_of pc hr (by decide) takes0 (pad_cons (pd_ix (pd_var 0) pd_int) (pad_cons (pd_var 3) (pad_cons (pd_var 2) pad_nil))) (dLen_cons (dLen_cons (dLen_cons dLen_nil))))))) pad_nil)))))
abbrev N_is_configuration_of : List Str := ["signature", "thing", "most"]
theorem sc_is_configuration_of : FnScope N_is_configuration_of ["signature", "thing", "most"] (defScope s_is_configuration_of) := ⟨rfl, rfl, rfl, by decide +kernel, rfl, by decide +kernel, by decide +kernel⟩
def d_is_configuration_of : DS DeckSt := dRet (dAndV (dCall m_is_row (dCons (dVar 1) (dCons (dC (.int 2)) (dCons (dC (.int 2)) (dNil))))) (dAndV (dCall m_is_control_of (dCons (dVar 0) (dCons (dBin ixD (dVar 1) (dC (.int 0))) (dNil)))) (dCall m_are_words_of (dCons (dVar 0) (dCons (dBin ixD (dVar 1) (dC (.int 1))) (dCons (dVar 2) (dNil)))))))
def m_is_configuration_of : List D → DeckSt → R DeckSt D := mOf 3 d_is_configuration_of
theorem ok_is_configuration_of (T : Txt K mg) (h_is_row : Fn P w K mg base (PCk K) "is_row" 1 3 m_is_row) (h_is_control_of : Fn P w K mg base (PCk K) "is_control_of" 3 2 m_is_control_of) (h_are_words_of : Fn P w K mg base (PCk K) "are_words_of" 2 3 m_are_words_of) {f : Addr} {fd : FuncData} (F : FunD K "is_configuration_of" "is_configuration_of" (defArgs s_is_configuration_of) (defBody s_is_configuration_of) (defScope s_is_configuration_of) [V.int 60] [] f fd) : FnOk P w K mg base (L2.CX P w) 4 f fd ["signature", "thing", "most"] (spOf mg (PCk K) 3 m_is_configuration_of) := by
  exact fnokD_mk (N := N_is_configuration_of) F sc_is_configuration_of fun cdv A outer s H E C pc hr => by exact (pbd_one (psd_ret (pd_and (pd_call h_is_row pc hr (by decide) (takes_of rfl rfl rfl rfl) (pad_cons (pd_var 1) (pad_cons pd_int (pad_cons pd_int pad_nil))) (dLen_cons (dLen_cons (dLen_cons dLen_nil)))) (pd_and (pd_call h_is_control_of pc hr (by decide) (takes_of rfl rfl rfl rfl) (pad_cons (pd_var 0) (pad_cons (pd_ix (pd_var 1) pd_int) pad_nil)) (dLen_cons (dLen_cons dLen_nil))) (pd_one (pd_call h_are_words_of pc hr (by decide) (takes_of rfl rfl rfl rfl) (pad_cons (pd_var 0) (pad_cons (pd_ix (pd_var 1) pd_int) (pad_cons (pd_var 2) pad_nil))) (dLen_cons (dLen_cons (dLen_cons dLen_nil)))))))))
abbrev N_is_configuration : List Str := ["signature", "thing"]
theorem sc_is_configuration : FnScope N_is_configuration ["signature", "thing"] (defScope s_is_configuration) := ⟨rfl, rfl, rfl, by decide +kernel, rfl, by decide +kernel, by decide +kernel⟩
def d_is_configuration : DS DeckSt := dSeq (dDrop (dCall m_need_signature (dCons (dVar 0) (dNil))))
  (dRet (dCallD m_is_configuration_of [.int 60] (dCons (dVar 0) (dCons (dVar 1) (dNil)))))
def m_is_configuration : List D → DeckSt → R DeckSt D := mOf 2 d_is_configuration
theorem ok_is_configuration (T : Txt K mg) (h_need_signature : Fn P w K mg base (PCk K) "need_signature" 5 1 m_need_signature) (hd_is_configuration_of_2 : Fdf P w K mg base (PCk K) "is_configuration_of" 4 3 m_is_configuration_of 2 [.int 60]) {f : Addr} {fd : FuncData} (F : Fun K "is_configuration" "is_configuration" s_is_configuration f fd) : FnOk P w K mg base (L2.CX P w) 6 f fd ["signature", "thing"] (spOf mg (PCk K) 2 m_is_configuration) := by
  exact fnok_mk0 (N := N_is_configuration) F sc_is_configuration fun cdv A outer s H E C pc hr => by exact (pbd_cons (psd_drop (pd_call h_need_signature pc hr (by decide) (takes_of rfl rfl rfl rfl) (pad_cons (pd_var 0) pad_nil) (dLen_cons dLen_nil)))
  (pbd_one (psd_ret (pd_calld hd_is_configuration_of_2 pc hr (by decide) (takes_of rfl rfl rfl rfl) (pad_cons (pd_var 0) (pad_cons (pd_var 1) pad_nil)) (dLen_cons (dLen_cons dLen_nil))))))
abbrev N__law_sub : List Str := ["word", "other", "at", "letter"]
theorem sc__law_sub : FnScope N__law_sub ["word", "other"] (defScope s__law_sub) := ⟨rfl, rfl, rfl, by decide +kernel, rfl, by decide +kernel, by decide +kernel⟩
def L__law_sub_1 : DS DeckSt := dIfS (dAnd (dB (dBin ltD (dVar 2) (dCallB lenD (dCons (dVar 0) (dNil))))) (dB (dBin eqO (dBin ixD (dVar 0) (dVar 2)) (dVar 3)))) (dAsg 2 [] (dV (dBin addD (dVar 2) (dC (.int 1))))) (dNext)
def d__law_sub : DS DeckSt := dSeq (dAsg 2 [] (dV (dC (.int 0))))
  (dSeq (dFor (gN 3) [] (dWalk (dVar 1) walkD) L__law_sub_1)
  (dRet (dBin eqO (dVar 2) (dCallB lenD (dCons (dVar 0) (dNil))))))
def m__law_sub : List D → DeckSt → R DeckSt D := mOf 4 d__law_sub
theorem ok__law_sub (T : Txt K mg)  {f : Addr} {fd : FuncData} (F : Fun K "_law_sub" "_law_sub" s__law_sub f fd) : FnOk P w K mg base (L2.CX P w) 1 f fd ["word", "other"] (spOf mg (PCk K) 2 m__law_sub) := by
  exact fnok_mk0 (N := N__law_sub) F sc__law_sub fun cdv A outer s H E C pc hr => by exact (pbd_cons (psd_asg 2 sc__law_sub.nd (pv_v pd_int))
  (pbd_cons (psd_for (passes_of rfl) rfl (pid_any (pd_var 1)) (pgd_name 3 sc__law_sub.nd) (pbd_one (psd_if (ptd_w (pwd_and (ptd_c k_lt (pd_var 2) (pd_len T.n_len (pad_cons (pd_var 0) pad_nil))) (pwd_and1 (ptd_c (k_eq hr.units) (pd_ix (pd_var 0) (pd_var 2)) (pd_var 3))))) (pbd_one (psd_asg 2 sc__law_sub.nd (pv_v (pd_add (pd_var 2) pd_int)))) pbd_nil)))
  (pbd_one (psd_ret (pd_c (k_eq hr.units) (pd_var 2) (pd_len T.n_len (pad_cons (pd_var 0) pad_nil)))))))
abbrev N__law_below : List Str := ["one", "other", "k"]
theorem sc__law_below : FnScope N__law_below ["one", "other"] (defScope s__law_below) := ⟨rfl, rfl, rfl, by decide +kernel, rfl, by decide +kernel, by decide +kernel⟩
def d__law_below : DS DeckSt := dRet (dAndV (dBin eqO (dBin ixD (dVar 0) (dC (.int 0))) (dBin ixD (dVar 1) (dC (.int 0)))) (dCallB allD (dCons (dF (dLc (gN 2) [2] [] (dRng rng1 (dCons (dCallB lenD (dCons (dBin ixD (dVar 0) (dC (.int 1))) (dNil))) (dNil))) (dYes) (dCall m__law_sub (dCons (dBin ixD (dBin ixD (dVar 0) (dC (.int 1))) (dVar 2)) (dCons (dBin ixD (dBin ixD (dVar 1) (dC (.int 1))) (dVar 2)) (dNil)))))) (dNil))))
def m__law_below : List D → DeckSt → R DeckSt D := mOf 3 d__law_below
theorem ok__law_below (T : Txt K mg) (h__law_sub : Fn P w K mg base (PCk K) "_law_sub" 1 2 m__law_sub) {f : Addr} {fd : FuncData} (F : Fun K "_law_below" "_law_below" s__law_below f fd) : FnOk P w K mg base (L2.CX P w) 2 f fd ["one", "other"] (spOf mg (PCk K) 2 m__law_below) := by
  exact fnok_mk0 (N := N__law_below) F sc__law_below fun cdv A outer s H E C pc hr => by exact (pbd_one (psd_ret (pd_and (pd_c (k_eq hr.units) (pd_ix (pd_var 0) pd_int) (pd_ix (pd_var 1) pd_int)) (pd_one (pd_all rfl T.n_all (pad_cons (pd_f (pf_lc (own := [("k", 2)]) (sc := []) (sa := []) rfl sc__law_below.nd (pid_rng1 T.n_range (pad_cons (pd_len T.n_len (pad_cons (pd_ix (pd_var 0) pd_int) pad_nil)) pad_nil)) (blkOk_by (own := [("k", 2)]) (N := N__law_below) (sc := defScope s__law_below) (by decide +kernel)) (fun _ _ _ _ _ => (pgd_name 2 sc__law_below.nd)) (no_gN 2) (fun _ _ _ _ _ => ptsd_nil) (fun _ _ _ _ _ => (pd_call h__law_sub pc hr (by decide) takes0 (pad_cons (pd_ix (pd_ix (pd_var 0) pd_int) (pd_var 2)) (pad_cons (pd_ix (pd_ix (pd_var 1) pd_int) (pd_var 2)) pad_nil)) (dLen_cons (dLen_cons dLen_nil)))))) pad_nil))))))
abbrev N_need_configuration : List Str := ["signature", "configuration"]
theorem sc_need_configuration : FnScope N_need_configuration ["signature", "configuration"] (defScope s_need_configuration) := ⟨rfl, rfl, rfl, by decide +kernel, rfl, by decide +kernel, by decide +kernel⟩
def d_need_configuration : DS DeckSt := dIfS (dNot (dTr (dCallD m_is_configuration_of [.int 60] (dCons (dVar 0) (dCons (dVar 1) (dNil)))))) (dRaise "BadConfiguration") (dNext)
def m_need_configuration : List D → DeckSt → R DeckSt D := mOf 2 d_need_configuration
theorem ok_need_configuration (T : Txt K mg) (hd_is_configuration_of_2 : Fdf P w K mg base (PCk K) "is_configuration_of" 4 3 m_is_configuration_of 2 [.int 60]) {f : Addr} {fd : FuncData} (F : Fun K "need_configuration" "need_configuration" s_need_configuration f fd) : FnOk P w K mg base (L2.CX P w) 5 f fd ["signature", "configuration"] (spOf mg (PCk K) 2 m_need_configuration) := by
  obtain ⟨q_BadConfiguration, e_BadConfiguration⟩ := T.e_BadConfiguration
  exact fnok_mk0 (N := N_need_configuration) F sc_need_configuration fun cdv A outer s H E C pc hr => by exact (pbd_one (psd_if (ptd_not (ptd_tr (pd_calld hd_is_configuration_of_2 pc hr (by decide) (takes_of rfl rfl rfl rfl) (pad_cons (pd_var 0) (pad_cons (pd_var 1) pad_nil)) (dLen_cons (dLen_cons dLen_nil))))) (pbd_one (psd_raise e_BadConfiguration rfl (takes_of rfl rfl rfl rfl))) pbd_nil))
abbrev N_need_both : List Str := ["signature", "one", "other"]
theorem sc_need_both : FnScope N_need_both ["signature", "one", "other"] (defScope s_need_both) := ⟨rfl, rfl, rfl, by decide +kernel, rfl, by decide +kernel, by decide +kernel⟩
def d_need_both : DS DeckSt := dSeq (dDrop (dCall m_need_signature (dCons (dVar 0) (dNil))))
  (dSeq (dDrop (dCall m_need_configuration (dCons (dVar 0) (dCons (dVar 1) (dNil)))))
  (dIfS (dNot (dTr (dCallD m_is_configuration_of [.int 60] (dCons (dVar 0) (dCons (dVar 2) (dNil)))))) (dRaise "BadOther") (dNext)))
def m_need_both : List D → DeckSt → R DeckSt D := mOf 3 d_need_both
theorem ok_need_both (T : Txt K mg) (h_need_signature : Fn P w K mg base (PCk K) "need_signature" 5 1 m_need_signature) (h_need_configuration : Fn P w K mg base (PCk K) "need_configuration" 5 2 m_need_configuration) (hd_is_configuration_of_2 : Fdf P w K mg base (PCk K) "is_configuration_of" 4 3 m_is_configuration_of 2 [.int 60]) {f : Addr} {fd : FuncData} (F : Fun K "need_both" "need_both" s_need_both f fd) : FnOk P w K mg base (L2.CX P w) 6 f fd ["signature", "one", "other"] (spOf mg (PCk K) 3 m_need_both) := by
  obtain ⟨q_BadOther, e_BadOther⟩ := T.e_BadOther
  exact fnok_mk0 (N := N_need_both) F sc_need_both fun cdv A outer s H E C pc hr => by exact (pbd_cons (psd_drop (pd_call h_need_signature pc hr (by decide) (takes_of rfl rfl rfl rfl) (pad_cons (pd_var 0) pad_nil) (dLen_cons dLen_nil)))
  (pbd_cons (psd_drop (pd_call h_need_configuration pc hr (by decide) (takes_of rfl rfl rfl rfl) (pad_cons (pd_var 0) (pad_cons (pd_var 1) pad_nil)) (dLen_cons (dLen_cons dLen_nil))))
  (pbd_one (psd_if (ptd_not (ptd_tr (pd_calld hd_is_configuration_of_2 pc hr (by decide) (takes_of rfl rfl rfl rfl) (pad_cons (pd_var 0) (pad_cons (pd_var 2) pad_nil)) (dLen_cons (dLen_cons dLen_nil))))) (pbd_one (psd_raise e_BadOther rfl (takes_of rfl rfl rfl rfl))) pbd_nil))))
abbrev N_lies_in : List Str := ["word", "other", "start", "letter"]
theorem sc_lies_in : FnScope N_lies_in ["word", "other"] (defScope s_lies_in) := ⟨rfl, rfl, rfl, by decide +kernel, rfl, by decide +kernel, by decide +kernel⟩
def L_lies_in_1 : DS DeckSt := dSeq (dAsg 2 [] (dV (dBin addD (dMb find2 (dVar 1) (dCons (dVar 3) (dCons (dVar 2) (dNil)))) (dC (.int 1)))))
  (dIfS (dB (dBin eqO (dVar 2) (dC (.int 0)))) (dRet (dC (.bl false))) (dNext))
def d_lies_in : DS DeckSt := dSeq (dAsg 2 [] (dV (dC (.int 0))))
  (dSeq (dFor (gN 3) [] (dWalk (dVar 0) walkD) L_lies_in_1)
  (dRet (dC (.bl true))))
def m_lies_in : List D → DeckSt → R DeckSt D := mOf 4 d_lies_in
theorem ok_lies_in (T : Txt K mg)  {f : Addr} {fd : FuncData} (F : Fun K "lies_in" "lies_in" s_lies_in f fd) : FnOk P w K mg base (L2.CX P w) 1 f fd ["word", "other"] (spOf mg (PCk K) 2 m_lies_in) := by
  exact fnok_mk0 (N := N_lies_in) F sc_lies_in fun cdv A outer s H E C pc hr => by exact (pbd_cons (psd_asg 2 sc_lies_in.nd (pv_v pd_int))
  (pbd_cons (psd_for (passes_of rfl) rfl (pid_any (pd_var 0)) (pgd_name 3 sc_lies_in.nd) (pbd_cons (psd_asg 2 sc_lies_in.nd (pv_v (pd_add (pd_find2 (pd_var 1) (pad_cons (pd_var 3) (pad_cons (pd_var 2) pad_nil))) pd_int)))
  (pbd_one (psd_if (ptd_c (k_eq hr.units) (pd_var 2) pd_int) (pbd_one (psd_ret pd_bl)) pbd_nil))))
  (pbd_one (psd_ret pd_bl))))
abbrev N_below_in : List Str := ["one", "other", "word", "more"]
theorem sc_below_in : FnScope N_below_in ["one", "other"] (defScope s_below_in) := ⟨rfl, rfl, rfl, by decide +kernel, rfl, by decide +kernel, by decide +kernel⟩
def d_below_in : DS DeckSt := dRet (dAndV (dBin eqO (dBin ixD (dVar 0) (dC (.int 0))) (dBin ixD (dVar 1) (dC (.int 0)))) (dCallB allD (dCons (dF (dLc (gT 2 (gsCons (gN 2) (gsCons (gN 3) (gsNil)))) [2, 3] [] (dRng zip2 (dCons (dBin ixD (dVar 0) (dC (.int 1))) (dCons (dBin ixD (dVar 1) (dC (.int 1))) (dNil)))) (dYes) (dCall m_lies_in (dCons (dVar 2) (dCons (dVar 3) (dNil)))))) (dNil))))
def m_below_in : List D → DeckSt → R DeckSt D := mOf 4 d_below_in
theorem ok_below_in (T : Txt K mg) (h_lies_in : Fn P w K mg base (PCk K) "lies_in" 1 2 m_lies_in) {f : Addr} {fd : FuncData} (F : Fun K "below_in" "below_in" s_below_in f fd) : FnOk P w K mg base (L2.CX P w) 2 f fd ["one", "other"] (spOf mg (PCk K) 2 m_below_in) := by
  exact fnok_mk0 (N := N_below_in) F sc_below_in fun cdv A outer s H E C pc hr => by exact (pbd_one (psd_ret (pd_and (pd_c (k_eq hr.units) (pd_ix (pd_var 0) pd_int) (pd_ix (pd_var 1) pd_int)) (pd_one (pd_all rfl T.n_all (pad_cons (pd_f (pf_lc (own := [("word", 2), ("more", 3)]) (sc := []) (sa := []) rfl sc_below_in.nd (pid_zip T.n_zip (pad_cons (pd_ix (pd_var 0) pd_int) (pad_cons (pd_ix (pd_var 1) pd_int) pad_nil))) (blkOk_by (own := [("word", 2), ("more", 3)]) (N := N_below_in) (sc := defScope s_below_in) (by decide +kernel)) (fun _ _ _ _ _ => (pgd_tup 2 rfl (pgsd_cons (pgd_name 2 sc_below_in.nd) (pgsd_cons (pgd_name 3 sc_below_in.nd) pgsd_nil)))) (no_gT (no_gsCons (no_gN 2) (no_gsCons (no_gN 3) no_gsNil))) (fun _ _ _ _ _ => ptsd_nil) (fun _ _ _ _ _ => (pd_call h_lies_in pc hr (by decide) takes0 (pad_cons (pd_var 2) (pad_cons (pd_var 3) pad_nil)) (dLen_cons (dLen_cons dLen_nil)))))) pad_nil))))))
abbrev N_is_below : List Str := ["signature", "one", "other"]
theorem sc_is_below : FnScope N_is_below ["signature", "one", "other"] (defScope s_is_below) := ⟨rfl, rfl, rfl, by decide +kernel, rfl, by decide +kernel, by decide +kernel⟩
def d_is_below : DS DeckSt := dSeq (dDrop (dCall m_need_both (dCons (dVar 0) (dCons (dVar 1) (dCons (dVar 2) (dNil))))))
  (dRet (dCall m_below_in (dCons (dVar 1) (dCons (dVar 2) (dNil)))))
def m_is_below : List D → DeckSt → R DeckSt D := mOf 3 d_is_below
theorem ok_is_below (T : Txt K mg) (h_need_both : Fn P w K mg base (PCk K) "need_both" 6 3 m_need_both) (h_below_in : Fn P w K mg base (PCk K) "below_in" 2 2 m_below_in) {f : Addr} {fd : FuncData} (F : Fun K "is_below" "is_below" s_is_below f fd) : FnOk P w K mg base (L2.CX P w) 7 f fd ["signature", "one", "other"] (spOf mg (PCk K) 3 m_is_below) := by
  exact fnok_mk0 (N := N_is_below) F sc_is_below fun cdv A outer s H E C pc hr => by exact (pbd_cons (psd_drop (pd_call h_need_both pc hr (by decide) (takes_of rfl rfl rfl rfl) (pad_cons (pd_var 0) (pad_cons (pd_var 1) (pad_cons (pd_var 2) pad_nil))) (dLen_cons (dLen_cons (dLen_cons dLen_nil)))))
  (pbd_one (psd_ret (pd_call h_below_in pc hr (by decide) (takes_of rfl rfl rfl rfl) (pad_cons (pd_var 1) (pad_cons (pd_var 2) pad_nil)) (dLen_cons (dLen_cons dLen_nil))))))
abbrev N_letter_count : List Str := ["configuration", "word"]
theorem sc_letter_count : FnScope N_letter_count ["configuration"] (defScope s_letter_count) := ⟨rfl, rfl, rfl, by decide +kernel, rfl, by decide +kernel, by decide +kernel⟩
def d_letter_count : DS DeckSt := dRet (dCallB sumD (dCons (dF (dLc (gN 1) [1] [] (dWalk (dBin ixD (dVar 0) (dC (.int 1))) walkD) (dYes) (dCallB lenD (dCons (dVar 1) (dNil))))) (dNil)))
def m_letter_count : List D → DeckSt → R DeckSt D := mOf 2 d_letter_count
theorem ok_letter_count (T : Txt K mg)  {f : Addr} {fd : FuncData} (F : Fun K "letter_count" "letter_count" s_letter_count f fd) : FnOk P w K mg base (L2.CX P w) 1 f fd ["configuration"] (spOf mg (PCk K) 1 m_letter_count) := by
  exact fnok_mk0 (N := N_letter_count) F sc_letter_count fun cdv A outer s H E C pc hr => by exact (pbd_one (psd_ret (pd_sum rfl T.n_sum (pad_cons (pd_f (pf_lc (own := [("word", 1)]) (sc := []) (sa := []) rfl sc_letter_count.nd (pid_any (pd_ix (pd_var 0) pd_int)) (blkOk_by (own := [("word", 1)]) (N := N_letter_count) (sc := defScope s_letter_count) (by decide +kernel)) (fun _ _ _ _ _ => (pgd_name 1 sc_letter_count.nd)) (no_gN 1) (fun _ _ _ _ _ => ptsd_nil) (fun _ _ _ _ _ => (pd_len T.n_len (pad_cons (pd_var 1) pad_nil))))) pad_nil))))
abbrev N_letters_in : List Str := ["signature", "configuration"]
theorem sc_letters_in : FnScope N_letters_in ["signature", "configuration"] (defScope s_letters_in) := ⟨rfl, rfl, rfl, by decide +kernel, rfl, by decide +kernel, by decide +kernel⟩
def d_letters_in : DS DeckSt := dSeq (dDrop (dCall m_need_signature (dCons (dVar 0) (dNil))))
  (dSeq (dDrop (dCall m_need_configuration (dCons (dVar 0) (dCons (dVar 1) (dNil)))))
  (dRet (dCall m_letter_count (dCons (dVar 1) (dNil)))))
def m_letters_in : List D → DeckSt → R DeckSt D := mOf 2 d_letters_in
theorem ok_letters_in (T : Txt K mg) (h_need_signature : Fn P w K mg base (PCk K) "need_signature" 5 1 m_need_signature) (h_need_configuration : Fn P w K mg base (PCk K) "need_configuration" 5 2 m_need_configuration) (h_letter_count : Fn P w K mg base (PCk K) "letter_count" 1 1 m_letter_count) {f : Addr} {fd : FuncData} (F : Fun K "letters_in" "letters_in" s_letters_in f fd) : FnOk P w K mg base (L2.CX P w) 6 f fd ["signature", "configuration"] (spOf mg (PCk K) 2 m_letters_in) := by
  exact fnok_mk0 (N := N_letters_in) F sc_letters_in fun cdv A outer s H E C pc hr => by exact (pbd_cons (psd_drop (pd_call h_need_signature pc hr (by decide) (takes_of rfl rfl rfl rfl) (pad_cons (pd_var 0) pad_nil) (dLen_cons dLen_nil)))
  (pbd_cons (psd_drop (pd_call h_need_configuration pc hr (by decide) (takes_of rfl rfl rfl rfl) (pad_cons (pd_var 0) (pad_cons (pd_var 1) pad_nil)) (dLen_cons (dLen_cons dLen_nil))))
  (pbd_one (psd_ret (pd_call h_letter_count pc hr (by decide) (takes_of rfl rfl rfl rfl) (pad_cons (pd_var 1) pad_nil) (dLen_cons dLen_nil))))))
abbrev N__law_compared : List Str := ["signature", "one", "other", "word"]
theorem sc__law_compared : FnScope N__law_compared ["signature", "one", "other"] (defScope s__law_compared) := ⟨rfl, rfl, rfl, by decide +kernel, rfl, by decide +kernel, by decide +kernel⟩
def d__law_compared : DS DeckSt := dSeq (dIfS (dNot (dTr (dCall m__law_same (dCons (dCall m_is_below (dCons (dVar 0) (dCons (dVar 1) (dCons (dVar 2) (dNil))))) (dCons (dCall m__law_below (dCons (dVar 1) (dCons (dVar 2) (dNil)))) (dNil)))))) (dRet (dC (.bl false))) (dNext))
  (dSeq (dIfS (dNot (dTr (dCall m__law_same (dCons (dCallK m_is_below [0, 1, 2] (dCons (dVar 0) (dNil)) (dCons (dVar 2) (dCons (dVar 1) (dNil)))) (dCons (dCall m__law_below (dCons (dVar 2) (dCons (dVar 1) (dNil)))) (dNil)))))) (dRet (dC (.bl false))) (dNext))
  (dRet (dCall m__law_same (dCons (dCall m_letters_in (dCons (dVar 0) (dCons (dVar 1) (dNil)))) (dCons (dCallB sumD (dCons (dF (dLc (gN 3) [3] [] (dWalk (dBin ixD (dVar 1) (dC (.int 1))) walkD) (dYes) (dCallB lenD (dCons (dVar 3) (dNil))))) (dNil))) (dNil))))))
def m__law_compared : List D → DeckSt → R DeckSt D := mOf 4 d__law_compared
theorem ok__law_compared (T : Txt K mg) (h__law_same : Fn P w K mg base (PCk K) "_law_same" 1 2 m__law_same) (h__law_below : Fn P w K mg base (PCk K) "_law_below" 2 2 m__law_below) (h_is_below : Fn P w K mg base (PCk K) "is_below" 7 3 m_is_below) (hk_is_below_1_one_other : Fk P w K mg base (PCk K) "is_below" 7 3 m_is_below 1 ["one", "other"] [0, 1, 2]) (h_letters_in : Fn P w K mg base (PCk K) "letters_in" 6 2 m_letters_in) {f : Addr} {fd : FuncData} (F : Fun K "_law_compared" "_law_compared" s__law_compared f fd) : FnOk P w K mg base (L2.CX P w) 8 f fd ["signature", "one", "other"] (spOf mg (PCk K) 3 m__law_compared) := by
  exact fnok_mk0 (N := N__law_compared) F sc__law_compared fun cdv A outer s H E C pc hr => by exact (pbd_cons (psd_if (ptd_not (ptd_tr (pd_call h__law_same pc hr (by decide) (takes_of rfl rfl rfl rfl) (pad_cons (pd_call h_is_below pc hr (by decide) (takes_of rfl rfl rfl rfl) (pad_cons (pd_var 0) (pad_cons (pd_var 1) (pad_cons (pd_var 2) pad_nil))) (dLen_cons (dLen_cons (dLen_cons dLen_nil)))) (pad_cons (pd_call h__law_below pc hr (by decide) (takes_of rfl rfl rfl rfl) (pad_cons (pd_var 1) (pad_cons (pd_var 2) pad_nil)) (dLen_cons (dLen_cons dLen_nil))) pad_nil)) (dLen_cons (dLen_cons dLen_nil))))) (pbd_one (psd_ret pd_bl)) pbd_nil)
  (pbd_cons (psd_if (ptd_not (ptd_tr (pd_call h__law_same pc hr (by decide) (takes_of rfl rfl rfl rfl) (pad_cons (pd_callk hk_is_below_1_one_other pc hr (by decide) (takes_of rfl rfl rfl rfl) (pad_cons (pd_var 0) pad_nil) (pkd_cons (pd_var 2) (pkd_cons (pd_var 1) pkd_nil)) (dLen_cons dLen_nil) (dLen_cons (dLen_cons dLen_nil))) (pad_cons (pd_call h__law_below pc hr (by decide) (takes_of rfl rfl rfl rfl) (pad_cons (pd_var 2) (pad_cons (pd_var 1) pad_nil)) (dLen_cons (dLen_cons dLen_nil))) pad_nil)) (dLen_cons (dLen_cons dLen_nil))))) (pbd_one (psd_ret pd_bl)) pbd_nil)
  (pbd_one (psd_ret (pd_call h__law_same pc hr (by decide) (takes_of rfl rfl rfl rfl) (pad_cons (pd_call h_letters_in pc hr (by decide) (takes_of rfl rfl rfl rfl) (pad_cons (pd_var 0) (pad_cons (pd_var 1) pad_nil)) (dLen_cons (dLen_cons dLen_nil))) (pad_cons (pd_sum rfl T.n_sum (pad_cons (pd_f (pf_lc (own := [("word", 3)]) (sc := []) (sa := []) rfl sc__law_compared.nd (pid_any (pd_ix (pd_var 1) pd_int)) (blkOk_by (own := [("word", 3)]) (N := N__law_compared) (sc := defScope s__law_compared) (by decide +kernel)) (fun _ _ _ _ _ => (pgd_name 3 sc__law_compared.nd)) (no_gN 3) (fun _ _ _ _ _ => ptsd_nil) (fun _ _ _ _ _ => (pd_len T.n_len (pad_cons (pd_var 3) pad_nil))))) pad_nil)) pad_nil)) (dLen_cons (dLen_cons dLen_nil)))))))
abbrev N__law_other : List Str := ["deck", "signature", "configuration", "control", "words", "changed", "word", "kept", "at", "sign", "size"]
theorem sc__law_other : FnScope N__law_other ["deck", "signature", "configuration"] (defScope s__law_other) := ⟨rfl, rfl, rfl, by decide +kernel, rfl, by decide +kernel, by decide +kernel⟩
def L__law_other_1 : DS DeckSt := dSeq (dAsg 7 [] (dV (dMb joinD (dC (.str [])) (dCons (dF (dLc (gN 9) [9] [] (dWalk (dVar 6) walkD) (dB (dBin gtD (dCall m__law_pick (dCons (dVar 0) (dCons (dC (.int 3)) (dNil)))) (dC (.int 0)))) (dVar 9))) (dNil)))))
  (dSeq (dIfS (dB (dBin eqO (dCall m__law_pick (dCons (dVar 0) (dCons (dC (.int 4)) (dNil)))) (dC (.int 0)))) (dSeq (dAsg 8 [] (dV (dCall m__law_pick (dCons (dVar 0) (dCons (dBin addD (dCallB lenD (dCons (dVar 7) (dNil))) (dC (.int 1))) (dNil))))))
  (dAsg 7 [] (dV (dBin addD (dBin addD (dSl (dVar 7) (dNoPart) (dPart (dVar 8))) (dBin ixD (dC (.str [97, 98, 99])) (dCall m__law_pick (dCons (dVar 0) (dCons (dBin ixD (dVar 1) (dC (.int 0))) (dNil)))))) (dSl (dVar 7) (dPart (dVar 8)) (dNoPart)))))) (dNext))
  (dMeth 5 [] (dCons (dVar 7) (dNil)) fApp kDrop))
def d__law_other : DS DeckSt := dSeq (dAsgT (gT 2 (gsCons (gN 3) (gsCons (gN 4) (gsNil)))) [] (dVar 2))
  (dSeq (dAsg 5 [] (dO (dLst (dNil))))
  (dSeq (dFor (gN 6) [] (dWalk (dVar 4) walkD) L__law_other_1)
  (dSeq (dIfS (dB (dBin eqO (dCall m__law_pick (dCons (dVar 0) (dCons (dC (.int 5)) (dNil)))) (dC (.int 0)))) (dAsg 3 [] (dV (dCallB tupleD (dCons (dF (dLc (gN 10) [10] [] (dWalk (dBin ixD (dVar 1) (dC (.int 2))) walkD) (dYes) (dCall m__law_pick (dCons (dVar 0) (dCons (dVar 10) (dNil)))))) (dNil))))) (dNext))
  (dRet (dTup (dCons (dVar 3) (dCons (dCallB tupleD (dCons (dOwn 5) (dNil))) (dNil))))))))
def m__law_other : List D → DeckSt → R DeckSt D := mOf 11 d__law_other
theorem ok__law_other (T : Txt K mg) (h__law_pick : Fn P w K mg base (PCk K) "_law_pick" 1 2 m__law_pick) {f : Addr} {fd : FuncData} (F : Fun K "_law_other" "_law_other" s__law_other f fd) : FnOk P w K mg base (L2.CX P w) 2 f fd ["deck", "signature", "configuration"] (spOf mg (PCk K) 3 m__law_other) := by
  exact fnok_mk0 (N := N__law_other) F sc__law_other fun cdv A outer s H E C pc hr => by exact (pbd_cons (psd_asgT (pd_var 2) (pgd_tup 2 rfl (pgsd_cons (pgd_name 3 sc__law_other.nd) (pgsd_cons (pgd_name 4 sc__law_other.nd) pgsd_nil))))
  (pbd_cons (psd_asg 5 sc__law_other.nd (pv_o (pf_lst pad_nil)))
  (pbd_cons (psd_for (passes_of rfl) rfl (pid_any (pd_var 4)) (pgd_name 6 sc__law_other.nd) (pbd_cons (psd_asg 7 sc__law_other.nd (pv_v (pd_join (pd_str [] (by rfl) ⟨by decide, by decide⟩) (pad_cons (pd_f (pf_lc (own := [("sign", 9)]) (sc := []) (sa := []) rfl sc__law_other.nd (pid_any (pd_var 6)) (blkOk_by (own := [("sign", 9)]) (N := N__law_other) (sc := defScope s__law_other) (by decide +kernel)) (fun _ _ _ _ _ => (pgd_name 9 sc__law_other.nd)) (no_gN 9) (fun _ _ _ _ _ => (ptsd_one (ptd_c k_gt (pd_call h__law_pick pc hr (by decide) takes0 (pad_cons (pd_var 0) (pad_cons pd_int pad_nil)) (dLen_cons (dLen_cons dLen_nil))) pd_int))) (fun _ _ _ _ _ => (pd_var 9)))) pad_nil))))
  (pbd_cons (psd_if (ptd_c (k_eq hr.units) (pd_call h__law_pick pc hr (by decide) (takes_of rfl rfl rfl rfl) (pad_cons (pd_var 0) (pad_cons pd_int pad_nil)) (dLen_cons (dLen_cons dLen_nil))) pd_int) (pbd_cons (psd_asg 8 sc__law_other.nd (pv_v (pd_call h__law_pick pc hr (by decide) (takes_of rfl rfl rfl rfl) (pad_cons (pd_var 0) (pad_cons (pd_add (pd_len T.n_len (pad_cons (pd_var 7) pad_nil)) pd_int) pad_nil)) (dLen_cons (dLen_cons dLen_nil)))))
  (pbd_one (psd_asg 7 sc__law_other.nd (pv_v (pd_add (pd_add (pd_sl (pd_var 7) part_none (part_some (pd_var 8))) (pd_ix (pd_str [97, 98, 99] (by rfl) ⟨by decide, by decide⟩) (pd_call h__law_pick pc hr (by decide) (takes_of rfl rfl rfl rfl) (pad_cons (pd_var 0) (pad_cons (pd_ix (pd_var 1) pd_int) pad_nil)) (dLen_cons (dLen_cons dLen_nil))))) (pd_sl (pd_var 7) (part_some (pd_var 8)) part_none)))))) pbd_nil)
  (pbd_one (psd_meth 5 PySem.F.slot_list_append PySem.F.type_list_append mt_append md_app (pad_cons (pd_var 7) pad_nil))))))
  (pbd_cons (psd_if (ptd_c (k_eq hr.units) (pd_call h__law_pick pc hr (by decide) (takes_of rfl rfl rfl rfl) (pad_cons (pd_var 0) (pad_cons pd_int pad_nil)) (dLen_cons (dLen_cons dLen_nil))) pd_int) (pbd_one (psd_asg 3 sc__law_other.nd (pv_v (pd_tuple T.n_tuple (pad_cons (pd_f (pf_lc (own := [("size", 10)]) (sc := []) (sa := []) rfl sc__law_other.nd (pid_any (pd_ix (pd_var 1) pd_int)) (blkOk_by (own := [("size", 10)]) (N := N__law_other) (sc := defScope s__law_other) (by decide +kernel)) (fun _ _ _ _ _ => (pgd_name 10 sc__law_other.nd)) (no_gN 10) (fun _ _ _ _ _ => ptsd_nil) (fun _ _ _ _ _ => (pd_call h__law_pick pc hr (by decide) takes0 (pad_cons (pd_var 0) (pad_cons (pd_var 10) pad_nil)) (dLen_cons (dLen_cons dLen_nil)))))) pad_nil))))) pbd_nil)
  (pbd_one (psd_ret (pd_tup (pad_cons (pd_var 3) (pad_cons (pd_tuple T.n_tuple (pad_cons (pd_own 5) pad_nil)) pad_nil)))))))))
abbrev N__law_refused : List Str := ["which", "signature", "one", "other", "word"]
theorem sc__law_refused : FnScope N__law_refused ["which", "signature", "one", "other"] (defScope s__law_refused) := ⟨rfl, rfl, rfl, by decide +kernel, rfl, by decide +kernel, by decide +kernel⟩
def d__law_refused : DS DeckSt := dSeq (dAsg 4 [] (dV (dC (.str [110, 111, 110, 101]))))
  (dSeq (dTry subF (dIfS (dB (dBin eqO (dVar 0) (dC (.int 0)))) (dDrop (dCall m_is_configuration (dCons (dVar 1) (dCons (dVar 2) (dNil))))) (dIfS (dB (dBin eqO (dVar 0) (dC (.int 1)))) (dDrop (dCall m_letters_in (dCons (dVar 1) (dCons (dVar 2) (dNil))))) (dDrop (dCall m_is_below (dCons (dVar 1) (dCons (dVar 2) (dCons (dVar 3) (dNil)))))))) (("BadSignature", dAsg 4 [] (dV (dC (.str [115, 105, 103, 110, 97, 116, 117, 114, 101])))) :: ("BadConfiguration", dAsg 4 [] (dV (dC (.str [99, 111, 110, 102, 105, 103, 117, 114, 97, 116, 105, 111, 110])))) :: ("BadOther", dAsg 4 [] (dV (dC (.str [111, 116, 104, 101, 114])))) :: []))
  (dRet (dVar 4)))
def m__law_refused : List D → DeckSt → R DeckSt D := mOf 5 d__law_refused
theorem ok__law_refused (T : Txt K mg) (h_is_configuration : Fn P w K mg base (PCk K) "is_configuration" 6 2 m_is_configuration) (h_letters_in : Fn P w K mg base (PCk K) "letters_in" 6 2 m_letters_in) (h_is_below : Fn P w K mg base (PCk K) "is_below" 7 3 m_is_below) {f : Addr} {fd : FuncData} (F : Fun K "_law_refused" "_law_refused" s__law_refused f fd) : FnOk P w K mg base (L2.CX P w) 8 f fd ["which", "signature", "one", "other"] (spOf mg (PCk K) 4 m__law_refused) := by
  obtain ⟨q_BadConfiguration, e_BadConfiguration⟩ := T.e_BadConfiguration
  obtain ⟨q_BadOther, e_BadOther⟩ := T.e_BadOther
  obtain ⟨q_BadSignature, e_BadSignature⟩ := T.e_BadSignature
  exact fnok_mk0 (N := N__law_refused) F sc__law_refused fun cdv A outer s H E C pc hr => by exact (pbd_cons (psd_asg 4 sc__law_refused.nd (pv_v (pd_str [110, 111, 110, 101] (by rfl) ⟨by decide, by decide⟩)))
  (pbd_cons (psd_try rfl rfl (takes_of rfl rfl rfl rfl) T.sub (fun W1 pn1 xe1 tk1 po1 => (pbd_one (psd_if (ptd_c (k_eq hr.units) (pd_var 0) pd_int) (pbd_one (psd_drop (pd_call h_is_configuration pc hr (by decide) tk1 (pad_cons (pd_var 1) (pad_cons (pd_var 2) pad_nil)) (dLen_cons (dLen_cons dLen_nil))))) (pbd_one (psd_if (ptd_c (k_eq hr.units) (pd_var 0) pd_int) (pbd_one (psd_drop (pd_call h_letters_in pc hr (by decide) tk1 (pad_cons (pd_var 1) (pad_cons (pd_var 2) pad_nil)) (dLen_cons (dLen_cons dLen_nil))))) (pbd_one (psd_drop (pd_call h_is_below pc hr (by decide) tk1 (pad_cons (pd_var 1) (pad_cons (pd_var 2) (pad_cons (pd_var 3) pad_nil))) (dLen_cons (dLen_cons (dLen_cons dLen_nil))))))))))) (.cons e_BadSignature.g rfl rfl (fun _ _ _ => (pbd_one (psd_asg 4 sc__law_refused.nd (pv_v (pd_str [115, 105, 103, 110, 97, 116, 117, 114, 101] (by rfl) ⟨by decide, by decide⟩))))) (.cons e_BadConfiguration.g rfl rfl (fun _ _ _ => (pbd_one (psd_asg 4 sc__law_refused.nd (pv_v (pd_str [99, 111, 110, 102, 105, 103, 117, 114, 97, 116, 105, 111, 110] (by rfl) ⟨by decide, by decide⟩))))) (.cons e_BadOther.g rfl rfl (fun _ _ _ => (pbd_one (psd_asg 4 sc__law_refused.nd (pv_v (pd_str [111, 116, 104, 101, 114] (by rfl) ⟨by decide, by decide⟩))))) .nil))))
  (pbd_one (psd_ret (pd_var 4)))))
abbrev N_law : List Str := ["script", "deck", "turn", "signature", "configuration", "thing", "k", "bad", "wrong", "words", "due", "which"]
theorem sc_law : FnScope N_law ["script"] (defScope s_law) := ⟨rfl, rfl, rfl, by decide +kernel, rfl, by decide +kernel, by decide +kernel⟩
def L_law_1 : DS DeckSt := dSeq (dAsg 10 [] (dV (dCall m__law_judge (dCons (dVar 3) (dCons (dVar 5) (dNil))))))
  (dSeq (dIfS (dNot (dTr (dCall m__law_same (dCons (dCall m_is_configuration (dCons (dVar 3) (dCons (dVar 5) (dNil)))) (dCons (dVar 10) (dNil)))))) (dRet (dC (.bl false))) (dNext))
  (dIfS (dAnd (dTr (dVar 10)) (dOr (dNot (dTr (dCall m__law_compared (dCons (dVar 3) (dCons (dVar 5) (dCons (dVar 4) (dNil))))))) (dNot (dTr (dCall m__law_compared (dCons (dVar 3) (dCons (dVar 5) (dCons (dVar 5) (dNil))))))))) (dRet (dC (.bl false))) (dNext)))
def L_law_2 : DS DeckSt := dIfS (dNot (dTr (dCall m__law_compared (dCons (dVar 3) (dCons (dCall m__law_other (dCons (dVar 1) (dCons (dVar 3) (dCons (dVar 4) (dNil))))) (dCons (dVar 4) (dNil))))))) (dRet (dC (.bl false))) (dNext)
def L_law_3 : DS DeckSt := dSeq (dAsg 3 [] (dV (dCall m__law_signature (dCons (dVar 1) (dNil)))))
  (dSeq (dAsg 4 [] (dV (dCall m__law_configuration (dCons (dVar 1) (dCons (dVar 3) (dCons (dC (.int 9)) (dNil)))))))
  (dSeq (dFor (gN 5) [] (dWalk (dBin addD (dF (dLst (dCons (dVar 4) (dNil)))) (dCall m__law_near (dCons (dVar 1) (dCons (dVar 3) (dCons (dVar 4) (dNil)))))) walkD) L_law_1)
  (dSeq (dFor (gN 6) [] (dRng rng1 (dCons (dC (.int 4)) (dNil))) L_law_2)
  (dSeq (dAsg 7 [] (dV (dBin ixD (dF (dLst (dCons (dC .non) (dCons (dSl (dVar 3) (dNoPart) (dPart (dC (.int 2)))) (dCons (dBin addD (dTup (dCons (dC (.int 4)) (dNil))) (dSl (dVar 3) (dPart (dC (.int 1))) (dNoPart))) (dCons (dF (dListOf (dVar 3))) (dNil))))))) (dCall m__law_pick (dCons (dVar 1) (dCons (dC (.int 4)) (dNil)))))))
  (dSeq (dAsg 8 [] (dV (dBin ixD (dF (dLst (dCons (dC .non) (dCons (dTup (dCons (dBin ixD (dVar 4) (dC (.int 0))) (dCons (dF (dListOf (dBin ixD (dVar 4) (dC (.int 1))))) (dNil)))) (dCons (dTup (dCons (dBin addD (dBin ixD (dVar 4) (dC (.int 0))) (dTup (dCons (dC (.int 0)) (dNil)))) (dCons (dBin ixD (dVar 4) (dC (.int 1))) (dNil)))) (dNil)))))) (dCall m__law_pick (dCons (dVar 1) (dCons (dC (.int 3)) (dNil)))))))
  (dSeq (dAsg 9 [] (dV (dBin addD (dF (dLc (gN 11) [11] [] (dRng rng1 (dCons (dC (.int 3)) (dNil))) (dYes) (dCall m__law_refused (dCons (dVar 11) (dCons (dVar 7) (dCons (dVar 8) (dCons (dVar 8) (dNil)))))))) (dF (dLc (gN 11) [11] [] (dRng rng1 (dCons (dC (.int 3)) (dNil))) (dYes) (dCall m__law_refused (dCons (dVar 11) (dCons (dVar 3) (dCons (dVar 8) (dCons (dVar 8) (dNil)))))))))))
  (dSeq (dIfS (dB (dBin neO (dVar 9) (dBin addD (dBin repD (dF (dLst (dCons (dC (.str [115, 105, 103, 110, 97, 116, 117, 114, 101])) (dNil)))) (dC (.int 3))) (dF (dLst (dCons (dC (.str [110, 111, 110, 101])) (dCons (dC (.str [99, 111, 110, 102, 105, 103, 117, 114, 97, 116, 105, 111, 110])) (dCons (dC (.str [99, 111, 110, 102, 105, 103, 117, 114, 97, 116, 105, 111, 110])) (dNil))))))))) (dRet (dC (.bl false))) (dNext))
  (dIfS (dOr (dB (dBin neO (dCall m__law_refused (dCons (dC (.int 2)) (dCons (dVar 3) (dCons (dVar 4) (dCons (dVar 8) (dNil)))))) (dC (.str [111, 116, 104, 101, 114])))) (dB (dBin neO (dCall m__law_refused (dCons (dC (.int 2)) (dCons (dVar 7) (dCons (dVar 4) (dCons (dVar 4) (dNil)))))) (dC (.str [115, 105, 103, 110, 97, 116, 117, 114, 101]))))) (dRet (dC (.bl false))) (dNext)))))))))
noncomputable def d_law : DS DeckSt := dSeq (dFor (gN 2) [] (dRng rng1 (dCons (dBin addD (dC (.int 2)) (dCallB min2D (dCons (dCallB lenX (dCons (dVar 0) (dNil))) (dCons (dC (.int 6)) (dNil))))) (dNil))) L_law_3) (dRet (dC (.bl true)))
theorem ok_law (T : Txt K mg) (h__law_signature : Fn P w K mg base (PCk K) "_law_signature" 3 1 m__law_signature) (h__law_configuration : Fn P w K mg base (PCk K) "_law_configuration" 3 3 m__law_configuration) (h__law_near : Fn P w K mg base (PCk K) "_law_near" 2 3 m__law_near) (h__law_judge : Fn P w K mg base (PCk K) "_law_judge" 2 2 m__law_judge) (h__law_same : Fn P w K mg base (PCk K) "_law_same" 1 2 m__law_same) (h_is_configuration : Fn P w K mg base (PCk K) "is_configuration" 6 2 m_is_configuration) (h__law_compared : Fn P w K mg base (PCk K) "_law_compared" 8 3 m__law_compared) (h__law_other : Fn P w K mg base (PCk K) "_law_other" 2 3 m__law_other) (h__law_pick : Fn P w K mg base (PCk K) "_law_pick" 1 2 m__law_pick) (h__law_refused : Fn P w K mg base (PCk K) "_law_refused" 8 4 m__law_refused) (hG : True) (cdv : Value) (f : Addr) (A : Around) (outer : List PySem.Env) (s : Shared) (H : Hp) (E : XK) (C : Deck DeckSt) (pc : PCk K C) (hr : Room 8 (A.deeper (envOfC "law" (defScope s_law) s.heap.objs.size f cdv))) : PBd (cxOf (L2.CX P w) P w K mg base N_law "law" (defScope s_law) f cdv A outer s H E) C (fun cls d _ H => E cls d H) (defBody s_law).tail d_law := by
  exact (pbd_cons (psd_for (passes_of rfl) rfl (pid_rng1 T.n_range (pad_cons (pd_add pd_int (pd_min2 rfl T.n_min (pad_cons (pd_lenX pc T.n_len (pad_cons (pd_var 0) pad_nil)) (pad_cons pd_int pad_nil)))) pad_nil)) (pgd_name 2 sc_law.nd) (pbd_cons (psd_asg 3 sc_law.nd (pv_v (pd_call h__law_signature pc hr (by decide) (takes_of rfl rfl rfl rfl) (pad_cons (pd_var 1) pad_nil) (dLen_cons dLen_nil))))
  (pbd_cons (psd_asg 4 sc_law.nd (pv_v (pd_call h__law_configuration pc hr (by decide) (takes_of rfl rfl rfl rfl) (pad_cons (pd_var 1) (pad_cons (pd_var 3) (pad_cons pd_int pad_nil))) (dLen_cons (dLen_cons (dLen_cons dLen_nil))))))
  (pbd_cons (psd_for (passes_of rfl) rfl (pid_any (pd_add (pd_f (pf_lst (pad_cons (pd_var 4) pad_nil))) (pd_call h__law_near pc hr (by decide) (takes_of rfl rfl rfl rfl) (pad_cons (pd_var 1) (pad_cons (pd_var 3) (pad_cons (pd_var 4) pad_nil))) (dLen_cons (dLen_cons (dLen_cons dLen_nil)))))) (pgd_name 5 sc_law.nd) (pbd_cons (psd_asg 10 sc_law.nd (pv_v (pd_call h__law_judge pc hr (by decide) (takes_of rfl rfl rfl rfl) (pad_cons (pd_var 3) (pad_cons (pd_var 5) pad_nil)) (dLen_cons (dLen_cons dLen_nil)))))
  (pbd_cons (psd_if (ptd_not (ptd_tr (pd_call h__law_same pc hr (by decide) (takes_of rfl rfl rfl rfl) (pad_cons (pd_call h_is_configuration pc hr (by decide) (takes_of rfl rfl rfl rfl) (pad_cons (pd_var 3) (pad_cons (pd_var 5) pad_nil)) (dLen_cons (dLen_cons dLen_nil))) (pad_cons (pd_var 10) pad_nil)) (dLen_cons (dLen_cons dLen_nil))))) (pbd_one (psd_ret pd_bl)) pbd_nil)
  (pbd_one (psd_if (ptd_w (pwd_and (ptd_tr (pd_var 10)) (pwd_and1 (ptd_w (pwd_or (ptd_not (ptd_tr (pd_call h__law_compared pc hr (by decide) (takes_of rfl rfl rfl rfl) (pad_cons (pd_var 3) (pad_cons (pd_var 5) (pad_cons (pd_var 4) pad_nil))) (dLen_cons (dLen_cons (dLen_cons dLen_nil)))))) (pwd_or1 (ptd_not (ptd_tr (pd_call h__law_compared pc hr (by decide) (takes_of rfl rfl rfl rfl) (pad_cons (pd_var 3) (pad_cons (pd_var 5) (pad_cons (pd_var 5) pad_nil))) (dLen_cons (dLen_cons (dLen_cons dLen_nil)))))))))))) (pbd_one (psd_ret pd_bl)) pbd_nil)))))
  (pbd_cons (psd_for (passes_of rfl) rfl (pid_rng1 T.n_range (pad_cons pd_int pad_nil)) (pgd_name 6 sc_law.nd) (pbd_one (psd_if (ptd_not (ptd_tr (pd_call h__law_compared pc hr (by decide) (takes_of rfl rfl rfl rfl) (pad_cons (pd_var 3) (pad_cons (pd_call h__law_other pc hr (by decide) (takes_of rfl rfl rfl rfl) (pad_cons (pd_var 1) (pad_cons (pd_var 3) (pad_cons (pd_var 4) pad_nil))) (dLen_cons (dLen_cons (dLen_cons dLen_nil)))) (pad_cons (pd_var 4) pad_nil))) (dLen_cons (dLen_cons (dLen_cons dLen_nil)))))) (pbd_one (psd_ret pd_bl)) pbd_nil)))
  (pbd_cons (psd_asg 7 sc_law.nd (pv_v (pd_ix (pd_f (pf_lst (pad_cons pd_non (pad_cons (pd_sl (pd_var 3) part_none (part_some pd_int)) (pad_cons (pd_add (pd_tup (pad_cons pd_int pad_nil)) (pd_sl (pd_var 3) (part_some pd_int) part_none)) (pad_cons (pd_f (pf_list T.n_list (pd_var 3))) pad_nil)))))) (pd_call h__law_pick pc hr (by decide) (takes_of rfl rfl rfl rfl) (pad_cons (pd_var 1) (pad_cons pd_int pad_nil)) (dLen_cons (dLen_cons dLen_nil))))))
  (pbd_cons (psd_asg 8 sc_law.nd (pv_v (pd_ix (pd_f (pf_lst (pad_cons pd_non (pad_cons (pd_tup (pad_cons (pd_ix (pd_var 4) pd_int) (pad_cons (pd_f (pf_list T.n_list (pd_ix (pd_var 4) pd_int))) pad_nil))) (pad_cons (pd_tup (pad_cons (pd_add (pd_ix (pd_var 4) pd_int) (pd_tup (pad_cons pd_int pad_nil))) (pad_cons (pd_ix (pd_var 4) pd_int) pad_nil))) pad_nil))))) (pd_call h__law_pick pc hr (by decide) (takes_of rfl rfl rfl rfl) (pad_cons (pd_var 1) (pad_cons pd_int pad_nil)) (dLen_cons (dLen_cons dLen_nil))))))
  (pbd_cons (psd_asg 9 sc_law.nd (pv_v (pd_add (pd_f (pf_lc (own := [("which", 11)]) (sc := []) (sa := []) rfl sc_law.nd (pid_rng1 T.n_range (pad_cons pd_int pad_nil)) (blkOk_by (own := [("which", 11)]) (N := N_law) (sc := defScope s_law) (by decide +kernel)) (fun _ _ _ _ _ => (pgd_name 11 sc_law.nd)) (no_gN 11) (fun _ _ _ _ _ => ptsd_nil) (fun _ _ _ _ _ => (pd_call h__law_refused pc hr (by decide) takes0 (pad_cons (pd_var 11) (pad_cons (pd_var 7) (pad_cons (pd_var 8) (pad_cons (pd_var 8) pad_nil)))) (dLen_cons (dLen_cons (dLen_cons (dLen_cons dLen_nil)))))))) (pd_f (pf_lc (own := [("which", 11)]) (sc := []) (sa := []) rfl sc_law.nd (pid_rng1 T.n_range (pad_cons pd_int pad_nil)) (blkOk_by (own := [("which", 11)]) (N := N_law) (sc := defScope s_law) (by decide +kernel)) (fun _ _ _ _ _ => (pgd_name 11 sc_law.nd)) (no_gN 11) (fun _ _ _ _ _ => ptsd_nil) (fun _ _ _ _ _ => (pd_call h__law_refused pc hr (by decide) takes0 (pad_cons (pd_var 11) (pad_cons (pd_var 3) (pad_cons (pd_var 8) (pad_cons (pd_var 8) pad_nil)))) (dLen_cons (dLen_cons (dLen_cons (dLen_cons dLen_nil)))))))))))
  (pbd_cons (psd_if (ptd_c (k_ne hr.units) (pd_var 9) (pd_add (pd_rep (pd_f (pf_lst (pad_cons (pd_str [115, 105, 103, 110, 97, 116, 117, 114, 101] (by rfl) ⟨by decide, by decide⟩) pad_nil))) pd_int) (pd_f (pf_lst (pad_cons (pd_str [110, 111, 110, 101] (by rfl) ⟨by decide, by decide⟩) (pad_cons (pd_str [99, 111, 110, 102, 105, 103, 117, 114, 97, 116, 105, 111, 110] (by rfl) ⟨by decide, by decide⟩) (pad_cons (pd_str [99, 111, 110, 102, 105, 103, 117, 114, 97, 116, 105, 111, 110] (by rfl) ⟨by decide, by decide⟩) pad_nil))))))) (pbd_one (psd_ret pd_bl)) pbd_nil)
  (pbd_one (psd_if (ptd_w (pwd_or (ptd_c (k_ne hr.units) (pd_call h__law_refused pc hr (by decide) (takes_of rfl rfl rfl rfl) (pad_cons pd_int (pad_cons (pd_var 3) (pad_cons (pd_var 4) (pad_cons (pd_var 8) pad_nil)))) (dLen_cons (dLen_cons (dLen_cons (dLen_cons dLen_nil))))) (pd_str [111, 116, 104, 101, 114] (by rfl) ⟨by decide, by decide⟩)) (pwd_or1 (ptd_c (k_ne hr.units) (pd_call h__law_refused pc hr (by decide) (takes_of rfl rfl rfl rfl) (pad_cons pd_int (pad_cons (pd_var 7) (pad_cons (pd_var 4) (pad_cons (pd_var 4) pad_nil)))) (dLen_cons (dLen_cons (dLen_cons (dLen_cons dLen_nil))))) (pd_str [115, 105, 103, 110, 97, 116, 117, 114, 101] (by rfl) ⟨by decide, by decide⟩))))) (pbd_one (psd_ret pd_bl)) pbd_nil)))))))))))
  (pbd_one (psd_ret pd_bl)))
end
/-! the deck's two defs, by hand -/
section
variable {P : Program} {w : World} {K : PySem.W.Frag} {mg : Str → Option Value} {base : Heap}
theorem scPick : FnScope ["deck", "many", "cells", "cell", "found"] ["deck", "many"] (defScope s__law_pick) := ⟨rfl, rfl, rfl, by decide +kernel, rfl, by decide +kernel, by decide +kernel⟩
theorem ix2 {a b c : V} {i : Int} {v : V} (h : atI [a, b, c] i = some v) : atI [a, b, c] i = some v := h
theorem e60 : ((10 : Int) ^ (60 : Int).toNat) = 10 ^ 60 := rfl
theorem ok_pick {f : Addr} {fd : FuncData} (F : Fun K "_law_pick" "_law_pick" s__law_pick f fd) (hint : mg "int" = none) : FnOk P w K mg base (L2.CX P w) 1 f fd ["deck", "many"] spPick := by
  refine F.okX scPick (fun vs H Q E h => ?_) (fun cdv A outer s H vs Q E hr h => ?_)
  · obtain ⟨a0, c0, d, n, rfl, _⟩ := h
    rfl
  · obtain ⟨a0, c0, d, n, rfl, ok, ne, h0, hc, n0, n1, k⟩ := h
    have hu : (cxOf (L2.CX P w) P w K mg base ["deck", "many", "cells", "cell", "found"] "_law_pick" (defScope s__law_pick) f cdv A outer s H E).A.units + 64 < cLine := hr.units
    have pw : CPow 10 6 := ⟨by decide, by decide, by decide⟩
    have pw18 : CPow 10 18 := ⟨by decide, by decide, by decide⟩
    obtain ⟨tt, htt, hrd⟩ : ∃ tt, PSs (cxOf (L2.CX P w) P w K mg base ["deck", "many", "cells", "cell", "found"] "_law_pick" (defScope s__law_pick) f cdv A outer s H E) ((defBody s__law_pick).drop 2) tt ∧
        ∀ (H1 : Hp) (x : Option V), (∀ a, a ≠ a0 → a ≠ c0 → ∀ o, H a = some o → H1 a = some o) → H1 a0 = some (.lst [.ref c0, .int (pull d).dig, .int (pull d).mix]) → H1 c0 = some (.lst ((pull d).cells.map V.int)) →
          tt { nx := fun _ H' => Q .non H', rt := Q } [some (.ref a0), some (.int n), some (.ref c0), x, none] H1 := by
      refine ⟨_, pss_cons (ps_if (pt_cmpR op_ge (pe_ix ix_list (pv 0) pe_int (fun _ _ => rfl)) (pe_op op_pow pe_int pe_int) (nomark _))
        (pss_cons (ps_set (i := 4) scPick.nd rfl (Or.inl rfl) (pe_op op_mod (pe_callTy call_int1 rfl hint (by decide +kernel) (pa_cons (pe_ix ix_list (pv 0) pe_int (fun _ _ => rfl)) pa_nil)) (pv 1)))
        (pss_cons (ps_asg (pe_op op_fdiv (pe_ix ix_list (pv 0) pe_int (fun _ _ => rfl)) (pv 1)) (pg_sub (pv 0) pe_int set_list))
        (pss_one (ps_ret (pv 4))))) pss_nil)
        (pss_cons (ps_asg (pe_op op_mod (pe_callTy call_int1 rfl hint (by decide +kernel) (pa_cons (pe_op op_add (pe_op op_mul (pe_ix ix_list (pv 0) pe_int (fun _ _ => rfl)) pe_int) pe_int) pa_nil)) pe_int) (pg_sub (pv 0) pe_int set_list))
        (pss_one (ps_ret (pe_op op_mod (pe_callTy call_int1 rfl hint (by decide +kernel) (pa_cons (pe_op op_fdiv (pe_ix ix_list (pv 0) pe_int (fun _ _ => rfl)) pe_int) pa_nil)) (pv 1))))), ?_⟩
      intro H1 x kk g0 gc
      have c1 : atI [V.ref c0, V.int (pull d).dig, V.int (pull d).mix] 1 = some (V.int (pull d).dig) := rfl
      have c2 : atI [V.ref c0, V.int (pull d).dig, V.int (pull d).mix] 2 = some (V.int (pull d).mix) := rfl
      have ne' : c0 ≠ a0 := fun z => ne z.symm
      refine ⟨_, rfl, a0, _, 1, _, rfl, rfl, SqL.of g0, c1, 10, 6, rfl, rfl, pw, _, _, rfl, rfl, _, rfl, ?_⟩
      refine ite2 (fun h => ?_) (fun h => ?_)
      · have hd : (10 : Int) ^ 6 ≤ (pull d).dig := of_decide_eq_true h
        have ek : pickF d n = ((pull d).dig % n, { pull d with dig := (pull d).dig / n }) := by unfold pickF; rw [if_pos hd]
        rw [ek] at k
        refine ⟨_, rfl, a0, _, 1, _, rfl, rfl, SqL.of g0, c1, .inl ⟨_, rfl, _, rfl, _, _, rfl, rfl, n0, ?_⟩⟩
        refine ⟨_, rfl, a0, _, 1, _, rfl, rfl, SqL.of g0, c1, _, rfl, _, _, rfl, rfl, ⟨n0, n1⟩, _, rfl, a0, _, 1, 1, rfl, rfl, g0, rfl, _, rfl, ?_⟩
        refine k _ (fun a h1 h2 o e => by rw [upd_ne h1]; exact kk a h1 h2 o e) upd_same (by rw [upd_ne ne']; exact gc)
      · have hd : ¬ (10 : Int) ^ 6 ≤ (pull d).dig := fun z => h (decide_eq_true z)
        have ek : pickF d n = (((pull d).mix * 48271 + 11) % 2147483647 / 53 % n, { pull d with mix := ((pull d).mix * 48271 + 11) % 2147483647 }) := by unfold pickF; rw [if_neg hd]
        rw [ek] at k
        have pm := (pull_ok ok)
        have m0 := pm.m0
        have m1 := pm.m1
        refine ⟨_, rfl, a0, _, 2, _, rfl, rfl, SqL.of g0, c2, _, _, rfl, rfl, .inl ⟨by omega, by omega⟩, _, _, rfl, rfl, .inl ⟨_, rfl, _, _, rfl, rfl, (by show (0 : Int) < 2147483647; decide), _, rfl, a0, _, 2, 2, rfl, rfl, g0, rfl, ?_⟩⟩
        have g1 : (upd H1 a0 (.lst ([V.ref c0, V.int (pull d).dig, V.int (pull d).mix].set 2 (V.int (((pull d).mix * 48271 + 11) % 2147483647))))) a0 = some (.lst [V.ref c0, V.int (pull d).dig, V.int (((pull d).mix * 48271 + 11) % 2147483647)]) := upd_same
        have c3 : atI [V.ref c0, V.int (pull d).dig, V.int (((pull d).mix * 48271 + 11) % 2147483647)] 2 = some (V.int (((pull d).mix * 48271 + 11) % 2147483647)) := rfl
        refine ⟨_, rfl, a0, _, 2, _, rfl, rfl, SqL.of g1, c3, _, _, rfl, rfl, ⟨by decide, by decide⟩, .inl ⟨_, rfl, _, rfl, _, _, rfl, rfl, n0, ?_⟩⟩
        exact k _ (fun a h1 h2 o e => by rw [upd_ne h1]; exact kk a h1 h2 o e) upd_same (by rw [upd_ne ne']; exact gc)
    refine ⟨_, pss_cons (ps_set (i := 2) scPick.nd rfl (Or.inl rfl) (pe_ix ix_list (pv 0) pe_int (fun _ _ => rfl)))
      (pss_cons (ps_if (PW.pt (pw_and (pt_cmpR op_lt (pe_ix ix_list (pv 0) pe_int (fun _ _ => rfl)) (pe_op op_pow pe_int pe_int) (nomark _)) (pw_and1 (pt_cmpR (op_neD hu) (pv 2) (pe_lst pa_nil) (nomark _)))))
        (pss_cons (ps_set (i := 3) scPick.nd rfl (Or.inl rfl) (pe_bm PySem.F.plainAttrs_list PySem.F.slot_list_pop PySem.F.type_list_pop mt_popAt (pv 2) (pa_cons pe_int pa_nil)))
        (pss_one (ps_if (pt_cmpR op_ge (pv 3) (pe_op op_pow pe_int pe_int) (nomark _))
          (pss_one (ps_asg (pv 3) (pg_sub (pv 0) pe_int set_list)))
          (pss_one (ps_asg (pe_op op_mod (pe_callTy call_int1 rfl hint (by decide +kernel) (pa_cons (pe_op op_add (pe_op op_add (pe_op op_mul (pe_ix ix_list (pv 0) pe_int (fun _ _ => rfl)) pe_int) (pe_op op_mul (pe_op op_mod (pe_callTy call_int1 rfl hint (by decide +kernel) (pa_cons (pv 3) pa_nil)) pe_int) pe_int)) pe_int) pa_nil)) pe_int) (pg_sub (pv 0) pe_int set_list)))))) pss_nil)
      (by exact htt)), ?_⟩
    have c0' : atI [V.ref c0, V.int d.dig, V.int d.mix] 0 = some (V.ref c0) := rfl
    have c1 : atI [V.ref c0, V.int d.dig, V.int d.mix] 1 = some (V.int d.dig) := rfl
    have c2 : atI [V.ref c0, V.int d.dig, V.int d.mix] 2 = some (V.int d.mix) := rfl
    have ne' : c0 ≠ a0 := fun z => ne z.symm
    refine ⟨_, rfl, a0, _, 0, _, rfl, rfl, SqL.of h0, c0', ?_⟩
    refine ⟨_, rfl, a0, _, 1, _, rfl, rfl, SqL.of h0, c1, 10, 6, rfl, rfl, pw, _, _, rfl, rfl, _, rfl, ?_⟩
    refine ite2 (fun h => ?_) (fun h => ?_)
    rotate_left
    · have hd : ¬ d.dig < (10 : Int) ^ 6 := fun z => h (decide_eq_true z)
      have ep : pull d = d := by unfold pull; rw [if_neg hd]
      refine hrd H none (fun a _ _ o e => e) ?_ ?_
      · rw [ep]; exact h0
      · rw [ep]; exact hc
    have hd : d.dig < (10 : Int) ^ 6 := of_decide_eq_true h
    -- cells != []
    have dpc : ∀ H' : Hp, H' c0 = some (.lst (d.cells.map V.int)) → Dp K H' (.ref c0) (.list (d.cells.map PyData.int)) := fun H' e => .lst (.of e) (by
      have : ∀ l : List Int, DpAll K H' (l.map V.int) (l.map PyData.int) := by
        intro l
        induction l with
        | nil => exact .nil
        | cons x r ih => exact .cons (.int x) ih
      exact this _)
    have shp : SeqAt.shaped (.list (d.cells.map PyData.int)) = true := by
      have h1 : ∀ l : List Int, PyData.canLayAll0 (l.map PyData.int) = true ∧ PyData.depthAll (l.map PyData.int) = 0 := by
        intro l
        induction l with
        | nil => exact ⟨by simp [PyData.canLayAll0], by simp [PyData.depthAll]⟩
        | cons x r ih => exact ⟨by simp [PyData.canLayAll0, PyData.canLay0, ih.1], by simp [PyData.depthAll, PyData.depth, ih.2]⟩
      unfold SeqAt.shaped
      simp [PyData.canLay0, PyData.depth, h1]
    refine ⟨_, rfl, by show 0 ≤ sizeLine; exact Nat.zero_le _, fun p hp => ?_⟩
    have kc : (upd H p (.lst [])) c0 = some (.lst (d.cells.map V.int)) := by rw [upd_ne (ne_of_none hc hp)]; exact hc
    have k0 : (upd H p (.lst [])) a0 = some (.lst [V.ref c0, V.int d.dig, V.int d.mix]) := by rw [upd_ne (ne_of_none h0 hp)]; exact h0
    have ko : ∀ a, a ≠ a0 → a ≠ c0 → ∀ o, H a = some o → (upd H p (.lst [])) a = some o := fun a _ _ o e => by rw [upd_ne (ne_of_none e hp)]; exact e
    refine ⟨_, .list [], dpc _ kc, .lst (.of upd_same) .nil, shp, by decide +kernel, _, rfl, ?_⟩
    cases hcl : d.cells with
    | nil =>
      have ep : pull d = d := by unfold pull; rw [if_pos hd, hcl]
      refine if_false_of (by simp [PyData.eqv, PyData.eqvAll]) ?_
      refine hrd _ none ko ?_ ?_
      · rw [ep]; exact k0
      · rw [ep]; exact kc
    | cons c r =>
      refine if_true_of (by simp [PyData.eqv, PyData.eqvAll]) ?_
      rw [hcl] at kc
      have hcc := ok.cl c (by rw [hcl]; exact List.mem_cons_self)
      refine ⟨_, rfl, .inl ⟨rfl, _, SqL.of kc⟩, c0, _, 0, 0, _, rfl, rfl, kc, by decide, by decide, (PySem.seqIndex_of (by decide) (by simp)), rfl, ?_⟩
      have h0' : (upd (upd H p (.lst [])) c0 (.lst (((c :: r).map V.int).eraseIdx 0))) a0 = some (.lst [V.ref c0, V.int d.dig, V.int d.mix]) := by rw [upd_ne ne]; exact k0
      have hc' : (upd (upd H p (.lst [])) c0 (.lst (((c :: r).map V.int).eraseIdx 0))) c0 = some (.lst (r.map V.int)) := upd_same
      have ko' : ∀ a, a ≠ a0 → a ≠ c0 → ∀ o, H a = some o → (upd (upd H p (.lst [])) c0 (.lst (((c :: r).map V.int).eraseIdx 0))) a = some o := fun a h1 h2 o e => by rw [upd_ne h2]; exact ko a h1 h2 o e
      generalize (upd (upd H p (.lst [])) c0 (.lst (((c :: r).map V.int).eraseIdx 0))) = H2 at h0' hc' ko' ⊢
      refine ⟨_, rfl, 10, 18, rfl, rfl, pw18, _, _, rfl, rfl, _, rfl, ?_⟩
      refine ite2 (fun h => ?_) (fun h => ?_)
      · have hg : (10 : Int) ^ 18 ≤ c := of_decide_eq_true h
        have ep : pull d = { d with cells := r, dig := c } := by unfold pull; rw [if_pos hd, hcl]; dsimp only; rw [if_pos hg]
        refine ⟨_, rfl, _, rfl, a0, _, 1, 1, rfl, rfl, h0', rfl, ?_⟩
        refine hrd _ (some (.int c)) (fun a h1 h2 o e => by rw [upd_ne h1]; exact ko' a h1 h2 o e) ?_ ?_
        · rw [ep]; exact upd_same
        · rw [ep, upd_ne ne']; exact hc'
      · have hg : ¬ (10 : Int) ^ 18 ≤ c := fun z => h (decide_eq_true z)
        have ep : pull d = { d with cells := r, mix := (d.mix * 69621 + c % 2147483563 * 40014 + 3) % 2147483563 } := by unfold pull; rw [if_pos hd, hcl]; dsimp only; rw [if_neg hg]
        have m0 := ok.m0
        have m1 := ok.m1
        have q0 := Int.emod_nonneg c (b := 2147483563) (by omega)
        have q1 := Int.emod_lt_of_pos c (b := 2147483563) (by omega)
        refine ⟨_, rfl, a0, _, 2, _, rfl, rfl, SqL.of h0', c2, _, _, rfl, rfl, .inl ⟨by omega, by omega⟩, _, rfl, .inl ⟨_, rfl, _, _, rfl, rfl, (by show (0 : Int) < 2147483563; decide), _, _, rfl, rfl, .inl ⟨by omega, by omega⟩, _, _, rfl, rfl, _, _, rfl, rfl, .inl ⟨_, rfl, _, _, rfl, rfl, (by show (0 : Int) < 2147483563; decide), _, rfl, a0, _, 2, 2, rfl, rfl, h0', rfl, ?_⟩⟩⟩
        refine hrd _ (some (.int c)) (fun a h1 h2 o e => by rw [upd_ne h1]; exact ko' a h1 h2 o e) ?_ ?_
        · rw [ep]; exact upd_same
        · rw [ep, upd_ne ne']; exact hc'

theorem scDeck : FnScope ["script", "cell"] ["script"] (defScope s__law_deck) := ⟨rfl, rfl, rfl, by decide +kernel, rfl, by decide +kernel, by decide +kernel⟩
theorem cut63 {ns : List Int} (h : ns.length ≤ 63) : cutV (ns.map V.int) none (some 63) = ns.map V.int := by
  unfold cutV
  have e : HT.sIx (ns.map V.int).length (ns.map V.int).length (some 63) = ns.length := by
    rw [show (63 : Int) = ((63 : Nat) : Int) from rfl, HT.sIx_nat, List.length_map]
    omega
  rw [e]
  show ((ns.map V.int).drop 0).take (ns.length - 0) = _
  rw [List.drop_zero, Nat.sub_zero, List.take_of_length_le (by rw [List.length_map]; exact Nat.le_refl _)]
theorem ok_deck {f : Addr} {fd : FuncData} (F : Fun K "_law_deck" "_law_deck" s__law_deck f fd) (hint : mg "int" = none) : FnOk P w K mg base (L2.CX P w) 1 f fd ["script"] (spDeck K) := by
  refine F.okX scDeck (fun vs H Q E h => ?_) (fun cdv A outer s H vs Q E hr h => ?_)
  · obtain ⟨a, ns, rfl, _⟩ := h
    rfl
  · obtain ⟨a, ns, rfl, hS, hl, k⟩ := h
    have pw : CPow 10 60 := ⟨by decide, by decide, by decide⟩
    refine ⟨_, pss_one (ps_ret (pe_lst (pa_cons (pe_lc (own := [("cell", 1)]) (g := gName 1) (tt := tYes) rfl scDeck.nd (pi_list (pe_slice sl_list (pv 0) po_none (po_some pe_int))) (blkOk_by (N := ["script", "cell"]) (sc := defScope s__law_deck) (by decide +kernel))
      (fun _ _ _ _ _ => pg_name (i := 1) scDeck.nd rfl (Or.inl rfl)) (fun _ _ _ _ _ => pts_nil) (fun _ _ _ _ _ => pe_op op_mod (pe_callTy call_int1 rfl hint (by decide +kernel) (pa_cons (pv 1) pa_nil)) (pe_op op_pow pe_int pe_int))) (pa_cons pe_int (pa_cons pe_int pa_nil))))), ?_⟩
    refine ⟨_, rfl, 63, rfl, a, _, rfl, hS, fun q hq => ⟨q, rfl, ⟨_, SqL.of upd_same⟩, fun D hD => ?_⟩⟩
    rw [cut63 hl] at hD ⊢
    have hqD : q ≠ D := ne_of_none (H := upd H q (.lst (ns.map V.int))) upd_same hD
    have nD : H D = none := by
      rw [upd_ne (Ne.symm hqD)] at hD; exact hD
    refine lc_list (K := K) (a := q) (xs := ns.map V.int) (fun i H' => H' = upd (upd H q (.lst (ns.map V.int))) D (.lst (((ns.take i).map fun n => n % 10 ^ 60).map V.int))) rfl (fun i H' _ e => ?_) (fun i x H' hi e => ?_) (fun H' e => ?_)
    · subst e
      exact SqL.of (by rw [upd_ne hqD]; exact upd_same)
    · subst e
      rw [List.getElem?_map] at hi
      obtain ⟨z, hz, rfl⟩ := Option.map_eq_some_iff.mp hi
      have hlt : i < ns.length := (List.getElem?_eq_some_iff.mp hz).1
      refine ⟨rfl, _, rfl, .inl ⟨_, rfl, 10, 60, rfl, rfl, pw, _, _, rfl, rfl, (by show (0 : Int) < 10 ^ 60; decide), _, upd_same, ?_, ?_⟩⟩
      · rw [List.length_map, List.length_map, List.length_take, line_eq]; omega
      · show upd (upd (upd H q (.lst (ns.map V.int))) D (.lst (((ns.take i).map fun n => n % 10 ^ 60).map V.int))) D _ = _
        rw [upd_upd]
        have e2 : ns.take (i + 1) = ns.take i ++ [z] := by
          rw [List.take_add_one, hz]; rfl
        rw [e2, List.map_append, List.map_append]
        rfl
    · subst e
      rw [List.length_map, List.take_length]
      refine ⟨by show 3 ≤ sizeLine; decide, fun p hp => ?_⟩
      have npD : p ≠ D := fun z => by rw [z, upd_same] at hp; cases hp
      have npq : p ≠ q := fun z => by rw [z, upd_ne hqD, upd_same] at hp; cases hp
      have np : H p = none := by rw [upd_ne npD, upd_ne npq] at hp; exact hp
      refine k _ D p ⟨ns.map fun n => n % 10 ^ 60, 0, 6151⟩ (fun b o e => ?_) nD np npD ⟨by simpa using hl, fun x hx => ?_, (by show (0 : Int) ≤ 0; decide), (by show (0 : Int) < 10 ^ 60; decide), (by show (0 : Int) ≤ 6151; decide), (by show (6151 : Int) < 2147483647; decide)⟩ upd_same (by rw [upd_ne (Ne.symm npD)]; exact upd_same)
      · rw [upd_ne (ne_of_none e np), upd_ne (ne_of_none e nD), upd_ne (ne_of_none e hq)]; exact e
      · obtain ⟨n, _, rfl⟩ := List.mem_map.mp hx
        exact ⟨Int.emod_nonneg _ (by decide), Int.emod_lt_of_pos _ (by decide)⟩
end

def bas : D → Bool
  | .non => true
  | .bl _ => true
  | .int _ => true
  | .str _ => true
  | .tup _ => true
  | .lst _ => true
  | _ => false
def isI : D → Bool
  | .int _ => true
  | _ => false
def inR (lo hi : Int) : D → Bool
  | .int i => decide (lo ≤ i) && decide (i ≤ hi)
  | _ => false
def isRow (lo hi : Int) : D → Bool
  | .tup ds => decide (lo ≤ (ds.length : Int)) && decide ((ds.length : Int) ≤ hi)
  | _ => false
section
variable {s : DeckSt} {d : D}
theorem is_int_ev (h : bas d = true) : m_is_int [d] s = .ok (.bl (isI d)) s := by
  cases d <;> simp only [bas, Bool.false_eq_true] at h <;> simp [m_is_int, d_is_int, isI, mOf, dRet, dRetN, dSeq, dNext, dIfS, dTr, dNot, dAnd, dOr, dB, dAndV, dOrV, dNotV, dBin, dChain, dCall, dCallD, dCallK, dCallB, dCons, dNil, dTup, dLst, dF, dC, dVar, dOwn, dV, dO, dAsg, dIsi, dSl, dPart, dNoPart, dIf, dMb, dBinL, dListOf, dDrop, dRaise, dWalk, dRng, walkD, R.bind_ok, R.bind_ex, R.bind_bad, R.map, R.out_ok, R.out_ex, R.out_bad, ofO, truD, asB, asI, List.map_cons, List.map_nil, List.length_cons, List.length_nil, Nat.reduceAdd, Nat.reduceSub, List.replicate, List.cons_append, List.nil_append, List.getElem?_cons_zero, List.getElem?_cons_succ, List.set_cons_zero, List.set_cons_succ, frz_nil, frzs_nil, Option.bind_some, Option.map_some, leD, ltD, geD, gtD, cmpI, if_true, ite_true, if_false, ite_false, Bool.false_eq_true, ne_int, eq_int, ne_bl, eq_bl, ne_str, eq_str, ixD_t0, ixD_t1, ixD_t2, ixD_l0, ixD_l1, ixD_l2, ite_ok, ite_bl, ite_rt, isi_int_non, isi_int_bl, isi_int_int, isi_int_str, isi_int_tup, isi_int_lst, isi_bool_non, isi_bool_bl, isi_bool_int, isi_bool_str, isi_bool_tup, isi_bool_lst, isi_str_non, isi_str_bl, isi_str_int, isi_str_str, isi_str_tup, isi_str_lst, isi_tuple_non, isi_tuple_bl, isi_tuple_int, isi_tuple_str, isi_tuple_tup, isi_tuple_lst, isi_list_non, isi_list_bl, isi_list_int, isi_list_str, isi_list_tup, isi_list_lst]
theorem within_ev (h : bas d = true) {lo hi : Int} : m_within [d, .int lo, .int hi] s = .ok (.bl (inR lo hi d)) s := by
  simp [m_within, d_within, is_int_ev h, mOf, dRet, dRetN, dSeq, dNext, dIfS, dTr, dNot, dAnd, dOr, dB, dAndV, dOrV, dNotV, dBin, dChain, dCall, dCallD, dCallK, dCallB, dCons, dNil, dTup, dLst, dF, dC, dVar, dOwn, dV, dO, dAsg, dIsi, dSl, dPart, dNoPart, dIf, dMb, dBinL, dListOf, dDrop, dRaise, dWalk, dRng, walkD, R.bind_ok, R.bind_ex, R.bind_bad, R.map, R.out_ok, R.out_ex, R.out_bad, ofO, truD, asB, asI, List.map_cons, List.map_nil, List.length_cons, List.length_nil, Nat.reduceAdd, Nat.reduceSub, List.replicate, List.cons_append, List.nil_append, List.getElem?_cons_zero, List.getElem?_cons_succ, List.set_cons_zero, List.set_cons_succ, frz_nil, frzs_nil, Option.bind_some, Option.map_some, leD, ltD, geD, gtD, cmpI, if_true, ite_true, if_false, ite_false, Bool.false_eq_true, ne_int, eq_int, ne_bl, eq_bl, ne_str, eq_str, ixD_t0, ixD_t1, ixD_t2, ixD_l0, ixD_l1, ixD_l2, ite_ok, ite_bl, ite_rt, isi_int_non, isi_int_bl, isi_int_int, isi_int_str, isi_int_tup, isi_int_lst, isi_bool_non, isi_bool_bl, isi_bool_int, isi_bool_str, isi_bool_tup, isi_bool_lst, isi_str_non, isi_str_bl, isi_str_int, isi_str_str, isi_str_tup, isi_str_lst, isi_tuple_non, isi_tuple_bl, isi_tuple_int, isi_tuple_str, isi_tuple_tup, isi_tuple_lst, isi_list_non, isi_list_bl, isi_list_int, isi_list_str, isi_list_tup, isi_list_lst]
  cases d <;> simp [isI, inR, mOf, dRet, dRetN, dSeq, dNext, dIfS, dTr, dNot, dAnd, dOr, dB, dAndV, dOrV, dNotV, dBin, dChain, dCall, dCallD, dCallK, dCallB, dCons, dNil, dTup, dLst, dF, dC, dVar, dOwn, dV, dO, dAsg, dIsi, dSl, dPart, dNoPart, dIf, dMb, dBinL, dListOf, dDrop, dRaise, dWalk, dRng, walkD, R.bind_ok, R.bind_ex, R.bind_bad, R.map, R.out_ok, R.out_ex, R.out_bad, ofO, truD, asB, asI, List.map_cons, List.map_nil, List.length_cons, List.length_nil, Nat.reduceAdd, Nat.reduceSub, List.replicate, List.cons_append, List.nil_append, List.getElem?_cons_zero, List.getElem?_cons_succ, List.set_cons_zero, List.set_cons_succ, frz_nil, frzs_nil, Option.bind_some, Option.map_some, leD, ltD, geD, gtD, cmpI, if_true, ite_true, if_false, ite_false, Bool.false_eq_true, ne_int, eq_int, ne_bl, eq_bl, ne_str, eq_str, ixD_t0, ixD_t1, ixD_t2, ixD_l0, ixD_l1, ixD_l2, ite_ok, ite_bl, ite_rt, isi_int_non, isi_int_bl, isi_int_int, isi_int_str, isi_int_tup, isi_int_lst, isi_bool_non, isi_bool_bl, isi_bool_int, isi_bool_str, isi_bool_tup, isi_bool_lst, isi_str_non, isi_str_bl, isi_str_int, isi_str_str, isi_str_tup, isi_str_lst, isi_tuple_non, isi_tuple_bl, isi_tuple_int, isi_tuple_str, isi_tuple_tup, isi_tuple_lst, isi_list_non, isi_list_bl, isi_list_int, isi_list_str, isi_list_tup, isi_list_lst]
theorem is_row_ev (h : bas d = true) {lo hi : Int} : m_is_row [d, .int lo, .int hi] s = .ok (.bl (isRow lo hi d)) s := by
  cases d <;> simp only [bas, Bool.false_eq_true] at h <;> simp [m_is_row, d_is_row, isRow, lenD, mOf, dRet, dRetN, dSeq, dNext, dIfS, dTr, dNot, dAnd, dOr, dB, dAndV, dOrV, dNotV, dBin, dChain, dCall, dCallD, dCallK, dCallB, dCons, dNil, dTup, dLst, dF, dC, dVar, dOwn, dV, dO, dAsg, dIsi, dSl, dPart, dNoPart, dIf, dMb, dBinL, dListOf, dDrop, dRaise, dWalk, dRng, walkD, R.bind_ok, R.bind_ex, R.bind_bad, R.map, R.out_ok, R.out_ex, R.out_bad, ofO, truD, asB, asI, List.map_cons, List.map_nil, List.length_cons, List.length_nil, Nat.reduceAdd, Nat.reduceSub, List.replicate, List.cons_append, List.nil_append, List.getElem?_cons_zero, List.getElem?_cons_succ, List.set_cons_zero, List.set_cons_succ, frz_nil, frzs_nil, Option.bind_some, Option.map_some, leD, ltD, geD, gtD, cmpI, if_true, ite_true, if_false, ite_false, Bool.false_eq_true, ne_int, eq_int, ne_bl, eq_bl, ne_str, eq_str, ixD_t0, ixD_t1, ixD_t2, ixD_l0, ixD_l1, ixD_l2, ite_ok, ite_bl, ite_rt, isi_int_non, isi_int_bl, isi_int_int, isi_int_str, isi_int_tup, isi_int_lst, isi_bool_non, isi_bool_bl, isi_bool_int, isi_bool_str, isi_bool_tup, isi_bool_lst, isi_str_non, isi_str_bl, isi_str_int, isi_str_str, isi_str_tup, isi_str_lst, isi_tuple_non, isi_tuple_bl, isi_tuple_int, isi_tuple_str, isi_tuple_tup, isi_tuple_lst, isi_list_non, isi_list_bl, isi_list_int, isi_list_str, isi_list_tup, isi_list_lst]
theorem law_int_ev (h : bas d = true) {lo hi : Int} : m__law_int [d, .int lo, .int hi] s = .ok (.bl (inR lo hi d)) s := by
  cases d <;> simp only [bas, Bool.false_eq_true] at h <;> simp [m__law_int, d__law_int, inR, mOf, dRet, dRetN, dSeq, dNext, dIfS, dTr, dNot, dAnd, dOr, dB, dAndV, dOrV, dNotV, dBin, dChain, dCall, dCallD, dCallK, dCallB, dCons, dNil, dTup, dLst, dF, dC, dVar, dOwn, dV, dO, dAsg, dIsi, dSl, dPart, dNoPart, dIf, dMb, dBinL, dListOf, dDrop, dRaise, dWalk, dRng, walkD, R.bind_ok, R.bind_ex, R.bind_bad, R.map, R.out_ok, R.out_ex, R.out_bad, ofO, truD, asB, asI, List.map_cons, List.map_nil, List.length_cons, List.length_nil, Nat.reduceAdd, Nat.reduceSub, List.replicate, List.cons_append, List.nil_append, List.getElem?_cons_zero, List.getElem?_cons_succ, List.set_cons_zero, List.set_cons_succ, frz_nil, frzs_nil, Option.bind_some, Option.map_some, leD, ltD, geD, gtD, cmpI, if_true, ite_true, if_false, ite_false, Bool.false_eq_true, ne_int, eq_int, ne_bl, eq_bl, ne_str, eq_str, ixD_t0, ixD_t1, ixD_t2, ixD_l0, ixD_l1, ixD_l2, ite_ok, ite_bl, ite_rt, isi_int_non, isi_int_bl, isi_int_int, isi_int_str, isi_int_tup, isi_int_lst, isi_bool_non, isi_bool_bl, isi_bool_int, isi_bool_str, isi_bool_tup, isi_bool_lst, isi_str_non, isi_str_bl, isi_str_int, isi_str_str, isi_str_tup, isi_str_lst, isi_tuple_non, isi_tuple_bl, isi_tuple_int, isi_tuple_str, isi_tuple_tup, isi_tuple_lst, isi_list_non, isi_list_bl, isi_list_int, isi_list_str, isi_list_tup, isi_list_lst]
abbrev Sz (sz : List Int) : D := .tup (sz.map .int)
abbrev SigP (a b : Int) (sz : List Int) : D := .tup [.int a, .int b, Sz sz]
def alph (a : Int) : List Nat := cutL [97, 98, 99] none (some a)
def ctl (sz : List Int) : D → Bool
  | .tup ds => decide (ds.length = sz.length) && (ds.zip sz).all fun x => inR 0 (x.2 - 1) x.1
  | _ => false
def wordB (a : Int) (most : Int) : D → Bool
  | .str l => decide ((l.length : Int) ≤ most) && l.all fun c => (alph a).contains c
  | _ => false
def wds (a b : Int) : D → Bool
  | .tup ws => decide ((ws.length : Int) = b) && ws.all (wordB a 60)
  | _ => false
def basT : D → Bool
  | .tup ds => ds.all bas && decide (ds.length ≤ 1000)
  | d => bas d
def fine : D → Bool
  | .tup [c, w] => basT c && basT w
  | d => bas d
def confB (a b : Int) (sz : List Int) : D → Bool
  | .tup [c, w] => ctl sz c && wds a b w
  | _ => false
theorem basT_bas {d : D} (h : basT d = true) : bas d = true := by cases d <;> first | rfl | exact h
theorem is_word_of_ev (h : bas d = true) {a most : Int} (hm : most ≤ 60) : m_is_word_of [.int a, d, .int most] s = .ok (.bl (wordB a most d)) s := by
  cases d <;> simp only [bas, Bool.false_eq_true] at h <;> simp only [m_is_word_of, d_is_word_of, wordB, mOf, dRet, dRetN, dSeq, dNext, dIfS, dTr, dNot, dAnd, dOr, dB, dAndV, dOrV, dNotV, dBin, dChain, dCall, dCallD, dCallK, dCallB, dCons, dNil, dTup, dLst, dF, dC, dVar, dOwn, dV, dO, dAsg, dIsi, dSl, dPart, dNoPart, dIf, dMb, dBinL, dListOf, dDrop, dRaise, dWalk, dRng, walkD, R.bind_ok, R.bind_ex, R.bind_bad, R.map, R.out_ok, R.out_ex, R.out_bad, ofO, truD, asB, asI, List.map_cons, List.map_nil, List.length_cons, List.length_nil, Nat.reduceAdd, Nat.reduceSub, List.replicate, List.cons_append, List.nil_append, List.getElem?_cons_zero, List.getElem?_cons_succ, List.set_cons_zero, List.set_cons_succ, frz_nil, frzs_nil, Option.bind_some, Option.map_some, leD, ltD, geD, gtD, cmpI, if_true, ite_true, if_false, ite_false, Bool.false_eq_true, ne_int, eq_int, ne_bl, eq_bl, ne_str, eq_str, ixD_t0, ixD_t1, ixD_t2, ixD_l0, ixD_l1, ixD_l2, ite_ok, ite_bl, ite_rt, isi_int_non, isi_int_bl, isi_int_int, isi_int_str, isi_int_tup, isi_int_lst, isi_bool_non, isi_bool_bl, isi_bool_int, isi_bool_str, isi_bool_tup, isi_bool_lst, isi_str_non, isi_str_bl, isi_str_int, isi_str_str, isi_str_tup, isi_str_lst, isi_tuple_non, isi_tuple_bl, isi_tuple_int, isi_tuple_str, isi_tuple_tup, isi_tuple_lst, isi_list_non, isi_list_bl, isi_list_int, isi_list_str, isi_list_tup, isi_list_lst] <;> try (simp; done)
  rename_i l
  by_cases z : most < (l.length : Int)
  · simp [z, lenD, mOf, dRet, dRetN, dSeq, dNext, dIfS, dTr, dNot, dAnd, dOr, dB, dAndV, dOrV, dNotV, dBin, dChain, dCall, dCallD, dCallK, dCallB, dCons, dNil, dTup, dLst, dF, dC, dVar, dOwn, dV, dO, dAsg, dIsi, dSl, dPart, dNoPart, dIf, dMb, dBinL, dListOf, dDrop, dRaise, dWalk, dRng, walkD, R.bind_ok, R.bind_ex, R.bind_bad, R.map, R.out_ok, R.out_ex, R.out_bad, ofO, truD, asB, asI, List.map_cons, List.map_nil, List.length_cons, List.length_nil, Nat.reduceAdd, Nat.reduceSub, List.replicate, List.cons_append, List.nil_append, List.getElem?_cons_zero, List.getElem?_cons_succ, List.set_cons_zero, List.set_cons_succ, frz_nil, frzs_nil, Option.bind_some, Option.map_some, leD, ltD, geD, gtD, cmpI, if_true, ite_true, if_false, ite_false, Bool.false_eq_true, ne_int, eq_int, ne_bl, eq_bl, ne_str, eq_str, ixD_t0, ixD_t1, ixD_t2, ixD_l0, ixD_l1, ixD_l2, ite_ok, ite_bl, ite_rt, isi_int_non, isi_int_bl, isi_int_int, isi_int_str, isi_int_tup, isi_int_lst, isi_bool_non, isi_bool_bl, isi_bool_int, isi_bool_str, isi_bool_tup, isi_bool_lst, isi_str_non, isi_str_bl, isi_str_int, isi_str_str, isi_str_tup, isi_str_lst, isi_tuple_non, isi_tuple_bl, isi_tuple_int, isi_tuple_str, isi_tuple_tup, isi_tuple_lst, isi_list_non, isi_list_bl, isi_list_int, isi_list_str, isi_list_tup, isi_list_lst]
    omega
  · simp [z, lenD, mOf, dRet, dRetN, dSeq, dNext, dIfS, dTr, dNot, dAnd, dOr, dB, dAndV, dOrV, dNotV, dBin, dChain, dCall, dCallD, dCallK, dCallB, dCons, dNil, dTup, dLst, dF, dC, dVar, dOwn, dV, dO, dAsg, dIsi, dSl, dPart, dNoPart, dIf, dMb, dBinL, dListOf, dDrop, dRaise, dWalk, dRng, walkD, R.bind_ok, R.bind_ex, R.bind_bad, R.map, R.out_ok, R.out_ex, R.out_bad, ofO, truD, asB, asI, List.map_cons, List.map_nil, List.length_cons, List.length_nil, Nat.reduceAdd, Nat.reduceSub, List.replicate, List.cons_append, List.nil_append, List.getElem?_cons_zero, List.getElem?_cons_succ, List.set_cons_zero, List.set_cons_succ, frz_nil, frzs_nil, Option.bind_some, Option.map_some, leD, ltD, geD, gtD, cmpI, if_true, ite_true, if_false, ite_false, Bool.false_eq_true, ne_int, eq_int, ne_bl, eq_bl, ne_str, eq_str, ixD_t0, ixD_t1, ixD_t2, ixD_l0, ixD_l1, ixD_l2, ite_ok, ite_bl, ite_rt, isi_int_non, isi_int_bl, isi_int_int, isi_int_str, isi_int_tup, isi_int_lst, isi_bool_non, isi_bool_bl, isi_bool_int, isi_bool_str, isi_bool_tup, isi_bool_lst, isi_str_non, isi_str_bl, isi_str_int, isi_str_str, isi_str_tup, isi_str_lst, isi_tuple_non, isi_tuple_bl, isi_tuple_int, isi_tuple_str, isi_tuple_tup, isi_tuple_lst, isi_list_non, isi_list_bl, isi_list_int, isi_list_str, isi_list_tup, isi_list_lst]
    rw [dLc_ev l (fun c => .str [c]) (fun c => .bl ((alph a).contains c)) rfl (by omega) fun c hc => ⟨_, rfl, rfl⟩]
    simp [allD_ev]
    omega
theorem isRow_eq {ds : List D} {n : Nat} : isRow (n : Int) (n : Int) (.tup ds) = decide (ds.length = n) := by
  unfold isRow
  rw [Bool.eq_iff_iff]
  simp
  omega
theorem is_control_of_ev (h : basT d = true) {a b : Int} {sz : List Int} (hs : sz.length ≤ 3) : m_is_control_of [SigP a b sz, d] s = .ok (.bl (ctl sz d)) s := by
  simp only [m_is_control_of, d_is_control_of, mOf, dRet, dRetN, dSeq, dNext, dIfS, dTr, dNot, dAnd, dOr, dB, dAndV, dOrV, dNotV, dBin, dChain, dCall, dCallD, dCallK, dCallB, dCons, dNil, dTup, dLst, dF, dC, dVar, dOwn, dV, dO, dAsg, dIsi, dSl, dPart, dNoPart, dIf, dMb, dBinL, dListOf, dDrop, dRaise, dWalk, dRng, walkD, R.bind_ok, R.bind_ex, R.bind_bad, R.map, R.out_ok, R.out_ex, R.out_bad, ofO, truD, asB, asI, List.map_cons, List.map_nil, List.length_cons, List.length_nil, Nat.reduceAdd, Nat.reduceSub, List.replicate, List.cons_append, List.nil_append, List.getElem?_cons_zero, List.getElem?_cons_succ, List.set_cons_zero, List.set_cons_succ, frz_nil, frzs_nil, Option.bind_some, Option.map_some, leD, ltD, geD, gtD, cmpI, if_true, ite_true, if_false, ite_false, Bool.false_eq_true, ne_int, eq_int, ne_bl, eq_bl, ne_str, eq_str, ixD_t0, ixD_t1, ixD_t2, ixD_l0, ixD_l1, ixD_l2, ite_ok, ite_bl, ite_rt, isi_int_non, isi_int_bl, isi_int_int, isi_int_str, isi_int_tup, isi_int_lst, isi_bool_non, isi_bool_bl, isi_bool_int, isi_bool_str, isi_bool_tup, isi_bool_lst, isi_str_non, isi_str_bl, isi_str_int, isi_str_str, isi_str_tup, isi_str_lst, isi_tuple_non, isi_tuple_bl, isi_tuple_int, isi_tuple_str, isi_tuple_tup, isi_tuple_lst, isi_list_non, isi_list_bl, isi_list_int, isi_list_str, isi_list_tup, isi_list_lst]
  simp [lenD, is_row_ev (basT_bas h), mOf, dRet, dRetN, dSeq, dNext, dIfS, dTr, dNot, dAnd, dOr, dB, dAndV, dOrV, dNotV, dBin, dChain, dCall, dCallD, dCallK, dCallB, dCons, dNil, dTup, dLst, dF, dC, dVar, dOwn, dV, dO, dAsg, dIsi, dSl, dPart, dNoPart, dIf, dMb, dBinL, dListOf, dDrop, dRaise, dWalk, dRng, walkD, R.bind_ok, R.bind_ex, R.bind_bad, R.map, R.out_ok, R.out_ex, R.out_bad, ofO, truD, asB, asI, List.map_cons, List.map_nil, List.length_cons, List.length_nil, Nat.reduceAdd, Nat.reduceSub, List.replicate, List.cons_append, List.nil_append, List.getElem?_cons_zero, List.getElem?_cons_succ, List.set_cons_zero, List.set_cons_succ, frz_nil, frzs_nil, Option.bind_some, Option.map_some, leD, ltD, geD, gtD, cmpI, if_true, ite_true, if_false, ite_false, Bool.false_eq_true, ne_int, eq_int, ne_bl, eq_bl, ne_str, eq_str, ixD_t0, ixD_t1, ixD_t2, ixD_l0, ixD_l1, ixD_l2, ite_ok, ite_bl, ite_rt, isi_int_non, isi_int_bl, isi_int_int, isi_int_str, isi_int_tup, isi_int_lst, isi_bool_non, isi_bool_bl, isi_bool_int, isi_bool_str, isi_bool_tup, isi_bool_lst, isi_str_non, isi_str_bl, isi_str_int, isi_str_str, isi_str_tup, isi_str_lst, isi_tuple_non, isi_tuple_bl, isi_tuple_int, isi_tuple_str, isi_tuple_tup, isi_tuple_lst, isi_list_non, isi_list_bl, isi_list_int, isi_list_str, isi_list_tup, isi_list_lst]
  cases d <;> try (simp [isRow, ctl, mOf, dRet, dRetN, dSeq, dNext, dIfS, dTr, dNot, dAnd, dOr, dB, dAndV, dOrV, dNotV, dBin, dChain, dCall, dCallD, dCallK, dCallB, dCons, dNil, dTup, dLst, dF, dC, dVar, dOwn, dV, dO, dAsg, dIsi, dSl, dPart, dNoPart, dIf, dMb, dBinL, dListOf, dDrop, dRaise, dWalk, dRng, walkD, R.bind_ok, R.bind_ex, R.bind_bad, R.map, R.out_ok, R.out_ex, R.out_bad, ofO, truD, asB, asI, List.map_cons, List.map_nil, List.length_cons, List.length_nil, Nat.reduceAdd, Nat.reduceSub, List.replicate, List.cons_append, List.nil_append, List.getElem?_cons_zero, List.getElem?_cons_succ, List.set_cons_zero, List.set_cons_succ, frz_nil, frzs_nil, Option.bind_some, Option.map_some, leD, ltD, geD, gtD, cmpI, if_true, ite_true, if_false, ite_false, Bool.false_eq_true, ne_int, eq_int, ne_bl, eq_bl, ne_str, eq_str, ixD_t0, ixD_t1, ixD_t2, ixD_l0, ixD_l1, ixD_l2, ite_ok, ite_bl, ite_rt, isi_int_non, isi_int_bl, isi_int_int, isi_int_str, isi_int_tup, isi_int_lst, isi_bool_non, isi_bool_bl, isi_bool_int, isi_bool_str, isi_bool_tup, isi_bool_lst, isi_str_non, isi_str_bl, isi_str_int, isi_str_str, isi_str_tup, isi_str_lst, isi_tuple_non, isi_tuple_bl, isi_tuple_int, isi_tuple_str, isi_tuple_tup, isi_tuple_lst, isi_list_non, isi_list_bl, isi_list_int, isi_list_str, isi_list_tup, isi_list_lst]; done)
  rename_i ds
  simp only [basT, Bool.and_eq_true, decide_eq_true_eq] at h
  by_cases z : ds.length = sz.length
  · simp [isRow_eq, z, ctl, mOf, dRet, dRetN, dSeq, dNext, dIfS, dTr, dNot, dAnd, dOr, dB, dAndV, dOrV, dNotV, dBin, dChain, dCall, dCallD, dCallK, dCallB, dCons, dNil, dTup, dLst, dF, dC, dVar, dOwn, dV, dO, dAsg, dIsi, dSl, dPart, dNoPart, dIf, dMb, dBinL, dListOf, dDrop, dRaise, dWalk, dRng, walkD, R.bind_ok, R.bind_ex, R.bind_bad, R.map, R.out_ok, R.out_ex, R.out_bad, ofO, truD, asB, asI, List.map_cons, List.map_nil, List.length_cons, List.length_nil, Nat.reduceAdd, Nat.reduceSub, List.replicate, List.cons_append, List.nil_append, List.getElem?_cons_zero, List.getElem?_cons_succ, List.set_cons_zero, List.set_cons_succ, frz_nil, frzs_nil, Option.bind_some, Option.map_some, leD, ltD, geD, gtD, cmpI, if_true, ite_true, if_false, ite_false, Bool.false_eq_true, ne_int, eq_int, ne_bl, eq_bl, ne_str, eq_str, ixD_t0, ixD_t1, ixD_t2, ixD_l0, ixD_l1, ixD_l2, ite_ok, ite_bl, ite_rt, isi_int_non, isi_int_bl, isi_int_int, isi_int_str, isi_int_tup, isi_int_lst, isi_bool_non, isi_bool_bl, isi_bool_int, isi_bool_str, isi_bool_tup, isi_bool_lst, isi_str_non, isi_str_bl, isi_str_int, isi_str_str, isi_str_tup, isi_str_lst, isi_tuple_non, isi_tuple_bl, isi_tuple_int, isi_tuple_str, isi_tuple_tup, isi_tuple_lst, isi_list_non, isi_list_bl, isi_list_int, isi_list_str, isi_list_tup, isi_list_lst]
    rw [dLc_ev (ds.zip sz) (fun x => .tup [x.1, .int x.2]) (fun x => .bl (inR 0 (x.2 - 1) x.1)) (s' := s) ?_ ?_ ?_]
    · simp [allD_ev]
    · simp [zip2, zipD, List.zip, List.map_zipWith, List.zipWith_map_right, mOf, dRet, dRetN, dSeq, dNext, dIfS, dTr, dNot, dAnd, dOr, dB, dAndV, dOrV, dNotV, dBin, dChain, dCall, dCallD, dCallK, dCallB, dCons, dNil, dTup, dLst, dF, dC, dVar, dOwn, dV, dO, dAsg, dIsi, dSl, dPart, dNoPart, dIf, dMb, dBinL, dListOf, dDrop, dRaise, dWalk, dRng, walkD, R.bind_ok, R.bind_ex, R.bind_bad, R.map, R.out_ok, R.out_ex, R.out_bad, ofO, truD, asB, asI, List.map_cons, List.map_nil, List.length_cons, List.length_nil, Nat.reduceAdd, Nat.reduceSub, List.replicate, List.cons_append, List.nil_append, List.getElem?_cons_zero, List.getElem?_cons_succ, List.set_cons_zero, List.set_cons_succ, frz_nil, frzs_nil, Option.bind_some, Option.map_some, leD, ltD, geD, gtD, cmpI, if_true, ite_true, if_false, ite_false, Bool.false_eq_true, ne_int, eq_int, ne_bl, eq_bl, ne_str, eq_str, ixD_t0, ixD_t1, ixD_t2, ixD_l0, ixD_l1, ixD_l2, ite_ok, ite_bl, ite_rt, isi_int_non, isi_int_bl, isi_int_int, isi_int_str, isi_int_tup, isi_int_lst, isi_bool_non, isi_bool_bl, isi_bool_int, isi_bool_str, isi_bool_tup, isi_bool_lst, isi_str_non, isi_str_bl, isi_str_int, isi_str_str, isi_str_tup, isi_str_lst, isi_tuple_non, isi_tuple_bl, isi_tuple_int, isi_tuple_str, isi_tuple_tup, isi_tuple_lst, isi_list_non, isi_list_bl, isi_list_int, isi_list_str, isi_list_tup, isi_list_lst]
    · simp; omega
    · intro x hx
      have hb : bas x.1 = true := List.all_eq_true.mp h.1 _ (List.of_mem_zip hx).1
      refine ⟨_, rfl, ?_⟩
      simp [wipeE, subD, within_ev hb, mOf, dRet, dRetN, dSeq, dNext, dIfS, dTr, dNot, dAnd, dOr, dB, dAndV, dOrV, dNotV, dBin, dChain, dCall, dCallD, dCallK, dCallB, dCons, dNil, dTup, dLst, dF, dC, dVar, dOwn, dV, dO, dAsg, dIsi, dSl, dPart, dNoPart, dIf, dMb, dBinL, dListOf, dDrop, dRaise, dWalk, dRng, walkD, R.bind_ok, R.bind_ex, R.bind_bad, R.map, R.out_ok, R.out_ex, R.out_bad, ofO, truD, asB, asI, List.map_cons, List.map_nil, List.length_cons, List.length_nil, Nat.reduceAdd, Nat.reduceSub, List.replicate, List.cons_append, List.nil_append, List.getElem?_cons_zero, List.getElem?_cons_succ, List.set_cons_zero, List.set_cons_succ, frz_nil, frzs_nil, Option.bind_some, Option.map_some, leD, ltD, geD, gtD, cmpI, if_true, ite_true, if_false, ite_false, Bool.false_eq_true, ne_int, eq_int, ne_bl, eq_bl, ne_str, eq_str, ixD_t0, ixD_t1, ixD_t2, ixD_l0, ixD_l1, ixD_l2, ite_ok, ite_bl, ite_rt, isi_int_non, isi_int_bl, isi_int_int, isi_int_str, isi_int_tup, isi_int_lst, isi_bool_non, isi_bool_bl, isi_bool_int, isi_bool_str, isi_bool_tup, isi_bool_lst, isi_str_non, isi_str_bl, isi_str_int, isi_str_str, isi_str_tup, isi_str_lst, isi_tuple_non, isi_tuple_bl, isi_tuple_int, isi_tuple_str, isi_tuple_tup, isi_tuple_lst, isi_list_non, isi_list_bl, isi_list_int, isi_list_str, isi_list_tup, isi_list_lst]
  · simp [isRow_eq, z, ctl, mOf, dRet, dRetN, dSeq, dNext, dIfS, dTr, dNot, dAnd, dOr, dB, dAndV, dOrV, dNotV, dBin, dChain, dCall, dCallD, dCallK, dCallB, dCons, dNil, dTup, dLst, dF, dC, dVar, dOwn, dV, dO, dAsg, dIsi, dSl, dPart, dNoPart, dIf, dMb, dBinL, dListOf, dDrop, dRaise, dWalk, dRng, walkD, R.bind_ok, R.bind_ex, R.bind_bad, R.map, R.out_ok, R.out_ex, R.out_bad, ofO, truD, asB, asI, List.map_cons, List.map_nil, List.length_cons, List.length_nil, Nat.reduceAdd, Nat.reduceSub, List.replicate, List.cons_append, List.nil_append, List.getElem?_cons_zero, List.getElem?_cons_succ, List.set_cons_zero, List.set_cons_succ, frz_nil, frzs_nil, Option.bind_some, Option.map_some, leD, ltD, geD, gtD, cmpI, if_true, ite_true, if_false, ite_false, Bool.false_eq_true, ne_int, eq_int, ne_bl, eq_bl, ne_str, eq_str, ixD_t0, ixD_t1, ixD_t2, ixD_l0, ixD_l1, ixD_l2, ite_ok, ite_bl, ite_rt, isi_int_non, isi_int_bl, isi_int_int, isi_int_str, isi_int_tup, isi_int_lst, isi_bool_non, isi_bool_bl, isi_bool_int, isi_bool_str, isi_bool_tup, isi_bool_lst, isi_str_non, isi_str_bl, isi_str_int, isi_str_str, isi_str_tup, isi_str_lst, isi_tuple_non, isi_tuple_bl, isi_tuple_int, isi_tuple_str, isi_tuple_tup, isi_tuple_lst, isi_list_non, isi_list_bl, isi_list_int, isi_list_str, isi_list_tup, isi_list_lst]
theorem are_words_of_ev (h : basT d = true) {a b : Int} {sz : List Int} : m_are_words_of [SigP a b sz, d, .int 60] s = .ok (.bl (wds a b d)) s := by
  simp only [m_are_words_of, d_are_words_of, mOf, dRet, dRetN, dSeq, dNext, dIfS, dTr, dNot, dAnd, dOr, dB, dAndV, dOrV, dNotV, dBin, dChain, dCall, dCallD, dCallK, dCallB, dCons, dNil, dTup, dLst, dF, dC, dVar, dOwn, dV, dO, dAsg, dIsi, dSl, dPart, dNoPart, dIf, dMb, dBinL, dListOf, dDrop, dRaise, dWalk, dRng, walkD, R.bind_ok, R.bind_ex, R.bind_bad, R.map, R.out_ok, R.out_ex, R.out_bad, ofO, truD, asB, asI, List.map_cons, List.map_nil, List.length_cons, List.length_nil, Nat.reduceAdd, Nat.reduceSub, List.replicate, List.cons_append, List.nil_append, List.getElem?_cons_zero, List.getElem?_cons_succ, List.set_cons_zero, List.set_cons_succ, frz_nil, frzs_nil, Option.bind_some, Option.map_some, leD, ltD, geD, gtD, cmpI, if_true, ite_true, if_false, ite_false, Bool.false_eq_true, ne_int, eq_int, ne_bl, eq_bl, ne_str, eq_str, ixD_t0, ixD_t1, ixD_t2, ixD_l0, ixD_l1, ixD_l2, ite_ok, ite_bl, ite_rt, isi_int_non, isi_int_bl, isi_int_int, isi_int_str, isi_int_tup, isi_int_lst, isi_bool_non, isi_bool_bl, isi_bool_int, isi_bool_str, isi_bool_tup, isi_bool_lst, isi_str_non, isi_str_bl, isi_str_int, isi_str_str, isi_str_tup, isi_str_lst, isi_tuple_non, isi_tuple_bl, isi_tuple_int, isi_tuple_str, isi_tuple_tup, isi_tuple_lst, isi_list_non, isi_list_bl, isi_list_int, isi_list_str, isi_list_tup, isi_list_lst]
  simp [lenD, is_row_ev (basT_bas h), mOf, dRet, dRetN, dSeq, dNext, dIfS, dTr, dNot, dAnd, dOr, dB, dAndV, dOrV, dNotV, dBin, dChain, dCall, dCallD, dCallK, dCallB, dCons, dNil, dTup, dLst, dF, dC, dVar, dOwn, dV, dO, dAsg, dIsi, dSl, dPart, dNoPart, dIf, dMb, dBinL, dListOf, dDrop, dRaise, dWalk, dRng, walkD, R.bind_ok, R.bind_ex, R.bind_bad, R.map, R.out_ok, R.out_ex, R.out_bad, ofO, truD, asB, asI, List.map_cons, List.map_nil, List.length_cons, List.length_nil, Nat.reduceAdd, Nat.reduceSub, List.replicate, List.cons_append, List.nil_append, List.getElem?_cons_zero, List.getElem?_cons_succ, List.set_cons_zero, List.set_cons_succ, frz_nil, frzs_nil, Option.bind_some, Option.map_some, leD, ltD, geD, gtD, cmpI, if_true, ite_true, if_false, ite_false, Bool.false_eq_true, ne_int, eq_int, ne_bl, eq_bl, ne_str, eq_str, ixD_t0, ixD_t1, ixD_t2, ixD_l0, ixD_l1, ixD_l2, ite_ok, ite_bl, ite_rt, isi_int_non, isi_int_bl, isi_int_int, isi_int_str, isi_int_tup, isi_int_lst, isi_bool_non, isi_bool_bl, isi_bool_int, isi_bool_str, isi_bool_tup, isi_bool_lst, isi_str_non, isi_str_bl, isi_str_int, isi_str_str, isi_str_tup, isi_str_lst, isi_tuple_non, isi_tuple_bl, isi_tuple_int, isi_tuple_str, isi_tuple_tup, isi_tuple_lst, isi_list_non, isi_list_bl, isi_list_int, isi_list_str, isi_list_tup, isi_list_lst]
  cases d <;> try (simp [isRow, wds, mOf, dRet, dRetN, dSeq, dNext, dIfS, dTr, dNot, dAnd, dOr, dB, dAndV, dOrV, dNotV, dBin, dChain, dCall, dCallD, dCallK, dCallB, dCons, dNil, dTup, dLst, dF, dC, dVar, dOwn, dV, dO, dAsg, dIsi, dSl, dPart, dNoPart, dIf, dMb, dBinL, dListOf, dDrop, dRaise, dWalk, dRng, walkD, R.bind_ok, R.bind_ex, R.bind_bad, R.map, R.out_ok, R.out_ex, R.out_bad, ofO, truD, asB, asI, List.map_cons, List.map_nil, List.length_cons, List.length_nil, Nat.reduceAdd, Nat.reduceSub, List.replicate, List.cons_append, List.nil_append, List.getElem?_cons_zero, List.getElem?_cons_succ, List.set_cons_zero, List.set_cons_succ, frz_nil, frzs_nil, Option.bind_some, Option.map_some, leD, ltD, geD, gtD, cmpI, if_true, ite_true, if_false, ite_false, Bool.false_eq_true, ne_int, eq_int, ne_bl, eq_bl, ne_str, eq_str, ixD_t0, ixD_t1, ixD_t2, ixD_l0, ixD_l1, ixD_l2, ite_ok, ite_bl, ite_rt, isi_int_non, isi_int_bl, isi_int_int, isi_int_str, isi_int_tup, isi_int_lst, isi_bool_non, isi_bool_bl, isi_bool_int, isi_bool_str, isi_bool_tup, isi_bool_lst, isi_str_non, isi_str_bl, isi_str_int, isi_str_str, isi_str_tup, isi_str_lst, isi_tuple_non, isi_tuple_bl, isi_tuple_int, isi_tuple_str, isi_tuple_tup, isi_tuple_lst, isi_list_non, isi_list_bl, isi_list_int, isi_list_str, isi_list_tup, isi_list_lst]; done)
  rename_i ds
  simp only [basT, Bool.and_eq_true, decide_eq_true_eq] at h
  have e : isRow b b (.tup ds) = decide ((ds.length : Int) = b) := by
    unfold isRow
    rw [Bool.eq_iff_iff]
    simp
    omega
  by_cases z : (ds.length : Int) = b
  · simp [e, z, wds, mOf, dRet, dRetN, dSeq, dNext, dIfS, dTr, dNot, dAnd, dOr, dB, dAndV, dOrV, dNotV, dBin, dChain, dCall, dCallD, dCallK, dCallB, dCons, dNil, dTup, dLst, dF, dC, dVar, dOwn, dV, dO, dAsg, dIsi, dSl, dPart, dNoPart, dIf, dMb, dBinL, dListOf, dDrop, dRaise, dWalk, dRng, walkD, R.bind_ok, R.bind_ex, R.bind_bad, R.map, R.out_ok, R.out_ex, R.out_bad, ofO, truD, asB, asI, List.map_cons, List.map_nil, List.length_cons, List.length_nil, Nat.reduceAdd, Nat.reduceSub, List.replicate, List.cons_append, List.nil_append, List.getElem?_cons_zero, List.getElem?_cons_succ, List.set_cons_zero, List.set_cons_succ, frz_nil, frzs_nil, Option.bind_some, Option.map_some, leD, ltD, geD, gtD, cmpI, if_true, ite_true, if_false, ite_false, Bool.false_eq_true, ne_int, eq_int, ne_bl, eq_bl, ne_str, eq_str, ixD_t0, ixD_t1, ixD_t2, ixD_l0, ixD_l1, ixD_l2, ite_ok, ite_bl, ite_rt, isi_int_non, isi_int_bl, isi_int_int, isi_int_str, isi_int_tup, isi_int_lst, isi_bool_non, isi_bool_bl, isi_bool_int, isi_bool_str, isi_bool_tup, isi_bool_lst, isi_str_non, isi_str_bl, isi_str_int, isi_str_str, isi_str_tup, isi_str_lst, isi_tuple_non, isi_tuple_bl, isi_tuple_int, isi_tuple_str, isi_tuple_tup, isi_tuple_lst, isi_list_non, isi_list_bl, isi_list_int, isi_list_str, isi_list_tup, isi_list_lst]
    rw [dLc_ev ds (fun x => x) (fun x => .bl (wordB a 60 x)) (s' := s) ?_ ?_ ?_]
    · simp [allD_ev]
    · simp [mOf, dRet, dRetN, dSeq, dNext, dIfS, dTr, dNot, dAnd, dOr, dB, dAndV, dOrV, dNotV, dBin, dChain, dCall, dCallD, dCallK, dCallB, dCons, dNil, dTup, dLst, dF, dC, dVar, dOwn, dV, dO, dAsg, dIsi, dSl, dPart, dNoPart, dIf, dMb, dBinL, dListOf, dDrop, dRaise, dWalk, dRng, walkD, R.bind_ok, R.bind_ex, R.bind_bad, R.map, R.out_ok, R.out_ex, R.out_bad, ofO, truD, asB, asI, List.map_cons, List.map_nil, List.length_cons, List.length_nil, Nat.reduceAdd, Nat.reduceSub, List.replicate, List.cons_append, List.nil_append, List.getElem?_cons_zero, List.getElem?_cons_succ, List.set_cons_zero, List.set_cons_succ, frz_nil, frzs_nil, Option.bind_some, Option.map_some, leD, ltD, geD, gtD, cmpI, if_true, ite_true, if_false, ite_false, Bool.false_eq_true, ne_int, eq_int, ne_bl, eq_bl, ne_str, eq_str, ixD_t0, ixD_t1, ixD_t2, ixD_l0, ixD_l1, ixD_l2, ite_ok, ite_bl, ite_rt, isi_int_non, isi_int_bl, isi_int_int, isi_int_str, isi_int_tup, isi_int_lst, isi_bool_non, isi_bool_bl, isi_bool_int, isi_bool_str, isi_bool_tup, isi_bool_lst, isi_str_non, isi_str_bl, isi_str_int, isi_str_str, isi_str_tup, isi_str_lst, isi_tuple_non, isi_tuple_bl, isi_tuple_int, isi_tuple_str, isi_tuple_tup, isi_tuple_lst, isi_list_non, isi_list_bl, isi_list_int, isi_list_str, isi_list_tup, isi_list_lst]
    · omega
    · intro x hx
      have hb : bas x = true := List.all_eq_true.mp h.1 _ hx
      refine ⟨_, rfl, ?_⟩
      simp [wipeE, is_word_of_ev hb, mOf, dRet, dRetN, dSeq, dNext, dIfS, dTr, dNot, dAnd, dOr, dB, dAndV, dOrV, dNotV, dBin, dChain, dCall, dCallD, dCallK, dCallB, dCons, dNil, dTup, dLst, dF, dC, dVar, dOwn, dV, dO, dAsg, dIsi, dSl, dPart, dNoPart, dIf, dMb, dBinL, dListOf, dDrop, dRaise, dWalk, dRng, walkD, R.bind_ok, R.bind_ex, R.bind_bad, R.map, R.out_ok, R.out_ex, R.out_bad, ofO, truD, asB, asI, List.map_cons, List.map_nil, List.length_cons, List.length_nil, Nat.reduceAdd, Nat.reduceSub, List.replicate, List.cons_append, List.nil_append, List.getElem?_cons_zero, List.getElem?_cons_succ, List.set_cons_zero, List.set_cons_succ, frz_nil, frzs_nil, Option.bind_some, Option.map_some, leD, ltD, geD, gtD, cmpI, if_true, ite_true, if_false, ite_false, Bool.false_eq_true, ne_int, eq_int, ne_bl, eq_bl, ne_str, eq_str, ixD_t0, ixD_t1, ixD_t2, ixD_l0, ixD_l1, ixD_l2, ite_ok, ite_bl, ite_rt, isi_int_non, isi_int_bl, isi_int_int, isi_int_str, isi_int_tup, isi_int_lst, isi_bool_non, isi_bool_bl, isi_bool_int, isi_bool_str, isi_bool_tup, isi_bool_lst, isi_str_non, isi_str_bl, isi_str_int, isi_str_str, isi_str_tup, isi_str_lst, isi_tuple_non, isi_tuple_bl, isi_tuple_int, isi_tuple_str, isi_tuple_tup, isi_tuple_lst, isi_list_non, isi_list_bl, isi_list_int, isi_list_str, isi_list_tup, isi_list_lst]
  · simp [e, z, wds, mOf, dRet, dRetN, dSeq, dNext, dIfS, dTr, dNot, dAnd, dOr, dB, dAndV, dOrV, dNotV, dBin, dChain, dCall, dCallD, dCallK, dCallB, dCons, dNil, dTup, dLst, dF, dC, dVar, dOwn, dV, dO, dAsg, dIsi, dSl, dPart, dNoPart, dIf, dMb, dBinL, dListOf, dDrop, dRaise, dWalk, dRng, walkD, R.bind_ok, R.bind_ex, R.bind_bad, R.map, R.out_ok, R.out_ex, R.out_bad, ofO, truD, asB, asI, List.map_cons, List.map_nil, List.length_cons, List.length_nil, Nat.reduceAdd, Nat.reduceSub, List.replicate, List.cons_append, List.nil_append, List.getElem?_cons_zero, List.getElem?_cons_succ, List.set_cons_zero, List.set_cons_succ, frz_nil, frzs_nil, Option.bind_some, Option.map_some, leD, ltD, geD, gtD, cmpI, if_true, ite_true, if_false, ite_false, Bool.false_eq_true, ne_int, eq_int, ne_bl, eq_bl, ne_str, eq_str, ixD_t0, ixD_t1, ixD_t2, ixD_l0, ixD_l1, ixD_l2, ite_ok, ite_bl, ite_rt, isi_int_non, isi_int_bl, isi_int_int, isi_int_str, isi_int_tup, isi_int_lst, isi_bool_non, isi_bool_bl, isi_bool_int, isi_bool_str, isi_bool_tup, isi_bool_lst, isi_str_non, isi_str_bl, isi_str_int, isi_str_str, isi_str_tup, isi_str_lst, isi_tuple_non, isi_tuple_bl, isi_tuple_int, isi_tuple_str, isi_tuple_tup, isi_tuple_lst, isi_list_non, isi_list_bl, isi_list_int, isi_list_str, isi_list_tup, isi_list_lst]
theorem fine_bas (h : fine d = true) : bas d = true := by
  cases d <;> first | rfl | exact h
theorem is_configuration_of_ev (h : fine d = true) {a b : Int} {sz : List Int} (hs : sz.length ≤ 3) : m_is_configuration_of [SigP a b sz, d, .int 60] s = .ok (.bl (confB a b sz d)) s := by
  simp only [m_is_configuration_of, d_is_configuration_of, mOf, dRet, dRetN, dSeq, dNext, dIfS, dTr, dNot, dAnd, dOr, dB, dAndV, dOrV, dNotV, dBin, dChain, dCall, dCallD, dCallK, dCallB, dCons, dNil, dTup, dLst, dF, dC, dVar, dOwn, dV, dO, dAsg, dIsi, dSl, dPart, dNoPart, dIf, dMb, dBinL, dListOf, dDrop, dRaise, dWalk, dRng, walkD, R.bind_ok, R.bind_ex, R.bind_bad, R.map, R.out_ok, R.out_ex, R.out_bad, ofO, truD, asB, asI, List.map_cons, List.map_nil, List.length_cons, List.length_nil, Nat.reduceAdd, Nat.reduceSub, List.replicate, List.cons_append, List.nil_append, List.getElem?_cons_zero, List.getElem?_cons_succ, List.set_cons_zero, List.set_cons_succ, frz_nil, frzs_nil, Option.bind_some, Option.map_some, leD, ltD, geD, gtD, cmpI, if_true, ite_true, if_false, ite_false, Bool.false_eq_true, ne_int, eq_int, ne_bl, eq_bl, ne_str, eq_str, ixD_t0, ixD_t1, ixD_t2, ixD_l0, ixD_l1, ixD_l2, ite_ok, ite_bl, ite_rt, isi_int_non, isi_int_bl, isi_int_int, isi_int_str, isi_int_tup, isi_int_lst, isi_bool_non, isi_bool_bl, isi_bool_int, isi_bool_str, isi_bool_tup, isi_bool_lst, isi_str_non, isi_str_bl, isi_str_int, isi_str_str, isi_str_tup, isi_str_lst, isi_tuple_non, isi_tuple_bl, isi_tuple_int, isi_tuple_str, isi_tuple_tup, isi_tuple_lst, isi_list_non, isi_list_bl, isi_list_int, isi_list_str, isi_list_tup, isi_list_lst]
  simp [is_row_ev (fine_bas h), mOf, dRet, dRetN, dSeq, dNext, dIfS, dTr, dNot, dAnd, dOr, dB, dAndV, dOrV, dNotV, dBin, dChain, dCall, dCallD, dCallK, dCallB, dCons, dNil, dTup, dLst, dF, dC, dVar, dOwn, dV, dO, dAsg, dIsi, dSl, dPart, dNoPart, dIf, dMb, dBinL, dListOf, dDrop, dRaise, dWalk, dRng, walkD, R.bind_ok, R.bind_ex, R.bind_bad, R.map, R.out_ok, R.out_ex, R.out_bad, ofO, truD, asB, asI, List.map_cons, List.map_nil, List.length_cons, List.length_nil, Nat.reduceAdd, Nat.reduceSub, List.replicate, List.cons_append, List.nil_append, List.getElem?_cons_zero, List.getElem?_cons_succ, List.set_cons_zero, List.set_cons_succ, frz_nil, frzs_nil, Option.bind_some, Option.map_some, leD, ltD, geD, gtD, cmpI, if_true, ite_true, if_false, ite_false, Bool.false_eq_true, ne_int, eq_int, ne_bl, eq_bl, ne_str, eq_str, ixD_t0, ixD_t1, ixD_t2, ixD_l0, ixD_l1, ixD_l2, ite_ok, ite_bl, ite_rt, isi_int_non, isi_int_bl, isi_int_int, isi_int_str, isi_int_tup, isi_int_lst, isi_bool_non, isi_bool_bl, isi_bool_int, isi_bool_str, isi_bool_tup, isi_bool_lst, isi_str_non, isi_str_bl, isi_str_int, isi_str_str, isi_str_tup, isi_str_lst, isi_tuple_non, isi_tuple_bl, isi_tuple_int, isi_tuple_str, isi_tuple_tup, isi_tuple_lst, isi_list_non, isi_list_bl, isi_list_int, isi_list_str, isi_list_tup, isi_list_lst]
  cases d <;> try (simp [isRow, confB, mOf, dRet, dRetN, dSeq, dNext, dIfS, dTr, dNot, dAnd, dOr, dB, dAndV, dOrV, dNotV, dBin, dChain, dCall, dCallD, dCallK, dCallB, dCons, dNil, dTup, dLst, dF, dC, dVar, dOwn, dV, dO, dAsg, dIsi, dSl, dPart, dNoPart, dIf, dMb, dBinL, dListOf, dDrop, dRaise, dWalk, dRng, walkD, R.bind_ok, R.bind_ex, R.bind_bad, R.map, R.out_ok, R.out_ex, R.out_bad, ofO, truD, asB, asI, List.map_cons, List.map_nil, List.length_cons, List.length_nil, Nat.reduceAdd, Nat.reduceSub, List.replicate, List.cons_append, List.nil_append, List.getElem?_cons_zero, List.getElem?_cons_succ, List.set_cons_zero, List.set_cons_succ, frz_nil, frzs_nil, Option.bind_some, Option.map_some, leD, ltD, geD, gtD, cmpI, if_true, ite_true, if_false, ite_false, Bool.false_eq_true, ne_int, eq_int, ne_bl, eq_bl, ne_str, eq_str, ixD_t0, ixD_t1, ixD_t2, ixD_l0, ixD_l1, ixD_l2, ite_ok, ite_bl, ite_rt, isi_int_non, isi_int_bl, isi_int_int, isi_int_str, isi_int_tup, isi_int_lst, isi_bool_non, isi_bool_bl, isi_bool_int, isi_bool_str, isi_bool_tup, isi_bool_lst, isi_str_non, isi_str_bl, isi_str_int, isi_str_str, isi_str_tup, isi_str_lst, isi_tuple_non, isi_tuple_bl, isi_tuple_int, isi_tuple_str, isi_tuple_tup, isi_tuple_lst, isi_list_non, isi_list_bl, isi_list_int, isi_list_str, isi_list_tup, isi_list_lst]; done)
  rename_i ds
  match ds, h with
  | [], _ => simp [isRow, confB, mOf, dRet, dRetN, dSeq, dNext, dIfS, dTr, dNot, dAnd, dOr, dB, dAndV, dOrV, dNotV, dBin, dChain, dCall, dCallD, dCallK, dCallB, dCons, dNil, dTup, dLst, dF, dC, dVar, dOwn, dV, dO, dAsg, dIsi, dSl, dPart, dNoPart, dIf, dMb, dBinL, dListOf, dDrop, dRaise, dWalk, dRng, walkD, R.bind_ok, R.bind_ex, R.bind_bad, R.map, R.out_ok, R.out_ex, R.out_bad, ofO, truD, asB, asI, List.map_cons, List.map_nil, List.length_cons, List.length_nil, Nat.reduceAdd, Nat.reduceSub, List.replicate, List.cons_append, List.nil_append, List.getElem?_cons_zero, List.getElem?_cons_succ, List.set_cons_zero, List.set_cons_succ, frz_nil, frzs_nil, Option.bind_some, Option.map_some, leD, ltD, geD, gtD, cmpI, if_true, ite_true, if_false, ite_false, Bool.false_eq_true, ne_int, eq_int, ne_bl, eq_bl, ne_str, eq_str, ixD_t0, ixD_t1, ixD_t2, ixD_l0, ixD_l1, ixD_l2, ite_ok, ite_bl, ite_rt, isi_int_non, isi_int_bl, isi_int_int, isi_int_str, isi_int_tup, isi_int_lst, isi_bool_non, isi_bool_bl, isi_bool_int, isi_bool_str, isi_bool_tup, isi_bool_lst, isi_str_non, isi_str_bl, isi_str_int, isi_str_str, isi_str_tup, isi_str_lst, isi_tuple_non, isi_tuple_bl, isi_tuple_int, isi_tuple_str, isi_tuple_tup, isi_tuple_lst, isi_list_non, isi_list_bl, isi_list_int, isi_list_str, isi_list_tup, isi_list_lst]
  | [_], _ => simp [isRow, confB, mOf, dRet, dRetN, dSeq, dNext, dIfS, dTr, dNot, dAnd, dOr, dB, dAndV, dOrV, dNotV, dBin, dChain, dCall, dCallD, dCallK, dCallB, dCons, dNil, dTup, dLst, dF, dC, dVar, dOwn, dV, dO, dAsg, dIsi, dSl, dPart, dNoPart, dIf, dMb, dBinL, dListOf, dDrop, dRaise, dWalk, dRng, walkD, R.bind_ok, R.bind_ex, R.bind_bad, R.map, R.out_ok, R.out_ex, R.out_bad, ofO, truD, asB, asI, List.map_cons, List.map_nil, List.length_cons, List.length_nil, Nat.reduceAdd, Nat.reduceSub, List.replicate, List.cons_append, List.nil_append, List.getElem?_cons_zero, List.getElem?_cons_succ, List.set_cons_zero, List.set_cons_succ, frz_nil, frzs_nil, Option.bind_some, Option.map_some, leD, ltD, geD, gtD, cmpI, if_true, ite_true, if_false, ite_false, Bool.false_eq_true, ne_int, eq_int, ne_bl, eq_bl, ne_str, eq_str, ixD_t0, ixD_t1, ixD_t2, ixD_l0, ixD_l1, ixD_l2, ite_ok, ite_bl, ite_rt, isi_int_non, isi_int_bl, isi_int_int, isi_int_str, isi_int_tup, isi_int_lst, isi_bool_non, isi_bool_bl, isi_bool_int, isi_bool_str, isi_bool_tup, isi_bool_lst, isi_str_non, isi_str_bl, isi_str_int, isi_str_str, isi_str_tup, isi_str_lst, isi_tuple_non, isi_tuple_bl, isi_tuple_int, isi_tuple_str, isi_tuple_tup, isi_tuple_lst, isi_list_non, isi_list_bl, isi_list_int, isi_list_str, isi_list_tup, isi_list_lst]
  | x0 :: x1 :: x2 :: r, _ =>
    have e : isRow 2 2 (.tup (x0 :: x1 :: x2 :: r)) = false := by
      unfold isRow
      rw [Bool.and_eq_false_iff]
      right
      simp only [List.length_cons]
      exact decide_eq_false (by omega)
    simp [e, confB, mOf, dRet, dRetN, dSeq, dNext, dIfS, dTr, dNot, dAnd, dOr, dB, dAndV, dOrV, dNotV, dBin, dChain, dCall, dCallD, dCallK, dCallB, dCons, dNil, dTup, dLst, dF, dC, dVar, dOwn, dV, dO, dAsg, dIsi, dSl, dPart, dNoPart, dIf, dMb, dBinL, dListOf, dDrop, dRaise, dWalk, dRng, walkD, R.bind_ok, R.bind_ex, R.bind_bad, R.map, R.out_ok, R.out_ex, R.out_bad, ofO, truD, asB, asI, List.map_cons, List.map_nil, List.length_cons, List.length_nil, Nat.reduceAdd, Nat.reduceSub, List.replicate, List.cons_append, List.nil_append, List.getElem?_cons_zero, List.getElem?_cons_succ, List.set_cons_zero, List.set_cons_succ, frz_nil, frzs_nil, Option.bind_some, Option.map_some, leD, ltD, geD, gtD, cmpI, if_true, ite_true, if_false, ite_false, Bool.false_eq_true, ne_int, eq_int, ne_bl, eq_bl, ne_str, eq_str, ixD_t0, ixD_t1, ixD_t2, ixD_l0, ixD_l1, ixD_l2, ite_ok, ite_bl, ite_rt, isi_int_non, isi_int_bl, isi_int_int, isi_int_str, isi_int_tup, isi_int_lst, isi_bool_non, isi_bool_bl, isi_bool_int, isi_bool_str, isi_bool_tup, isi_bool_lst, isi_str_non, isi_str_bl, isi_str_int, isi_str_str, isi_str_tup, isi_str_lst, isi_tuple_non, isi_tuple_bl, isi_tuple_int, isi_tuple_str, isi_tuple_tup, isi_tuple_lst, isi_list_non, isi_list_bl, isi_list_int, isi_list_str, isi_list_tup, isi_list_lst]
  | [c, w], h =>
    simp only [fine, Bool.and_eq_true] at h
    simp [isRow, confB, is_control_of_ev h.1 hs, are_words_of_ev h.2, mOf, dRet, dRetN, dSeq, dNext, dIfS, dTr, dNot, dAnd, dOr, dB, dAndV, dOrV, dNotV, dBin, dChain, dCall, dCallD, dCallK, dCallB, dCons, dNil, dTup, dLst, dF, dC, dVar, dOwn, dV, dO, dAsg, dIsi, dSl, dPart, dNoPart, dIf, dMb, dBinL, dListOf, dDrop, dRaise, dWalk, dRng, walkD, R.bind_ok, R.bind_ex, R.bind_bad, R.map, R.out_ok, R.out_ex, R.out_bad, ofO, truD, asB, asI, List.map_cons, List.map_nil, List.length_cons, List.length_nil, Nat.reduceAdd, Nat.reduceSub, List.replicate, List.cons_append, List.nil_append, List.getElem?_cons_zero, List.getElem?_cons_succ, List.set_cons_zero, List.set_cons_succ, frz_nil, frzs_nil, Option.bind_some, Option.map_some, leD, ltD, geD, gtD, cmpI, if_true, ite_true, if_false, ite_false, Bool.false_eq_true, ne_int, eq_int, ne_bl, eq_bl, ne_str, eq_str, ixD_t0, ixD_t1, ixD_t2, ixD_l0, ixD_l1, ixD_l2, ite_ok, ite_bl, ite_rt, isi_int_non, isi_int_bl, isi_int_int, isi_int_str, isi_int_tup, isi_int_lst, isi_bool_non, isi_bool_bl, isi_bool_int, isi_bool_str, isi_bool_tup, isi_bool_lst, isi_str_non, isi_str_bl, isi_str_int, isi_str_str, isi_str_tup, isi_str_lst, isi_tuple_non, isi_tuple_bl, isi_tuple_int, isi_tuple_str, isi_tuple_tup, isi_tuple_lst, isi_list_non, isi_list_bl, isi_list_int, isi_list_str, isi_list_tup, isi_list_lst]
    cases ctl sz c <;> simp
/-! ### the judge -/
theorem ne_nil {ds : List D} (h : ds.all (fit 63) = true) : neO (.lst ds) (.lst []) = some (.bl (!ds.isEmpty)) := by
  have f1 : fit 64 (.lst ds) = true := h
  have f2 : fit 64 (.lst []) = true := rfl
  unfold neO eqF
  rw [f1, f2]
  cases ds <;> rfl
theorem judge_word {a b : Int} {sz : List Int} {x5 x6 x7 : Option Sl} {w t : D} (h : bas w = true) : L__law_judge_1 [some (.val (SigP a b sz)), some (.val t), some (.val (.int a)), some (.val (.int b)), some (.val (Sz sz)), some (.val w), x6, x7] s =
    if wordB a 60 w then .nx [some (.val (SigP a b sz)), some (.val t), some (.val (.int a)), some (.val (.int b)), some (.val (Sz sz)), some (.val w), x6, x7] s else .rt (.bl false) s := by
  cases w <;> simp only [bas, Bool.false_eq_true] at h <;> simp only [L__law_judge_1, wordB, mOf, dRet, dRetN, dSeq, dNext, dIfS, dTr, dNot, dAnd, dOr, dB, dAndV, dOrV, dNotV, dBin, dChain, dCall, dCallD, dCallK, dCallB, dCons, dNil, dTup, dLst, dF, dC, dVar, dOwn, dV, dO, dAsg, dIsi, dSl, dPart, dNoPart, dIf, dMb, dBinL, dListOf, dDrop, dRaise, dWalk, dRng, walkD, R.bind_ok, R.bind_ex, R.bind_bad, R.map, R.out_ok, R.out_ex, R.out_bad, ofO, truD, asB, asI, List.map_cons, List.map_nil, List.length_cons, List.length_nil, Nat.reduceAdd, Nat.reduceSub, List.replicate, List.cons_append, List.nil_append, List.getElem?_cons_zero, List.getElem?_cons_succ, List.set_cons_zero, List.set_cons_succ, frz_nil, frzs_nil, Option.bind_some, Option.map_some, leD, ltD, geD, gtD, cmpI, if_true, ite_true, if_false, ite_false, Bool.false_eq_true, ne_int, eq_int, ne_bl, eq_bl, ne_str, eq_str, ixD_t0, ixD_t1, ixD_t2, ixD_l0, ixD_l1, ixD_l2, ite_ok, ite_bl, ite_rt, isi_int_non, isi_int_bl, isi_int_int, isi_int_str, isi_int_tup, isi_int_lst, isi_bool_non, isi_bool_bl, isi_bool_int, isi_bool_str, isi_bool_tup, isi_bool_lst, isi_str_non, isi_str_bl, isi_str_int, isi_str_str, isi_str_tup, isi_str_lst, isi_tuple_non, isi_tuple_bl, isi_tuple_int, isi_tuple_str, isi_tuple_tup, isi_tuple_lst, isi_list_non, isi_list_bl, isi_list_int, isi_list_str, isi_list_tup, isi_list_lst] <;> try (simp; done)
  rename_i l
  by_cases z : (60 : Int) < (l.length : Int)
  · have z' : ¬ ((l.length : Int) ≤ 60) := by omega
    simp [z, z', lenD, mOf, dRet, dRetN, dSeq, dNext, dIfS, dTr, dNot, dAnd, dOr, dB, dAndV, dOrV, dNotV, dBin, dChain, dCall, dCallD, dCallK, dCallB, dCons, dNil, dTup, dLst, dF, dC, dVar, dOwn, dV, dO, dAsg, dIsi, dSl, dPart, dNoPart, dIf, dMb, dBinL, dListOf, dDrop, dRaise, dWalk, dRng, walkD, R.bind_ok, R.bind_ex, R.bind_bad, R.map, R.out_ok, R.out_ex, R.out_bad, ofO, truD, asB, asI, List.map_cons, List.map_nil, List.length_cons, List.length_nil, Nat.reduceAdd, Nat.reduceSub, List.replicate, List.cons_append, List.nil_append, List.getElem?_cons_zero, List.getElem?_cons_succ, List.set_cons_zero, List.set_cons_succ, frz_nil, frzs_nil, Option.bind_some, Option.map_some, leD, ltD, geD, gtD, cmpI, if_true, ite_true, if_false, ite_false, Bool.false_eq_true, ne_int, eq_int, ne_bl, eq_bl, ne_str, eq_str, ixD_t0, ixD_t1, ixD_t2, ixD_l0, ixD_l1, ixD_l2, ite_ok, ite_bl, ite_rt, isi_int_non, isi_int_bl, isi_int_int, isi_int_str, isi_int_tup, isi_int_lst, isi_bool_non, isi_bool_bl, isi_bool_int, isi_bool_str, isi_bool_tup, isi_bool_lst, isi_str_non, isi_str_bl, isi_str_int, isi_str_str, isi_str_tup, isi_str_lst, isi_tuple_non, isi_tuple_bl, isi_tuple_int, isi_tuple_str, isi_tuple_tup, isi_tuple_lst, isi_list_non, isi_list_bl, isi_list_int, isi_list_str, isi_list_tup, isi_list_lst]
  · have z' : (l.length : Int) ≤ 60 := by omega
    simp [z, lenD, mOf, dRet, dRetN, dSeq, dNext, dIfS, dTr, dNot, dAnd, dOr, dB, dAndV, dOrV, dNotV, dBin, dChain, dCall, dCallD, dCallK, dCallB, dCons, dNil, dTup, dLst, dF, dC, dVar, dOwn, dV, dO, dAsg, dIsi, dSl, dPart, dNoPart, dIf, dMb, dBinL, dListOf, dDrop, dRaise, dWalk, dRng, walkD, R.bind_ok, R.bind_ex, R.bind_bad, R.map, R.out_ok, R.out_ex, R.out_bad, ofO, truD, asB, asI, List.map_cons, List.map_nil, List.length_cons, List.length_nil, Nat.reduceAdd, Nat.reduceSub, List.replicate, List.cons_append, List.nil_append, List.getElem?_cons_zero, List.getElem?_cons_succ, List.set_cons_zero, List.set_cons_succ, frz_nil, frzs_nil, Option.bind_some, Option.map_some, leD, ltD, geD, gtD, cmpI, if_true, ite_true, if_false, ite_false, Bool.false_eq_true, ne_int, eq_int, ne_bl, eq_bl, ne_str, eq_str, ixD_t0, ixD_t1, ixD_t2, ixD_l0, ixD_l1, ixD_l2, ite_ok, ite_bl, ite_rt, isi_int_non, isi_int_bl, isi_int_int, isi_int_str, isi_int_tup, isi_int_lst, isi_bool_non, isi_bool_bl, isi_bool_int, isi_bool_str, isi_bool_tup, isi_bool_lst, isi_str_non, isi_str_bl, isi_str_int, isi_str_str, isi_str_tup, isi_str_lst, isi_tuple_non, isi_tuple_bl, isi_tuple_int, isi_tuple_str, isi_tuple_tup, isi_tuple_lst, isi_list_non, isi_list_bl, isi_list_int, isi_list_str, isi_list_tup, isi_list_lst]
    rw [dLc_if l (fun c => .str [c]) (fun c => !(alph a).contains c) (fun c => .str [c]) (s' := s) rfl (by omega) fun c hc => ⟨_, rfl, rfl, fun _ => rfl⟩]
    simp only [R.bind_ok]
    rw [ne_nil (by simp [fit])]
    by_cases al : ∀ x ∈ l, x ∈ alph a
    · have e : (List.filter (fun c => !(alph a).contains c) l) = [] := by
        rw [List.filter_eq_nil_iff]
        intro x hx
        simp [al x hx]
      rw [e]
      simp [z', mOf, dRet, dRetN, dSeq, dNext, dIfS, dTr, dNot, dAnd, dOr, dB, dAndV, dOrV, dNotV, dBin, dChain, dCall, dCallD, dCallK, dCallB, dCons, dNil, dTup, dLst, dF, dC, dVar, dOwn, dV, dO, dAsg, dIsi, dSl, dPart, dNoPart, dIf, dMb, dBinL, dListOf, dDrop, dRaise, dWalk, dRng, walkD, R.bind_ok, R.bind_ex, R.bind_bad, R.map, R.out_ok, R.out_ex, R.out_bad, ofO, truD, asB, asI, List.map_cons, List.map_nil, List.length_cons, List.length_nil, Nat.reduceAdd, Nat.reduceSub, List.replicate, List.cons_append, List.nil_append, List.getElem?_cons_zero, List.getElem?_cons_succ, List.set_cons_zero, List.set_cons_succ, frz_nil, frzs_nil, Option.bind_some, Option.map_some, leD, ltD, geD, gtD, cmpI, if_true, ite_true, if_false, ite_false, Bool.false_eq_true, ne_int, eq_int, ne_bl, eq_bl, ne_str, eq_str, ixD_t0, ixD_t1, ixD_t2, ixD_l0, ixD_l1, ixD_l2, ite_ok, ite_bl, ite_rt, isi_int_non, isi_int_bl, isi_int_int, isi_int_str, isi_int_tup, isi_int_lst, isi_bool_non, isi_bool_bl, isi_bool_int, isi_bool_str, isi_bool_tup, isi_bool_lst, isi_str_non, isi_str_bl, isi_str_int, isi_str_str, isi_str_tup, isi_str_lst, isi_tuple_non, isi_tuple_bl, isi_tuple_int, isi_tuple_str, isi_tuple_tup, isi_tuple_lst, isi_list_non, isi_list_bl, isi_list_int, isi_list_str, isi_list_tup, isi_list_lst]
      exact al
    · have e : (List.filter (fun c => !(alph a).contains c) l).isEmpty = false := by
        cases q : List.filter (fun c => !(alph a).contains c) l with
        | cons _ _ => rfl
        | nil =>
          rw [List.filter_eq_nil_iff] at q
          exact absurd (fun x hx => by simpa using q x hx) al
      simp [z', al, e, mOf, dRet, dRetN, dSeq, dNext, dIfS, dTr, dNot, dAnd, dOr, dB, dAndV, dOrV, dNotV, dBin, dChain, dCall, dCallD, dCallK, dCallB, dCons, dNil, dTup, dLst, dF, dC, dVar, dOwn, dV, dO, dAsg, dIsi, dSl, dPart, dNoPart, dIf, dMb, dBinL, dListOf, dDrop, dRaise, dWalk, dRng, walkD, R.bind_ok, R.bind_ex, R.bind_bad, R.map, R.out_ok, R.out_ex, R.out_bad, ofO, truD, asB, asI, List.map_cons, List.map_nil, List.length_cons, List.length_nil, Nat.reduceAdd, Nat.reduceSub, List.replicate, List.cons_append, List.nil_append, List.getElem?_cons_zero, List.getElem?_cons_succ, List.set_cons_zero, List.set_cons_succ, frz_nil, frzs_nil, Option.bind_some, Option.map_some, leD, ltD, geD, gtD, cmpI, if_true, ite_true, if_false, ite_false, Bool.false_eq_true, ne_int, eq_int, ne_bl, eq_bl, ne_str, eq_str, ixD_t0, ixD_t1, ixD_t2, ixD_l0, ixD_l1, ixD_l2, ite_ok, ite_bl, ite_rt, isi_int_non, isi_int_bl, isi_int_int, isi_int_str, isi_int_tup, isi_int_lst, isi_bool_non, isi_bool_bl, isi_bool_int, isi_bool_str, isi_bool_tup, isi_bool_lst, isi_str_non, isi_str_bl, isi_str_int, isi_str_str, isi_str_tup, isi_str_lst, isi_tuple_non, isi_tuple_bl, isi_tuple_int, isi_tuple_str, isi_tuple_tup, isi_tuple_lst, isi_list_non, isi_list_bl, isi_list_int, isi_list_str, isi_list_tup, isi_list_lst]
theorem judge_loop {a b : Int} {sz : List Int} {x6 x7 : Option Sl} {t : D} : ∀ (ws : List D) (x5 : Option Sl), ws.all bas = true →
    if ws.all (wordB a 60) then ∃ y5, forL (gN 5) L__law_judge_1 ws [some (.val (SigP a b sz)), some (.val t), some (.val (.int a)), some (.val (.int b)), some (.val (Sz sz)), x5, x6, x7] s = .nx [some (.val (SigP a b sz)), some (.val t), some (.val (.int a)), some (.val (.int b)), some (.val (Sz sz)), y5, x6, x7] s
    else forL (gN 5) L__law_judge_1 ws [some (.val (SigP a b sz)), some (.val t), some (.val (.int a)), some (.val (.int b)), some (.val (Sz sz)), x5, x6, x7] s = .rt (.bl false) s
  | [], x5, _ => ⟨x5, rfl⟩
  | w :: ws, x5, h => by
    rw [List.all_cons, Bool.and_eq_true] at h
    have ih := judge_loop (a := a) (b := b) (sz := sz) (x6 := x6) (x7 := x7) (t := t) ws (some (.val w)) h.2
    have e := judge_word (s := s) (a := a) (b := b) (sz := sz) (x6 := x6) (x7 := x7) (t := t) (x5 := none) h.1
    cases z : wordB a 60 w
    · rw [List.all_cons, z]
      rw [z] at e
      exact forL_rt rfl e
    · rw [List.all_cons, z, Bool.true_and]
      rw [z] at e
      have u := forL_nx (g := gN 5) (ds := L__law_judge_1) (d := w) (r := ws) (ρ := [some (.val (SigP a b sz)), some (.val t), some (.val (.int a)), some (.val (.int b)), some (.val (Sz sz)), x5, x6, x7]) rfl e
      rw [u]
      exact ih
theorem zip_all {α β : Type} (f : α → β → Bool) : ∀ (xs : List α) (ys : List β), xs.length = ys.length → ∀ (a : α) (b : β), ((List.range ys.length).all fun k => f (xs.getD k a) (ys.getD k b)) = (xs.zip ys).all fun x => f x.1 x.2
  | [], [], _, _, _ => rfl
  | x :: xs, y :: ys, h, a, b => by
    have ih := zip_all f xs ys (by simpa using h) a b
    rw [List.length_cons, List.range_succ_eq_map, List.all_cons, List.all_map, List.zip_cons_cons, List.all_cons, ← ih]
    simp [Function.comp_def]
theorem law_judge_ev (h : fine d = true) {a b : Int} {sz : List Int} (hs : sz.length ≤ 3) : m__law_judge [SigP a b sz, d] s = .ok (.bl (confB a b sz d)) s := by
  simp only [m__law_judge, d__law_judge, dAsgT, gT, gsCons, gsNil, gN, mOf, dRet, dRetN, dSeq, dNext, dIfS, dTr, dNot, dAnd, dOr, dB, dAndV, dOrV, dNotV, dBin, dChain, dCall, dCallD, dCallK, dCallB, dCons, dNil, dTup, dLst, dF, dC, dVar, dOwn, dV, dO, dAsg, dIsi, dSl, dPart, dNoPart, dIf, dMb, dBinL, dListOf, dDrop, dRaise, dWalk, dRng, walkD, R.bind_ok, R.bind_ex, R.bind_bad, R.map, R.out_ok, R.out_ex, R.out_bad, ofO, truD, asB, asI, List.map_cons, List.map_nil, List.length_cons, List.length_nil, Nat.reduceAdd, Nat.reduceSub, List.replicate, List.cons_append, List.nil_append, List.getElem?_cons_zero, List.getElem?_cons_succ, List.set_cons_zero, List.set_cons_succ, frz_nil, frzs_nil, Option.bind_some, Option.map_some, leD, ltD, geD, gtD, cmpI, if_true, ite_true, if_false, ite_false, Bool.false_eq_true, ne_int, eq_int, ne_bl, eq_bl, ne_str, eq_str, ixD_t0, ixD_t1, ixD_t2, ixD_l0, ixD_l1, ixD_l2, ite_ok, ite_bl, ite_rt, isi_int_non, isi_int_bl, isi_int_int, isi_int_str, isi_int_tup, isi_int_lst, isi_bool_non, isi_bool_bl, isi_bool_int, isi_bool_str, isi_bool_tup, isi_bool_lst, isi_str_non, isi_str_bl, isi_str_int, isi_str_str, isi_str_tup, isi_str_lst, isi_tuple_non, isi_tuple_bl, isi_tuple_int, isi_tuple_str, isi_tuple_tup, isi_tuple_lst, isi_list_non, isi_list_bl, isi_list_int, isi_list_str, isi_list_tup, isi_list_lst]
  cases d <;> try (simp [confB, mOf, dRet, dRetN, dSeq, dNext, dIfS, dTr, dNot, dAnd, dOr, dB, dAndV, dOrV, dNotV, dBin, dChain, dCall, dCallD, dCallK, dCallB, dCons, dNil, dTup, dLst, dF, dC, dVar, dOwn, dV, dO, dAsg, dIsi, dSl, dPart, dNoPart, dIf, dMb, dBinL, dListOf, dDrop, dRaise, dWalk, dRng, walkD, R.bind_ok, R.bind_ex, R.bind_bad, R.map, R.out_ok, R.out_ex, R.out_bad, ofO, truD, asB, asI, List.map_cons, List.map_nil, List.length_cons, List.length_nil, Nat.reduceAdd, Nat.reduceSub, List.replicate, List.cons_append, List.nil_append, List.getElem?_cons_zero, List.getElem?_cons_succ, List.set_cons_zero, List.set_cons_succ, frz_nil, frzs_nil, Option.bind_some, Option.map_some, leD, ltD, geD, gtD, cmpI, if_true, ite_true, if_false, ite_false, Bool.false_eq_true, ne_int, eq_int, ne_bl, eq_bl, ne_str, eq_str, ixD_t0, ixD_t1, ixD_t2, ixD_l0, ixD_l1, ixD_l2, ite_ok, ite_bl, ite_rt, isi_int_non, isi_int_bl, isi_int_int, isi_int_str, isi_int_tup, isi_int_lst, isi_bool_non, isi_bool_bl, isi_bool_int, isi_bool_str, isi_bool_tup, isi_bool_lst, isi_str_non, isi_str_bl, isi_str_int, isi_str_str, isi_str_tup, isi_str_lst, isi_tuple_non, isi_tuple_bl, isi_tuple_int, isi_tuple_str, isi_tuple_tup, isi_tuple_lst, isi_list_non, isi_list_bl, isi_list_int, isi_list_str, isi_list_tup, isi_list_lst]; done)
  case tup ds =>
    match ds, h with
    | [], _ => simp [lenD, confB, mOf, dRet, dRetN, dSeq, dNext, dIfS, dTr, dNot, dAnd, dOr, dB, dAndV, dOrV, dNotV, dBin, dChain, dCall, dCallD, dCallK, dCallB, dCons, dNil, dTup, dLst, dF, dC, dVar, dOwn, dV, dO, dAsg, dIsi, dSl, dPart, dNoPart, dIf, dMb, dBinL, dListOf, dDrop, dRaise, dWalk, dRng, walkD, R.bind_ok, R.bind_ex, R.bind_bad, R.map, R.out_ok, R.out_ex, R.out_bad, ofO, truD, asB, asI, List.map_cons, List.map_nil, List.length_cons, List.length_nil, Nat.reduceAdd, Nat.reduceSub, List.replicate, List.cons_append, List.nil_append, List.getElem?_cons_zero, List.getElem?_cons_succ, List.set_cons_zero, List.set_cons_succ, frz_nil, frzs_nil, Option.bind_some, Option.map_some, leD, ltD, geD, gtD, cmpI, if_true, ite_true, if_false, ite_false, Bool.false_eq_true, ne_int, eq_int, ne_bl, eq_bl, ne_str, eq_str, ixD_t0, ixD_t1, ixD_t2, ixD_l0, ixD_l1, ixD_l2, ite_ok, ite_bl, ite_rt, isi_int_non, isi_int_bl, isi_int_int, isi_int_str, isi_int_tup, isi_int_lst, isi_bool_non, isi_bool_bl, isi_bool_int, isi_bool_str, isi_bool_tup, isi_bool_lst, isi_str_non, isi_str_bl, isi_str_int, isi_str_str, isi_str_tup, isi_str_lst, isi_tuple_non, isi_tuple_bl, isi_tuple_int, isi_tuple_str, isi_tuple_tup, isi_tuple_lst, isi_list_non, isi_list_bl, isi_list_int, isi_list_str, isi_list_tup, isi_list_lst]
    | [_], _ => simp [lenD, confB, mOf, dRet, dRetN, dSeq, dNext, dIfS, dTr, dNot, dAnd, dOr, dB, dAndV, dOrV, dNotV, dBin, dChain, dCall, dCallD, dCallK, dCallB, dCons, dNil, dTup, dLst, dF, dC, dVar, dOwn, dV, dO, dAsg, dIsi, dSl, dPart, dNoPart, dIf, dMb, dBinL, dListOf, dDrop, dRaise, dWalk, dRng, walkD, R.bind_ok, R.bind_ex, R.bind_bad, R.map, R.out_ok, R.out_ex, R.out_bad, ofO, truD, asB, asI, List.map_cons, List.map_nil, List.length_cons, List.length_nil, Nat.reduceAdd, Nat.reduceSub, List.replicate, List.cons_append, List.nil_append, List.getElem?_cons_zero, List.getElem?_cons_succ, List.set_cons_zero, List.set_cons_succ, frz_nil, frzs_nil, Option.bind_some, Option.map_some, leD, ltD, geD, gtD, cmpI, if_true, ite_true, if_false, ite_false, Bool.false_eq_true, ne_int, eq_int, ne_bl, eq_bl, ne_str, eq_str, ixD_t0, ixD_t1, ixD_t2, ixD_l0, ixD_l1, ixD_l2, ite_ok, ite_bl, ite_rt, isi_int_non, isi_int_bl, isi_int_int, isi_int_str, isi_int_tup, isi_int_lst, isi_bool_non, isi_bool_bl, isi_bool_int, isi_bool_str, isi_bool_tup, isi_bool_lst, isi_str_non, isi_str_bl, isi_str_int, isi_str_str, isi_str_tup, isi_str_lst, isi_tuple_non, isi_tuple_bl, isi_tuple_int, isi_tuple_str, isi_tuple_tup, isi_tuple_lst, isi_list_non, isi_list_bl, isi_list_int, isi_list_str, isi_list_tup, isi_list_lst]
    | x0 :: x1 :: x2 :: r, _ =>
      have e : ¬ ((r.length : Int) + 1 + 1 + 1 = 2) := by omega
      simp [lenD, confB, e, mOf, dRet, dRetN, dSeq, dNext, dIfS, dTr, dNot, dAnd, dOr, dB, dAndV, dOrV, dNotV, dBin, dChain, dCall, dCallD, dCallK, dCallB, dCons, dNil, dTup, dLst, dF, dC, dVar, dOwn, dV, dO, dAsg, dIsi, dSl, dPart, dNoPart, dIf, dMb, dBinL, dListOf, dDrop, dRaise, dWalk, dRng, walkD, R.bind_ok, R.bind_ex, R.bind_bad, R.map, R.out_ok, R.out_ex, R.out_bad, ofO, truD, asB, asI, List.map_cons, List.map_nil, List.length_cons, List.length_nil, Nat.reduceAdd, Nat.reduceSub, List.replicate, List.cons_append, List.nil_append, List.getElem?_cons_zero, List.getElem?_cons_succ, List.set_cons_zero, List.set_cons_succ, frz_nil, frzs_nil, Option.bind_some, Option.map_some, leD, ltD, geD, gtD, cmpI, if_true, ite_true, if_false, ite_false, Bool.false_eq_true, ne_int, eq_int, ne_bl, eq_bl, ne_str, eq_str, ixD_t0, ixD_t1, ixD_t2, ixD_l0, ixD_l1, ixD_l2, ite_ok, ite_bl, ite_rt, isi_int_non, isi_int_bl, isi_int_int, isi_int_str, isi_int_tup, isi_int_lst, isi_bool_non, isi_bool_bl, isi_bool_int, isi_bool_str, isi_bool_tup, isi_bool_lst, isi_str_non, isi_str_bl, isi_str_int, isi_str_str, isi_str_tup, isi_str_lst, isi_tuple_non, isi_tuple_bl, isi_tuple_int, isi_tuple_str, isi_tuple_tup, isi_tuple_lst, isi_list_non, isi_list_bl, isi_list_int, isi_list_str, isi_list_tup, isi_list_lst]
    | [c, w], h =>
      simp only [fine, Bool.and_eq_true] at h
      cases c <;> try (simp [confB, ctl, lenD, mOf, dRet, dRetN, dSeq, dNext, dIfS, dTr, dNot, dAnd, dOr, dB, dAndV, dOrV, dNotV, dBin, dChain, dCall, dCallD, dCallK, dCallB, dCons, dNil, dTup, dLst, dF, dC, dVar, dOwn, dV, dO, dAsg, dIsi, dSl, dPart, dNoPart, dIf, dMb, dBinL, dListOf, dDrop, dRaise, dWalk, dRng, walkD, R.bind_ok, R.bind_ex, R.bind_bad, R.map, R.out_ok, R.out_ex, R.out_bad, ofO, truD, asB, asI, List.map_cons, List.map_nil, List.length_cons, List.length_nil, Nat.reduceAdd, Nat.reduceSub, List.replicate, List.cons_append, List.nil_append, List.getElem?_cons_zero, List.getElem?_cons_succ, List.set_cons_zero, List.set_cons_succ, frz_nil, frzs_nil, Option.bind_some, Option.map_some, leD, ltD, geD, gtD, cmpI, if_true, ite_true, if_false, ite_false, Bool.false_eq_true, ne_int, eq_int, ne_bl, eq_bl, ne_str, eq_str, ixD_t0, ixD_t1, ixD_t2, ixD_l0, ixD_l1, ixD_l2, ite_ok, ite_bl, ite_rt, isi_int_non, isi_int_bl, isi_int_int, isi_int_str, isi_int_tup, isi_int_lst, isi_bool_non, isi_bool_bl, isi_bool_int, isi_bool_str, isi_bool_tup, isi_bool_lst, isi_str_non, isi_str_bl, isi_str_int, isi_str_str, isi_str_tup, isi_str_lst, isi_tuple_non, isi_tuple_bl, isi_tuple_int, isi_tuple_str, isi_tuple_tup, isi_tuple_lst, isi_list_non, isi_list_bl, isi_list_int, isi_list_str, isi_list_tup, isi_list_lst]; done)
      case tup cs =>
        cases w <;> try (simp [confB, ctl, wds, lenD, mOf, dRet, dRetN, dSeq, dNext, dIfS, dTr, dNot, dAnd, dOr, dB, dAndV, dOrV, dNotV, dBin, dChain, dCall, dCallD, dCallK, dCallB, dCons, dNil, dTup, dLst, dF, dC, dVar, dOwn, dV, dO, dAsg, dIsi, dSl, dPart, dNoPart, dIf, dMb, dBinL, dListOf, dDrop, dRaise, dWalk, dRng, walkD, R.bind_ok, R.bind_ex, R.bind_bad, R.map, R.out_ok, R.out_ex, R.out_bad, ofO, truD, asB, asI, List.map_cons, List.map_nil, List.length_cons, List.length_nil, Nat.reduceAdd, Nat.reduceSub, List.replicate, List.cons_append, List.nil_append, List.getElem?_cons_zero, List.getElem?_cons_succ, List.set_cons_zero, List.set_cons_succ, frz_nil, frzs_nil, Option.bind_some, Option.map_some, leD, ltD, geD, gtD, cmpI, if_true, ite_true, if_false, ite_false, Bool.false_eq_true, ne_int, eq_int, ne_bl, eq_bl, ne_str, eq_str, ixD_t0, ixD_t1, ixD_t2, ixD_l0, ixD_l1, ixD_l2, ite_ok, ite_bl, ite_rt, isi_int_non, isi_int_bl, isi_int_int, isi_int_str, isi_int_tup, isi_int_lst, isi_bool_non, isi_bool_bl, isi_bool_int, isi_bool_str, isi_bool_tup, isi_bool_lst, isi_str_non, isi_str_bl, isi_str_int, isi_str_str, isi_str_tup, isi_str_lst, isi_tuple_non, isi_tuple_bl, isi_tuple_int, isi_tuple_str, isi_tuple_tup, isi_tuple_lst, isi_list_non, isi_list_bl, isi_list_int, isi_list_str, isi_list_tup, isi_list_lst]; done)
        case tup ws =>
          simp only [basT, Bool.and_eq_true, decide_eq_true_eq] at h
          obtain ⟨⟨h1, h2⟩, h3, h4⟩ := h
          by_cases z1 : cs.length = sz.length
          · by_cases z2 : (ws.length : Int) = b
            · have L := judge_loop (s := s) (a := a) (b := b) (sz := sz) (x6 := none) (x7 := none) (t := .tup [.tup cs, .tup ws]) ws none h3
              simp [confB, ctl, wds, lenD, z1, z2, mOf, dRet, dRetN, dSeq, dNext, dIfS, dTr, dNot, dAnd, dOr, dB, dAndV, dOrV, dNotV, dBin, dChain, dCall, dCallD, dCallK, dCallB, dCons, dNil, dTup, dLst, dF, dC, dVar, dOwn, dV, dO, dAsg, dIsi, dSl, dPart, dNoPart, dIf, dMb, dBinL, dListOf, dDrop, dRaise, dWalk, dRng, walkD, R.bind_ok, R.bind_ex, R.bind_bad, R.map, R.out_ok, R.out_ex, R.out_bad, ofO, truD, asB, asI, List.map_cons, List.map_nil, List.length_cons, List.length_nil, Nat.reduceAdd, Nat.reduceSub, List.replicate, List.cons_append, List.nil_append, List.getElem?_cons_zero, List.getElem?_cons_succ, List.set_cons_zero, List.set_cons_succ, frz_nil, frzs_nil, Option.bind_some, Option.map_some, leD, ltD, geD, gtD, cmpI, if_true, ite_true, if_false, ite_false, Bool.false_eq_true, ne_int, eq_int, ne_bl, eq_bl, ne_str, eq_str, ixD_t0, ixD_t1, ixD_t2, ixD_l0, ixD_l1, ixD_l2, ite_ok, ite_bl, ite_rt, isi_int_non, isi_int_bl, isi_int_int, isi_int_str, isi_int_tup, isi_int_lst, isi_bool_non, isi_bool_bl, isi_bool_int, isi_bool_str, isi_bool_tup, isi_bool_lst, isi_str_non, isi_str_bl, isi_str_int, isi_str_str, isi_str_tup, isi_str_lst, isi_tuple_non, isi_tuple_bl, isi_tuple_int, isi_tuple_str, isi_tuple_tup, isi_tuple_lst, isi_list_non, isi_list_bl, isi_list_int, isi_list_str, isi_list_tup, isi_list_lst]
              rw [dLc_ev (List.range sz.length) (fun k => .int (k : Int)) (fun k => .bl (inR 0 (sz.getD k 0 - 1) (cs.getD k .non))) (s' := s) ?_ ?_ ?_]
              · have hq := zip_all (fun x y => inR 0 (y - 1) x) cs sz z1 D.non 0
                simp only [R.bind_ok, allD_ev, hq, mOf, dRet, dRetN, dSeq, dNext, dIfS, dTr, dNot, dAnd, dOr, dB, dAndV, dOrV, dNotV, dBin, dChain, dCall, dCallD, dCallK, dCallB, dCons, dNil, dTup, dLst, dF, dC, dVar, dOwn, dV, dO, dAsg, dIsi, dSl, dPart, dNoPart, dIf, dMb, dBinL, dListOf, dDrop, dRaise, dWalk, dRng, walkD, R.bind_ok, R.bind_ex, R.bind_bad, R.map, R.out_ok, R.out_ex, R.out_bad, ofO, truD, asB, asI, List.map_cons, List.map_nil, List.length_cons, List.length_nil, Nat.reduceAdd, Nat.reduceSub, List.replicate, List.cons_append, List.nil_append, List.getElem?_cons_zero, List.getElem?_cons_succ, List.set_cons_zero, List.set_cons_succ, frz_nil, frzs_nil, Option.bind_some, Option.map_some, leD, ltD, geD, gtD, cmpI, if_true, ite_true, if_false, ite_false, Bool.false_eq_true, ne_int, eq_int, ne_bl, eq_bl, ne_str, eq_str, ixD_t0, ixD_t1, ixD_t2, ixD_l0, ixD_l1, ixD_l2, ite_ok, ite_bl, ite_rt, isi_int_non, isi_int_bl, isi_int_int, isi_int_str, isi_int_tup, isi_int_lst, isi_bool_non, isi_bool_bl, isi_bool_int, isi_bool_str, isi_bool_tup, isi_bool_lst, isi_str_non, isi_str_bl, isi_str_int, isi_str_str, isi_str_tup, isi_str_lst, isi_tuple_non, isi_tuple_bl, isi_tuple_int, isi_tuple_str, isi_tuple_tup, isi_tuple_lst, isi_list_non, isi_list_bl, isi_list_int, isi_list_str, isi_list_tup, isi_list_lst]
                cases zz : (cs.zip sz).all fun x => inR 0 (x.2 - 1) x.1
                · simp
                · simp [dFor, mOf, dRet, dRetN, dSeq, dNext, dIfS, dTr, dNot, dAnd, dOr, dB, dAndV, dOrV, dNotV, dBin, dChain, dCall, dCallD, dCallK, dCallB, dCons, dNil, dTup, dLst, dF, dC, dVar, dOwn, dV, dO, dAsg, dIsi, dSl, dPart, dNoPart, dIf, dMb, dBinL, dListOf, dDrop, dRaise, dWalk, dRng, walkD, R.bind_ok, R.bind_ex, R.bind_bad, R.map, R.out_ok, R.out_ex, R.out_bad, ofO, truD, asB, asI, List.map_cons, List.map_nil, List.length_cons, List.length_nil, Nat.reduceAdd, Nat.reduceSub, List.replicate, List.cons_append, List.nil_append, List.getElem?_cons_zero, List.getElem?_cons_succ, List.set_cons_zero, List.set_cons_succ, frz_nil, frzs_nil, Option.bind_some, Option.map_some, leD, ltD, geD, gtD, cmpI, if_true, ite_true, if_false, ite_false, Bool.false_eq_true, ne_int, eq_int, ne_bl, eq_bl, ne_str, eq_str, ixD_t0, ixD_t1, ixD_t2, ixD_l0, ixD_l1, ixD_l2, ite_ok, ite_bl, ite_rt, isi_int_non, isi_int_bl, isi_int_int, isi_int_str, isi_int_tup, isi_int_lst, isi_bool_non, isi_bool_bl, isi_bool_int, isi_bool_str, isi_bool_tup, isi_bool_lst, isi_str_non, isi_str_bl, isi_str_int, isi_str_str, isi_str_tup, isi_str_lst, isi_tuple_non, isi_tuple_bl, isi_tuple_int, isi_tuple_str, isi_tuple_tup, isi_tuple_lst, isi_list_non, isi_list_bl, isi_list_int, isi_list_str, isi_list_tup, isi_list_lst]
                  cases zw : ws.all (wordB a 60)
                  · rw [if_neg (by rw [zw]; exact Bool.false_ne_true)] at L
                    rw [L]
                  · rw [if_pos zw] at L
                    obtain ⟨y5, L⟩ := L
                    rw [L]
              · have e1 : (sz.length : Int) ≤ 65536 := by omega
                simp [lenD, rng1, rngD, e1, mOf, dRet, dRetN, dSeq, dNext, dIfS, dTr, dNot, dAnd, dOr, dB, dAndV, dOrV, dNotV, dBin, dChain, dCall, dCallD, dCallK, dCallB, dCons, dNil, dTup, dLst, dF, dC, dVar, dOwn, dV, dO, dAsg, dIsi, dSl, dPart, dNoPart, dIf, dMb, dBinL, dListOf, dDrop, dRaise, dWalk, dRng, walkD, R.bind_ok, R.bind_ex, R.bind_bad, R.map, R.out_ok, R.out_ex, R.out_bad, ofO, truD, asB, asI, List.map_cons, List.map_nil, List.length_cons, List.length_nil, Nat.reduceAdd, Nat.reduceSub, List.replicate, List.cons_append, List.nil_append, List.getElem?_cons_zero, List.getElem?_cons_succ, List.set_cons_zero, List.set_cons_succ, frz_nil, frzs_nil, Option.bind_some, Option.map_some, leD, ltD, geD, gtD, cmpI, if_true, ite_true, if_false, ite_false, Bool.false_eq_true, ne_int, eq_int, ne_bl, eq_bl, ne_str, eq_str, ixD_t0, ixD_t1, ixD_t2, ixD_l0, ixD_l1, ixD_l2, ite_ok, ite_bl, ite_rt, isi_int_non, isi_int_bl, isi_int_int, isi_int_str, isi_int_tup, isi_int_lst, isi_bool_non, isi_bool_bl, isi_bool_int, isi_bool_str, isi_bool_tup, isi_bool_lst, isi_str_non, isi_str_bl, isi_str_int, isi_str_str, isi_str_tup, isi_str_lst, isi_tuple_non, isi_tuple_bl, isi_tuple_int, isi_tuple_str, isi_tuple_tup, isi_tuple_lst, isi_list_non, isi_list_bl, isi_list_int, isi_list_str, isi_list_tup, isi_list_lst]
              · simp; omega
              · intro k hk
                have hk : k < sz.length := List.mem_range.mp hk
                have hc : k < cs.length := by omega
                have hb : bas cs[k] = true := List.all_eq_true.mp h1 _ (List.getElem_mem hc)
                refine ⟨_, rfl, ?_⟩
                simp [wipeE, subD, ixD_tup, hk, hc, law_int_ev hb, mOf, dRet, dRetN, dSeq, dNext, dIfS, dTr, dNot, dAnd, dOr, dB, dAndV, dOrV, dNotV, dBin, dChain, dCall, dCallD, dCallK, dCallB, dCons, dNil, dTup, dLst, dF, dC, dVar, dOwn, dV, dO, dAsg, dIsi, dSl, dPart, dNoPart, dIf, dMb, dBinL, dListOf, dDrop, dRaise, dWalk, dRng, walkD, R.bind_ok, R.bind_ex, R.bind_bad, R.map, R.out_ok, R.out_ex, R.out_bad, ofO, truD, asB, asI, List.map_cons, List.map_nil, List.length_cons, List.length_nil, Nat.reduceAdd, Nat.reduceSub, List.replicate, List.cons_append, List.nil_append, List.getElem?_cons_zero, List.getElem?_cons_succ, List.set_cons_zero, List.set_cons_succ, frz_nil, frzs_nil, Option.bind_some, Option.map_some, leD, ltD, geD, gtD, cmpI, if_true, ite_true, if_false, ite_false, Bool.false_eq_true, ne_int, eq_int, ne_bl, eq_bl, ne_str, eq_str, ixD_t0, ixD_t1, ixD_t2, ixD_l0, ixD_l1, ixD_l2, ite_ok, ite_bl, ite_rt, isi_int_non, isi_int_bl, isi_int_int, isi_int_str, isi_int_tup, isi_int_lst, isi_bool_non, isi_bool_bl, isi_bool_int, isi_bool_str, isi_bool_tup, isi_bool_lst, isi_str_non, isi_str_bl, isi_str_int, isi_str_str, isi_str_tup, isi_str_lst, isi_tuple_non, isi_tuple_bl, isi_tuple_int, isi_tuple_str, isi_tuple_tup, isi_tuple_lst, isi_list_non, isi_list_bl, isi_list_int, isi_list_str, isi_list_tup, isi_list_lst]
            · simp [confB, ctl, wds, lenD, z1, z2, mOf, dRet, dRetN, dSeq, dNext, dIfS, dTr, dNot, dAnd, dOr, dB, dAndV, dOrV, dNotV, dBin, dChain, dCall, dCallD, dCallK, dCallB, dCons, dNil, dTup, dLst, dF, dC, dVar, dOwn, dV, dO, dAsg, dIsi, dSl, dPart, dNoPart, dIf, dMb, dBinL, dListOf, dDrop, dRaise, dWalk, dRng, walkD, R.bind_ok, R.bind_ex, R.bind_bad, R.map, R.out_ok, R.out_ex, R.out_bad, ofO, truD, asB, asI, List.map_cons, List.map_nil, List.length_cons, List.length_nil, Nat.reduceAdd, Nat.reduceSub, List.replicate, List.cons_append, List.nil_append, List.getElem?_cons_zero, List.getElem?_cons_succ, List.set_cons_zero, List.set_cons_succ, frz_nil, frzs_nil, Option.bind_some, Option.map_some, leD, ltD, geD, gtD, cmpI, if_true, ite_true, if_false, ite_false, Bool.false_eq_true, ne_int, eq_int, ne_bl, eq_bl, ne_str, eq_str, ixD_t0, ixD_t1, ixD_t2, ixD_l0, ixD_l1, ixD_l2, ite_ok, ite_bl, ite_rt, isi_int_non, isi_int_bl, isi_int_int, isi_int_str, isi_int_tup, isi_int_lst, isi_bool_non, isi_bool_bl, isi_bool_int, isi_bool_str, isi_bool_tup, isi_bool_lst, isi_str_non, isi_str_bl, isi_str_int, isi_str_str, isi_str_tup, isi_str_lst, isi_tuple_non, isi_tuple_bl, isi_tuple_int, isi_tuple_str, isi_tuple_tup, isi_tuple_lst, isi_list_non, isi_list_bl, isi_list_int, isi_list_str, isi_list_tup, isi_list_lst]
          · have z1' : ¬ ((cs.length : Int) = sz.length) := by omega
            simp [confB, ctl, wds, lenD, z1, z1', mOf, dRet, dRetN, dSeq, dNext, dIfS, dTr, dNot, dAnd, dOr, dB, dAndV, dOrV, dNotV, dBin, dChain, dCall, dCallD, dCallK, dCallB, dCons, dNil, dTup, dLst, dF, dC, dVar, dOwn, dV, dO, dAsg, dIsi, dSl, dPart, dNoPart, dIf, dMb, dBinL, dListOf, dDrop, dRaise, dWalk, dRng, walkD, R.bind_ok, R.bind_ex, R.bind_bad, R.map, R.out_ok, R.out_ex, R.out_bad, ofO, truD, asB, asI, List.map_cons, List.map_nil, List.length_cons, List.length_nil, Nat.reduceAdd, Nat.reduceSub, List.replicate, List.cons_append, List.nil_append, List.getElem?_cons_zero, List.getElem?_cons_succ, List.set_cons_zero, List.set_cons_succ, frz_nil, frzs_nil, Option.bind_some, Option.map_some, leD, ltD, geD, gtD, cmpI, if_true, ite_true, if_false, ite_false, Bool.false_eq_true, ne_int, eq_int, ne_bl, eq_bl, ne_str, eq_str, ixD_t0, ixD_t1, ixD_t2, ixD_l0, ixD_l1, ixD_l2, ite_ok, ite_bl, ite_rt, isi_int_non, isi_int_bl, isi_int_int, isi_int_str, isi_int_tup, isi_int_lst, isi_bool_non, isi_bool_bl, isi_bool_int, isi_bool_str, isi_bool_tup, isi_bool_lst, isi_str_non, isi_str_bl, isi_str_int, isi_str_str, isi_str_tup, isi_str_lst, isi_tuple_non, isi_tuple_bl, isi_tuple_int, isi_tuple_str, isi_tuple_tup, isi_tuple_lst, isi_list_non, isi_list_bl, isi_list_int, isi_list_str, isi_list_tup, isi_list_lst]
        all_goals simp [basT, bas] at h
      all_goals simp [basT, bas] at h
  all_goals simp [fine, bas] at h
def szs : List (List Int) := [[1], [2], [3], [2, 2], [1, 2], [4], [2, 1, 2], [2, 2, 2], [4, 4], [1, 1]]
def Sg (a b : Int) (sz : List Int) : Prop := (a = 1 ∨ a = 2 ∨ a = 3) ∧ (b = 1 ∨ b = 2) ∧ sz ∈ szs
theorem Sg.cases {a b : Int} {sz : List Int} (h : Sg a b sz) {P : Int → Int → List Int → Prop} (k : ∀ a ∈ ([1, 2, 3] : List Int), ∀ b ∈ ([1, 2] : List Int), ∀ sz ∈ szs, P a b sz) : P a b sz := by
  obtain ⟨h1, h2, h3⟩ := h
  exact k a (by rcases h1 with h | h | h <;> subst h <;> simp) b (by rcases h2 with h | h <;> subst h <;> simp) sz h3
theorem Sg.len {a b : Int} {sz : List Int} (h : Sg a b sz) : sz.length ≤ 3 := by
  have k : ∀ sz ∈ szs, sz.length ≤ 3 := by decide
  exact k sz h.2.2
theorem is_sig_ev {a b : Int} {sz : List Int} (h : Sg a b sz) : m_is_signature [SigP a b sz] s = .ok (.bl true) s := by
  obtain ⟨h1, h2, h3⟩ := h
  simp only [szs, List.mem_cons, List.not_mem_nil, or_false] at h3
  rcases h1 with h | h | h <;> rcases h2 with h' | h' <;> rcases h3 with h3 | h3 | h3 | h3 | h3 | h3 | h3 | h3 | h3 | h3 <;> subst h <;> subst h' <;> subst h3 <;> rfl
theorem need_sig_ev {a b : Int} {sz : List Int} (h : Sg a b sz) : m_need_signature [SigP a b sz] s = .ok .non s := by
  simp [m_need_signature, d_need_signature, is_sig_ev h, mOf, dRet, dRetN, dSeq, dNext, dIfS, dTr, dNot, dAnd, dOr, dB, dAndV, dOrV, dNotV, dBin, dChain, dCall, dCallD, dCallK, dCallB, dCons, dNil, dTup, dLst, dF, dC, dVar, dOwn, dV, dO, dAsg, dIsi, dSl, dPart, dNoPart, dIf, dMb, dBinL, dListOf, dDrop, dRaise, dWalk, dRng, walkD, R.bind_ok, R.bind_ex, R.bind_bad, R.map, R.out_ok, R.out_ex, R.out_bad, ofO, truD, asB, asI, List.map_cons, List.map_nil, List.length_cons, List.length_nil, Nat.reduceAdd, Nat.reduceSub, List.replicate, List.cons_append, List.nil_append, List.getElem?_cons_zero, List.getElem?_cons_succ, List.set_cons_zero, List.set_cons_succ, frz_nil, frzs_nil, Option.bind_some, Option.map_some, leD, ltD, geD, gtD, cmpI, if_true, ite_true, if_false, ite_false, Bool.false_eq_true, ne_int, eq_int, ne_bl, eq_bl, ne_str, eq_str, ixD_t0, ixD_t1, ixD_t2, ixD_l0, ixD_l1, ixD_l2, ite_ok, ite_bl, ite_rt, isi_int_non, isi_int_bl, isi_int_int, isi_int_str, isi_int_tup, isi_int_lst, isi_bool_non, isi_bool_bl, isi_bool_int, isi_bool_str, isi_bool_tup, isi_bool_lst, isi_str_non, isi_str_bl, isi_str_int, isi_str_str, isi_str_tup, isi_str_lst, isi_tuple_non, isi_tuple_bl, isi_tuple_int, isi_tuple_str, isi_tuple_tup, isi_tuple_lst, isi_list_non, isi_list_bl, isi_list_int, isi_list_str, isi_list_tup, isi_list_lst]
theorem is_conf_ev {a b : Int} {sz : List Int} (h : Sg a b sz) (hf : fine d = true) : m_is_configuration [SigP a b sz, d] s = .ok (.bl (confB a b sz d)) s := by
  simp [m_is_configuration, d_is_configuration, need_sig_ev h, is_configuration_of_ev hf h.len, mOf, dRet, dRetN, dSeq, dNext, dIfS, dTr, dNot, dAnd, dOr, dB, dAndV, dOrV, dNotV, dBin, dChain, dCall, dCallD, dCallK, dCallB, dCons, dNil, dTup, dLst, dF, dC, dVar, dOwn, dV, dO, dAsg, dIsi, dSl, dPart, dNoPart, dIf, dMb, dBinL, dListOf, dDrop, dRaise, dWalk, dRng, walkD, R.bind_ok, R.bind_ex, R.bind_bad, R.map, R.out_ok, R.out_ex, R.out_bad, ofO, truD, asB, asI, List.map_cons, List.map_nil, List.length_cons, List.length_nil, Nat.reduceAdd, Nat.reduceSub, List.replicate, List.cons_append, List.nil_append, List.getElem?_cons_zero, List.getElem?_cons_succ, List.set_cons_zero, List.set_cons_succ, frz_nil, frzs_nil, Option.bind_some, Option.map_some, leD, ltD, geD, gtD, cmpI, if_true, ite_true, if_false, ite_false, Bool.false_eq_true, ne_int, eq_int, ne_bl, eq_bl, ne_str, eq_str, ixD_t0, ixD_t1, ixD_t2, ixD_l0, ixD_l1, ixD_l2, ite_ok, ite_bl, ite_rt, isi_int_non, isi_int_bl, isi_int_int, isi_int_str, isi_int_tup, isi_int_lst, isi_bool_non, isi_bool_bl, isi_bool_int, isi_bool_str, isi_bool_tup, isi_bool_lst, isi_str_non, isi_str_bl, isi_str_int, isi_str_str, isi_str_tup, isi_str_lst, isi_tuple_non, isi_tuple_bl, isi_tuple_int, isi_tuple_str, isi_tuple_tup, isi_tuple_lst, isi_list_non, isi_list_bl, isi_list_int, isi_list_str, isi_list_tup, isi_list_lst]
theorem need_conf_ev {a b : Int} {sz : List Int} (h : Sg a b sz) (hf : fine d = true) : m_need_configuration [SigP a b sz, d] s = if confB a b sz d then .ok .non s else .ex "BadConfiguration" s := by
  simp [m_need_configuration, d_need_configuration, is_configuration_of_ev hf h.len, mOf, dRet, dRetN, dSeq, dNext, dIfS, dTr, dNot, dAnd, dOr, dB, dAndV, dOrV, dNotV, dBin, dChain, dCall, dCallD, dCallK, dCallB, dCons, dNil, dTup, dLst, dF, dC, dVar, dOwn, dV, dO, dAsg, dIsi, dSl, dPart, dNoPart, dIf, dMb, dBinL, dListOf, dDrop, dRaise, dWalk, dRng, walkD, R.bind_ok, R.bind_ex, R.bind_bad, R.map, R.out_ok, R.out_ex, R.out_bad, ofO, truD, asB, asI, List.map_cons, List.map_nil, List.length_cons, List.length_nil, Nat.reduceAdd, Nat.reduceSub, List.replicate, List.cons_append, List.nil_append, List.getElem?_cons_zero, List.getElem?_cons_succ, List.set_cons_zero, List.set_cons_succ, frz_nil, frzs_nil, Option.bind_some, Option.map_some, leD, ltD, geD, gtD, cmpI, if_true, ite_true, if_false, ite_false, Bool.false_eq_true, ne_int, eq_int, ne_bl, eq_bl, ne_str, eq_str, ixD_t0, ixD_t1, ixD_t2, ixD_l0, ixD_l1, ixD_l2, ite_ok, ite_bl, ite_rt, isi_int_non, isi_int_bl, isi_int_int, isi_int_str, isi_int_tup, isi_int_lst, isi_bool_non, isi_bool_bl, isi_bool_int, isi_bool_str, isi_bool_tup, isi_bool_lst, isi_str_non, isi_str_bl, isi_str_int, isi_str_str, isi_str_tup, isi_str_lst, isi_tuple_non, isi_tuple_bl, isi_tuple_int, isi_tuple_str, isi_tuple_tup, isi_tuple_lst, isi_list_non, isi_list_bl, isi_list_int, isi_list_str, isi_list_tup, isi_list_lst]
  cases confB a b sz d <;> simp
theorem same_bl {x y : Bool} : m__law_same [.bl x, .bl y] s = .ok (.bl (x == y)) s := by
  cases x <;> cases y <;> rfl
/-! ### subwords -/
def subw : List Nat → List Nat → Bool
  | [], _ => true
  | _ :: _, [] => false
  | c :: w, d :: o => if d = c then subw w o else subw (c :: w) o
theorem fnd_step {o : List Nat} {c k : Nat} (h : k < o.length) : fnd o c k = if o[k] = c then (k : Int) else fnd o c (k + 1) := by
  unfold fnd
  have e : o.length + 1 - k = (o.length + 1 - (k + 1)) + 1 := by omega
  rw [e, List.range'_succ, List.find?_cons, List.getElem?_eq_getElem h]
  by_cases z : o[k] = c
  · rw [if_pos z, z]
    simp
  · rw [if_neg z]
    have : ((some o[k]) == some c) = false := by simpa using z
    rw [this]
theorem fnd_end {o : List Nat} {c : Nat} : fnd o c o.length = -1 := by
  unfold fnd
  have e : o.length + 1 - o.length = 1 := by omega
  rw [e]
  simp
theorem fnd_sub {o : List Nat} {c : Nat} {w : List Nat} : ∀ (n k : Nat), o.length - k = n → k ≤ o.length →
    (fnd o c k = -1 ∧ subw (c :: w) (o.drop k) = false) ∨ ∃ j : Nat, fnd o c k = (j : Int) ∧ j < o.length ∧ subw (c :: w) (o.drop k) = subw w (o.drop (j + 1))
  | 0, k, hn, hk => by
    have e : k = o.length := by omega
    subst e
    exact .inl ⟨fnd_end, by rw [List.drop_length]; rfl⟩
  | n + 1, k, hn, hk => by
    have h : k < o.length := by omega
    rw [fnd_step h, List.drop_eq_getElem_cons h]
    by_cases z : o[k] = c
    · rw [if_pos z]
      exact .inr ⟨k, rfl, h, by rw [subw, if_pos z]⟩
    · rw [if_neg z]
      rw [subw, if_neg z]
      exact fnd_sub n (k + 1) (by omega) (by omega)
theorem fromI_nat {n k : Nat} : fromI n (k : Int) = k := by
  unfold fromI
  rw [if_neg (by omega)]
  omega
theorem find2_ev {o : List Nat} {c k : Nat} : find2 (.str o) [.str [c], .int (k : Int)] = some (.int (fnd o c k)) := by
  show some (D.int (fnd o c (fromI o.length (k : Int)))) = _
  rw [fromI_nat]
theorem lies_loop {o w0 : List Nat} : ∀ (w : List Nat) (k : Nat) (x3 : Option Sl), k ≤ o.length →
    if subw w (o.drop k) then ∃ y2 y3, forL (gN 3) L_lies_in_1 (w.map fun c => .str [c]) [some (.val (.str w0)), some (.val (.str o)), some (.val (.int (k : Int))), x3] s = .nx [some (.val (.str w0)), some (.val (.str o)), y2, y3] s
    else forL (gN 3) L_lies_in_1 (w.map fun c => .str [c]) [some (.val (.str w0)), some (.val (.str o)), some (.val (.int (k : Int))), x3] s = .rt (.bl false) s
  | [], k, x3, _ => by
    rw [if_pos (by rw [subw])]
    exact ⟨_, _, rfl⟩
  | c :: w, k, x3, hk => by
    rw [List.map_cons]
    rcases fnd_sub (o := o) (c := c) (w := w) _ k rfl hk with ⟨e1, e2⟩ | ⟨j, e1, hj, e2⟩
    · rw [e2]
      refine forL_rt rfl (s' := s) ?_
      simp [L_lies_in_1, isS, find2_ev, e1, addD, mOf, dRet, dRetN, dSeq, dNext, dIfS, dTr, dNot, dAnd, dOr, dB, dAndV, dOrV, dNotV, dBin, dChain, dCall, dCallD, dCallK, dCallB, dCons, dNil, dTup, dLst, dF, dC, dVar, dOwn, dV, dO, dAsg, dIsi, dSl, dPart, dNoPart, dIf, dMb, dBinL, dListOf, dDrop, dRaise, dWalk, dRng, walkD, R.bind_ok, R.bind_ex, R.bind_bad, R.map, R.out_ok, R.out_ex, R.out_bad, ofO, truD, asB, asI, List.map_cons, List.map_nil, List.length_cons, List.length_nil, Nat.reduceAdd, Nat.reduceSub, List.replicate, List.cons_append, List.nil_append, List.getElem?_cons_zero, List.getElem?_cons_succ, List.set_cons_zero, List.set_cons_succ, frz_nil, frzs_nil, Option.bind_some, Option.map_some, leD, ltD, geD, gtD, cmpI, if_true, ite_true, if_false, ite_false, Bool.false_eq_true, ne_int, eq_int, ne_bl, eq_bl, ne_str, eq_str, ixD_t0, ixD_t1, ixD_t2, ixD_l0, ixD_l1, ixD_l2, ite_ok, ite_bl, ite_rt, isi_int_non, isi_int_bl, isi_int_int, isi_int_str, isi_int_tup, isi_int_lst, isi_bool_non, isi_bool_bl, isi_bool_int, isi_bool_str, isi_bool_tup, isi_bool_lst, isi_str_non, isi_str_bl, isi_str_int, isi_str_str, isi_str_tup, isi_str_lst, isi_tuple_non, isi_tuple_bl, isi_tuple_int, isi_tuple_str, isi_tuple_tup, isi_tuple_lst, isi_list_non, isi_list_bl, isi_list_int, isi_list_str, isi_list_tup, isi_list_lst]
    · rw [e2]
      have ih := lies_loop (o := o) (w0 := w0) w (j + 1) (some (.val (.str [c]))) (by omega)
      have u := forL_nx (g := gN 3) (ds := L_lies_in_1) (d := .str [c]) (r := w.map fun c => .str [c]) (ρ := [some (.val (.str w0)), some (.val (.str o)), some (.val (.int (k : Int))), x3]) (s := s) (s' := s) (ρ' := [some (.val (.str w0)), some (.val (.str o)), some (.val (.int ((j + 1 : Nat) : Int))), some (.val (.str [c]))]) rfl (by
        have z : ¬ ((j : Int) + 1 = 0) := by omega
        simp [L_lies_in_1, isS, find2_ev, e1, addD, z, mOf, dRet, dRetN, dSeq, dNext, dIfS, dTr, dNot, dAnd, dOr, dB, dAndV, dOrV, dNotV, dBin, dChain, dCall, dCallD, dCallK, dCallB, dCons, dNil, dTup, dLst, dF, dC, dVar, dOwn, dV, dO, dAsg, dIsi, dSl, dPart, dNoPart, dIf, dMb, dBinL, dListOf, dDrop, dRaise, dWalk, dRng, walkD, R.bind_ok, R.bind_ex, R.bind_bad, R.map, R.out_ok, R.out_ex, R.out_bad, ofO, truD, asB, asI, List.map_cons, List.map_nil, List.length_cons, List.length_nil, Nat.reduceAdd, Nat.reduceSub, List.replicate, List.cons_append, List.nil_append, List.getElem?_cons_zero, List.getElem?_cons_succ, List.set_cons_zero, List.set_cons_succ, frz_nil, frzs_nil, Option.bind_some, Option.map_some, leD, ltD, geD, gtD, cmpI, if_true, ite_true, if_false, ite_false, Bool.false_eq_true, ne_int, eq_int, ne_bl, eq_bl, ne_str, eq_str, ixD_t0, ixD_t1, ixD_t2, ixD_l0, ixD_l1, ixD_l2, ite_ok, ite_bl, ite_rt, isi_int_non, isi_int_bl, isi_int_int, isi_int_str, isi_int_tup, isi_int_lst, isi_bool_non, isi_bool_bl, isi_bool_int, isi_bool_str, isi_bool_tup, isi_bool_lst, isi_str_non, isi_str_bl, isi_str_int, isi_str_str, isi_str_tup, isi_str_lst, isi_tuple_non, isi_tuple_bl, isi_tuple_int, isi_tuple_str, isi_tuple_tup, isi_tuple_lst, isi_list_non, isi_list_bl, isi_list_int, isi_list_str, isi_list_tup, isi_list_lst])
      rw [u]
      exact ih
theorem lies_in_ev {w o : List Nat} : m_lies_in [.str w, .str o] s = .ok (.bl (subw w o)) s := by
  have L := lies_loop (s := s) (w0 := w) (o := o) w 0 none (Nat.zero_le _)
  simp [m_lies_in, d_lies_in, dFor, mOf, dRet, dRetN, dSeq, dNext, dIfS, dTr, dNot, dAnd, dOr, dB, dAndV, dOrV, dNotV, dBin, dChain, dCall, dCallD, dCallK, dCallB, dCons, dNil, dTup, dLst, dF, dC, dVar, dOwn, dV, dO, dAsg, dIsi, dSl, dPart, dNoPart, dIf, dMb, dBinL, dListOf, dDrop, dRaise, dWalk, dRng, walkD, R.bind_ok, R.bind_ex, R.bind_bad, R.map, R.out_ok, R.out_ex, R.out_bad, ofO, truD, asB, asI, List.map_cons, List.map_nil, List.length_cons, List.length_nil, Nat.reduceAdd, Nat.reduceSub, List.replicate, List.cons_append, List.nil_append, List.getElem?_cons_zero, List.getElem?_cons_succ, List.set_cons_zero, List.set_cons_succ, frz_nil, frzs_nil, Option.bind_some, Option.map_some, leD, ltD, geD, gtD, cmpI, if_true, ite_true, if_false, ite_false, Bool.false_eq_true, ne_int, eq_int, ne_bl, eq_bl, ne_str, eq_str, ixD_t0, ixD_t1, ixD_t2, ixD_l0, ixD_l1, ixD_l2, ite_ok, ite_bl, ite_rt, isi_int_non, isi_int_bl, isi_int_int, isi_int_str, isi_int_tup, isi_int_lst, isi_bool_non, isi_bool_bl, isi_bool_int, isi_bool_str, isi_bool_tup, isi_bool_lst, isi_str_non, isi_str_bl, isi_str_int, isi_str_str, isi_str_tup, isi_str_lst, isi_tuple_non, isi_tuple_bl, isi_tuple_int, isi_tuple_str, isi_tuple_tup, isi_tuple_lst, isi_list_non, isi_list_bl, isi_list_int, isi_list_str, isi_list_tup, isi_list_lst]
  rw [List.drop_zero] at L
  cases z : subw w o
  · rw [if_neg (by rw [z]; exact Bool.false_ne_true)] at L
    have L' : forL (gN 3) L_lies_in_1 (w.map fun c => .str [c]) [some (.val (.str w)), some (.val (.str o)), some (.val (.int 0)), none] s = .rt (.bl false) s := L
    rw [L']
  · rw [if_pos z] at L
    obtain ⟨y2, y3, L⟩ := L
    have L' : forL (gN 3) L_lies_in_1 (w.map fun c => .str [c]) [some (.val (.str w)), some (.val (.str o)), some (.val (.int 0)), none] s = .nx [some (.val (.str w)), some (.val (.str o)), y2, y3] s := L
    rw [L']
theorem sub_step {w : List Nat} {a : Nat} {d : Nat} {o : List Nat} (h : a ≤ w.length) :
    (∃ h : a < w.length, w[a] = d ∧ subw (w.drop a) (d :: o) = subw (w.drop (a + 1)) o) ∨ ((∀ h : a < w.length, w[a] ≠ d) ∧ subw (w.drop a) (d :: o) = subw (w.drop a) o) := by
  by_cases h1 : a < w.length
  · rw [List.drop_eq_getElem_cons h1]
    by_cases z : d = w[a]
    · exact .inl ⟨h1, z.symm, by rw [subw, if_pos z]⟩
    · exact .inr ⟨fun _ q => z q.symm, by rw [subw, if_neg z]⟩
  · rw [List.drop_eq_nil_of_le (by omega)]
    exact .inr ⟨fun q => absurd q h1, by rw [subw, subw]⟩
theorem str_ix {l : List Nat} {k : Nat} : ixD (.str l) (.int (k : Int)) = (l[k]?).map fun c => .str [c] := by
  show (atI l (k : Int)).map _ = _
  rw [atI_nat]
theorem sub_loop {w o0 : List Nat} : ∀ (o : List Nat) (a : Nat) (x3 : Option Sl), a ≤ w.length →
    ∃ (a' : Nat) (y3 : Option Sl), a' ≤ w.length ∧ forL (gN 3) L__law_sub_1 (o.map fun c => .str [c]) [some (.val (.str w)), some (.val (.str o0)), some (.val (.int (a : Int))), x3] s = .nx [some (.val (.str w)), some (.val (.str o0)), some (.val (.int (a' : Int))), y3] s ∧
      (decide (a' = w.length)) = subw (w.drop a) o
  | [], a, x3, h => ⟨a, x3, h, rfl, by
    by_cases z : a = w.length
    · subst z; rw [List.drop_length, subw]; simp
    · rw [List.drop_eq_getElem_cons (by omega), subw]; simp [z]⟩
  | d :: o, a, x3, h => by
    rw [List.map_cons]
    rcases sub_step (o := o) (d := d) h with ⟨h1, e1, e2⟩ | ⟨h1, e2⟩
    · obtain ⟨a', y3, q1, q2, q3⟩ := sub_loop (w := w) (o0 := o0) o (a + 1) (some (.val (.str [d]))) (by omega)
      refine ⟨a', y3, q1, ?_, by rw [e2]; exact q3⟩
      rw [forL_nx (g := gN 3) (s' := s) (ρ' := [some (.val (.str w)), some (.val (.str o0)), some (.val (.int ((a + 1 : Nat) : Int))), some (.val (.str [d]))]) rfl ?_]
      · exact q2
      · have z : (a : Int) < w.length := by omega
        simp [L__law_sub_1, lenD, addD, str_ix, z, h1, e1, mOf, dRet, dRetN, dSeq, dNext, dIfS, dTr, dNot, dAnd, dOr, dB, dAndV, dOrV, dNotV, dBin, dChain, dCall, dCallD, dCallK, dCallB, dCons, dNil, dTup, dLst, dF, dC, dVar, dOwn, dV, dO, dAsg, dIsi, dSl, dPart, dNoPart, dIf, dMb, dBinL, dListOf, dDrop, dRaise, dWalk, dRng, walkD, R.bind_ok, R.bind_ex, R.bind_bad, R.map, R.out_ok, R.out_ex, R.out_bad, ofO, truD, asB, asI, List.map_cons, List.map_nil, List.length_cons, List.length_nil, Nat.reduceAdd, Nat.reduceSub, List.replicate, List.cons_append, List.nil_append, List.getElem?_cons_zero, List.getElem?_cons_succ, List.set_cons_zero, List.set_cons_succ, frz_nil, frzs_nil, Option.bind_some, Option.map_some, leD, ltD, geD, gtD, cmpI, if_true, ite_true, if_false, ite_false, Bool.false_eq_true, ne_int, eq_int, ne_bl, eq_bl, ne_str, eq_str, ixD_t0, ixD_t1, ixD_t2, ixD_l0, ixD_l1, ixD_l2, ite_ok, ite_bl, ite_rt, isi_int_non, isi_int_bl, isi_int_int, isi_int_str, isi_int_tup, isi_int_lst, isi_bool_non, isi_bool_bl, isi_bool_int, isi_bool_str, isi_bool_tup, isi_bool_lst, isi_str_non, isi_str_bl, isi_str_int, isi_str_str, isi_str_tup, isi_str_lst, isi_tuple_non, isi_tuple_bl, isi_tuple_int, isi_tuple_str, isi_tuple_tup, isi_tuple_lst, isi_list_non, isi_list_bl, isi_list_int, isi_list_str, isi_list_tup, isi_list_lst]
    · obtain ⟨a', y3, q1, q2, q3⟩ := sub_loop (w := w) (o0 := o0) o a (some (.val (.str [d]))) h
      refine ⟨a', y3, q1, ?_, by rw [e2]; exact q3⟩
      rw [forL_nx (g := gN 3) (s' := s) (ρ' := [some (.val (.str w)), some (.val (.str o0)), some (.val (.int (a : Int))), some (.val (.str [d]))]) rfl ?_]
      · exact q2
      · by_cases z : a < w.length
        · have z' : (a : Int) < w.length := by omega
          have e1 := h1 z
          simp [L__law_sub_1, lenD, addD, str_ix, z, z', e1, mOf, dRet, dRetN, dSeq, dNext, dIfS, dTr, dNot, dAnd, dOr, dB, dAndV, dOrV, dNotV, dBin, dChain, dCall, dCallD, dCallK, dCallB, dCons, dNil, dTup, dLst, dF, dC, dVar, dOwn, dV, dO, dAsg, dIsi, dSl, dPart, dNoPart, dIf, dMb, dBinL, dListOf, dDrop, dRaise, dWalk, dRng, walkD, R.bind_ok, R.bind_ex, R.bind_bad, R.map, R.out_ok, R.out_ex, R.out_bad, ofO, truD, asB, asI, List.map_cons, List.map_nil, List.length_cons, List.length_nil, Nat.reduceAdd, Nat.reduceSub, List.replicate, List.cons_append, List.nil_append, List.getElem?_cons_zero, List.getElem?_cons_succ, List.set_cons_zero, List.set_cons_succ, frz_nil, frzs_nil, Option.bind_some, Option.map_some, leD, ltD, geD, gtD, cmpI, if_true, ite_true, if_false, ite_false, Bool.false_eq_true, ne_int, eq_int, ne_bl, eq_bl, ne_str, eq_str, ixD_t0, ixD_t1, ixD_t2, ixD_l0, ixD_l1, ixD_l2, ite_ok, ite_bl, ite_rt, isi_int_non, isi_int_bl, isi_int_int, isi_int_str, isi_int_tup, isi_int_lst, isi_bool_non, isi_bool_bl, isi_bool_int, isi_bool_str, isi_bool_tup, isi_bool_lst, isi_str_non, isi_str_bl, isi_str_int, isi_str_str, isi_str_tup, isi_str_lst, isi_tuple_non, isi_tuple_bl, isi_tuple_int, isi_tuple_str, isi_tuple_tup, isi_tuple_lst, isi_list_non, isi_list_bl, isi_list_int, isi_list_str, isi_list_tup, isi_list_lst]
        · have z' : ¬ ((a : Int) < w.length) := by omega
          simp [L__law_sub_1, lenD, addD, str_ix, z', mOf, dRet, dRetN, dSeq, dNext, dIfS, dTr, dNot, dAnd, dOr, dB, dAndV, dOrV, dNotV, dBin, dChain, dCall, dCallD, dCallK, dCallB, dCons, dNil, dTup, dLst, dF, dC, dVar, dOwn, dV, dO, dAsg, dIsi, dSl, dPart, dNoPart, dIf, dMb, dBinL, dListOf, dDrop, dRaise, dWalk, dRng, walkD, R.bind_ok, R.bind_ex, R.bind_bad, R.map, R.out_ok, R.out_ex, R.out_bad, ofO, truD, asB, asI, List.map_cons, List.map_nil, List.length_cons, List.length_nil, Nat.reduceAdd, Nat.reduceSub, List.replicate, List.cons_append, List.nil_append, List.getElem?_cons_zero, List.getElem?_cons_succ, List.set_cons_zero, List.set_cons_succ, frz_nil, frzs_nil, Option.bind_some, Option.map_some, leD, ltD, geD, gtD, cmpI, if_true, ite_true, if_false, ite_false, Bool.false_eq_true, ne_int, eq_int, ne_bl, eq_bl, ne_str, eq_str, ixD_t0, ixD_t1, ixD_t2, ixD_l0, ixD_l1, ixD_l2, ite_ok, ite_bl, ite_rt, isi_int_non, isi_int_bl, isi_int_int, isi_int_str, isi_int_tup, isi_int_lst, isi_bool_non, isi_bool_bl, isi_bool_int, isi_bool_str, isi_bool_tup, isi_bool_lst, isi_str_non, isi_str_bl, isi_str_int, isi_str_str, isi_str_tup, isi_str_lst, isi_tuple_non, isi_tuple_bl, isi_tuple_int, isi_tuple_str, isi_tuple_tup, isi_tuple_lst, isi_list_non, isi_list_bl, isi_list_int, isi_list_str, isi_list_tup, isi_list_lst]
theorem law_sub_ev {w o : List Nat} : m__law_sub [.str w, .str o] s = .ok (.bl (subw w o)) s := by
  obtain ⟨a', y3, q1, q2, q3⟩ := sub_loop (s := s) (w := w) (o0 := o) o 0 none (Nat.zero_le _)
  rw [List.drop_zero] at q3
  have q2' : forL (gN 3) L__law_sub_1 (o.map fun c => .str [c]) [some (.val (.str w)), some (.val (.str o)), some (.val (.int 0)), none] s = .nx [some (.val (.str w)), some (.val (.str o)), some (.val (.int (a' : Int))), y3] s := q2
  simp [m__law_sub, d__law_sub, dFor, mOf, dRet, dRetN, dSeq, dNext, dIfS, dTr, dNot, dAnd, dOr, dB, dAndV, dOrV, dNotV, dBin, dChain, dCall, dCallD, dCallK, dCallB, dCons, dNil, dTup, dLst, dF, dC, dVar, dOwn, dV, dO, dAsg, dIsi, dSl, dPart, dNoPart, dIf, dMb, dBinL, dListOf, dDrop, dRaise, dWalk, dRng, walkD, R.bind_ok, R.bind_ex, R.bind_bad, R.map, R.out_ok, R.out_ex, R.out_bad, ofO, truD, asB, asI, List.map_cons, List.map_nil, List.length_cons, List.length_nil, Nat.reduceAdd, Nat.reduceSub, List.replicate, List.cons_append, List.nil_append, List.getElem?_cons_zero, List.getElem?_cons_succ, List.set_cons_zero, List.set_cons_succ, frz_nil, frzs_nil, Option.bind_some, Option.map_some, leD, ltD, geD, gtD, cmpI, if_true, ite_true, if_false, ite_false, Bool.false_eq_true, ne_int, eq_int, ne_bl, eq_bl, ne_str, eq_str, ixD_t0, ixD_t1, ixD_t2, ixD_l0, ixD_l1, ixD_l2, ite_ok, ite_bl, ite_rt, isi_int_non, isi_int_bl, isi_int_int, isi_int_str, isi_int_tup, isi_int_lst, isi_bool_non, isi_bool_bl, isi_bool_int, isi_bool_str, isi_bool_tup, isi_bool_lst, isi_str_non, isi_str_bl, isi_str_int, isi_str_str, isi_str_tup, isi_str_lst, isi_tuple_non, isi_tuple_bl, isi_tuple_int, isi_tuple_str, isi_tuple_tup, isi_tuple_lst, isi_list_non, isi_list_bl, isi_list_int, isi_list_str, isi_list_tup, isi_list_lst]
  rw [q2']
  simp [lenD, ← q3, mOf, dRet, dRetN, dSeq, dNext, dIfS, dTr, dNot, dAnd, dOr, dB, dAndV, dOrV, dNotV, dBin, dChain, dCall, dCallD, dCallK, dCallB, dCons, dNil, dTup, dLst, dF, dC, dVar, dOwn, dV, dO, dAsg, dIsi, dSl, dPart, dNoPart, dIf, dMb, dBinL, dListOf, dDrop, dRaise, dWalk, dRng, walkD, R.bind_ok, R.bind_ex, R.bind_bad, R.map, R.out_ok, R.out_ex, R.out_bad, ofO, truD, asB, asI, List.map_cons, List.map_nil, List.length_cons, List.length_nil, Nat.reduceAdd, Nat.reduceSub, List.replicate, List.cons_append, List.nil_append, List.getElem?_cons_zero, List.getElem?_cons_succ, List.set_cons_zero, List.set_cons_succ, frz_nil, frzs_nil, Option.bind_some, Option.map_some, leD, ltD, geD, gtD, cmpI, if_true, ite_true, if_false, ite_false, Bool.false_eq_true, ne_int, eq_int, ne_bl, eq_bl, ne_str, eq_str, ixD_t0, ixD_t1, ixD_t2, ixD_l0, ixD_l1, ixD_l2, ite_ok, ite_bl, ite_rt, isi_int_non, isi_int_bl, isi_int_int, isi_int_str, isi_int_tup, isi_int_lst, isi_bool_non, isi_bool_bl, isi_bool_int, isi_bool_str, isi_bool_tup, isi_bool_lst, isi_str_non, isi_str_bl, isi_str_int, isi_str_str, isi_str_tup, isi_str_lst, isi_tuple_non, isi_tuple_bl, isi_tuple_int, isi_tuple_str, isi_tuple_tup, isi_tuple_lst, isi_list_non, isi_list_bl, isi_list_int, isi_list_str, isi_list_tup, isi_list_lst]
  rw [Bool.eq_iff_iff]
  simp
  omega
/-! ### configurations -/
abbrev Cf (cs : List Int) (ws : List (List Nat)) : D := .tup [.tup (cs.map .int), .tup (ws.map .str)]
structure CfOk (a b : Int) (sz cs : List Int) (ws : List (List Nat)) : Prop where
  lc : cs.length = sz.length
  rc : ∀ x ∈ cs.zip sz, 0 ≤ x.1 ∧ x.1 ≤ x.2 - 1
  lw : (ws.length : Int) = b
  rw_ : ∀ w ∈ ws, w.length ≤ 60 ∧ ∀ c ∈ w, c ∈ alph a
theorem CfOk.conf {a b : Int} {sz cs : List Int} {ws : List (List Nat)} (h : CfOk a b sz cs ws) : confB a b sz (Cf cs ws) = true := by
  unfold confB ctl wds
  simp only [List.length_map, h.lc, h.lw, decide_true, Bool.true_and, Bool.and_eq_true]
  refine ⟨?_, ?_⟩
  · rw [List.all_eq_true]
    intro x hx
    rw [List.zip_map_left] at hx
    obtain ⟨y, hy, rfl⟩ := List.mem_map.mp hx
    have := h.rc y hy
    simp [inR, this.1, this.2]
  · rw [List.all_map, List.all_eq_true]
    intro w hw
    have := h.rw_ w hw
    simp only [Function.comp, wordB, Bool.and_eq_true, decide_eq_true_eq, List.all_eq_true, List.contains_iff_mem]
    exact ⟨by omega, this.2⟩
theorem all_ints {a : Int} : ∀ {cs : List D} {sz : List Int}, cs.length = sz.length → ((cs.zip sz).all fun x => inR 0 (x.2 - 1) x.1) = true → ∃ is : List Int, cs = is.map .int ∧ ∀ x ∈ is.zip sz, 0 ≤ x.1 ∧ x.1 ≤ x.2 - 1
  | [], [], _, _ => ⟨[], rfl, fun x h => by cases h⟩
  | c :: cs, z :: sz, h, k => by
    rw [List.zip_cons_cons, List.all_cons, Bool.and_eq_true] at k
    obtain ⟨is, rfl, q⟩ := all_ints (a := a) (by simpa using h) k.2
    cases c with
    | int i =>
      have k1 : (decide (0 ≤ i) && decide (i ≤ z - 1)) = true := k.1
      rw [Bool.and_eq_true, decide_eq_true_eq, decide_eq_true_eq] at k1
      refine ⟨i :: is, rfl, fun x hx => ?_⟩
      rw [List.zip_cons_cons] at hx
      cases hx with
      | head => exact k1
      | tail _ hx => exact q x hx
    | _ => exact absurd k.1 (by simp [inR])
theorem all_strs {a : Int} : ∀ {ws : List D}, ws.all (wordB a 60) = true → ∃ ls : List (List Nat), ws = ls.map .str ∧ ∀ w ∈ ls, w.length ≤ 60 ∧ ∀ c ∈ w, c ∈ alph a
  | [], _ => ⟨[], rfl, fun x h => by cases h⟩
  | w :: ws, k => by
    rw [List.all_cons, Bool.and_eq_true] at k
    obtain ⟨ls, rfl, q⟩ := all_strs k.2
    cases w with
    | str l =>
      have k1 := k.1
      simp only [wordB, Bool.and_eq_true, decide_eq_true_eq, List.all_eq_true, List.contains_iff_mem] at k1
      refine ⟨l :: ls, rfl, fun x hx => ?_⟩
      cases hx with
      | head => exact ⟨by omega, k1.2⟩
      | tail _ hx => exact q x hx
    | _ => exact absurd k.1 (by simp [wordB])
theorem conf_cf {a b : Int} {sz : List Int} (h : confB a b sz d = true) : ∃ cs ws, d = Cf cs ws ∧ CfOk a b sz cs ws := by
  cases d <;> try (simp [confB] at h; done)
  rename_i ds
  match ds, h with
  | [c, w], h =>
    simp only [confB, Bool.and_eq_true] at h
    obtain ⟨hc, hw⟩ := h
    cases c <;> try (simp [ctl] at hc; done)
    cases w <;> try (simp [wds] at hw; done)
    simp only [ctl, wds, Bool.and_eq_true, decide_eq_true_eq] at hc hw
    obtain ⟨is, rfl, q⟩ := all_ints (a := a) hc.1 hc.2
    obtain ⟨ls, rfl, q'⟩ := all_strs hw.2
    exact ⟨is, ls, rfl, by simpa using hc.1, q, by simpa using hw.1, q'⟩
theorem CfOk.fine {a b : Int} {sz cs : List Int} {ws : List (List Nat)} (h : CfOk a b sz cs ws) (hs : Sg a b sz) : fine (Cf cs ws) = true := by
  have h1 := h.lc
  have h2 := h.lw
  have h3 := hs.len
  have h4 : b ≤ 2 := by rcases hs.2.1 with h | h <;> omega
  simp only [Mir.fine, basT, List.all_map, List.length_map, Bool.and_eq_true, decide_eq_true_eq, List.all_eq_true, Function.comp, bas, implies_true, true_and]
  omega
theorem fit_ints {n : Nat} {cs : List Int} : fit (n + 1) (.tup (cs.map .int)) = true := by
  simp [fit]
theorem eq_ctl {cs cs' : List Int} : eqO (.tup (cs.map .int)) (.tup (cs'.map .int)) = some (.bl (eqD (.tup (cs.map .int)) (.tup (cs'.map .int)))) := by
  unfold eqO eqF
  rw [fit_ints, fit_ints]
  rfl
def belowB (cs : List Int) (ws : List (List Nat)) (cs' : List Int) (ws' : List (List Nat)) : Bool := eqD (.tup (cs.map .int)) (.tup (cs'.map .int)) && (ws.zip ws').all fun x => subw x.1 x.2
theorem below_in_ev {cs cs' : List Int} {ws ws' : List (List Nat)} (hl : ws.length = ws'.length) (h2 : ws.length ≤ 2) : m_below_in [Cf cs ws, Cf cs' ws'] s = .ok (.bl (belowB cs ws cs' ws')) s := by
  simp [m_below_in, d_below_in, eq_ctl, belowB, mOf, dRet, dRetN, dSeq, dNext, dIfS, dTr, dNot, dAnd, dOr, dB, dAndV, dOrV, dNotV, dBin, dChain, dCall, dCallD, dCallK, dCallB, dCons, dNil, dTup, dLst, dF, dC, dVar, dOwn, dV, dO, dAsg, dIsi, dSl, dPart, dNoPart, dIf, dMb, dBinL, dListOf, dDrop, dRaise, dWalk, dRng, walkD, R.bind_ok, R.bind_ex, R.bind_bad, R.map, R.out_ok, R.out_ex, R.out_bad, ofO, truD, asB, asI, List.map_cons, List.map_nil, List.length_cons, List.length_nil, Nat.reduceAdd, Nat.reduceSub, List.replicate, List.cons_append, List.nil_append, List.getElem?_cons_zero, List.getElem?_cons_succ, List.set_cons_zero, List.set_cons_succ, frz_nil, frzs_nil, Option.bind_some, Option.map_some, leD, ltD, geD, gtD, cmpI, if_true, ite_true, if_false, ite_false, Bool.false_eq_true, ne_int, eq_int, ne_bl, eq_bl, ne_str, eq_str, ixD_t0, ixD_t1, ixD_t2, ixD_l0, ixD_l1, ixD_l2, ite_ok, ite_bl, ite_rt, isi_int_non, isi_int_bl, isi_int_int, isi_int_str, isi_int_tup, isi_int_lst, isi_bool_non, isi_bool_bl, isi_bool_int, isi_bool_str, isi_bool_tup, isi_bool_lst, isi_str_non, isi_str_bl, isi_str_int, isi_str_str, isi_str_tup, isi_str_lst, isi_tuple_non, isi_tuple_bl, isi_tuple_int, isi_tuple_str, isi_tuple_tup, isi_tuple_lst, isi_list_non, isi_list_bl, isi_list_int, isi_list_str, isi_list_tup, isi_list_lst]
  cases z : eqD (.tup (cs.map .int)) (.tup (cs'.map .int))
  · simp [mOf, dRet, dRetN, dSeq, dNext, dIfS, dTr, dNot, dAnd, dOr, dB, dAndV, dOrV, dNotV, dBin, dChain, dCall, dCallD, dCallK, dCallB, dCons, dNil, dTup, dLst, dF, dC, dVar, dOwn, dV, dO, dAsg, dIsi, dSl, dPart, dNoPart, dIf, dMb, dBinL, dListOf, dDrop, dRaise, dWalk, dRng, walkD, R.bind_ok, R.bind_ex, R.bind_bad, R.map, R.out_ok, R.out_ex, R.out_bad, ofO, truD, asB, asI, List.map_cons, List.map_nil, List.length_cons, List.length_nil, Nat.reduceAdd, Nat.reduceSub, List.replicate, List.cons_append, List.nil_append, List.getElem?_cons_zero, List.getElem?_cons_succ, List.set_cons_zero, List.set_cons_succ, frz_nil, frzs_nil, Option.bind_some, Option.map_some, leD, ltD, geD, gtD, cmpI, if_true, ite_true, if_false, ite_false, Bool.false_eq_true, ne_int, eq_int, ne_bl, eq_bl, ne_str, eq_str, ixD_t0, ixD_t1, ixD_t2, ixD_l0, ixD_l1, ixD_l2, ite_ok, ite_bl, ite_rt, isi_int_non, isi_int_bl, isi_int_int, isi_int_str, isi_int_tup, isi_int_lst, isi_bool_non, isi_bool_bl, isi_bool_int, isi_bool_str, isi_bool_tup, isi_bool_lst, isi_str_non, isi_str_bl, isi_str_int, isi_str_str, isi_str_tup, isi_str_lst, isi_tuple_non, isi_tuple_bl, isi_tuple_int, isi_tuple_str, isi_tuple_tup, isi_tuple_lst, isi_list_non, isi_list_bl, isi_list_int, isi_list_str, isi_list_tup, isi_list_lst]
  · simp [mOf, dRet, dRetN, dSeq, dNext, dIfS, dTr, dNot, dAnd, dOr, dB, dAndV, dOrV, dNotV, dBin, dChain, dCall, dCallD, dCallK, dCallB, dCons, dNil, dTup, dLst, dF, dC, dVar, dOwn, dV, dO, dAsg, dIsi, dSl, dPart, dNoPart, dIf, dMb, dBinL, dListOf, dDrop, dRaise, dWalk, dRng, walkD, R.bind_ok, R.bind_ex, R.bind_bad, R.map, R.out_ok, R.out_ex, R.out_bad, ofO, truD, asB, asI, List.map_cons, List.map_nil, List.length_cons, List.length_nil, Nat.reduceAdd, Nat.reduceSub, List.replicate, List.cons_append, List.nil_append, List.getElem?_cons_zero, List.getElem?_cons_succ, List.set_cons_zero, List.set_cons_succ, frz_nil, frzs_nil, Option.bind_some, Option.map_some, leD, ltD, geD, gtD, cmpI, if_true, ite_true, if_false, ite_false, Bool.false_eq_true, ne_int, eq_int, ne_bl, eq_bl, ne_str, eq_str, ixD_t0, ixD_t1, ixD_t2, ixD_l0, ixD_l1, ixD_l2, ite_ok, ite_bl, ite_rt, isi_int_non, isi_int_bl, isi_int_int, isi_int_str, isi_int_tup, isi_int_lst, isi_bool_non, isi_bool_bl, isi_bool_int, isi_bool_str, isi_bool_tup, isi_bool_lst, isi_str_non, isi_str_bl, isi_str_int, isi_str_str, isi_str_tup, isi_str_lst, isi_tuple_non, isi_tuple_bl, isi_tuple_int, isi_tuple_str, isi_tuple_tup, isi_tuple_lst, isi_list_non, isi_list_bl, isi_list_int, isi_list_str, isi_list_tup, isi_list_lst]
    rw [dLc_ev (ws.zip ws') (fun x => .tup [.str x.1, .str x.2]) (fun x => .bl (subw x.1 x.2)) (s' := s) ?_ ?_ ?_]
    · simp [allD_ev]
    · simp [zip2, zipD, List.zip, List.map_zipWith, List.zipWith_map, mOf, dRet, dRetN, dSeq, dNext, dIfS, dTr, dNot, dAnd, dOr, dB, dAndV, dOrV, dNotV, dBin, dChain, dCall, dCallD, dCallK, dCallB, dCons, dNil, dTup, dLst, dF, dC, dVar, dOwn, dV, dO, dAsg, dIsi, dSl, dPart, dNoPart, dIf, dMb, dBinL, dListOf, dDrop, dRaise, dWalk, dRng, walkD, R.bind_ok, R.bind_ex, R.bind_bad, R.map, R.out_ok, R.out_ex, R.out_bad, ofO, truD, asB, asI, List.map_cons, List.map_nil, List.length_cons, List.length_nil, Nat.reduceAdd, Nat.reduceSub, List.replicate, List.cons_append, List.nil_append, List.getElem?_cons_zero, List.getElem?_cons_succ, List.set_cons_zero, List.set_cons_succ, frz_nil, frzs_nil, Option.bind_some, Option.map_some, leD, ltD, geD, gtD, cmpI, if_true, ite_true, if_false, ite_false, Bool.false_eq_true, ne_int, eq_int, ne_bl, eq_bl, ne_str, eq_str, ixD_t0, ixD_t1, ixD_t2, ixD_l0, ixD_l1, ixD_l2, ite_ok, ite_bl, ite_rt, isi_int_non, isi_int_bl, isi_int_int, isi_int_str, isi_int_tup, isi_int_lst, isi_bool_non, isi_bool_bl, isi_bool_int, isi_bool_str, isi_bool_tup, isi_bool_lst, isi_str_non, isi_str_bl, isi_str_int, isi_str_str, isi_str_tup, isi_str_lst, isi_tuple_non, isi_tuple_bl, isi_tuple_int, isi_tuple_str, isi_tuple_tup, isi_tuple_lst, isi_list_non, isi_list_bl, isi_list_int, isi_list_str, isi_list_tup, isi_list_lst]
    · simp; omega
    · intro x hx
      refine ⟨_, rfl, ?_⟩
      simp [wipeE, lies_in_ev, mOf, dRet, dRetN, dSeq, dNext, dIfS, dTr, dNot, dAnd, dOr, dB, dAndV, dOrV, dNotV, dBin, dChain, dCall, dCallD, dCallK, dCallB, dCons, dNil, dTup, dLst, dF, dC, dVar, dOwn, dV, dO, dAsg, dIsi, dSl, dPart, dNoPart, dIf, dMb, dBinL, dListOf, dDrop, dRaise, dWalk, dRng, walkD, R.bind_ok, R.bind_ex, R.bind_bad, R.map, R.out_ok, R.out_ex, R.out_bad, ofO, truD, asB, asI, List.map_cons, List.map_nil, List.length_cons, List.length_nil, Nat.reduceAdd, Nat.reduceSub, List.replicate, List.cons_append, List.nil_append, List.getElem?_cons_zero, List.getElem?_cons_succ, List.set_cons_zero, List.set_cons_succ, frz_nil, frzs_nil, Option.bind_some, Option.map_some, leD, ltD, geD, gtD, cmpI, if_true, ite_true, if_false, ite_false, Bool.false_eq_true, ne_int, eq_int, ne_bl, eq_bl, ne_str, eq_str, ixD_t0, ixD_t1, ixD_t2, ixD_l0, ixD_l1, ixD_l2, ite_ok, ite_bl, ite_rt, isi_int_non, isi_int_bl, isi_int_int, isi_int_str, isi_int_tup, isi_int_lst, isi_bool_non, isi_bool_bl, isi_bool_int, isi_bool_str, isi_bool_tup, isi_bool_lst, isi_str_non, isi_str_bl, isi_str_int, isi_str_str, isi_str_tup, isi_str_lst, isi_tuple_non, isi_tuple_bl, isi_tuple_int, isi_tuple_str, isi_tuple_tup, isi_tuple_lst, isi_list_non, isi_list_bl, isi_list_int, isi_list_str, isi_list_tup, isi_list_lst]
theorem law_below_ev {cs cs' : List Int} {ws ws' : List (List Nat)} (hl : ws.length = ws'.length) (h2 : ws.length ≤ 2) : m__law_below [Cf cs ws, Cf cs' ws'] s = .ok (.bl (belowB cs ws cs' ws')) s := by
  simp [m__law_below, d__law_below, eq_ctl, belowB, mOf, dRet, dRetN, dSeq, dNext, dIfS, dTr, dNot, dAnd, dOr, dB, dAndV, dOrV, dNotV, dBin, dChain, dCall, dCallD, dCallK, dCallB, dCons, dNil, dTup, dLst, dF, dC, dVar, dOwn, dV, dO, dAsg, dIsi, dSl, dPart, dNoPart, dIf, dMb, dBinL, dListOf, dDrop, dRaise, dWalk, dRng, walkD, R.bind_ok, R.bind_ex, R.bind_bad, R.map, R.out_ok, R.out_ex, R.out_bad, ofO, truD, asB, asI, List.map_cons, List.map_nil, List.length_cons, List.length_nil, Nat.reduceAdd, Nat.reduceSub, List.replicate, List.cons_append, List.nil_append, List.getElem?_cons_zero, List.getElem?_cons_succ, List.set_cons_zero, List.set_cons_succ, frz_nil, frzs_nil, Option.bind_some, Option.map_some, leD, ltD, geD, gtD, cmpI, if_true, ite_true, if_false, ite_false, Bool.false_eq_true, ne_int, eq_int, ne_bl, eq_bl, ne_str, eq_str, ixD_t0, ixD_t1, ixD_t2, ixD_l0, ixD_l1, ixD_l2, ite_ok, ite_bl, ite_rt, isi_int_non, isi_int_bl, isi_int_int, isi_int_str, isi_int_tup, isi_int_lst, isi_bool_non, isi_bool_bl, isi_bool_int, isi_bool_str, isi_bool_tup, isi_bool_lst, isi_str_non, isi_str_bl, isi_str_int, isi_str_str, isi_str_tup, isi_str_lst, isi_tuple_non, isi_tuple_bl, isi_tuple_int, isi_tuple_str, isi_tuple_tup, isi_tuple_lst, isi_list_non, isi_list_bl, isi_list_int, isi_list_str, isi_list_tup, isi_list_lst]
  cases z : eqD (.tup (cs.map .int)) (.tup (cs'.map .int))
  · simp [mOf, dRet, dRetN, dSeq, dNext, dIfS, dTr, dNot, dAnd, dOr, dB, dAndV, dOrV, dNotV, dBin, dChain, dCall, dCallD, dCallK, dCallB, dCons, dNil, dTup, dLst, dF, dC, dVar, dOwn, dV, dO, dAsg, dIsi, dSl, dPart, dNoPart, dIf, dMb, dBinL, dListOf, dDrop, dRaise, dWalk, dRng, walkD, R.bind_ok, R.bind_ex, R.bind_bad, R.map, R.out_ok, R.out_ex, R.out_bad, ofO, truD, asB, asI, List.map_cons, List.map_nil, List.length_cons, List.length_nil, Nat.reduceAdd, Nat.reduceSub, List.replicate, List.cons_append, List.nil_append, List.getElem?_cons_zero, List.getElem?_cons_succ, List.set_cons_zero, List.set_cons_succ, frz_nil, frzs_nil, Option.bind_some, Option.map_some, leD, ltD, geD, gtD, cmpI, if_true, ite_true, if_false, ite_false, Bool.false_eq_true, ne_int, eq_int, ne_bl, eq_bl, ne_str, eq_str, ixD_t0, ixD_t1, ixD_t2, ixD_l0, ixD_l1, ixD_l2, ite_ok, ite_bl, ite_rt, isi_int_non, isi_int_bl, isi_int_int, isi_int_str, isi_int_tup, isi_int_lst, isi_bool_non, isi_bool_bl, isi_bool_int, isi_bool_str, isi_bool_tup, isi_bool_lst, isi_str_non, isi_str_bl, isi_str_int, isi_str_str, isi_str_tup, isi_str_lst, isi_tuple_non, isi_tuple_bl, isi_tuple_int, isi_tuple_str, isi_tuple_tup, isi_tuple_lst, isi_list_non, isi_list_bl, isi_list_int, isi_list_str, isi_list_tup, isi_list_lst]
  · simp [mOf, dRet, dRetN, dSeq, dNext, dIfS, dTr, dNot, dAnd, dOr, dB, dAndV, dOrV, dNotV, dBin, dChain, dCall, dCallD, dCallK, dCallB, dCons, dNil, dTup, dLst, dF, dC, dVar, dOwn, dV, dO, dAsg, dIsi, dSl, dPart, dNoPart, dIf, dMb, dBinL, dListOf, dDrop, dRaise, dWalk, dRng, walkD, R.bind_ok, R.bind_ex, R.bind_bad, R.map, R.out_ok, R.out_ex, R.out_bad, ofO, truD, asB, asI, List.map_cons, List.map_nil, List.length_cons, List.length_nil, Nat.reduceAdd, Nat.reduceSub, List.replicate, List.cons_append, List.nil_append, List.getElem?_cons_zero, List.getElem?_cons_succ, List.set_cons_zero, List.set_cons_succ, frz_nil, frzs_nil, Option.bind_some, Option.map_some, leD, ltD, geD, gtD, cmpI, if_true, ite_true, if_false, ite_false, Bool.false_eq_true, ne_int, eq_int, ne_bl, eq_bl, ne_str, eq_str, ixD_t0, ixD_t1, ixD_t2, ixD_l0, ixD_l1, ixD_l2, ite_ok, ite_bl, ite_rt, isi_int_non, isi_int_bl, isi_int_int, isi_int_str, isi_int_tup, isi_int_lst, isi_bool_non, isi_bool_bl, isi_bool_int, isi_bool_str, isi_bool_tup, isi_bool_lst, isi_str_non, isi_str_bl, isi_str_int, isi_str_str, isi_str_tup, isi_str_lst, isi_tuple_non, isi_tuple_bl, isi_tuple_int, isi_tuple_str, isi_tuple_tup, isi_tuple_lst, isi_list_non, isi_list_bl, isi_list_int, isi_list_str, isi_list_tup, isi_list_lst]
    rw [dLc_ev (List.range ws.length) (fun k => .int (k : Int)) (fun k => .bl (subw (ws.getD k []) (ws'.getD k []))) (s' := s) ?_ ?_ ?_]
    · have q := zip_all (fun x y => subw x y) ws ws' hl [] []
      rw [← hl] at q
      simp only [R.bind_ok, allD_ev, q, mOf, dRet, dRetN, dSeq, dNext, dIfS, dTr, dNot, dAnd, dOr, dB, dAndV, dOrV, dNotV, dBin, dChain, dCall, dCallD, dCallK, dCallB, dCons, dNil, dTup, dLst, dF, dC, dVar, dOwn, dV, dO, dAsg, dIsi, dSl, dPart, dNoPart, dIf, dMb, dBinL, dListOf, dDrop, dRaise, dWalk, dRng, walkD, R.bind_ok, R.bind_ex, R.bind_bad, R.map, R.out_ok, R.out_ex, R.out_bad, ofO, truD, asB, asI, List.map_cons, List.map_nil, List.length_cons, List.length_nil, Nat.reduceAdd, Nat.reduceSub, List.replicate, List.cons_append, List.nil_append, List.getElem?_cons_zero, List.getElem?_cons_succ, List.set_cons_zero, List.set_cons_succ, frz_nil, frzs_nil, Option.bind_some, Option.map_some, leD, ltD, geD, gtD, cmpI, if_true, ite_true, if_false, ite_false, Bool.false_eq_true, ne_int, eq_int, ne_bl, eq_bl, ne_str, eq_str, ixD_t0, ixD_t1, ixD_t2, ixD_l0, ixD_l1, ixD_l2, ite_ok, ite_bl, ite_rt, isi_int_non, isi_int_bl, isi_int_int, isi_int_str, isi_int_tup, isi_int_lst, isi_bool_non, isi_bool_bl, isi_bool_int, isi_bool_str, isi_bool_tup, isi_bool_lst, isi_str_non, isi_str_bl, isi_str_int, isi_str_str, isi_str_tup, isi_str_lst, isi_tuple_non, isi_tuple_bl, isi_tuple_int, isi_tuple_str, isi_tuple_tup, isi_tuple_lst, isi_list_non, isi_list_bl, isi_list_int, isi_list_str, isi_list_tup, isi_list_lst]
    · have e1 : (ws.length : Int) ≤ 65536 := by omega
      simp [lenD, rng1, rngD, e1, mOf, dRet, dRetN, dSeq, dNext, dIfS, dTr, dNot, dAnd, dOr, dB, dAndV, dOrV, dNotV, dBin, dChain, dCall, dCallD, dCallK, dCallB, dCons, dNil, dTup, dLst, dF, dC, dVar, dOwn, dV, dO, dAsg, dIsi, dSl, dPart, dNoPart, dIf, dMb, dBinL, dListOf, dDrop, dRaise, dWalk, dRng, walkD, R.bind_ok, R.bind_ex, R.bind_bad, R.map, R.out_ok, R.out_ex, R.out_bad, ofO, truD, asB, asI, List.map_cons, List.map_nil, List.length_cons, List.length_nil, Nat.reduceAdd, Nat.reduceSub, List.replicate, List.cons_append, List.nil_append, List.getElem?_cons_zero, List.getElem?_cons_succ, List.set_cons_zero, List.set_cons_succ, frz_nil, frzs_nil, Option.bind_some, Option.map_some, leD, ltD, geD, gtD, cmpI, if_true, ite_true, if_false, ite_false, Bool.false_eq_true, ne_int, eq_int, ne_bl, eq_bl, ne_str, eq_str, ixD_t0, ixD_t1, ixD_t2, ixD_l0, ixD_l1, ixD_l2, ite_ok, ite_bl, ite_rt, isi_int_non, isi_int_bl, isi_int_int, isi_int_str, isi_int_tup, isi_int_lst, isi_bool_non, isi_bool_bl, isi_bool_int, isi_bool_str, isi_bool_tup, isi_bool_lst, isi_str_non, isi_str_bl, isi_str_int, isi_str_str, isi_str_tup, isi_str_lst, isi_tuple_non, isi_tuple_bl, isi_tuple_int, isi_tuple_str, isi_tuple_tup, isi_tuple_lst, isi_list_non, isi_list_bl, isi_list_int, isi_list_str, isi_list_tup, isi_list_lst]
    · simp; omega
    · intro k hk
      have hk : k < ws.length := List.mem_range.mp hk
      have hk' : k < ws'.length := by omega
      refine ⟨_, rfl, ?_⟩
      simp [wipeE, ixD_tup, hk, hk', law_sub_ev, mOf, dRet, dRetN, dSeq, dNext, dIfS, dTr, dNot, dAnd, dOr, dB, dAndV, dOrV, dNotV, dBin, dChain, dCall, dCallD, dCallK, dCallB, dCons, dNil, dTup, dLst, dF, dC, dVar, dOwn, dV, dO, dAsg, dIsi, dSl, dPart, dNoPart, dIf, dMb, dBinL, dListOf, dDrop, dRaise, dWalk, dRng, walkD, R.bind_ok, R.bind_ex, R.bind_bad, R.map, R.out_ok, R.out_ex, R.out_bad, ofO, truD, asB, asI, List.map_cons, List.map_nil, List.length_cons, List.length_nil, Nat.reduceAdd, Nat.reduceSub, List.replicate, List.cons_append, List.nil_append, List.getElem?_cons_zero, List.getElem?_cons_succ, List.set_cons_zero, List.set_cons_succ, frz_nil, frzs_nil, Option.bind_some, Option.map_some, leD, ltD, geD, gtD, cmpI, if_true, ite_true, if_false, ite_false, Bool.false_eq_true, ne_int, eq_int, ne_bl, eq_bl, ne_str, eq_str, ixD_t0, ixD_t1, ixD_t2, ixD_l0, ixD_l1, ixD_l2, ite_ok, ite_bl, ite_rt, isi_int_non, isi_int_bl, isi_int_int, isi_int_str, isi_int_tup, isi_int_lst, isi_bool_non, isi_bool_bl, isi_bool_int, isi_bool_str, isi_bool_tup, isi_bool_lst, isi_str_non, isi_str_bl, isi_str_int, isi_str_str, isi_str_tup, isi_str_lst, isi_tuple_non, isi_tuple_bl, isi_tuple_int, isi_tuple_str, isi_tuple_tup, isi_tuple_lst, isi_list_non, isi_list_bl, isi_list_int, isi_list_str, isi_list_tup, isi_list_lst]
theorem letters_ev {cs : List Int} {ws : List (List Nat)} (h2 : ws.length ≤ 2) : m_letter_count [Cf cs ws] s = .ok (.int ((ws.map fun w => (w.length : Int)).sum)) s := by
  simp [m_letter_count, d_letter_count, mOf, dRet, dRetN, dSeq, dNext, dIfS, dTr, dNot, dAnd, dOr, dB, dAndV, dOrV, dNotV, dBin, dChain, dCall, dCallD, dCallK, dCallB, dCons, dNil, dTup, dLst, dF, dC, dVar, dOwn, dV, dO, dAsg, dIsi, dSl, dPart, dNoPart, dIf, dMb, dBinL, dListOf, dDrop, dRaise, dWalk, dRng, walkD, R.bind_ok, R.bind_ex, R.bind_bad, R.map, R.out_ok, R.out_ex, R.out_bad, ofO, truD, asB, asI, List.map_cons, List.map_nil, List.length_cons, List.length_nil, Nat.reduceAdd, Nat.reduceSub, List.replicate, List.cons_append, List.nil_append, List.getElem?_cons_zero, List.getElem?_cons_succ, List.set_cons_zero, List.set_cons_succ, frz_nil, frzs_nil, Option.bind_some, Option.map_some, leD, ltD, geD, gtD, cmpI, if_true, ite_true, if_false, ite_false, Bool.false_eq_true, ne_int, eq_int, ne_bl, eq_bl, ne_str, eq_str, ixD_t0, ixD_t1, ixD_t2, ixD_l0, ixD_l1, ixD_l2, ite_ok, ite_bl, ite_rt, isi_int_non, isi_int_bl, isi_int_int, isi_int_str, isi_int_tup, isi_int_lst, isi_bool_non, isi_bool_bl, isi_bool_int, isi_bool_str, isi_bool_tup, isi_bool_lst, isi_str_non, isi_str_bl, isi_str_int, isi_str_str, isi_str_tup, isi_str_lst, isi_tuple_non, isi_tuple_bl, isi_tuple_int, isi_tuple_str, isi_tuple_tup, isi_tuple_lst, isi_list_non, isi_list_bl, isi_list_int, isi_list_str, isi_list_tup, isi_list_lst]
  rw [dLc_ev ws (fun w => .str w) (fun w => .int (w.length : Int)) (s' := s) ?_ ?_ ?_]
  · simp [sumD, intsOf_map]
  · simp [mOf, dRet, dRetN, dSeq, dNext, dIfS, dTr, dNot, dAnd, dOr, dB, dAndV, dOrV, dNotV, dBin, dChain, dCall, dCallD, dCallK, dCallB, dCons, dNil, dTup, dLst, dF, dC, dVar, dOwn, dV, dO, dAsg, dIsi, dSl, dPart, dNoPart, dIf, dMb, dBinL, dListOf, dDrop, dRaise, dWalk, dRng, walkD, R.bind_ok, R.bind_ex, R.bind_bad, R.map, R.out_ok, R.out_ex, R.out_bad, ofO, truD, asB, asI, List.map_cons, List.map_nil, List.length_cons, List.length_nil, Nat.reduceAdd, Nat.reduceSub, List.replicate, List.cons_append, List.nil_append, List.getElem?_cons_zero, List.getElem?_cons_succ, List.set_cons_zero, List.set_cons_succ, frz_nil, frzs_nil, Option.bind_some, Option.map_some, leD, ltD, geD, gtD, cmpI, if_true, ite_true, if_false, ite_false, Bool.false_eq_true, ne_int, eq_int, ne_bl, eq_bl, ne_str, eq_str, ixD_t0, ixD_t1, ixD_t2, ixD_l0, ixD_l1, ixD_l2, ite_ok, ite_bl, ite_rt, isi_int_non, isi_int_bl, isi_int_int, isi_int_str, isi_int_tup, isi_int_lst, isi_bool_non, isi_bool_bl, isi_bool_int, isi_bool_str, isi_bool_tup, isi_bool_lst, isi_str_non, isi_str_bl, isi_str_int, isi_str_str, isi_str_tup, isi_str_lst, isi_tuple_non, isi_tuple_bl, isi_tuple_int, isi_tuple_str, isi_tuple_tup, isi_tuple_lst, isi_list_non, isi_list_bl, isi_list_int, isi_list_str, isi_list_tup, isi_list_lst]
  · omega
  · intro w hw
    refine ⟨_, rfl, ?_⟩
    simp [wipeE, lenD, mOf, dRet, dRetN, dSeq, dNext, dIfS, dTr, dNot, dAnd, dOr, dB, dAndV, dOrV, dNotV, dBin, dChain, dCall, dCallD, dCallK, dCallB, dCons, dNil, dTup, dLst, dF, dC, dVar, dOwn, dV, dO, dAsg, dIsi, dSl, dPart, dNoPart, dIf, dMb, dBinL, dListOf, dDrop, dRaise, dWalk, dRng, walkD, R.bind_ok, R.bind_ex, R.bind_bad, R.map, R.out_ok, R.out_ex, R.out_bad, ofO, truD, asB, asI, List.map_cons, List.map_nil, List.length_cons, List.length_nil, Nat.reduceAdd, Nat.reduceSub, List.replicate, List.cons_append, List.nil_append, List.getElem?_cons_zero, List.getElem?_cons_succ, List.set_cons_zero, List.set_cons_succ, frz_nil, frzs_nil, Option.bind_some, Option.map_some, leD, ltD, geD, gtD, cmpI, if_true, ite_true, if_false, ite_false, Bool.false_eq_true, ne_int, eq_int, ne_bl, eq_bl, ne_str, eq_str, ixD_t0, ixD_t1, ixD_t2, ixD_l0, ixD_l1, ixD_l2, ite_ok, ite_bl, ite_rt, isi_int_non, isi_int_bl, isi_int_int, isi_int_str, isi_int_tup, isi_int_lst, isi_bool_non, isi_bool_bl, isi_bool_int, isi_bool_str, isi_bool_tup, isi_bool_lst, isi_str_non, isi_str_bl, isi_str_int, isi_str_str, isi_str_tup, isi_str_lst, isi_tuple_non, isi_tuple_bl, isi_tuple_int, isi_tuple_str, isi_tuple_tup, isi_tuple_lst, isi_list_non, isi_list_bl, isi_list_int, isi_list_str, isi_list_tup, isi_list_lst]
section
variable {a b : Int} {sz cs cs' : List Int} {ws ws' : List (List Nat)}
theorem need_both_ev (h : Sg a b sz) (h1 : CfOk a b sz cs ws) {e : D} (he : fine e = true) : m_need_both [SigP a b sz, Cf cs ws, e] s = if confB a b sz e then .ok .non s else .ex "BadOther" s := by
  simp [m_need_both, d_need_both, need_sig_ev h, need_conf_ev h (h1.fine h), h1.conf, is_configuration_of_ev he h.len, mOf, dRet, dRetN, dSeq, dNext, dIfS, dTr, dNot, dAnd, dOr, dB, dAndV, dOrV, dNotV, dBin, dChain, dCall, dCallD, dCallK, dCallB, dCons, dNil, dTup, dLst, dF, dC, dVar, dOwn, dV, dO, dAsg, dIsi, dSl, dPart, dNoPart, dIf, dMb, dBinL, dListOf, dDrop, dRaise, dWalk, dRng, walkD, R.bind_ok, R.bind_ex, R.bind_bad, R.map, R.out_ok, R.out_ex, R.out_bad, ofO, truD, asB, asI, List.map_cons, List.map_nil, List.length_cons, List.length_nil, Nat.reduceAdd, Nat.reduceSub, List.replicate, List.cons_append, List.nil_append, List.getElem?_cons_zero, List.getElem?_cons_succ, List.set_cons_zero, List.set_cons_succ, frz_nil, frzs_nil, Option.bind_some, Option.map_some, leD, ltD, geD, gtD, cmpI, if_true, ite_true, if_false, ite_false, Bool.false_eq_true, ne_int, eq_int, ne_bl, eq_bl, ne_str, eq_str, ixD_t0, ixD_t1, ixD_t2, ixD_l0, ixD_l1, ixD_l2, ite_ok, ite_bl, ite_rt, isi_int_non, isi_int_bl, isi_int_int, isi_int_str, isi_int_tup, isi_int_lst, isi_bool_non, isi_bool_bl, isi_bool_int, isi_bool_str, isi_bool_tup, isi_bool_lst, isi_str_non, isi_str_bl, isi_str_int, isi_str_str, isi_str_tup, isi_str_lst, isi_tuple_non, isi_tuple_bl, isi_tuple_int, isi_tuple_str, isi_tuple_tup, isi_tuple_lst, isi_list_non, isi_list_bl, isi_list_int, isi_list_str, isi_list_tup, isi_list_lst]
  cases confB a b sz e <;> simp
theorem CfOk.w2 (h : Sg a b sz) (h1 : CfOk a b sz cs ws) : ws.length ≤ 2 := by
  have := h1.lw
  rcases h.2.1 with q | q <;> omega
theorem is_below_ev (h : Sg a b sz) (h1 : CfOk a b sz cs ws) (h2 : CfOk a b sz cs' ws') : m_is_below [SigP a b sz, Cf cs ws, Cf cs' ws'] s = .ok (.bl (belowB cs ws cs' ws')) s := by
  have l1 := h1.lw
  have l2 := h2.lw
  simp [m_is_below, d_is_below, need_both_ev h h1 (h2.fine h), h2.conf, below_in_ev (cs := cs) (cs' := cs') (ws := ws) (ws' := ws') (by omega) (h1.w2 h), mOf, dRet, dRetN, dSeq, dNext, dIfS, dTr, dNot, dAnd, dOr, dB, dAndV, dOrV, dNotV, dBin, dChain, dCall, dCallD, dCallK, dCallB, dCons, dNil, dTup, dLst, dF, dC, dVar, dOwn, dV, dO, dAsg, dIsi, dSl, dPart, dNoPart, dIf, dMb, dBinL, dListOf, dDrop, dRaise, dWalk, dRng, walkD, R.bind_ok, R.bind_ex, R.bind_bad, R.map, R.out_ok, R.out_ex, R.out_bad, ofO, truD, asB, asI, List.map_cons, List.map_nil, List.length_cons, List.length_nil, Nat.reduceAdd, Nat.reduceSub, List.replicate, List.cons_append, List.nil_append, List.getElem?_cons_zero, List.getElem?_cons_succ, List.set_cons_zero, List.set_cons_succ, frz_nil, frzs_nil, Option.bind_some, Option.map_some, leD, ltD, geD, gtD, cmpI, if_true, ite_true, if_false, ite_false, Bool.false_eq_true, ne_int, eq_int, ne_bl, eq_bl, ne_str, eq_str, ixD_t0, ixD_t1, ixD_t2, ixD_l0, ixD_l1, ixD_l2, ite_ok, ite_bl, ite_rt, isi_int_non, isi_int_bl, isi_int_int, isi_int_str, isi_int_tup, isi_int_lst, isi_bool_non, isi_bool_bl, isi_bool_int, isi_bool_str, isi_bool_tup, isi_bool_lst, isi_str_non, isi_str_bl, isi_str_int, isi_str_str, isi_str_tup, isi_str_lst, isi_tuple_non, isi_tuple_bl, isi_tuple_int, isi_tuple_str, isi_tuple_tup, isi_tuple_lst, isi_list_non, isi_list_bl, isi_list_int, isi_list_str, isi_list_tup, isi_list_lst]
theorem letters_in_ev (h : Sg a b sz) (h1 : CfOk a b sz cs ws) : m_letters_in [SigP a b sz, Cf cs ws] s = .ok (.int ((ws.map fun w => (w.length : Int)).sum)) s := by
  simp [m_letters_in, d_letters_in, need_sig_ev h, need_conf_ev h (h1.fine h), h1.conf, letters_ev (cs := cs) (h1.w2 h), mOf, dRet, dRetN, dSeq, dNext, dIfS, dTr, dNot, dAnd, dOr, dB, dAndV, dOrV, dNotV, dBin, dChain, dCall, dCallD, dCallK, dCallB, dCons, dNil, dTup, dLst, dF, dC, dVar, dOwn, dV, dO, dAsg, dIsi, dSl, dPart, dNoPart, dIf, dMb, dBinL, dListOf, dDrop, dRaise, dWalk, dRng, walkD, R.bind_ok, R.bind_ex, R.bind_bad, R.map, R.out_ok, R.out_ex, R.out_bad, ofO, truD, asB, asI, List.map_cons, List.map_nil, List.length_cons, List.length_nil, Nat.reduceAdd, Nat.reduceSub, List.replicate, List.cons_append, List.nil_append, List.getElem?_cons_zero, List.getElem?_cons_succ, List.set_cons_zero, List.set_cons_succ, frz_nil, frzs_nil, Option.bind_some, Option.map_some, leD, ltD, geD, gtD, cmpI, if_true, ite_true, if_false, ite_false, Bool.false_eq_true, ne_int, eq_int, ne_bl, eq_bl, ne_str, eq_str, ixD_t0, ixD_t1, ixD_t2, ixD_l0, ixD_l1, ixD_l2, ite_ok, ite_bl, ite_rt, isi_int_non, isi_int_bl, isi_int_int, isi_int_str, isi_int_tup, isi_int_lst, isi_bool_non, isi_bool_bl, isi_bool_int, isi_bool_str, isi_bool_tup, isi_bool_lst, isi_str_non, isi_str_bl, isi_str_int, isi_str_str, isi_str_tup, isi_str_lst, isi_tuple_non, isi_tuple_bl, isi_tuple_int, isi_tuple_str, isi_tuple_tup, isi_tuple_lst, isi_list_non, isi_list_bl, isi_list_int, isi_list_str, isi_list_tup, isi_list_lst]
theorem ne_lst {ds es : List D} (h : fit 64 (.lst ds) = true) (h' : fit 64 (.lst es) = true) : neO (.lst ds) (.lst es) = some (.bl (!eqDs ds es)) := by
  unfold neO eqF
  rw [h, h']
  rfl
theorem same_int {i : Int} : m__law_same [.int i, .int i] s = .ok (.bl true) s := by
  have e1 : neO (.lst [.tup [.int i, .int i]]) (.lst []) = some (.bl true) := rfl
  have e2 : neO (.lst []) (.lst []) = some (.bl false) := rfl
  have w : dWhile whileFuel Q__law_same_2 L__law_same_1 [some (.val (.int i)), some (.val (.int i)), some (.own [.tup [.int i, .int i]]), none, none, none] s = .nx [some (.val (.int i)), some (.val (.int i)), some (.own []), some (.val (.int i)), some (.val (.int i)), none] s := by
    show whileN Q__law_same_2 L__law_same_1 (999998 + 1 + 1) _ s = _
    rw [whileN_step (s1 := s) (s2 := s) (ρ' := [some (.val (.int i)), some (.val (.int i)), some (.own []), some (.val (.int i)), some (.val (.int i)), none]), whileN_end (s1 := s)]
    · simp [Q__law_same_2, e2, mOf, dRet, dRetN, dSeq, dNext, dIfS, dTr, dNot, dAnd, dOr, dB, dAndV, dOrV, dNotV, dBin, dChain, dCall, dCallD, dCallK, dCallB, dCons, dNil, dTup, dLst, dF, dC, dVar, dOwn, dV, dO, dAsg, dIsi, dSl, dPart, dNoPart, dIf, dMb, dBinL, dListOf, dDrop, dRaise, dWalk, dRng, walkD, R.bind_ok, R.bind_ex, R.bind_bad, R.map, R.out_ok, R.out_ex, R.out_bad, ofO, truD, asB, asI, List.map_cons, List.map_nil, List.length_cons, List.length_nil, Nat.reduceAdd, Nat.reduceSub, List.replicate, List.cons_append, List.nil_append, List.getElem?_cons_zero, List.getElem?_cons_succ, List.set_cons_zero, List.set_cons_succ, frz_nil, frzs_nil, Option.bind_some, Option.map_some, leD, ltD, geD, gtD, cmpI, if_true, ite_true, if_false, ite_false, Bool.false_eq_true, ne_int, eq_int, ne_bl, eq_bl, ne_str, eq_str, ixD_t0, ixD_t1, ixD_t2, ixD_l0, ixD_l1, ixD_l2, ite_ok, ite_bl, ite_rt, isi_int_non, isi_int_bl, isi_int_int, isi_int_str, isi_int_tup, isi_int_lst, isi_bool_non, isi_bool_bl, isi_bool_int, isi_bool_str, isi_bool_tup, isi_bool_lst, isi_str_non, isi_str_bl, isi_str_int, isi_str_str, isi_str_tup, isi_str_lst, isi_tuple_non, isi_tuple_bl, isi_tuple_int, isi_tuple_str, isi_tuple_tup, isi_tuple_lst, isi_list_non, isi_list_bl, isi_list_int, isi_list_str, isi_list_tup, isi_list_lst]
    · simp [Q__law_same_2, e1, mOf, dRet, dRetN, dSeq, dNext, dIfS, dTr, dNot, dAnd, dOr, dB, dAndV, dOrV, dNotV, dBin, dChain, dCall, dCallD, dCallK, dCallB, dCons, dNil, dTup, dLst, dF, dC, dVar, dOwn, dV, dO, dAsg, dIsi, dSl, dPart, dNoPart, dIf, dMb, dBinL, dListOf, dDrop, dRaise, dWalk, dRng, walkD, R.bind_ok, R.bind_ex, R.bind_bad, R.map, R.out_ok, R.out_ex, R.out_bad, ofO, truD, asB, asI, List.map_cons, List.map_nil, List.length_cons, List.length_nil, Nat.reduceAdd, Nat.reduceSub, List.replicate, List.cons_append, List.nil_append, List.getElem?_cons_zero, List.getElem?_cons_succ, List.set_cons_zero, List.set_cons_succ, frz_nil, frzs_nil, Option.bind_some, Option.map_some, leD, ltD, geD, gtD, cmpI, if_true, ite_true, if_false, ite_false, Bool.false_eq_true, ne_int, eq_int, ne_bl, eq_bl, ne_str, eq_str, ixD_t0, ixD_t1, ixD_t2, ixD_l0, ixD_l1, ixD_l2, ite_ok, ite_bl, ite_rt, isi_int_non, isi_int_bl, isi_int_int, isi_int_str, isi_int_tup, isi_int_lst, isi_bool_non, isi_bool_bl, isi_bool_int, isi_bool_str, isi_bool_tup, isi_bool_lst, isi_str_non, isi_str_bl, isi_str_int, isi_str_str, isi_str_tup, isi_str_lst, isi_tuple_non, isi_tuple_bl, isi_tuple_int, isi_tuple_str, isi_tuple_tup, isi_tuple_lst, isi_list_non, isi_list_bl, isi_list_int, isi_list_str, isi_list_tup, isi_list_lst]
    · simp [L__law_same_1, dMeth, fPop, gT, gsCons, gsNil, gN, isF, mOf, dRet, dRetN, dSeq, dNext, dIfS, dTr, dNot, dAnd, dOr, dB, dAndV, dOrV, dNotV, dBin, dChain, dCall, dCallD, dCallK, dCallB, dCons, dNil, dTup, dLst, dF, dC, dVar, dOwn, dV, dO, dAsg, dIsi, dSl, dPart, dNoPart, dIf, dMb, dBinL, dListOf, dDrop, dRaise, dWalk, dRng, walkD, R.bind_ok, R.bind_ex, R.bind_bad, R.map, R.out_ok, R.out_ex, R.out_bad, ofO, truD, asB, asI, List.map_cons, List.map_nil, List.length_cons, List.length_nil, Nat.reduceAdd, Nat.reduceSub, List.replicate, List.cons_append, List.nil_append, List.getElem?_cons_zero, List.getElem?_cons_succ, List.set_cons_zero, List.set_cons_succ, frz_nil, frzs_nil, Option.bind_some, Option.map_some, leD, ltD, geD, gtD, cmpI, if_true, ite_true, if_false, ite_false, Bool.false_eq_true, ne_int, eq_int, ne_bl, eq_bl, ne_str, eq_str, ixD_t0, ixD_t1, ixD_t2, ixD_l0, ixD_l1, ixD_l2, ite_ok, ite_bl, ite_rt, isi_int_non, isi_int_bl, isi_int_int, isi_int_str, isi_int_tup, isi_int_lst, isi_bool_non, isi_bool_bl, isi_bool_int, isi_bool_str, isi_bool_tup, isi_bool_lst, isi_str_non, isi_str_bl, isi_str_int, isi_str_str, isi_str_tup, isi_str_lst, isi_tuple_non, isi_tuple_bl, isi_tuple_int, isi_tuple_str, isi_tuple_tup, isi_tuple_lst, isi_list_non, isi_list_bl, isi_list_int, isi_list_str, isi_list_tup, isi_list_lst]
  simp [m__law_same, d__law_same, mOf, dRet, dRetN, dSeq, dNext, dIfS, dTr, dNot, dAnd, dOr, dB, dAndV, dOrV, dNotV, dBin, dChain, dCall, dCallD, dCallK, dCallB, dCons, dNil, dTup, dLst, dF, dC, dVar, dOwn, dV, dO, dAsg, dIsi, dSl, dPart, dNoPart, dIf, dMb, dBinL, dListOf, dDrop, dRaise, dWalk, dRng, walkD, R.bind_ok, R.bind_ex, R.bind_bad, R.map, R.out_ok, R.out_ex, R.out_bad, ofO, truD, asB, asI, List.map_cons, List.map_nil, List.length_cons, List.length_nil, Nat.reduceAdd, Nat.reduceSub, List.replicate, List.cons_append, List.nil_append, List.getElem?_cons_zero, List.getElem?_cons_succ, List.set_cons_zero, List.set_cons_succ, frz_nil, frzs_nil, Option.bind_some, Option.map_some, leD, ltD, geD, gtD, cmpI, if_true, ite_true, if_false, ite_false, Bool.false_eq_true, ne_int, eq_int, ne_bl, eq_bl, ne_str, eq_str, ixD_t0, ixD_t1, ixD_t2, ixD_l0, ixD_l1, ixD_l2, ite_ok, ite_bl, ite_rt, isi_int_non, isi_int_bl, isi_int_int, isi_int_str, isi_int_tup, isi_int_lst, isi_bool_non, isi_bool_bl, isi_bool_int, isi_bool_str, isi_bool_tup, isi_bool_lst, isi_str_non, isi_str_bl, isi_str_int, isi_str_str, isi_str_tup, isi_str_lst, isi_tuple_non, isi_tuple_bl, isi_tuple_int, isi_tuple_str, isi_tuple_tup, isi_tuple_lst, isi_list_non, isi_list_bl, isi_list_int, isi_list_str, isi_list_tup, isi_list_lst]
  rw [w]
theorem compared_ev (h : Sg a b sz) (h1 : CfOk a b sz cs ws) (h2 : CfOk a b sz cs' ws') : m__law_compared [SigP a b sz, Cf cs ws, Cf cs' ws'] s = .ok (.bl true) s := by
  have l1 := h1.lw
  have l2 := h2.lw
  simp [m__law_compared, d__law_compared, pick, is_below_ev h h1 h2, is_below_ev h h2 h1, law_below_ev (cs := cs) (cs' := cs') (ws := ws) (ws' := ws') (by omega) (h1.w2 h), law_below_ev (cs := cs') (cs' := cs) (ws := ws') (ws' := ws) (by omega) (h2.w2 h), same_bl, letters_in_ev h h1, mOf, dRet, dRetN, dSeq, dNext, dIfS, dTr, dNot, dAnd, dOr, dB, dAndV, dOrV, dNotV, dBin, dChain, dCall, dCallD, dCallK, dCallB, dCons, dNil, dTup, dLst, dF, dC, dVar, dOwn, dV, dO, dAsg, dIsi, dSl, dPart, dNoPart, dIf, dMb, dBinL, dListOf, dDrop, dRaise, dWalk, dRng, walkD, R.bind_ok, R.bind_ex, R.bind_bad, R.map, R.out_ok, R.out_ex, R.out_bad, ofO, truD, asB, asI, List.map_cons, List.map_nil, List.length_cons, List.length_nil, Nat.reduceAdd, Nat.reduceSub, List.replicate, List.cons_append, List.nil_append, List.getElem?_cons_zero, List.getElem?_cons_succ, List.set_cons_zero, List.set_cons_succ, frz_nil, frzs_nil, Option.bind_some, Option.map_some, leD, ltD, geD, gtD, cmpI, if_true, ite_true, if_false, ite_false, Bool.false_eq_true, ne_int, eq_int, ne_bl, eq_bl, ne_str, eq_str, ixD_t0, ixD_t1, ixD_t2, ixD_l0, ixD_l1, ixD_l2, ite_ok, ite_bl, ite_rt, isi_int_non, isi_int_bl, isi_int_int, isi_int_str, isi_int_tup, isi_int_lst, isi_bool_non, isi_bool_bl, isi_bool_int, isi_bool_str, isi_bool_tup, isi_bool_lst, isi_str_non, isi_str_bl, isi_str_int, isi_str_str, isi_str_tup, isi_str_lst, isi_tuple_non, isi_tuple_bl, isi_tuple_int, isi_tuple_str, isi_tuple_tup, isi_tuple_lst, isi_list_non, isi_list_bl, isi_list_int, isi_list_str, isi_list_tup, isi_list_lst]
  rw [dLc_ev ws (fun w => .str w) (fun w => .int (w.length : Int)) (s' := s) ?_ ?_ ?_]
  · simp [sumD, intsOf_map, same_int]
  · simp [mOf, dRet, dRetN, dSeq, dNext, dIfS, dTr, dNot, dAnd, dOr, dB, dAndV, dOrV, dNotV, dBin, dChain, dCall, dCallD, dCallK, dCallB, dCons, dNil, dTup, dLst, dF, dC, dVar, dOwn, dV, dO, dAsg, dIsi, dSl, dPart, dNoPart, dIf, dMb, dBinL, dListOf, dDrop, dRaise, dWalk, dRng, walkD, R.bind_ok, R.bind_ex, R.bind_bad, R.map, R.out_ok, R.out_ex, R.out_bad, ofO, truD, asB, asI, List.map_cons, List.map_nil, List.length_cons, List.length_nil, Nat.reduceAdd, Nat.reduceSub, List.replicate, List.cons_append, List.nil_append, List.getElem?_cons_zero, List.getElem?_cons_succ, List.set_cons_zero, List.set_cons_succ, frz_nil, frzs_nil, Option.bind_some, Option.map_some, leD, ltD, geD, gtD, cmpI, if_true, ite_true, if_false, ite_false, Bool.false_eq_true, ne_int, eq_int, ne_bl, eq_bl, ne_str, eq_str, ixD_t0, ixD_t1, ixD_t2, ixD_l0, ixD_l1, ixD_l2, ite_ok, ite_bl, ite_rt, isi_int_non, isi_int_bl, isi_int_int, isi_int_str, isi_int_tup, isi_int_lst, isi_bool_non, isi_bool_bl, isi_bool_int, isi_bool_str, isi_bool_tup, isi_bool_lst, isi_str_non, isi_str_bl, isi_str_int, isi_str_str, isi_str_tup, isi_str_lst, isi_tuple_non, isi_tuple_bl, isi_tuple_int, isi_tuple_str, isi_tuple_tup, isi_tuple_lst, isi_list_non, isi_list_bl, isi_list_int, isi_list_str, isi_list_tup, isi_list_lst]
  · have := h1.w2 h; omega
  · intro w hw
    refine ⟨_, rfl, ?_⟩
    simp [wipeE, lenD, mOf, dRet, dRetN, dSeq, dNext, dIfS, dTr, dNot, dAnd, dOr, dB, dAndV, dOrV, dNotV, dBin, dChain, dCall, dCallD, dCallK, dCallB, dCons, dNil, dTup, dLst, dF, dC, dVar, dOwn, dV, dO, dAsg, dIsi, dSl, dPart, dNoPart, dIf, dMb, dBinL, dListOf, dDrop, dRaise, dWalk, dRng, walkD, R.bind_ok, R.bind_ex, R.bind_bad, R.map, R.out_ok, R.out_ex, R.out_bad, ofO, truD, asB, asI, List.map_cons, List.map_nil, List.length_cons, List.length_nil, Nat.reduceAdd, Nat.reduceSub, List.replicate, List.cons_append, List.nil_append, List.getElem?_cons_zero, List.getElem?_cons_succ, List.set_cons_zero, List.set_cons_succ, frz_nil, frzs_nil, Option.bind_some, Option.map_some, leD, ltD, geD, gtD, cmpI, if_true, ite_true, if_false, ite_false, Bool.false_eq_true, ne_int, eq_int, ne_bl, eq_bl, ne_str, eq_str, ixD_t0, ixD_t1, ixD_t2, ixD_l0, ixD_l1, ixD_l2, ite_ok, ite_bl, ite_rt, isi_int_non, isi_int_bl, isi_int_int, isi_int_str, isi_int_tup, isi_int_lst, isi_bool_non, isi_bool_bl, isi_bool_int, isi_bool_str, isi_bool_tup, isi_bool_lst, isi_str_non, isi_str_bl, isi_str_int, isi_str_str, isi_str_tup, isi_str_lst, isi_tuple_non, isi_tuple_bl, isi_tuple_int, isi_tuple_str, isi_tuple_tup, isi_tuple_lst, isi_list_non, isi_list_bl, isi_list_int, isi_list_str, isi_list_tup, isi_list_lst]
end
/-! ### what is drawn -/
theorem sizes_dr (ok : s.Ok) : Ok1 (m__law_sizes [.deck] s) fun d => ∃ sz ∈ szs, d = Sz sz := by
  obtain ⟨d, s1, e, ok1, k, rfl, k0, k1⟩ := pick1 ok (n := 10) (by decide) (by decide)
  have : k = 0 ∨ k = 1 ∨ k = 2 ∨ k = 3 ∨ k = 4 ∨ k = 5 ∨ k = 6 ∨ k = 7 ∨ k = 8 ∨ k = 9 := by omega
  have q : ∃ sz ∈ szs, m__law_sizes [.deck] s = .ok (Sz sz) s1 := by
    rcases this with h | h | h | h | h | h | h | h | h | h <;> subst h
    · exact ⟨[1], by decide, by simp [m__law_sizes, d__law_sizes, m__law_pick, e, mOf, dRet, dRetN, dSeq, dNext, dIfS, dTr, dNot, dAnd, dOr, dB, dAndV, dOrV, dNotV, dBin, dChain, dCall, dCallD, dCallK, dCallB, dCons, dNil, dTup, dLst, dF, dC, dVar, dOwn, dV, dO, dAsg, dIsi, dSl, dPart, dNoPart, dIf, dMb, dBinL, dListOf, dDrop, dRaise, dWalk, dRng, walkD, R.bind_ok, R.bind_ex, R.bind_bad, R.map, R.out_ok, R.out_ex, R.out_bad, ofO, truD, asB, asI, List.map_cons, List.map_nil, List.length_cons, List.length_nil, Nat.reduceAdd, Nat.reduceSub, List.replicate, List.cons_append, List.nil_append, List.getElem?_cons_zero, List.getElem?_cons_succ, List.set_cons_zero, List.set_cons_succ, frz_nil, frzs_nil, Option.bind_some, Option.map_some, leD, ltD, geD, gtD, cmpI, if_true, ite_true, if_false, ite_false, Bool.false_eq_true, ne_int, eq_int, ne_bl, eq_bl, ne_str, eq_str, ixD_t0, ixD_t1, ixD_t2, ixD_l0, ixD_l1, ixD_l2, ite_ok, ite_bl, ite_rt, isi_int_non, isi_int_bl, isi_int_int, isi_int_str, isi_int_tup, isi_int_lst, isi_bool_non, isi_bool_bl, isi_bool_int, isi_bool_str, isi_bool_tup, isi_bool_lst, isi_str_non, isi_str_bl, isi_str_int, isi_str_str, isi_str_tup, isi_str_lst, isi_tuple_non, isi_tuple_bl, isi_tuple_int, isi_tuple_str, isi_tuple_tup, isi_tuple_lst, isi_list_non, isi_list_bl, isi_list_int, isi_list_str, isi_list_tup, isi_list_lst]⟩
    · exact ⟨[2], by decide, by simp [m__law_sizes, d__law_sizes, m__law_pick, e, mOf, dRet, dRetN, dSeq, dNext, dIfS, dTr, dNot, dAnd, dOr, dB, dAndV, dOrV, dNotV, dBin, dChain, dCall, dCallD, dCallK, dCallB, dCons, dNil, dTup, dLst, dF, dC, dVar, dOwn, dV, dO, dAsg, dIsi, dSl, dPart, dNoPart, dIf, dMb, dBinL, dListOf, dDrop, dRaise, dWalk, dRng, walkD, R.bind_ok, R.bind_ex, R.bind_bad, R.map, R.out_ok, R.out_ex, R.out_bad, ofO, truD, asB, asI, List.map_cons, List.map_nil, List.length_cons, List.length_nil, Nat.reduceAdd, Nat.reduceSub, List.replicate, List.cons_append, List.nil_append, List.getElem?_cons_zero, List.getElem?_cons_succ, List.set_cons_zero, List.set_cons_succ, frz_nil, frzs_nil, Option.bind_some, Option.map_some, leD, ltD, geD, gtD, cmpI, if_true, ite_true, if_false, ite_false, Bool.false_eq_true, ne_int, eq_int, ne_bl, eq_bl, ne_str, eq_str, ixD_t0, ixD_t1, ixD_t2, ixD_l0, ixD_l1, ixD_l2, ite_ok, ite_bl, ite_rt, isi_int_non, isi_int_bl, isi_int_int, isi_int_str, isi_int_tup, isi_int_lst, isi_bool_non, isi_bool_bl, isi_bool_int, isi_bool_str, isi_bool_tup, isi_bool_lst, isi_str_non, isi_str_bl, isi_str_int, isi_str_str, isi_str_tup, isi_str_lst, isi_tuple_non, isi_tuple_bl, isi_tuple_int, isi_tuple_str, isi_tuple_tup, isi_tuple_lst, isi_list_non, isi_list_bl, isi_list_int, isi_list_str, isi_list_tup, isi_list_lst]⟩
    · exact ⟨[3], by decide, by simp [m__law_sizes, d__law_sizes, m__law_pick, e, mOf, dRet, dRetN, dSeq, dNext, dIfS, dTr, dNot, dAnd, dOr, dB, dAndV, dOrV, dNotV, dBin, dChain, dCall, dCallD, dCallK, dCallB, dCons, dNil, dTup, dLst, dF, dC, dVar, dOwn, dV, dO, dAsg, dIsi, dSl, dPart, dNoPart, dIf, dMb, dBinL, dListOf, dDrop, dRaise, dWalk, dRng, walkD, R.bind_ok, R.bind_ex, R.bind_bad, R.map, R.out_ok, R.out_ex, R.out_bad, ofO, truD, asB, asI, List.map_cons, List.map_nil, List.length_cons, List.length_nil, Nat.reduceAdd, Nat.reduceSub, List.replicate, List.cons_append, List.nil_append, List.getElem?_cons_zero, List.getElem?_cons_succ, List.set_cons_zero, List.set_cons_succ, frz_nil, frzs_nil, Option.bind_some, Option.map_some, leD, ltD, geD, gtD, cmpI, if_true, ite_true, if_false, ite_false, Bool.false_eq_true, ne_int, eq_int, ne_bl, eq_bl, ne_str, eq_str, ixD_t0, ixD_t1, ixD_t2, ixD_l0, ixD_l1, ixD_l2, ite_ok, ite_bl, ite_rt, isi_int_non, isi_int_bl, isi_int_int, isi_int_str, isi_int_tup, isi_int_lst, isi_bool_non, isi_bool_bl, isi_bool_int, isi_bool_str, isi_bool_tup, isi_bool_lst, isi_str_non, isi_str_bl, isi_str_int, isi_str_str, isi_str_tup, isi_str_lst, isi_tuple_non, isi_tuple_bl, isi_tuple_int, isi_tuple_str, isi_tuple_tup, isi_tuple_lst, isi_list_non, isi_list_bl, isi_list_int, isi_list_str, isi_list_tup, isi_list_lst]⟩
    · exact ⟨[2, 2], by decide, by simp [m__law_sizes, d__law_sizes, m__law_pick, e, mOf, dRet, dRetN, dSeq, dNext, dIfS, dTr, dNot, dAnd, dOr, dB, dAndV, dOrV, dNotV, dBin, dChain, dCall, dCallD, dCallK, dCallB, dCons, dNil, dTup, dLst, dF, dC, dVar, dOwn, dV, dO, dAsg, dIsi, dSl, dPart, dNoPart, dIf, dMb, dBinL, dListOf, dDrop, dRaise, dWalk, dRng, walkD, R.bind_ok, R.bind_ex, R.bind_bad, R.map, R.out_ok, R.out_ex, R.out_bad, ofO, truD, asB, asI, List.map_cons, List.map_nil, List.length_cons, List.length_nil, Nat.reduceAdd, Nat.reduceSub, List.replicate, List.cons_append, List.nil_append, List.getElem?_cons_zero, List.getElem?_cons_succ, List.set_cons_zero, List.set_cons_succ, frz_nil, frzs_nil, Option.bind_some, Option.map_some, leD, ltD, geD, gtD, cmpI, if_true, ite_true, if_false, ite_false, Bool.false_eq_true, ne_int, eq_int, ne_bl, eq_bl, ne_str, eq_str, ixD_t0, ixD_t1, ixD_t2, ixD_l0, ixD_l1, ixD_l2, ite_ok, ite_bl, ite_rt, isi_int_non, isi_int_bl, isi_int_int, isi_int_str, isi_int_tup, isi_int_lst, isi_bool_non, isi_bool_bl, isi_bool_int, isi_bool_str, isi_bool_tup, isi_bool_lst, isi_str_non, isi_str_bl, isi_str_int, isi_str_str, isi_str_tup, isi_str_lst, isi_tuple_non, isi_tuple_bl, isi_tuple_int, isi_tuple_str, isi_tuple_tup, isi_tuple_lst, isi_list_non, isi_list_bl, isi_list_int, isi_list_str, isi_list_tup, isi_list_lst]; rfl⟩
    · exact ⟨[1, 2], by decide, by simp [m__law_sizes, d__law_sizes, m__law_pick, e, mOf, dRet, dRetN, dSeq, dNext, dIfS, dTr, dNot, dAnd, dOr, dB, dAndV, dOrV, dNotV, dBin, dChain, dCall, dCallD, dCallK, dCallB, dCons, dNil, dTup, dLst, dF, dC, dVar, dOwn, dV, dO, dAsg, dIsi, dSl, dPart, dNoPart, dIf, dMb, dBinL, dListOf, dDrop, dRaise, dWalk, dRng, walkD, R.bind_ok, R.bind_ex, R.bind_bad, R.map, R.out_ok, R.out_ex, R.out_bad, ofO, truD, asB, asI, List.map_cons, List.map_nil, List.length_cons, List.length_nil, Nat.reduceAdd, Nat.reduceSub, List.replicate, List.cons_append, List.nil_append, List.getElem?_cons_zero, List.getElem?_cons_succ, List.set_cons_zero, List.set_cons_succ, frz_nil, frzs_nil, Option.bind_some, Option.map_some, leD, ltD, geD, gtD, cmpI, if_true, ite_true, if_false, ite_false, Bool.false_eq_true, ne_int, eq_int, ne_bl, eq_bl, ne_str, eq_str, ixD_t0, ixD_t1, ixD_t2, ixD_l0, ixD_l1, ixD_l2, ite_ok, ite_bl, ite_rt, isi_int_non, isi_int_bl, isi_int_int, isi_int_str, isi_int_tup, isi_int_lst, isi_bool_non, isi_bool_bl, isi_bool_int, isi_bool_str, isi_bool_tup, isi_bool_lst, isi_str_non, isi_str_bl, isi_str_int, isi_str_str, isi_str_tup, isi_str_lst, isi_tuple_non, isi_tuple_bl, isi_tuple_int, isi_tuple_str, isi_tuple_tup, isi_tuple_lst, isi_list_non, isi_list_bl, isi_list_int, isi_list_str, isi_list_tup, isi_list_lst]; rfl⟩
    · exact ⟨[4], by decide, by simp [m__law_sizes, d__law_sizes, m__law_pick, e, mOf, dRet, dRetN, dSeq, dNext, dIfS, dTr, dNot, dAnd, dOr, dB, dAndV, dOrV, dNotV, dBin, dChain, dCall, dCallD, dCallK, dCallB, dCons, dNil, dTup, dLst, dF, dC, dVar, dOwn, dV, dO, dAsg, dIsi, dSl, dPart, dNoPart, dIf, dMb, dBinL, dListOf, dDrop, dRaise, dWalk, dRng, walkD, R.bind_ok, R.bind_ex, R.bind_bad, R.map, R.out_ok, R.out_ex, R.out_bad, ofO, truD, asB, asI, List.map_cons, List.map_nil, List.length_cons, List.length_nil, Nat.reduceAdd, Nat.reduceSub, List.replicate, List.cons_append, List.nil_append, List.getElem?_cons_zero, List.getElem?_cons_succ, List.set_cons_zero, List.set_cons_succ, frz_nil, frzs_nil, Option.bind_some, Option.map_some, leD, ltD, geD, gtD, cmpI, if_true, ite_true, if_false, ite_false, Bool.false_eq_true, ne_int, eq_int, ne_bl, eq_bl, ne_str, eq_str, ixD_t0, ixD_t1, ixD_t2, ixD_l0, ixD_l1, ixD_l2, ite_ok, ite_bl, ite_rt, isi_int_non, isi_int_bl, isi_int_int, isi_int_str, isi_int_tup, isi_int_lst, isi_bool_non, isi_bool_bl, isi_bool_int, isi_bool_str, isi_bool_tup, isi_bool_lst, isi_str_non, isi_str_bl, isi_str_int, isi_str_str, isi_str_tup, isi_str_lst, isi_tuple_non, isi_tuple_bl, isi_tuple_int, isi_tuple_str, isi_tuple_tup, isi_tuple_lst, isi_list_non, isi_list_bl, isi_list_int, isi_list_str, isi_list_tup, isi_list_lst]; rfl⟩
    · exact ⟨[2, 1, 2], by decide, by simp [m__law_sizes, d__law_sizes, m__law_pick, e, mOf, dRet, dRetN, dSeq, dNext, dIfS, dTr, dNot, dAnd, dOr, dB, dAndV, dOrV, dNotV, dBin, dChain, dCall, dCallD, dCallK, dCallB, dCons, dNil, dTup, dLst, dF, dC, dVar, dOwn, dV, dO, dAsg, dIsi, dSl, dPart, dNoPart, dIf, dMb, dBinL, dListOf, dDrop, dRaise, dWalk, dRng, walkD, R.bind_ok, R.bind_ex, R.bind_bad, R.map, R.out_ok, R.out_ex, R.out_bad, ofO, truD, asB, asI, List.map_cons, List.map_nil, List.length_cons, List.length_nil, Nat.reduceAdd, Nat.reduceSub, List.replicate, List.cons_append, List.nil_append, List.getElem?_cons_zero, List.getElem?_cons_succ, List.set_cons_zero, List.set_cons_succ, frz_nil, frzs_nil, Option.bind_some, Option.map_some, leD, ltD, geD, gtD, cmpI, if_true, ite_true, if_false, ite_false, Bool.false_eq_true, ne_int, eq_int, ne_bl, eq_bl, ne_str, eq_str, ixD_t0, ixD_t1, ixD_t2, ixD_l0, ixD_l1, ixD_l2, ite_ok, ite_bl, ite_rt, isi_int_non, isi_int_bl, isi_int_int, isi_int_str, isi_int_tup, isi_int_lst, isi_bool_non, isi_bool_bl, isi_bool_int, isi_bool_str, isi_bool_tup, isi_bool_lst, isi_str_non, isi_str_bl, isi_str_int, isi_str_str, isi_str_tup, isi_str_lst, isi_tuple_non, isi_tuple_bl, isi_tuple_int, isi_tuple_str, isi_tuple_tup, isi_tuple_lst, isi_list_non, isi_list_bl, isi_list_int, isi_list_str, isi_list_tup, isi_list_lst]; rfl⟩
    · exact ⟨[2, 2, 2], by decide, by simp [m__law_sizes, d__law_sizes, m__law_pick, e, mOf, dRet, dRetN, dSeq, dNext, dIfS, dTr, dNot, dAnd, dOr, dB, dAndV, dOrV, dNotV, dBin, dChain, dCall, dCallD, dCallK, dCallB, dCons, dNil, dTup, dLst, dF, dC, dVar, dOwn, dV, dO, dAsg, dIsi, dSl, dPart, dNoPart, dIf, dMb, dBinL, dListOf, dDrop, dRaise, dWalk, dRng, walkD, R.bind_ok, R.bind_ex, R.bind_bad, R.map, R.out_ok, R.out_ex, R.out_bad, ofO, truD, asB, asI, List.map_cons, List.map_nil, List.length_cons, List.length_nil, Nat.reduceAdd, Nat.reduceSub, List.replicate, List.cons_append, List.nil_append, List.getElem?_cons_zero, List.getElem?_cons_succ, List.set_cons_zero, List.set_cons_succ, frz_nil, frzs_nil, Option.bind_some, Option.map_some, leD, ltD, geD, gtD, cmpI, if_true, ite_true, if_false, ite_false, Bool.false_eq_true, ne_int, eq_int, ne_bl, eq_bl, ne_str, eq_str, ixD_t0, ixD_t1, ixD_t2, ixD_l0, ixD_l1, ixD_l2, ite_ok, ite_bl, ite_rt, isi_int_non, isi_int_bl, isi_int_int, isi_int_str, isi_int_tup, isi_int_lst, isi_bool_non, isi_bool_bl, isi_bool_int, isi_bool_str, isi_bool_tup, isi_bool_lst, isi_str_non, isi_str_bl, isi_str_int, isi_str_str, isi_str_tup, isi_str_lst, isi_tuple_non, isi_tuple_bl, isi_tuple_int, isi_tuple_str, isi_tuple_tup, isi_tuple_lst, isi_list_non, isi_list_bl, isi_list_int, isi_list_str, isi_list_tup, isi_list_lst]; rfl⟩
    · exact ⟨[4, 4], by decide, by simp [m__law_sizes, d__law_sizes, m__law_pick, e, mOf, dRet, dRetN, dSeq, dNext, dIfS, dTr, dNot, dAnd, dOr, dB, dAndV, dOrV, dNotV, dBin, dChain, dCall, dCallD, dCallK, dCallB, dCons, dNil, dTup, dLst, dF, dC, dVar, dOwn, dV, dO, dAsg, dIsi, dSl, dPart, dNoPart, dIf, dMb, dBinL, dListOf, dDrop, dRaise, dWalk, dRng, walkD, R.bind_ok, R.bind_ex, R.bind_bad, R.map, R.out_ok, R.out_ex, R.out_bad, ofO, truD, asB, asI, List.map_cons, List.map_nil, List.length_cons, List.length_nil, Nat.reduceAdd, Nat.reduceSub, List.replicate, List.cons_append, List.nil_append, List.getElem?_cons_zero, List.getElem?_cons_succ, List.set_cons_zero, List.set_cons_succ, frz_nil, frzs_nil, Option.bind_some, Option.map_some, leD, ltD, geD, gtD, cmpI, if_true, ite_true, if_false, ite_false, Bool.false_eq_true, ne_int, eq_int, ne_bl, eq_bl, ne_str, eq_str, ixD_t0, ixD_t1, ixD_t2, ixD_l0, ixD_l1, ixD_l2, ite_ok, ite_bl, ite_rt, isi_int_non, isi_int_bl, isi_int_int, isi_int_str, isi_int_tup, isi_int_lst, isi_bool_non, isi_bool_bl, isi_bool_int, isi_bool_str, isi_bool_tup, isi_bool_lst, isi_str_non, isi_str_bl, isi_str_int, isi_str_str, isi_str_tup, isi_str_lst, isi_tuple_non, isi_tuple_bl, isi_tuple_int, isi_tuple_str, isi_tuple_tup, isi_tuple_lst, isi_list_non, isi_list_bl, isi_list_int, isi_list_str, isi_list_tup, isi_list_lst]; rfl⟩
    · exact ⟨[1, 1], by decide, by simp [m__law_sizes, d__law_sizes, m__law_pick, e, mOf, dRet, dRetN, dSeq, dNext, dIfS, dTr, dNot, dAnd, dOr, dB, dAndV, dOrV, dNotV, dBin, dChain, dCall, dCallD, dCallK, dCallB, dCons, dNil, dTup, dLst, dF, dC, dVar, dOwn, dV, dO, dAsg, dIsi, dSl, dPart, dNoPart, dIf, dMb, dBinL, dListOf, dDrop, dRaise, dWalk, dRng, walkD, R.bind_ok, R.bind_ex, R.bind_bad, R.map, R.out_ok, R.out_ex, R.out_bad, ofO, truD, asB, asI, List.map_cons, List.map_nil, List.length_cons, List.length_nil, Nat.reduceAdd, Nat.reduceSub, List.replicate, List.cons_append, List.nil_append, List.getElem?_cons_zero, List.getElem?_cons_succ, List.set_cons_zero, List.set_cons_succ, frz_nil, frzs_nil, Option.bind_some, Option.map_some, leD, ltD, geD, gtD, cmpI, if_true, ite_true, if_false, ite_false, Bool.false_eq_true, ne_int, eq_int, ne_bl, eq_bl, ne_str, eq_str, ixD_t0, ixD_t1, ixD_t2, ixD_l0, ixD_l1, ixD_l2, ite_ok, ite_bl, ite_rt, isi_int_non, isi_int_bl, isi_int_int, isi_int_str, isi_int_tup, isi_int_lst, isi_bool_non, isi_bool_bl, isi_bool_int, isi_bool_str, isi_bool_tup, isi_bool_lst, isi_str_non, isi_str_bl, isi_str_int, isi_str_str, isi_str_tup, isi_str_lst, isi_tuple_non, isi_tuple_bl, isi_tuple_int, isi_tuple_str, isi_tuple_tup, isi_tuple_lst, isi_list_non, isi_list_bl, isi_list_int, isi_list_str, isi_list_tup, isi_list_lst]; rfl⟩
  obtain ⟨sz, h, q⟩ := q
  exact ⟨_, s1, q, ok1, sz, h, rfl⟩
theorem sig_dr (ok : s.Ok) : Ok1 (m__law_signature [.deck] s) fun d => ∃ a b sz, d = SigP a b sz ∧ Sg a b sz := by
  obtain ⟨d, s1, e, ok1, k, rfl, k0, k1⟩ := pick1 ok (n := 3) (by decide) (by decide)
  obtain ⟨d, s2, e2, ok2, j, rfl, j0, j1⟩ := pick1 ok1 (n := 2) (by decide) (by decide)
  obtain ⟨d, s3, e3, ok3, sz, hz, rfl⟩ := sizes_dr ok2
  refine ⟨SigP (1 + k) (1 + j) sz, s3, ?_, ok3, _, _, _, rfl, by omega, by omega, hz⟩
  simp [m__law_signature, d__law_signature, m__law_pick, e, e2, e3, addD, mOf, dRet, dRetN, dSeq, dNext, dIfS, dTr, dNot, dAnd, dOr, dB, dAndV, dOrV, dNotV, dBin, dChain, dCall, dCallD, dCallK, dCallB, dCons, dNil, dTup, dLst, dF, dC, dVar, dOwn, dV, dO, dAsg, dIsi, dSl, dPart, dNoPart, dIf, dMb, dBinL, dListOf, dDrop, dRaise, dWalk, dRng, walkD, R.bind_ok, R.bind_ex, R.bind_bad, R.map, R.out_ok, R.out_ex, R.out_bad, ofO, truD, asB, asI, List.map_cons, List.map_nil, List.length_cons, List.length_nil, Nat.reduceAdd, Nat.reduceSub, List.replicate, List.cons_append, List.nil_append, List.getElem?_cons_zero, List.getElem?_cons_succ, List.set_cons_zero, List.set_cons_succ, frz_nil, frzs_nil, Option.bind_some, Option.map_some, leD, ltD, geD, gtD, cmpI, if_true, ite_true, if_false, ite_false, Bool.false_eq_true, ne_int, eq_int, ne_bl, eq_bl, ne_str, eq_str, ixD_t0, ixD_t1, ixD_t2, ixD_l0, ixD_l1, ixD_l2, ite_ok, ite_bl, ite_rt, isi_int_non, isi_int_bl, isi_int_int, isi_int_str, isi_int_tup, isi_int_lst, isi_bool_non, isi_bool_bl, isi_bool_int, isi_bool_str, isi_bool_tup, isi_bool_lst, isi_str_non, isi_str_bl, isi_str_int, isi_str_str, isi_str_tup, isi_str_lst, isi_tuple_non, isi_tuple_bl, isi_tuple_int, isi_tuple_str, isi_tuple_tup, isi_tuple_lst, isi_list_non, isi_list_bl, isi_list_int, isi_list_str, isi_list_tup, isi_list_lst]
theorem signs_of {A : List Nat} : ∀ {ds : List D}, (∀ d ∈ ds, ∃ c, d = .str [c] ∧ c ∈ A) → ∃ l : List Nat, ds = l.map (fun c => D.str [c]) ∧ ∀ c ∈ l, c ∈ A
  | [], _ => ⟨[], rfl, fun _ h => by cases h⟩
  | d :: ds, h => by
    obtain ⟨c, rfl, hc⟩ := h d (.head _)
    obtain ⟨l, rfl, hl⟩ := signs_of fun d hd => h d (.tail _ hd)
    refine ⟨c :: l, rfl, fun x hx => ?_⟩
    cases hx with
    | head => exact hc
    | tail _ hx => exact hl x hx
theorem joinL_signs {l : List Nat} : joinL [] (l.map fun c => [c]) = l := by
  rw [joinL_nil]
  induction l with
  | nil => rfl
  | cons c l ih => rw [List.map_cons, List.flatten_cons, ih]; rfl
theorem sum_signs {l : List Nat} : ((l.map fun c => [c]).map (·.length)).sum = l.length := by
  induction l with
  | nil => rfl
  | cons c l ih => rw [List.map_cons, List.map_cons, List.sum_cons, ih, List.length_cons]; simp; omega
theorem join_signs {l : List Nat} (h : l.length ≤ 1000) : joinD (.str []) [.lst (l.map fun c => D.str [c])] = some (.str l) := by
  have e1 : strsOf (l.map fun c => D.str [c]) = some (l.map fun c => [c]) := strsOf_map
  have e2 : okJoin [] (l.map fun c => [c]) = true := by
    unfold okJoin
    rw [sum_signs]
    simp
    omega
  simp only [joinD, e1, Option.bind_some, e2, if_true, joinL_signs]
theorem letter_ix {a k : Int} (ha : a = 1 ∨ a = 2 ∨ a = 3) (k0 : 0 ≤ k) (k1 : k < a) : ∃ c, ixD (.str [97, 98, 99]) (.int k) = some (.str [c]) ∧ c ∈ alph a := by
  have : k = 0 ∨ k = 1 ∨ k = 2 := by omega
  rcases ha with h | h | h <;> subst h <;> rcases this with h | h | h <;> subst h <;> first | omega | exact ⟨97, rfl, by decide⟩ | exact ⟨98, rfl, by decide⟩ | exact ⟨99, rfl, by decide⟩
theorem word_dr (ok : s.Ok) {a m : Int} (ha : a = 1 ∨ a = 2 ∨ a = 3) (m0 : 0 ≤ m) (m1 : m ≤ 60) : Ok1 (m__law_word [.deck, .int a, .int m] s) fun d => ∃ l, d = .str l ∧ (l.length : Int) ≤ m ∧ ∀ c ∈ l, c ∈ alph a := by
  obtain ⟨d, s1, e, ok1, k, rfl, k0, k1⟩ := pick1 ok (n := m + 1) (by omega) (by omega)
  have L := lcL_all (g := gN 3) (de := dBin ixD (dC (.str [97, 98, 99])) (dCall m__law_pick (dCons (dVar 0) (dCons (dVar 1) dNil)))) (ρ := [some (.val .deck), some (.val (.int a)), some (.val (.int m)), none]) (l := rngD 0 k.toNat) (s := s1) (fun d => ∃ c, d = .str [c] ∧ c ∈ alph a) ok1 fun d hd s ok => by
    refine ⟨_, rfl, ?_⟩
    obtain ⟨d, s2, e2, ok2, j, rfl, j0, j1⟩ := pick1 ok (n := a) (by omega) (by omega)
    obtain ⟨c, ec, hc⟩ := letter_ix ha j0 j1
    refine ⟨.str [c], s2, ?_, ok2, c, rfl, hc⟩
    simp [m__law_pick, e2, ec, mOf, dRet, dRetN, dSeq, dNext, dIfS, dTr, dNot, dAnd, dOr, dB, dAndV, dOrV, dNotV, dBin, dChain, dCall, dCallD, dCallK, dCallB, dCons, dNil, dTup, dLst, dF, dC, dVar, dOwn, dV, dO, dAsg, dIsi, dSl, dPart, dNoPart, dIf, dMb, dBinL, dListOf, dDrop, dRaise, dWalk, dRng, walkD, R.bind_ok, R.bind_ex, R.bind_bad, R.map, R.out_ok, R.out_ex, R.out_bad, ofO, truD, asB, asI, List.map_cons, List.map_nil, List.length_cons, List.length_nil, Nat.reduceAdd, Nat.reduceSub, List.replicate, List.cons_append, List.nil_append, List.getElem?_cons_zero, List.getElem?_cons_succ, List.set_cons_zero, List.set_cons_succ, frz_nil, frzs_nil, Option.bind_some, Option.map_some, leD, ltD, geD, gtD, cmpI, if_true, ite_true, if_false, ite_false, Bool.false_eq_true, ne_int, eq_int, ne_bl, eq_bl, ne_str, eq_str, ixD_t0, ixD_t1, ixD_t2, ixD_l0, ixD_l1, ixD_l2, ite_ok, ite_bl, ite_rt, isi_int_non, isi_int_bl, isi_int_int, isi_int_str, isi_int_tup, isi_int_lst, isi_bool_non, isi_bool_bl, isi_bool_int, isi_bool_str, isi_bool_tup, isi_bool_lst, isi_str_non, isi_str_bl, isi_str_int, isi_str_str, isi_str_tup, isi_str_lst, isi_tuple_non, isi_tuple_bl, isi_tuple_int, isi_tuple_str, isi_tuple_tup, isi_tuple_lst, isi_list_non, isi_list_bl, isi_list_int, isi_list_str, isi_list_tup, isi_list_lst]
  obtain ⟨ds, s2, eL, ok2, hP, hl⟩ := L
  obtain ⟨l, rfl, hA⟩ := signs_of hP
  rw [rngD_len, List.length_map] at hl
  refine ⟨.str l, s2, ?_, ok2, l, rfl, by omega, hA⟩
  have r : rng1 [.int k] = some (rngD 0 k.toNat) := if_pos ⟨by omega, by omega⟩
  have hk : k.toNat ≤ 65536 := by omega
  simp [m__law_word, d__law_word, m__law_pick, dLc, wipeE, nox, isS, e, eL, addD, r, rngD_len, hk, join_signs (l := l) (by omega), mOf, dRet, dRetN, dSeq, dNext, dIfS, dTr, dNot, dAnd, dOr, dB, dAndV, dOrV, dNotV, dBin, dChain, dCall, dCallD, dCallK, dCallB, dCons, dNil, dTup, dLst, dF, dC, dVar, dOwn, dV, dO, dAsg, dIsi, dSl, dPart, dNoPart, dIf, dMb, dBinL, dListOf, dDrop, dRaise, dWalk, dRng, walkD, R.bind_ok, R.bind_ex, R.bind_bad, R.map, R.out_ok, R.out_ex, R.out_bad, ofO, truD, asB, asI, List.map_cons, List.map_nil, List.length_cons, List.length_nil, Nat.reduceAdd, Nat.reduceSub, List.replicate, List.cons_append, List.nil_append, List.getElem?_cons_zero, List.getElem?_cons_succ, List.set_cons_zero, List.set_cons_succ, frz_nil, frzs_nil, Option.bind_some, Option.map_some, leD, ltD, geD, gtD, cmpI, if_true, ite_true, if_false, ite_false, Bool.false_eq_true, ne_int, eq_int, ne_bl, eq_bl, ne_str, eq_str, ixD_t0, ixD_t1, ixD_t2, ixD_l0, ixD_l1, ixD_l2, ite_ok, ite_bl, ite_rt, isi_int_non, isi_int_bl, isi_int_int, isi_int_str, isi_int_tup, isi_int_lst, isi_bool_non, isi_bool_bl, isi_bool_int, isi_bool_str, isi_bool_tup, isi_bool_lst, isi_str_non, isi_str_bl, isi_str_int, isi_str_str, isi_str_tup, isi_str_lst, isi_tuple_non, isi_tuple_bl, isi_tuple_int, isi_tuple_str, isi_tuple_tup, isi_tuple_lst, isi_list_non, isi_list_bl, isi_list_int, isi_list_str, isi_list_tup, isi_list_lst]
theorem ctl_dr {i : Nat} {ρ : En} (h0 : ∀ x (s : DeckSt), dVar 0 (ρ.set i x) s = .ok .deck s) (hi : ∀ d (s : DeckSt), dVar i (ρ.set i (some (.val d))) s = .ok d s) : ∀ {sz : List Int} {s : DeckSt}, (∀ z ∈ sz, 0 < z ∧ z < 1000) → s.Ok →
    Ok1 (lcL (gN i) dYes (dCall m__law_pick (dCons (dVar 0) (dCons (dVar i) dNil))) (sz.map .int) ρ s) fun ds => ∃ cs : List Int, ds = cs.map .int ∧ cs.length = sz.length ∧ ∀ x ∈ cs.zip sz, 0 ≤ x.1 ∧ x.1 ≤ x.2 - 1
  | [], s, _, ok => ⟨[], s, rfl, ok, [], rfl, rfl, fun _ h => by cases h⟩
  | z :: sz, s, h, ok => by
    obtain ⟨d, s1, e, ok1, k, rfl, k0, k1⟩ := pick1 ok (n := z) (h z (.head _)).1 (by have := (h z (.head _)).2; omega)
    obtain ⟨ds, s2, e2, ok2, cs, rfl, q1, q2⟩ := ctl_dr h0 hi (fun y hy => h y (.tail _ hy)) ok1
    refine ⟨.int k :: cs.map .int, s2, ?_, ok2, k :: cs, rfl, by rw [List.length_cons, List.length_cons, q1], fun x hx => ?_⟩
    · have e3 : dCall m__law_pick (dCons (dVar 0) (dCons (dVar i) dNil)) (ρ.set i (some (.val (.int z)))) s = .ok (.int k) s1 := by
        simp only [dCall, dCons, h0, hi, R.bind_ok, dNil]
        exact e
      rw [List.map_cons, lcL]
      show (R.ok true s : R DeckSt Bool).bind _ = _
      rw [R.bind_ok, if_pos rfl, e3, R.bind_ok, e2, R.bind_ok]
    · rw [List.zip_cons_cons] at hx
      cases hx with
      | head => exact ⟨k0, by omega⟩
      | tail _ hx => exact q2 x hx
theorem words_of {A : List Nat} {m : Int} : ∀ {ds : List D}, (∀ d ∈ ds, ∃ l : List Nat, d = .str l ∧ (l.length : Int) ≤ m ∧ ∀ c ∈ l, c ∈ A) → ∃ ws : List (List Nat), ds = ws.map D.str ∧ ∀ w ∈ ws, (w.length : Int) ≤ m ∧ ∀ c ∈ w, c ∈ A
  | [], _ => ⟨[], rfl, fun _ h => by cases h⟩
  | d :: ds, h => by
    obtain ⟨l, rfl, hc⟩ := h d (.head _)
    obtain ⟨ws, rfl, hl⟩ := words_of fun d hd => h d (.tail _ hd)
    refine ⟨l :: ws, rfl, fun x hx => ?_⟩
    cases hx with
    | head => exact hc
    | tail _ hx => exact hl x hx
theorem Sg.pos {a b : Int} {sz : List Int} (h : Sg a b sz) : ∀ z ∈ sz, 0 < z ∧ z < 1000 := by
  have k : ∀ sz ∈ szs, ∀ z ∈ sz, 0 < z ∧ z < 1000 := by decide
  exact k sz h.2.2
theorem conf_dr {a b : Int} {sz : List Int} (h : Sg a b sz) (ok : s.Ok) : Ok1 (m__law_configuration [.deck, SigP a b sz, .int 9] s) fun d => ∃ cs ws, d = Cf cs ws ∧ CfOk a b sz cs ws ∧ ∀ w ∈ ws, w.length ≤ 9 := by
  obtain ⟨ds, s1, e1, ok1, cs, rfl, q1, q2⟩ := ctl_dr (i := 4) (ρ := [some (.val .deck), some (.val (SigP a b sz)), some (.val (.int 9)), none, none, none]) (fun _ _ => rfl) (fun _ _ => rfl) h.pos ok
  have L := lcL_all (g := gN 5) (de := dCall m__law_word (dCons (dVar 0) (dCons (dBin ixD (dVar 1) (dC (.int 0))) (dCons (dVar 2) dNil)))) (ρ := [some (.val .deck), some (.val (SigP a b sz)), some (.val (.int 9)), some (.val (.tup (cs.map .int))), none, none]) (l := rngD 0 b.toNat) (s := s1) (fun d => ∃ l : List Nat, d = .str l ∧ (l.length : Int) ≤ 9 ∧ ∀ c ∈ l, c ∈ alph a) ok1 fun d hd s ok => by
    refine ⟨_, rfl, ?_⟩
    obtain ⟨d, s2, e2, ok2, l, rfl, j0, j1⟩ := word_dr ok h.1 (m := 9) (by omega) (by omega)
    refine ⟨.str l, s2, ?_, ok2, l, rfl, j0, j1⟩
    simp [e2, mOf, dRet, dRetN, dSeq, dNext, dIfS, dTr, dNot, dAnd, dOr, dB, dAndV, dOrV, dNotV, dBin, dChain, dCall, dCallD, dCallK, dCallB, dCons, dNil, dTup, dLst, dF, dC, dVar, dOwn, dV, dO, dAsg, dIsi, dSl, dPart, dNoPart, dIf, dMb, dBinL, dListOf, dDrop, dRaise, dWalk, dRng, walkD, R.bind_ok, R.bind_ex, R.bind_bad, R.map, R.out_ok, R.out_ex, R.out_bad, ofO, truD, asB, asI, List.map_cons, List.map_nil, List.length_cons, List.length_nil, Nat.reduceAdd, Nat.reduceSub, List.replicate, List.cons_append, List.nil_append, List.getElem?_cons_zero, List.getElem?_cons_succ, List.set_cons_zero, List.set_cons_succ, frz_nil, frzs_nil, Option.bind_some, Option.map_some, leD, ltD, geD, gtD, cmpI, if_true, ite_true, if_false, ite_false, Bool.false_eq_true, ne_int, eq_int, ne_bl, eq_bl, ne_str, eq_str, ixD_t0, ixD_t1, ixD_t2, ixD_l0, ixD_l1, ixD_l2, ite_ok, ite_bl, ite_rt, isi_int_non, isi_int_bl, isi_int_int, isi_int_str, isi_int_tup, isi_int_lst, isi_bool_non, isi_bool_bl, isi_bool_int, isi_bool_str, isi_bool_tup, isi_bool_lst, isi_str_non, isi_str_bl, isi_str_int, isi_str_str, isi_str_tup, isi_str_lst, isi_tuple_non, isi_tuple_bl, isi_tuple_int, isi_tuple_str, isi_tuple_tup, isi_tuple_lst, isi_list_non, isi_list_bl, isi_list_int, isi_list_str, isi_list_tup, isi_list_lst]
  obtain ⟨ds, s2, e2, ok2, hP, hl⟩ := L
  obtain ⟨ws, rfl, hw⟩ := words_of hP
  have hb : b = 1 ∨ b = 2 := h.2.1
  rw [rngD_len, List.length_map] at hl
  refine ⟨Cf cs ws, s2, ?_, ok2, cs, ws, rfl, ⟨q1, q2, by omega, fun w hx => ⟨by have := (hw w hx).1; omega, (hw w hx).2⟩⟩, fun w hx => by have := (hw w hx).1; omega⟩
  have r : rng1 [.int b] = some (rngD 0 b.toNat) := if_pos ⟨by omega, by omega⟩
  have hk : b.toNat ≤ 65536 := by omega
  have hz : sz.length ≤ 65536 := by have := h.len; omega
  simp [m__law_configuration, d__law_configuration, dLc, wipeE, nox, tupleD, e1, e2, r, rngD_len, hk, hz, mOf, dRet, dRetN, dSeq, dNext, dIfS, dTr, dNot, dAnd, dOr, dB, dAndV, dOrV, dNotV, dBin, dChain, dCall, dCallD, dCallK, dCallB, dCons, dNil, dTup, dLst, dF, dC, dVar, dOwn, dV, dO, dAsg, dIsi, dSl, dPart, dNoPart, dIf, dMb, dBinL, dListOf, dDrop, dRaise, dWalk, dRng, walkD, R.bind_ok, R.bind_ex, R.bind_bad, R.map, R.out_ok, R.out_ex, R.out_bad, ofO, truD, asB, asI, List.map_cons, List.map_nil, List.length_cons, List.length_nil, Nat.reduceAdd, Nat.reduceSub, List.replicate, List.cons_append, List.nil_append, List.getElem?_cons_zero, List.getElem?_cons_succ, List.set_cons_zero, List.set_cons_succ, frz_nil, frzs_nil, Option.bind_some, Option.map_some, leD, ltD, geD, gtD, cmpI, if_true, ite_true, if_false, ite_false, Bool.false_eq_true, ne_int, eq_int, ne_bl, eq_bl, ne_str, eq_str, ixD_t0, ixD_t1, ixD_t2, ixD_l0, ixD_l1, ixD_l2, ite_ok, ite_bl, ite_rt, isi_int_non, isi_int_bl, isi_int_int, isi_int_str, isi_int_tup, isi_int_lst, isi_bool_non, isi_bool_bl, isi_bool_int, isi_bool_str, isi_bool_tup, isi_bool_lst, isi_str_non, isi_str_bl, isi_str_int, isi_str_str, isi_str_tup, isi_str_lst, isi_tuple_non, isi_tuple_bl, isi_tuple_int, isi_tuple_str, isi_tuple_tup, isi_tuple_lst, isi_list_non, isi_list_bl, isi_list_int, isi_list_str, isi_list_tup, isi_list_lst]
/-! ### things that are near -/
theorem app_loop {g : DG} {L : DS DeckSt} (F : List D → Option Sl → En) (h : D → D) (Q : D → Prop) (hg : ∀ d es x, g d (F es x) = some (F es (some (.val d)))) (hL : ∀ d es, Q d → es.length < 1000 → L (F es (some (.val d))) s = .nx (F (es ++ [h d]) (some (.val d))) s) (hf : ∀ d, Q d → fine (h d) = true) :
    ∀ (ds es : List D) (x : Option Sl), (∀ d ∈ ds, Q d) → es.length + ds.length ≤ 1000 → (∀ y ∈ es, fine y = true) → ∃ es' x', forL g L ds (F es x) s = .nx (F es' x') s ∧ (∀ y ∈ es', fine y = true) ∧ es'.length = es.length + ds.length
  | [], es, x, _, _, hy => ⟨es, x, rfl, hy, rfl⟩
  | d :: ds, es, x, hq, hl, hy => by
    rw [List.length_cons] at hl
    have q := hq d (.head _)
    obtain ⟨es', x', e1, e2, e3⟩ := app_loop F h Q hg hL hf ds (es ++ [h d]) (some (.val d)) (fun d hd => hq d (.tail _ hd)) (by rw [List.length_append, List.length_singleton]; omega) (fun y hy' => by
      rcases List.mem_append.mp hy' with z | z
      · exact hy y z
      · rw [List.mem_singleton.mp z]; exact hf d q)
    refine ⟨es', x', ?_, e2, by rw [e3, List.length_append, List.length_singleton, List.length_cons]; omega⟩
    rw [forL_nx (hg d es x) (hL d es q (by omega)), e1]
theorem cutL_mem {α : Type} {l : List α} {lo hi : Option Int} {x : α} (h : x ∈ cutL l lo hi) : x ∈ l := List.mem_of_mem_drop (List.mem_of_mem_take h)
theorem cutL_len {α : Type} {l : List α} {lo hi : Option Int} : (cutL l lo hi).length ≤ l.length := by
  unfold cutL
  rw [List.length_take, List.length_drop]
  omega
theorem addT_ev {x y : List D} (h : x.length + y.length ≤ 65536) : addD (.tup x) (.tup y) = some (.tup (x ++ y)) := if_pos h
theorem basT_tup {ds : List D} (h : ∀ d ∈ ds, bas d = true) (hl : ds.length ≤ 1000) : basT (.tup ds) = true := by
  simp only [basT, Bool.and_eq_true, List.all_eq_true, decide_eq_true_eq]
  exact ⟨h, hl⟩
/-- x[:k] + (d,) + x[k + 1:] -/
def putAt (ds : List D) (k : Int) (d : D) : List D := cutL ds none (some k) ++ [d] ++ cutL ds (some (k + 1)) none
theorem putAt_bas {ds : List D} {k : Int} {d : D} (h : ∀ d ∈ ds, bas d = true) (hd : bas d = true) (hl : ds.length ≤ 100) : basT (.tup (putAt ds k d)) = true := by
  refine basT_tup (fun x hx => ?_) ?_
  · unfold putAt at hx
    rcases List.mem_append.mp hx with z | z
    · rcases List.mem_append.mp z with z | z
      · exact h x (cutL_mem z)
      · rw [List.mem_singleton.mp z]; exact hd
    · exact h x (cutL_mem z)
  · unfold putAt
    rw [List.length_append, List.length_append, List.length_singleton]
    have := cutL_len (l := ds) (lo := none) (hi := some k)
    have := cutL_len (l := ds) (lo := some (k + 1)) (hi := none)
    omega
theorem near_step1 {v1 v2 x9 x10 : Option Sl} {cs ws es : List D} {k c : Int} {d : D} (hc : cs.length ≤ 100) (hl : es.length < 1000) :
    L__law_near_1 [some (.val .deck), v1, v2, some (.val (.tup cs)), some (.val (.tup ws)), some (.val (.int k)), some (.val (.int c)), some (.own es), some (.val d), x9, x10] s =
      .nx [some (.val .deck), v1, v2, some (.val (.tup cs)), some (.val (.tup ws)), some (.val (.int k)), some (.val (.int c)), some (.own (es ++ [.tup [.tup (putAt cs k d), .tup ws]])), some (.val d), x9, x10] s := by
  have h1 := cutL_len (l := cs) (lo := none) (hi := some k)
  have h2 := cutL_len (l := cs) (lo := some (k + 1)) (hi := none)
  have e1 := addT_ev (x := cutL cs none (some k)) (y := [d]) (by rw [List.length_singleton]; omega)
  have e2 := addT_ev (x := cutL cs none (some k) ++ [d]) (y := cutL cs (some (k + 1)) none) (by rw [List.length_append, List.length_singleton]; omega)
  have e3 : addD (.int k) (.int 1) = some (.int (k + 1)) := rfl
  have e4 : es.length < 65536 := by omega
  simp [L__law_near_1, dMeth, fApp, kDrop, slD, e1, e2, e3, e4, putAt, mOf, dRet, dRetN, dSeq, dNext, dIfS, dTr, dNot, dAnd, dOr, dB, dAndV, dOrV, dNotV, dBin, dChain, dCall, dCallD, dCallK, dCallB, dCons, dNil, dTup, dLst, dF, dC, dVar, dOwn, dV, dO, dAsg, dIsi, dSl, dPart, dNoPart, dIf, dMb, dBinL, dListOf, dDrop, dRaise, dWalk, dRng, walkD, R.bind_ok, R.bind_ex, R.bind_bad, R.map, R.out_ok, R.out_ex, R.out_bad, ofO, truD, asB, asI, List.map_cons, List.map_nil, List.length_cons, List.length_nil, Nat.reduceAdd, Nat.reduceSub, List.replicate, List.cons_append, List.nil_append, List.getElem?_cons_zero, List.getElem?_cons_succ, List.set_cons_zero, List.set_cons_succ, frz_nil, frzs_nil, Option.bind_some, Option.map_some, leD, ltD, geD, gtD, cmpI, if_true, ite_true, if_false, ite_false, Bool.false_eq_true, ne_int, eq_int, ne_bl, eq_bl, ne_str, eq_str, ixD_t0, ixD_t1, ixD_t2, ixD_l0, ixD_l1, ixD_l2, ite_ok, ite_bl, ite_rt, isi_int_non, isi_int_bl, isi_int_int, isi_int_str, isi_int_tup, isi_int_lst, isi_bool_non, isi_bool_bl, isi_bool_int, isi_bool_str, isi_bool_tup, isi_bool_lst, isi_str_non, isi_str_bl, isi_str_int, isi_str_str, isi_str_tup, isi_str_lst, isi_tuple_non, isi_tuple_bl, isi_tuple_int, isi_tuple_str, isi_tuple_tup, isi_tuple_lst, isi_list_non, isi_list_bl, isi_list_int, isi_list_str, isi_list_tup, isi_list_lst]
theorem near_step2 {v1 v2 x8 x9 : Option Sl} {cs ws es : List D} {k c : Int} {d : D} (hc : ws.length ≤ 100) (hl : es.length < 1000) :
    L__law_near_2 [some (.val .deck), v1, v2, some (.val (.tup cs)), some (.val (.tup ws)), some (.val (.int k)), some (.val (.int c)), some (.own es), x8, x9, some (.val d)] s =
      .nx [some (.val .deck), v1, v2, some (.val (.tup cs)), some (.val (.tup ws)), some (.val (.int k)), some (.val (.int c)), some (.own (es ++ [.tup [.tup cs, .tup (putAt ws c d)]])), x8, x9, some (.val d)] s := by
  have h1 := cutL_len (l := ws) (lo := none) (hi := some c)
  have h2 := cutL_len (l := ws) (lo := some (c + 1)) (hi := none)
  have e1 := addT_ev (x := cutL ws none (some c)) (y := [d]) (by rw [List.length_singleton]; omega)
  have e2 := addT_ev (x := cutL ws none (some c) ++ [d]) (y := cutL ws (some (c + 1)) none) (by rw [List.length_append, List.length_singleton]; omega)
  have e3 : addD (.int c) (.int 1) = some (.int (c + 1)) := rfl
  have e4 : es.length < 65536 := by omega
  simp [L__law_near_2, dMeth, fApp, kDrop, slD, e1, e2, e3, e4, putAt, mOf, dRet, dRetN, dSeq, dNext, dIfS, dTr, dNot, dAnd, dOr, dB, dAndV, dOrV, dNotV, dBin, dChain, dCall, dCallD, dCallK, dCallB, dCons, dNil, dTup, dLst, dF, dC, dVar, dOwn, dV, dO, dAsg, dIsi, dSl, dPart, dNoPart, dIf, dMb, dBinL, dListOf, dDrop, dRaise, dWalk, dRng, walkD, R.bind_ok, R.bind_ex, R.bind_bad, R.map, R.out_ok, R.out_ex, R.out_bad, ofO, truD, asB, asI, List.map_cons, List.map_nil, List.length_cons, List.length_nil, Nat.reduceAdd, Nat.reduceSub, List.replicate, List.cons_append, List.nil_append, List.getElem?_cons_zero, List.getElem?_cons_succ, List.set_cons_zero, List.set_cons_succ, frz_nil, frzs_nil, Option.bind_some, Option.map_some, leD, ltD, geD, gtD, cmpI, if_true, ite_true, if_false, ite_false, Bool.false_eq_true, ne_int, eq_int, ne_bl, eq_bl, ne_str, eq_str, ixD_t0, ixD_t1, ixD_t2, ixD_l0, ixD_l1, ixD_l2, ite_ok, ite_bl, ite_rt, isi_int_non, isi_int_bl, isi_int_int, isi_int_str, isi_int_tup, isi_int_lst, isi_bool_non, isi_bool_bl, isi_bool_int, isi_bool_str, isi_bool_tup, isi_bool_lst, isi_str_non, isi_str_bl, isi_str_int, isi_str_str, isi_str_tup, isi_str_lst, isi_tuple_non, isi_tuple_bl, isi_tuple_int, isi_tuple_str, isi_tuple_tup, isi_tuple_lst, isi_list_non, isi_list_bl, isi_list_int, isi_list_str, isi_list_tup, isi_list_lst]
theorem cf_bas {cs : List Int} : ∀ d ∈ cs.map D.int, bas d = true := fun d hd => by
  obtain ⟨i, _, rfl⟩ := List.mem_map.mp hd
  rfl
theorem wd_bas {ws : List (List Nat)} : ∀ d ∈ ws.map D.str, bas d = true := fun d hd => by
  obtain ⟨i, _, rfl⟩ := List.mem_map.mp hd
  rfl
def FL (d : D) : Prop := ∃ ds, d = .lst ds ∧ (∀ x ∈ ds, fine x = true) ∧ ds.length ≤ 100
theorem near_dr {a b : Int} {sz cs : List Int} {ws : List (List Nat)} (h : Sg a b sz) (hc : CfOk a b sz cs ws) (ok : s.Ok) : Ok1 (m__law_near [.deck, SigP a b sz, Cf cs ws] s) FL := by
  have z3 := h.len
  have z1 : 1 ≤ sz.length := by
    have k : ∀ sz ∈ szs, 1 ≤ sz.length := by decide
    exact k sz h.2.2
  have lc := hc.lc
  have lw := hc.lw
  have hb := h.2.1
  obtain ⟨d, s1, e1, ok1, k, rfl, k0, k1⟩ := pick1 ok (n := (cs.length : Int)) (by omega) (by omega)
  obtain ⟨d, s2, e2, ok2, c, rfl, c0, c1⟩ := pick1 ok1 (n := (ws.length : Int)) (by omega) (by omega)
  obtain ⟨kn, rfl⟩ := Int.eq_ofNat_of_zero_le k0
  have hk : kn < sz.length := by omega
  obtain ⟨last, el, hlast⟩ := letter_ix (k := a - 1) h.1 (by have := h.1; omega) (by omega)
  have bc := cf_bas (cs := cs)
  have bw := wd_bas (ws := ws)
  have bT : basT (.tup (cs.map D.int)) = true := basT_tup bc (by rw [List.length_map]; omega)
  have wT : basT (.tup (ws.map D.str)) = true := basT_tup bw (by rw [List.length_map]; omega)
  -- the first loop
  let F1 : List D → Option Sl → En := fun es x => [some (.val .deck), some (.val (SigP a b sz)), some (.val (Cf cs ws)), some (.val (.tup (cs.map .int))), some (.val (.tup (ws.map .str))), some (.val (.int (kn : Int))), some (.val (.int c)), some (.own es), x, none, none]
  have A1 := app_loop (s := s2) (g := gN 8) (L := L__law_near_1) F1 (fun d => .tup [.tup (putAt (cs.map .int) kn d), .tup (ws.map .str)]) (fun d => bas d = true) (fun d es x => rfl) (fun d es hd hl => near_step1 (by rw [List.length_map]; omega) hl) (fun d hd => by
    simp only [fine, Bool.and_eq_true]
    exact ⟨putAt_bas bc hd (by rw [List.length_map]; omega), wT⟩)
  obtain ⟨es1, x1, f1, g1, l1⟩ := A1 [.int 0, .int 1, .int sz[kn], .int (sz[kn] - 1), .int (-1), .bl true, .non, .str [48]] [.lst [.tup (cs.map .int), .tup (ws.map .str)], .tup [.lst (cs.map .int), .tup (ws.map .str)], .tup [.tup (cs.map .int), .lst (ws.map .str)], .tup [.tup (cs.map .int)], .tup [.tup (cs.map .int), .tup (ws.map .str), .tup []], .non, .int 0, .str [97], .tup []] none (by simp [bas]) (by simp) (by
    intro y hy
    simp only [List.mem_cons, List.not_mem_nil, or_false] at hy
    rcases hy with h | h | h | h | h | h | h | h | h <;> subst h <;> first | rfl | (simp only [fine, Bool.and_eq_true]; exact ⟨by first | exact bT | rfl, by first | exact wT | rfl⟩))
  let F2 : List D → Option Sl → En := fun es x => [some (.val .deck), some (.val (SigP a b sz)), some (.val (Cf cs ws)), some (.val (.tup (cs.map .int))), some (.val (.tup (ws.map .str))), some (.val (.int (kn : Int))), some (.val (.int c)), some (.own es), x1, some (.val (.str [last])), x]
  have A2 := app_loop (s := s2) (g := gN 10) (L := L__law_near_2) F2 (fun d => .tup [.tup (cs.map .int), .tup (putAt (ws.map .str) c d)]) (fun d => bas d = true) (fun d es x => rfl) (fun d es hd hl => near_step2 (by rw [List.length_map]; omega) hl) (fun d hd => by
    simp only [fine, Bool.and_eq_true]
    exact ⟨bT, putAt_bas bw hd (by rw [List.length_map]; omega)⟩)
  obtain ⟨es2, x2, f2, g2, l2⟩ := A2 [.str [], .str [last], .str [99], .str [100], .str [65], .str [32], .str (many 60 [last]), .str (many 61 [last]), .str (many 59 [97] ++ [98]), .non, .int 1, .tup [.str [97]], .str [97, 98], .lst [.str [97]]] es1 none (by simp [bas]) (by rw [l1]; simp) g1
  refine ⟨.lst (es2 ++ [.tup [.tup (cs.map .int ++ [.int 0]), .tup (ws.map .str)], .tup [.tup (cutL (cs.map .int) (some 1) none), .tup (ws.map .str)], .tup [.tup (cs.map .int), .tup (ws.map .str ++ [.str []])], .tup [.tup (cs.map .int), .tup (cutL (ws.map .str) (some 1) none)], .tup [.tup (ws.map .str), .tup (cs.map .int)]] ++
    [.tup [.tup (cs.map .int), .str (ws.getD 0 [])], .tup [.tup [], .tup []], .tup [.tup [], .tup (ws.map .str)], .tup [.tup (cs.map .int), .tup []]]), s2, ?_, ok2, _, rfl, ?_, ?_⟩
  · have f1' := f1
    have f2' := f2
    simp only [F1] at f1'
    simp only [F2] at f2'
    have a0 : ∀ s : DeckSt, dAsgT (gT 2 (gsCons (gN 3) (gsCons (gN 4) gsNil))) [] (dVar 2) [some (.val .deck), some (.val (SigP a b sz)), some (.val (Cf cs ws)), none, none, none, none, none, none, none, none] s = .nx [some (.val .deck), some (.val (SigP a b sz)), some (.val (Cf cs ws)), some (.val (.tup (cs.map .int))), some (.val (.tup (ws.map .str))), none, none, none, none, none, none] s := fun s => rfl
    have c65 : cs.length ≤ 65536 := by omega
    have w65 : ws.length ≤ 65536 := by omega
    have el2 : es2.length = 31 := by rw [l2, l1]; rfl
    have i1 : ixD (.tup (sz.map .int)) (.int (kn : Int)) = some (.int sz[kn]) := by rw [ixD_tup]; simp [hk]
    have i0 : ixD (.tup (ws.map .str)) (.int 0) = some (.str (ws.getD 0 [])) := by
      cases ws with
      | nil => rw [List.length_nil] at lw; omega
      | cons w r => exact ixD_t0
    have p1 := addT_ev (x := cs.map D.int) (y := [.int 0]) (by rw [List.length_map, List.length_singleton]; omega)
    have p2 := addT_ev (x := ws.map D.str) (y := [.str []]) (by rw [List.length_map, List.length_singleton]; omega)
    have t60 : timesD (.str [last]) (.int 60) = some (.str (many 60 [last])) := rfl
    have t61 : timesD (.str [last]) (.int 61) = some (.str (many 61 [last])) := rfl
    have r59 : repD (.str [97]) (.int 59) = some (.str (many 59 [97])) := rfl
    have s59 : addD (.str (many 59 [97])) (.str [98]) = some (.str (many 59 [97] ++ [98])) := rfl
    have sb : ∀ i : Int, subD (.int i) (.int 1) = some (.int (i - 1)) := fun _ => rfl
    have n1 : negD (.int 1) = some (.int (-1)) := rfl
    have cl : ∀ es ds : List D, es.length + ds.length ≤ 65536 → catL (.lst es) (.lst ds) = some (es ++ ds) := fun es ds h => if_pos h
    have al : ∀ es ds : List D, es.length + ds.length ≤ 65536 → addD (.lst es) (.lst ds) = some (.lst (es ++ ds)) := fun es ds h => if_pos h
    have fz : ∀ ds es : List D, frzs (.own ds) [7] [some (.val .deck), some (.val (SigP a b sz)), some (.val (Cf cs ws)), some (.val (.tup (cs.map .int))), some (.val (.tup (ws.map .str))), some (.val (.int (kn : Int))), some (.val (.int c)), some (.own es), x1, some (.val (.str [last])), x2] =
        [some (.val .deck), some (.val (SigP a b sz)), some (.val (Cf cs ws)), some (.val (.tup (cs.map .int))), some (.val (.tup (ws.map .str))), some (.val (.int (kn : Int))), some (.val (.int c)), some (.val (.lst es)), x1, some (.val (.str [last])), x2] := fun ds es => by
      cases x1 with
      | none => cases x2 with
        | none => rfl
        | some y => cases y <;> rfl
      | some y => cases x2 with
        | none => cases y <;> rfl
        | some z => cases y <;> cases z <;> rfl
    simp only [m__law_near, d__law_near, mOf, List.map_cons, List.map_nil, List.length_cons, List.length_nil, List.replicate, List.cons_append, List.nil_append, dSeq, a0, Nat.reduceAdd, Nat.reduceSub]
    simp [dPar, m__law_pick, lenD, e1, e2, itemsD, Option.filter, c65, w65, dFor, dUn, i1, sb, n1, f1', el, t60, t61, r59, s59, f2', p1, p2, slD, i0, el2, cl, al, fz, mOf, dRet, dRetN, dSeq, dNext, dIfS, dTr, dNot, dAnd, dOr, dB, dAndV, dOrV, dNotV, dBin, dChain, dCall, dCallD, dCallK, dCallB, dCons, dNil, dTup, dLst, dF, dC, dVar, dOwn, dV, dO, dAsg, dIsi, dSl, dPart, dNoPart, dIf, dMb, dBinL, dListOf, dDrop, dRaise, dWalk, dRng, walkD, R.bind_ok, R.bind_ex, R.bind_bad, R.map, R.out_ok, R.out_ex, R.out_bad, ofO, truD, asB, asI, List.map_cons, List.map_nil, List.length_cons, List.length_nil, Nat.reduceAdd, Nat.reduceSub, List.replicate, List.cons_append, List.nil_append, List.getElem?_cons_zero, List.getElem?_cons_succ, List.set_cons_zero, List.set_cons_succ, frz_nil, frzs_nil, Option.bind_some, Option.map_some, leD, ltD, geD, gtD, cmpI, if_true, ite_true, if_false, ite_false, Bool.false_eq_true, ne_int, eq_int, ne_bl, eq_bl, ne_str, eq_str, ixD_t0, ixD_t1, ixD_t2, ixD_l0, ixD_l1, ixD_l2, ite_ok, ite_bl, ite_rt, isi_int_non, isi_int_bl, isi_int_int, isi_int_str, isi_int_tup, isi_int_lst, isi_bool_non, isi_bool_bl, isi_bool_int, isi_bool_str, isi_bool_tup, isi_bool_lst, isi_str_non, isi_str_bl, isi_str_int, isi_str_str, isi_str_tup, isi_str_lst, isi_tuple_non, isi_tuple_bl, isi_tuple_int, isi_tuple_str, isi_tuple_tup, isi_tuple_lst, isi_list_non, isi_list_bl, isi_list_int, isi_list_str, isi_list_tup, isi_list_lst]
  · intro x hx
    rcases List.mem_append.mp hx with hx | hx
    · rcases List.mem_append.mp hx with hx | hx
      · exact g2 x hx
      · have b1 : basT (.tup (cs.map D.int ++ [.int 0])) = true := basT_tup (fun d hd => by
          rcases List.mem_append.mp hd with z | z
          · exact bc d z
          · rw [List.mem_singleton.mp z]; rfl) (by rw [List.length_append, List.length_map, List.length_singleton]; omega)
        have b2 : basT (.tup (ws.map D.str ++ [.str []])) = true := basT_tup (fun d hd => by
          rcases List.mem_append.mp hd with z | z
          · exact bw d z
          · rw [List.mem_singleton.mp z]; rfl) (by rw [List.length_append, List.length_map, List.length_singleton]; omega)
        have b3 : basT (.tup (cutL (cs.map D.int) (some 1) none)) = true := basT_tup (fun d hd => bc d (cutL_mem hd)) (by have := cutL_len (l := cs.map D.int) (lo := some 1) (hi := none); rw [List.length_map] at this; omega)
        have b4 : basT (.tup (cutL (ws.map D.str) (some 1) none)) = true := basT_tup (fun d hd => bw d (cutL_mem hd)) (by have := cutL_len (l := ws.map D.str) (lo := some 1) (hi := none); rw [List.length_map] at this; omega)
        simp only [List.mem_cons, List.not_mem_nil, or_false] at hx
        rcases hx with h | h | h | h | h <;> subst h <;> simp only [fine, Bool.and_eq_true]
        · exact ⟨b1, wT⟩
        · exact ⟨b3, wT⟩
        · exact ⟨bT, b2⟩
        · exact ⟨bT, b4⟩
        · exact ⟨wT, bT⟩
    · simp only [List.mem_cons, List.not_mem_nil, or_false] at hx
      rcases hx with h | h | h | h <;> subst h <;> simp only [fine, Bool.and_eq_true]
      · exact ⟨bT, rfl⟩
      · exact ⟨rfl, rfl⟩
      · exact ⟨rfl, wT⟩
      · exact ⟨bT, rfl⟩
  · rw [List.length_append, List.length_append, l2, l1]
    simp
theorem other_step {a b : Int} {sz : List Int} {v2 v3 v4 x7 x8 x9 x10 : Option Sl} {es : List D} {l : List Nat} (h : Sg a b sz) (hl : l.length ≤ 9) (hA : ∀ c ∈ l, c ∈ alph a) (he : es.length < 1000) (ok : s.Ok) :
    ∃ (l' : List Nat) (y7 y8 y9 : Option Sl) (s' : DeckSt), L__law_other_1 [some (.val .deck), some (.val (SigP a b sz)), v2, v3, v4, some (.own es), some (.val (.str l)), x7, x8, x9, x10] s =
      .nx [some (.val .deck), some (.val (SigP a b sz)), v2, v3, v4, some (.own (es ++ [.str l'])), some (.val (.str l)), y7, y8, y9, x10] s' ∧ s'.Ok ∧ l'.length ≤ 60 ∧ ∀ c ∈ l', c ∈ alph a := by
  have L := lcL_ok (g := gN 9) (dt := dB (dBin gtD (dCall m__law_pick (dCons (dVar 0) (dCons (dC (.int 3)) dNil))) (dC (.int 0)))) (de := dVar 9) (ρ := [some (.val .deck), some (.val (SigP a b sz)), v2, v3, v4, some (.own es), some (.val (.str l)), x7, x8, none, x10]) (l := l.map fun c => D.str [c]) (s := s) (fun d => ∃ c, d = .str [c] ∧ c ∈ alph a) ok fun d hd s ok => by
    obtain ⟨c, hc, rfl⟩ := List.mem_map.mp hd
    refine ⟨_, rfl, ?_⟩
    obtain ⟨d, s2, e2, ok2, j, rfl, j0, j1⟩ := pick1 ok (n := 3) (by omega) (by omega)
    refine ⟨decide (0 < j), s2, ?_, ok2, fun s1 ok1 _ => ⟨.str [c], s1, rfl, ok1, c, rfl, hA c hc⟩⟩
    simp [m__law_pick, e2, mOf, dRet, dRetN, dSeq, dNext, dIfS, dTr, dNot, dAnd, dOr, dB, dAndV, dOrV, dNotV, dBin, dChain, dCall, dCallD, dCallK, dCallB, dCons, dNil, dTup, dLst, dF, dC, dVar, dOwn, dV, dO, dAsg, dIsi, dSl, dPart, dNoPart, dIf, dMb, dBinL, dListOf, dDrop, dRaise, dWalk, dRng, walkD, R.bind_ok, R.bind_ex, R.bind_bad, R.map, R.out_ok, R.out_ex, R.out_bad, ofO, truD, asB, asI, List.map_cons, List.map_nil, List.length_cons, List.length_nil, Nat.reduceAdd, Nat.reduceSub, List.replicate, List.cons_append, List.nil_append, List.getElem?_cons_zero, List.getElem?_cons_succ, List.set_cons_zero, List.set_cons_succ, frz_nil, frzs_nil, Option.bind_some, Option.map_some, leD, ltD, geD, gtD, cmpI, if_true, ite_true, if_false, ite_false, Bool.false_eq_true, ne_int, eq_int, ne_bl, eq_bl, ne_str, eq_str, ixD_t0, ixD_t1, ixD_t2, ixD_l0, ixD_l1, ixD_l2, ite_ok, ite_bl, ite_rt, isi_int_non, isi_int_bl, isi_int_int, isi_int_str, isi_int_tup, isi_int_lst, isi_bool_non, isi_bool_bl, isi_bool_int, isi_bool_str, isi_bool_tup, isi_bool_lst, isi_str_non, isi_str_bl, isi_str_int, isi_str_str, isi_str_tup, isi_str_lst, isi_tuple_non, isi_tuple_bl, isi_tuple_int, isi_tuple_str, isi_tuple_tup, isi_tuple_lst, isi_list_non, isi_list_bl, isi_list_int, isi_list_str, isi_list_tup, isi_list_lst]
  obtain ⟨ds, s1, eL, ok1, hP, hlen⟩ := L
  obtain ⟨l1, rfl, hA1⟩ := signs_of hP
  rw [List.length_map, List.length_map] at hlen
  obtain ⟨d, s2, e2, ok2, j, rfl, j0, j1⟩ := pick1 ok1 (n := 4) (by omega) (by omega)
  simp only [gtD] at eL
  have l65 : l.length ≤ 65536 := by omega
  have e65 : es.length < 65536 := by omega
  have js := join_signs (l := l1) (by omega)
  by_cases z : j = 0
  · subst z
    obtain ⟨d, s3, e3, ok3, t, rfl, t0, t1⟩ := pick1 ok2 (n := (l1.length : Int) + 1) (by omega) (by omega)
    obtain ⟨d, s4, e4, ok4, p, rfl, p0, p1⟩ := pick1 ok3 (n := a) (by have := h.1; omega) (by have := h.1; omega)
    obtain ⟨c, ec, hc⟩ := letter_ix h.1 p0 p1
    have c1 := cutL_len (l := l1) (lo := none) (hi := some t)
    have c2 := cutL_len (l := l1) (lo := some t) (hi := none)
    have a1 : addD (.str (cutL l1 none (some t))) (.str [c]) = some (.str (cutL l1 none (some t) ++ [c])) := if_pos (by rw [List.length_singleton]; omega)
    have a2 : addD (.str (cutL l1 none (some t) ++ [c])) (.str (cutL l1 (some t) none)) = some (.str (cutL l1 none (some t) ++ [c] ++ cutL l1 (some t) none)) := if_pos (by rw [List.length_append, List.length_singleton]; omega)
    have a3 : addD (.int (l1.length : Int)) (.int 1) = some (.int ((l1.length : Int) + 1)) := rfl
    refine ⟨cutL l1 none (some t) ++ [c] ++ cutL l1 (some t) none, some (.val (.str (cutL l1 none (some t) ++ [c] ++ cutL l1 (some t) none))), some (.val (.int t)), x9, s4, ?_, ok4, ?_, ?_⟩
    rotate_left
    · rw [List.length_append, List.length_append, List.length_singleton]; omega
    · intro x hx
      rcases List.mem_append.mp hx with hx | hx
      · rcases List.mem_append.mp hx with hx | hx
        · exact hA1 x (cutL_mem hx)
        · rw [List.mem_singleton.mp hx]; exact hc
      · exact hA1 x (cutL_mem hx)
    · simp [L__law_other_1, dLc, wipeE, nox, isS, eL, js, m__law_pick, e2, e3, e4, ec, lenD, slD, a1, a2, a3, dMeth, fApp, kDrop, l65, e65, mOf, dRet, dRetN, dSeq, dNext, dIfS, dTr, dNot, dAnd, dOr, dB, dAndV, dOrV, dNotV, dBin, dChain, dCall, dCallD, dCallK, dCallB, dCons, dNil, dTup, dLst, dF, dC, dVar, dOwn, dV, dO, dAsg, dIsi, dSl, dPart, dNoPart, dIf, dMb, dBinL, dListOf, dDrop, dRaise, dWalk, dRng, walkD, R.bind_ok, R.bind_ex, R.bind_bad, R.map, R.out_ok, R.out_ex, R.out_bad, ofO, truD, asB, asI, List.map_cons, List.map_nil, List.length_cons, List.length_nil, Nat.reduceAdd, Nat.reduceSub, List.replicate, List.cons_append, List.nil_append, List.getElem?_cons_zero, List.getElem?_cons_succ, List.set_cons_zero, List.set_cons_succ, frz_nil, frzs_nil, Option.bind_some, Option.map_some, leD, ltD, geD, gtD, cmpI, if_true, ite_true, if_false, ite_false, Bool.false_eq_true, ne_int, eq_int, ne_bl, eq_bl, ne_str, eq_str, ixD_t0, ixD_t1, ixD_t2, ixD_l0, ixD_l1, ixD_l2, ite_ok, ite_bl, ite_rt, isi_int_non, isi_int_bl, isi_int_int, isi_int_str, isi_int_tup, isi_int_lst, isi_bool_non, isi_bool_bl, isi_bool_int, isi_bool_str, isi_bool_tup, isi_bool_lst, isi_str_non, isi_str_bl, isi_str_int, isi_str_str, isi_str_tup, isi_str_lst, isi_tuple_non, isi_tuple_bl, isi_tuple_int, isi_tuple_str, isi_tuple_tup, isi_tuple_lst, isi_list_non, isi_list_bl, isi_list_int, isi_list_str, isi_list_tup, isi_list_lst]
      try (rw [← List.append_assoc] at a2)
      try simp [a2, mOf, dRet, dRetN, dSeq, dNext, dIfS, dTr, dNot, dAnd, dOr, dB, dAndV, dOrV, dNotV, dBin, dChain, dCall, dCallD, dCallK, dCallB, dCons, dNil, dTup, dLst, dF, dC, dVar, dOwn, dV, dO, dAsg, dIsi, dSl, dPart, dNoPart, dIf, dMb, dBinL, dListOf, dDrop, dRaise, dWalk, dRng, walkD, R.bind_ok, R.bind_ex, R.bind_bad, R.map, R.out_ok, R.out_ex, R.out_bad, ofO, truD, asB, asI, List.map_cons, List.map_nil, List.length_cons, List.length_nil, Nat.reduceAdd, Nat.reduceSub, List.replicate, List.cons_append, List.nil_append, List.getElem?_cons_zero, List.getElem?_cons_succ, List.set_cons_zero, List.set_cons_succ, frz_nil, frzs_nil, Option.bind_some, Option.map_some, leD, ltD, geD, gtD, cmpI, if_true, ite_true, if_false, ite_false, Bool.false_eq_true, ne_int, eq_int, ne_bl, eq_bl, ne_str, eq_str, ixD_t0, ixD_t1, ixD_t2, ixD_l0, ixD_l1, ixD_l2, ite_ok, ite_bl, ite_rt, isi_int_non, isi_int_bl, isi_int_int, isi_int_str, isi_int_tup, isi_int_lst, isi_bool_non, isi_bool_bl, isi_bool_int, isi_bool_str, isi_bool_tup, isi_bool_lst, isi_str_non, isi_str_bl, isi_str_int, isi_str_str, isi_str_tup, isi_str_lst, isi_tuple_non, isi_tuple_bl, isi_tuple_int, isi_tuple_str, isi_tuple_tup, isi_tuple_lst, isi_list_non, isi_list_bl, isi_list_int, isi_list_str, isi_list_tup, isi_list_lst]
  · refine ⟨l1, some (.val (.str l1)), x8, x9, s2, ?_, ok2, by omega, hA1⟩
    have z' : ¬ (j == 0) = true := by simpa using z
    simp [L__law_other_1, dLc, wipeE, nox, isS, eL, js, m__law_pick, e2, z, dMeth, fApp, kDrop, l65, e65, mOf, dRet, dRetN, dSeq, dNext, dIfS, dTr, dNot, dAnd, dOr, dB, dAndV, dOrV, dNotV, dBin, dChain, dCall, dCallD, dCallK, dCallB, dCons, dNil, dTup, dLst, dF, dC, dVar, dOwn, dV, dO, dAsg, dIsi, dSl, dPart, dNoPart, dIf, dMb, dBinL, dListOf, dDrop, dRaise, dWalk, dRng, walkD, R.bind_ok, R.bind_ex, R.bind_bad, R.map, R.out_ok, R.out_ex, R.out_bad, ofO, truD, asB, asI, List.map_cons, List.map_nil, List.length_cons, List.length_nil, Nat.reduceAdd, Nat.reduceSub, List.replicate, List.cons_append, List.nil_append, List.getElem?_cons_zero, List.getElem?_cons_succ, List.set_cons_zero, List.set_cons_succ, frz_nil, frzs_nil, Option.bind_some, Option.map_some, leD, ltD, geD, gtD, cmpI, if_true, ite_true, if_false, ite_false, Bool.false_eq_true, ne_int, eq_int, ne_bl, eq_bl, ne_str, eq_str, ixD_t0, ixD_t1, ixD_t2, ixD_l0, ixD_l1, ixD_l2, ite_ok, ite_bl, ite_rt, isi_int_non, isi_int_bl, isi_int_int, isi_int_str, isi_int_tup, isi_int_lst, isi_bool_non, isi_bool_bl, isi_bool_int, isi_bool_str, isi_bool_tup, isi_bool_lst, isi_str_non, isi_str_bl, isi_str_int, isi_str_str, isi_str_tup, isi_str_lst, isi_tuple_non, isi_tuple_bl, isi_tuple_int, isi_tuple_str, isi_tuple_tup, isi_tuple_lst, isi_list_non, isi_list_bl, isi_list_int, isi_list_str, isi_list_tup, isi_list_lst]
theorem other_loop {a b : Int} {sz : List Int} {v2 v3 v4 x10 : Option Sl} (h : Sg a b sz) : ∀ (ws : List (List Nat)) (es : List D) (x6 x7 x8 x9 : Option Sl) (s : DeckSt), (∀ w ∈ ws, w.length ≤ 9 ∧ ∀ c ∈ w, c ∈ alph a) → es.length + ws.length ≤ 900 → s.Ok →
    ∃ (ws' : List (List Nat)) (y6 y7 y8 y9 : Option Sl) (s' : DeckSt), forL (gN 6) L__law_other_1 (ws.map .str) [some (.val .deck), some (.val (SigP a b sz)), v2, v3, v4, some (.own es), x6, x7, x8, x9, x10] s =
      .nx [some (.val .deck), some (.val (SigP a b sz)), v2, v3, v4, some (.own (es ++ ws'.map .str)), y6, y7, y8, y9, x10] s' ∧ s'.Ok ∧ ws'.length = ws.length ∧ ∀ w ∈ ws', w.length ≤ 60 ∧ ∀ c ∈ w, c ∈ alph a
  | [], es, x6, x7, x8, x9, s, _, _, ok => ⟨[], x6, x7, x8, x9, s, by rw [List.map_nil, List.append_nil]; rfl, ok, rfl, fun _ h => by cases h⟩
  | w :: ws, es, x6, x7, x8, x9, s, hw, hl, ok => by
    rw [List.length_cons] at hl
    have w1 := hw w (.head _)
    obtain ⟨l', y7, y8, y9, s1, e1, ok1, q1, q2⟩ := other_step (v2 := v2) (v3 := v3) (v4 := v4) (x7 := x7) (x8 := x8) (x9 := x9) (x10 := x10) (es := es) h w1.1 w1.2 (by omega) ok
    obtain ⟨ws', z6, z7, z8, z9, s2, e2, ok2, q3, q4⟩ := other_loop h ws (es ++ [.str l']) (some (.val (.str w))) y7 y8 y9 s1 (fun x hx => hw x (.tail _ hx)) (by rw [List.length_append, List.length_singleton]; omega) ok1
    refine ⟨l' :: ws', z6, z7, z8, z9, s2, ?_, ok2, by rw [List.length_cons, List.length_cons, q3], fun x hx => ?_⟩
    · rw [List.map_cons, forL_nx (g := gN 6) rfl e1, e2, List.map_cons, List.append_assoc]
      rfl
    · cases hx with
      | head => exact ⟨q1, q2⟩
      | tail _ hx => exact q4 x hx
theorem other_dr {a b : Int} {sz cs : List Int} {ws : List (List Nat)} (h : Sg a b sz) (hc : CfOk a b sz cs ws) (h9 : ∀ w ∈ ws, w.length ≤ 9) (ok : s.Ok) : Ok1 (m__law_other [.deck, SigP a b sz, Cf cs ws] s) fun d => ∃ cs' ws', d = Cf cs' ws' ∧ CfOk a b sz cs' ws' := by
  have lw := hc.lw
  have w2 := hc.w2 h
  obtain ⟨ws', y6, y7, y8, y9, s1, e1, ok1, q1, q2⟩ := other_loop (v2 := some (.val (Cf cs ws))) (v3 := some (.val (.tup (cs.map .int)))) (v4 := some (.val (.tup (ws.map .str)))) (x10 := none) h ws [] none none none none s (fun w hw => ⟨h9 w hw, (hc.rw_ w hw).2⟩) (by simp; omega) ok
  rw [List.nil_append] at e1
  have a0 : ∀ s : DeckSt, dAsgT (gT 2 (gsCons (gN 3) (gsCons (gN 4) gsNil))) [] (dVar 2) [some (.val .deck), some (.val (SigP a b sz)), some (.val (Cf cs ws)), none, none, none, none, none, none, none, none] s = .nx [some (.val .deck), some (.val (SigP a b sz)), some (.val (Cf cs ws)), some (.val (.tup (cs.map .int))), some (.val (.tup (ws.map .str))), none, none, none, none, none, none] s := fun s => rfl
  obtain ⟨d, s2, e2, ok2, j, rfl, j0, j1⟩ := pick1 ok1 (n := 5) (by omega) (by omega)
  have z3 := h.len
  have hz : sz.length ≤ 65536 := by omega
  by_cases z : j = 0
  · subst z
    obtain ⟨ds, s3, e3, ok3, cs', rfl, p1, p2⟩ := ctl_dr (i := 10) (ρ := [some (.val .deck), some (.val (SigP a b sz)), some (.val (Cf cs ws)), some (.val (.tup (cs.map .int))), some (.val (.tup (ws.map .str))), some (.own (ws'.map .str)), y6, y7, y8, y9, none]) (fun _ _ => rfl) (fun _ _ => rfl) h.pos ok2
    refine ⟨Cf cs' ws', s3, ?_, ok3, cs', ws', rfl, p1, p2, by omega, q2⟩
    simp only [m__law_other, d__law_other, mOf, List.map_cons, List.map_nil, List.length_cons, List.length_nil, List.replicate, List.cons_append, List.nil_append, dSeq, a0, Nat.reduceAdd, Nat.reduceSub]
    simp [dFor, e1, m__law_pick, e2, dLc, wipeE, nox, e3, hz, tupleD, mOf, dRet, dRetN, dSeq, dNext, dIfS, dTr, dNot, dAnd, dOr, dB, dAndV, dOrV, dNotV, dBin, dChain, dCall, dCallD, dCallK, dCallB, dCons, dNil, dTup, dLst, dF, dC, dVar, dOwn, dV, dO, dAsg, dIsi, dSl, dPart, dNoPart, dIf, dMb, dBinL, dListOf, dDrop, dRaise, dWalk, dRng, walkD, R.bind_ok, R.bind_ex, R.bind_bad, R.map, R.out_ok, R.out_ex, R.out_bad, ofO, truD, asB, asI, List.map_cons, List.map_nil, List.length_cons, List.length_nil, Nat.reduceAdd, Nat.reduceSub, List.replicate, List.cons_append, List.nil_append, List.getElem?_cons_zero, List.getElem?_cons_succ, List.set_cons_zero, List.set_cons_succ, frz_nil, frzs_nil, Option.bind_some, Option.map_some, leD, ltD, geD, gtD, cmpI, if_true, ite_true, if_false, ite_false, Bool.false_eq_true, ne_int, eq_int, ne_bl, eq_bl, ne_str, eq_str, ixD_t0, ixD_t1, ixD_t2, ixD_l0, ixD_l1, ixD_l2, ite_ok, ite_bl, ite_rt, isi_int_non, isi_int_bl, isi_int_int, isi_int_str, isi_int_tup, isi_int_lst, isi_bool_non, isi_bool_bl, isi_bool_int, isi_bool_str, isi_bool_tup, isi_bool_lst, isi_str_non, isi_str_bl, isi_str_int, isi_str_str, isi_str_tup, isi_str_lst, isi_tuple_non, isi_tuple_bl, isi_tuple_int, isi_tuple_str, isi_tuple_tup, isi_tuple_lst, isi_list_non, isi_list_bl, isi_list_int, isi_list_str, isi_list_tup, isi_list_lst]
  · refine ⟨Cf cs ws', s2, ?_, ok2, cs, ws', rfl, hc.lc, hc.rc, by omega, q2⟩
    simp only [m__law_other, d__law_other, mOf, List.map_cons, List.map_nil, List.length_cons, List.length_nil, List.replicate, List.cons_append, List.nil_append, dSeq, a0, Nat.reduceAdd, Nat.reduceSub]
    simp [dFor, e1, m__law_pick, e2, z, tupleD, mOf, dRet, dRetN, dSeq, dNext, dIfS, dTr, dNot, dAnd, dOr, dB, dAndV, dOrV, dNotV, dBin, dChain, dCall, dCallD, dCallK, dCallB, dCons, dNil, dTup, dLst, dF, dC, dVar, dOwn, dV, dO, dAsg, dIsi, dSl, dPart, dNoPart, dIf, dMb, dBinL, dListOf, dDrop, dRaise, dWalk, dRng, walkD, R.bind_ok, R.bind_ex, R.bind_bad, R.map, R.out_ok, R.out_ex, R.out_bad, ofO, truD, asB, asI, List.map_cons, List.map_nil, List.length_cons, List.length_nil, Nat.reduceAdd, Nat.reduceSub, List.replicate, List.cons_append, List.nil_append, List.getElem?_cons_zero, List.getElem?_cons_succ, List.set_cons_zero, List.set_cons_succ, frz_nil, frzs_nil, Option.bind_some, Option.map_some, leD, ltD, geD, gtD, cmpI, if_true, ite_true, if_false, ite_false, Bool.false_eq_true, ne_int, eq_int, ne_bl, eq_bl, ne_str, eq_str, ixD_t0, ixD_t1, ixD_t2, ixD_l0, ixD_l1, ixD_l2, ite_ok, ite_bl, ite_rt, isi_int_non, isi_int_bl, isi_int_int, isi_int_str, isi_int_tup, isi_int_lst, isi_bool_non, isi_bool_bl, isi_bool_int, isi_bool_str, isi_bool_tup, isi_bool_lst, isi_str_non, isi_str_bl, isi_str_int, isi_str_str, isi_str_tup, isi_str_lst, isi_tuple_non, isi_tuple_bl, isi_tuple_int, isi_tuple_str, isi_tuple_tup, isi_tuple_lst, isi_list_non, isi_list_bl, isi_list_int, isi_list_str, isi_list_tup, isi_list_lst]
/-! ### refusals -/
theorem su1 : subF "BadSignature" "BadSignature" = some true := by decide +kernel
theorem su2 : subF "BadConfiguration" "BadSignature" = some false := by decide +kernel
theorem su3 : subF "BadConfiguration" "BadConfiguration" = some true := by decide +kernel
theorem su4 : subF "BadOther" "BadSignature" = some false := by decide +kernel
theorem su5 : subF "BadOther" "BadConfiguration" = some false := by decide +kernel
theorem su6 : subF "BadOther" "BadOther" = some true := by decide +kernel
abbrev wSig : List Nat := [115, 105, 103, 110, 97, 116, 117, 114, 101]
abbrev wConf : List Nat := [99, 111, 110, 102, 105, 103, 117, 114, 97, 116, 105, 111, 110]
abbrev wOther : List Nat := [111, 116, 104, 101, 114]
abbrev wNone : List Nat := [110, 111, 110, 101]
/-- what is asked of one of the three -/
def asks (which : Int) (sg one other : D) (s : DeckSt) : R DeckSt D := if which = 0 then m_is_configuration [sg, one] s else if which = 1 then m_letters_in [sg, one] s else m_is_below [sg, one, other] s
section
variable {which : Int} {sg one other v : D}
theorem ref_body : (dIfS (dB (dBin eqO (dVar 0) (dC (.int 0)))) (dDrop (dCall m_is_configuration (dCons (dVar 1) (dCons (dVar 2) (dNil))))) (dIfS (dB (dBin eqO (dVar 0) (dC (.int 1)))) (dDrop (dCall m_letters_in (dCons (dVar 1) (dCons (dVar 2) (dNil))))) (dDrop (dCall m_is_below (dCons (dVar 1) (dCons (dVar 2) (dCons (dVar 3) (dNil)))))))) [some (.val (.int which)), some (.val sg), some (.val one), some (.val other), some (.val (.str wNone))] s =
    (asks which sg one other s).out [some (.val (.int which)), some (.val sg), some (.val one), some (.val other), some (.val (.str wNone))] fun _ s1 => .nx [some (.val (.int which)), some (.val sg), some (.val one), some (.val other), some (.val (.str wNone))] s1 := by
  unfold asks
  by_cases z : which = 0
  · simp [z, mOf, dRet, dRetN, dSeq, dNext, dIfS, dTr, dNot, dAnd, dOr, dB, dAndV, dOrV, dNotV, dBin, dChain, dCall, dCallD, dCallK, dCallB, dCons, dNil, dTup, dLst, dF, dC, dVar, dOwn, dV, dO, dAsg, dIsi, dSl, dPart, dNoPart, dIf, dMb, dBinL, dListOf, dDrop, dRaise, dWalk, dRng, walkD, R.bind_ok, R.bind_ex, R.bind_bad, R.map, R.out_ok, R.out_ex, R.out_bad, ofO, truD, asB, asI, List.map_cons, List.map_nil, List.length_cons, List.length_nil, Nat.reduceAdd, Nat.reduceSub, List.replicate, List.cons_append, List.nil_append, List.getElem?_cons_zero, List.getElem?_cons_succ, List.set_cons_zero, List.set_cons_succ, frz_nil, frzs_nil, Option.bind_some, Option.map_some, leD, ltD, geD, gtD, cmpI, if_true, ite_true, if_false, ite_false, Bool.false_eq_true, ne_int, eq_int, ne_bl, eq_bl, ne_str, eq_str, ixD_t0, ixD_t1, ixD_t2, ixD_l0, ixD_l1, ixD_l2, ite_ok, ite_bl, ite_rt, isi_int_non, isi_int_bl, isi_int_int, isi_int_str, isi_int_tup, isi_int_lst, isi_bool_non, isi_bool_bl, isi_bool_int, isi_bool_str, isi_bool_tup, isi_bool_lst, isi_str_non, isi_str_bl, isi_str_int, isi_str_str, isi_str_tup, isi_str_lst, isi_tuple_non, isi_tuple_bl, isi_tuple_int, isi_tuple_str, isi_tuple_tup, isi_tuple_lst, isi_list_non, isi_list_bl, isi_list_int, isi_list_str, isi_list_tup, isi_list_lst]
  · by_cases z1 : which = 1
    · simp [z1, mOf, dRet, dRetN, dSeq, dNext, dIfS, dTr, dNot, dAnd, dOr, dB, dAndV, dOrV, dNotV, dBin, dChain, dCall, dCallD, dCallK, dCallB, dCons, dNil, dTup, dLst, dF, dC, dVar, dOwn, dV, dO, dAsg, dIsi, dSl, dPart, dNoPart, dIf, dMb, dBinL, dListOf, dDrop, dRaise, dWalk, dRng, walkD, R.bind_ok, R.bind_ex, R.bind_bad, R.map, R.out_ok, R.out_ex, R.out_bad, ofO, truD, asB, asI, List.map_cons, List.map_nil, List.length_cons, List.length_nil, Nat.reduceAdd, Nat.reduceSub, List.replicate, List.cons_append, List.nil_append, List.getElem?_cons_zero, List.getElem?_cons_succ, List.set_cons_zero, List.set_cons_succ, frz_nil, frzs_nil, Option.bind_some, Option.map_some, leD, ltD, geD, gtD, cmpI, if_true, ite_true, if_false, ite_false, Bool.false_eq_true, ne_int, eq_int, ne_bl, eq_bl, ne_str, eq_str, ixD_t0, ixD_t1, ixD_t2, ixD_l0, ixD_l1, ixD_l2, ite_ok, ite_bl, ite_rt, isi_int_non, isi_int_bl, isi_int_int, isi_int_str, isi_int_tup, isi_int_lst, isi_bool_non, isi_bool_bl, isi_bool_int, isi_bool_str, isi_bool_tup, isi_bool_lst, isi_str_non, isi_str_bl, isi_str_int, isi_str_str, isi_str_tup, isi_str_lst, isi_tuple_non, isi_tuple_bl, isi_tuple_int, isi_tuple_str, isi_tuple_tup, isi_tuple_lst, isi_list_non, isi_list_bl, isi_list_int, isi_list_str, isi_list_tup, isi_list_lst]
    · simp [z, z1, mOf, dRet, dRetN, dSeq, dNext, dIfS, dTr, dNot, dAnd, dOr, dB, dAndV, dOrV, dNotV, dBin, dChain, dCall, dCallD, dCallK, dCallB, dCons, dNil, dTup, dLst, dF, dC, dVar, dOwn, dV, dO, dAsg, dIsi, dSl, dPart, dNoPart, dIf, dMb, dBinL, dListOf, dDrop, dRaise, dWalk, dRng, walkD, R.bind_ok, R.bind_ex, R.bind_bad, R.map, R.out_ok, R.out_ex, R.out_bad, ofO, truD, asB, asI, List.map_cons, List.map_nil, List.length_cons, List.length_nil, Nat.reduceAdd, Nat.reduceSub, List.replicate, List.cons_append, List.nil_append, List.getElem?_cons_zero, List.getElem?_cons_succ, List.set_cons_zero, List.set_cons_succ, frz_nil, frzs_nil, Option.bind_some, Option.map_some, leD, ltD, geD, gtD, cmpI, if_true, ite_true, if_false, ite_false, Bool.false_eq_true, ne_int, eq_int, ne_bl, eq_bl, ne_str, eq_str, ixD_t0, ixD_t1, ixD_t2, ixD_l0, ixD_l1, ixD_l2, ite_ok, ite_bl, ite_rt, isi_int_non, isi_int_bl, isi_int_int, isi_int_str, isi_int_tup, isi_int_lst, isi_bool_non, isi_bool_bl, isi_bool_int, isi_bool_str, isi_bool_tup, isi_bool_lst, isi_str_non, isi_str_bl, isi_str_int, isi_str_str, isi_str_tup, isi_str_lst, isi_tuple_non, isi_tuple_bl, isi_tuple_int, isi_tuple_str, isi_tuple_tup, isi_tuple_lst, isi_list_non, isi_list_bl, isi_list_int, isi_list_str, isi_list_tup, isi_list_lst]
theorem ref_ok (e : asks which sg one other s = .ok v s) : m__law_refused [.int which, sg, one, other] s = .ok (.str wNone) s := by
  have b := ref_body (s := s) (which := which) (sg := sg) (one := one) (other := other)
  rw [e, R.out_ok] at b
  simp only [m__law_refused, d__law_refused, mOf, List.map_cons, List.map_nil, List.length_cons, List.length_nil, List.replicate, List.cons_append, List.nil_append, Nat.reduceAdd, Nat.reduceSub]
  have a0 : dAsg 4 [] (dV (dC (.str wNone))) [some (.val (.int which)), some (.val sg), some (.val one), some (.val other), none] s = .nx [some (.val (.int which)), some (.val sg), some (.val one), some (.val other), some (.val (.str wNone))] s := rfl
  simp only [dSeq, a0, dTry, b]
  rfl
theorem ref_sig (e : asks which sg one other s = .ex "BadSignature" s) : m__law_refused [.int which, sg, one, other] s = .ok (.str wSig) s := by
  have b := ref_body (s := s) (which := which) (sg := sg) (one := one) (other := other)
  rw [e, R.out_ex] at b
  simp only [m__law_refused, d__law_refused, mOf, List.map_cons, List.map_nil, List.length_cons, List.length_nil, List.replicate, List.cons_append, List.nil_append, Nat.reduceAdd, Nat.reduceSub]
  have a0 : dAsg 4 [] (dV (dC (.str wNone))) [some (.val (.int which)), some (.val sg), some (.val one), some (.val other), none] s = .nx [some (.val (.int which)), some (.val sg), some (.val one), some (.val other), some (.val (.str wNone))] s := rfl
  simp only [dSeq, a0, dTry, b, handle, su1]
  rfl
theorem ref_conf (e : asks which sg one other s = .ex "BadConfiguration" s) : m__law_refused [.int which, sg, one, other] s = .ok (.str wConf) s := by
  have b := ref_body (s := s) (which := which) (sg := sg) (one := one) (other := other)
  rw [e, R.out_ex] at b
  simp only [m__law_refused, d__law_refused, mOf, List.map_cons, List.map_nil, List.length_cons, List.length_nil, List.replicate, List.cons_append, List.nil_append, Nat.reduceAdd, Nat.reduceSub]
  have a0 : dAsg 4 [] (dV (dC (.str wNone))) [some (.val (.int which)), some (.val sg), some (.val one), some (.val other), none] s = .nx [some (.val (.int which)), some (.val sg), some (.val one), some (.val other), some (.val (.str wNone))] s := rfl
  simp only [dSeq, a0, dTry, b, handle, su2, su3]
  rfl
theorem ref_other (e : asks which sg one other s = .ex "BadOther" s) : m__law_refused [.int which, sg, one, other] s = .ok (.str wOther) s := by
  have b := ref_body (s := s) (which := which) (sg := sg) (one := one) (other := other)
  rw [e, R.out_ex] at b
  simp only [m__law_refused, d__law_refused, mOf, List.map_cons, List.map_nil, List.length_cons, List.length_nil, List.replicate, List.cons_append, List.nil_append, Nat.reduceAdd, Nat.reduceSub]
  have a0 : dAsg 4 [] (dV (dC (.str wNone))) [some (.val (.int which)), some (.val sg), some (.val one), some (.val other), none] s = .nx [some (.val (.int which)), some (.val sg), some (.val one), some (.val other), some (.val (.str wNone))] s := rfl
  simp only [dSeq, a0, dTry, b, handle, su4, su5, su6]
  rfl
end
def badSig (a b : Int) (sz : List Int) : List D := [.non, .tup [.int a, .int b], .tup [.int 4, .int b, Sz sz], .lst [.int a, .int b, Sz sz]]
theorem bad_sig {a b : Int} {sz : List Int} {x : D} (hx : x ∈ badSig a b sz) : m_is_signature [x] s = .ok (.bl false) s := by
  simp only [badSig, List.mem_cons, List.not_mem_nil, or_false] at hx
  rcases hx with h | h | h | h <;> subst h
  · rfl
  · have e := is_row_ev (s := s) (d := .tup [.int a, .int b]) rfl (lo := 3) (hi := 3)
    simp [m_is_signature, d_is_signature, e, isRow, mOf, dRet, dRetN, dSeq, dNext, dIfS, dTr, dNot, dAnd, dOr, dB, dAndV, dOrV, dNotV, dBin, dChain, dCall, dCallD, dCallK, dCallB, dCons, dNil, dTup, dLst, dF, dC, dVar, dOwn, dV, dO, dAsg, dIsi, dSl, dPart, dNoPart, dIf, dMb, dBinL, dListOf, dDrop, dRaise, dWalk, dRng, walkD, R.bind_ok, R.bind_ex, R.bind_bad, R.map, R.out_ok, R.out_ex, R.out_bad, ofO, truD, asB, asI, List.map_cons, List.map_nil, List.length_cons, List.length_nil, Nat.reduceAdd, Nat.reduceSub, List.replicate, List.cons_append, List.nil_append, List.getElem?_cons_zero, List.getElem?_cons_succ, List.set_cons_zero, List.set_cons_succ, frz_nil, frzs_nil, Option.bind_some, Option.map_some, leD, ltD, geD, gtD, cmpI, if_true, ite_true, if_false, ite_false, Bool.false_eq_true, ne_int, eq_int, ne_bl, eq_bl, ne_str, eq_str, ixD_t0, ixD_t1, ixD_t2, ixD_l0, ixD_l1, ixD_l2, ite_ok, ite_bl, ite_rt, isi_int_non, isi_int_bl, isi_int_int, isi_int_str, isi_int_tup, isi_int_lst, isi_bool_non, isi_bool_bl, isi_bool_int, isi_bool_str, isi_bool_tup, isi_bool_lst, isi_str_non, isi_str_bl, isi_str_int, isi_str_str, isi_str_tup, isi_str_lst, isi_tuple_non, isi_tuple_bl, isi_tuple_int, isi_tuple_str, isi_tuple_tup, isi_tuple_lst, isi_list_non, isi_list_bl, isi_list_int, isi_list_str, isi_list_tup, isi_list_lst]
  · have e := is_row_ev (s := s) (d := .tup [.int 4, .int b, Sz sz]) rfl (lo := 3) (hi := 3)
    have e2 := within_ev (s := s) (d := .int 4) rfl (lo := 1) (hi := 3)
    simp [m_is_signature, d_is_signature, e, isRow, lenD, e2, inR, mOf, dRet, dRetN, dSeq, dNext, dIfS, dTr, dNot, dAnd, dOr, dB, dAndV, dOrV, dNotV, dBin, dChain, dCall, dCallD, dCallK, dCallB, dCons, dNil, dTup, dLst, dF, dC, dVar, dOwn, dV, dO, dAsg, dIsi, dSl, dPart, dNoPart, dIf, dMb, dBinL, dListOf, dDrop, dRaise, dWalk, dRng, walkD, R.bind_ok, R.bind_ex, R.bind_bad, R.map, R.out_ok, R.out_ex, R.out_bad, ofO, truD, asB, asI, List.map_cons, List.map_nil, List.length_cons, List.length_nil, Nat.reduceAdd, Nat.reduceSub, List.replicate, List.cons_append, List.nil_append, List.getElem?_cons_zero, List.getElem?_cons_succ, List.set_cons_zero, List.set_cons_succ, frz_nil, frzs_nil, Option.bind_some, Option.map_some, leD, ltD, geD, gtD, cmpI, if_true, ite_true, if_false, ite_false, Bool.false_eq_true, ne_int, eq_int, ne_bl, eq_bl, ne_str, eq_str, ixD_t0, ixD_t1, ixD_t2, ixD_l0, ixD_l1, ixD_l2, ite_ok, ite_bl, ite_rt, isi_int_non, isi_int_bl, isi_int_int, isi_int_str, isi_int_tup, isi_int_lst, isi_bool_non, isi_bool_bl, isi_bool_int, isi_bool_str, isi_bool_tup, isi_bool_lst, isi_str_non, isi_str_bl, isi_str_int, isi_str_str, isi_str_tup, isi_str_lst, isi_tuple_non, isi_tuple_bl, isi_tuple_int, isi_tuple_str, isi_tuple_tup, isi_tuple_lst, isi_list_non, isi_list_bl, isi_list_int, isi_list_str, isi_list_tup, isi_list_lst]
  · have e := is_row_ev (s := s) (d := .lst [.int a, .int b, Sz sz]) rfl (lo := 3) (hi := 3)
    simp [m_is_signature, d_is_signature, e, isRow, mOf, dRet, dRetN, dSeq, dNext, dIfS, dTr, dNot, dAnd, dOr, dB, dAndV, dOrV, dNotV, dBin, dChain, dCall, dCallD, dCallK, dCallB, dCons, dNil, dTup, dLst, dF, dC, dVar, dOwn, dV, dO, dAsg, dIsi, dSl, dPart, dNoPart, dIf, dMb, dBinL, dListOf, dDrop, dRaise, dWalk, dRng, walkD, R.bind_ok, R.bind_ex, R.bind_bad, R.map, R.out_ok, R.out_ex, R.out_bad, ofO, truD, asB, asI, List.map_cons, List.map_nil, List.length_cons, List.length_nil, Nat.reduceAdd, Nat.reduceSub, List.replicate, List.cons_append, List.nil_append, List.getElem?_cons_zero, List.getElem?_cons_succ, List.set_cons_zero, List.set_cons_succ, frz_nil, frzs_nil, Option.bind_some, Option.map_some, leD, ltD, geD, gtD, cmpI, if_true, ite_true, if_false, ite_false, Bool.false_eq_true, ne_int, eq_int, ne_bl, eq_bl, ne_str, eq_str, ixD_t0, ixD_t1, ixD_t2, ixD_l0, ixD_l1, ixD_l2, ite_ok, ite_bl, ite_rt, isi_int_non, isi_int_bl, isi_int_int, isi_int_str, isi_int_tup, isi_int_lst, isi_bool_non, isi_bool_bl, isi_bool_int, isi_bool_str, isi_bool_tup, isi_bool_lst, isi_str_non, isi_str_bl, isi_str_int, isi_str_str, isi_str_tup, isi_str_lst, isi_tuple_non, isi_tuple_bl, isi_tuple_int, isi_tuple_str, isi_tuple_tup, isi_tuple_lst, isi_list_non, isi_list_bl, isi_list_int, isi_list_str, isi_list_tup, isi_list_lst]
theorem need_bad {x : D} (h : m_is_signature [x] s = .ok (.bl false) s) : m_need_signature [x] s = .ex "BadSignature" s := by
  simp [m_need_signature, d_need_signature, h, mOf, dRet, dRetN, dSeq, dNext, dIfS, dTr, dNot, dAnd, dOr, dB, dAndV, dOrV, dNotV, dBin, dChain, dCall, dCallD, dCallK, dCallB, dCons, dNil, dTup, dLst, dF, dC, dVar, dOwn, dV, dO, dAsg, dIsi, dSl, dPart, dNoPart, dIf, dMb, dBinL, dListOf, dDrop, dRaise, dWalk, dRng, walkD, R.bind_ok, R.bind_ex, R.bind_bad, R.map, R.out_ok, R.out_ex, R.out_bad, ofO, truD, asB, asI, List.map_cons, List.map_nil, List.length_cons, List.length_nil, Nat.reduceAdd, Nat.reduceSub, List.replicate, List.cons_append, List.nil_append, List.getElem?_cons_zero, List.getElem?_cons_succ, List.set_cons_zero, List.set_cons_succ, frz_nil, frzs_nil, Option.bind_some, Option.map_some, leD, ltD, geD, gtD, cmpI, if_true, ite_true, if_false, ite_false, Bool.false_eq_true, ne_int, eq_int, ne_bl, eq_bl, ne_str, eq_str, ixD_t0, ixD_t1, ixD_t2, ixD_l0, ixD_l1, ixD_l2, ite_ok, ite_bl, ite_rt, isi_int_non, isi_int_bl, isi_int_int, isi_int_str, isi_int_tup, isi_int_lst, isi_bool_non, isi_bool_bl, isi_bool_int, isi_bool_str, isi_bool_tup, isi_bool_lst, isi_str_non, isi_str_bl, isi_str_int, isi_str_str, isi_str_tup, isi_str_lst, isi_tuple_non, isi_tuple_bl, isi_tuple_int, isi_tuple_str, isi_tuple_tup, isi_tuple_lst, isi_list_non, isi_list_bl, isi_list_int, isi_list_str, isi_list_tup, isi_list_lst]
theorem asks_bad {x : D} {which : Int} {one other : D} (h : m_is_signature [x] s = .ok (.bl false) s) : asks which x one other s = .ex "BadSignature" s := by
  have n := need_bad h
  unfold asks
  split
  · simp [m_is_configuration, d_is_configuration, n, mOf, dRet, dRetN, dSeq, dNext, dIfS, dTr, dNot, dAnd, dOr, dB, dAndV, dOrV, dNotV, dBin, dChain, dCall, dCallD, dCallK, dCallB, dCons, dNil, dTup, dLst, dF, dC, dVar, dOwn, dV, dO, dAsg, dIsi, dSl, dPart, dNoPart, dIf, dMb, dBinL, dListOf, dDrop, dRaise, dWalk, dRng, walkD, R.bind_ok, R.bind_ex, R.bind_bad, R.map, R.out_ok, R.out_ex, R.out_bad, ofO, truD, asB, asI, List.map_cons, List.map_nil, List.length_cons, List.length_nil, Nat.reduceAdd, Nat.reduceSub, List.replicate, List.cons_append, List.nil_append, List.getElem?_cons_zero, List.getElem?_cons_succ, List.set_cons_zero, List.set_cons_succ, frz_nil, frzs_nil, Option.bind_some, Option.map_some, leD, ltD, geD, gtD, cmpI, if_true, ite_true, if_false, ite_false, Bool.false_eq_true, ne_int, eq_int, ne_bl, eq_bl, ne_str, eq_str, ixD_t0, ixD_t1, ixD_t2, ixD_l0, ixD_l1, ixD_l2, ite_ok, ite_bl, ite_rt, isi_int_non, isi_int_bl, isi_int_int, isi_int_str, isi_int_tup, isi_int_lst, isi_bool_non, isi_bool_bl, isi_bool_int, isi_bool_str, isi_bool_tup, isi_bool_lst, isi_str_non, isi_str_bl, isi_str_int, isi_str_str, isi_str_tup, isi_str_lst, isi_tuple_non, isi_tuple_bl, isi_tuple_int, isi_tuple_str, isi_tuple_tup, isi_tuple_lst, isi_list_non, isi_list_bl, isi_list_int, isi_list_str, isi_list_tup, isi_list_lst]
  · split
    · simp [m_letters_in, d_letters_in, n, mOf, dRet, dRetN, dSeq, dNext, dIfS, dTr, dNot, dAnd, dOr, dB, dAndV, dOrV, dNotV, dBin, dChain, dCall, dCallD, dCallK, dCallB, dCons, dNil, dTup, dLst, dF, dC, dVar, dOwn, dV, dO, dAsg, dIsi, dSl, dPart, dNoPart, dIf, dMb, dBinL, dListOf, dDrop, dRaise, dWalk, dRng, walkD, R.bind_ok, R.bind_ex, R.bind_bad, R.map, R.out_ok, R.out_ex, R.out_bad, ofO, truD, asB, asI, List.map_cons, List.map_nil, List.length_cons, List.length_nil, Nat.reduceAdd, Nat.reduceSub, List.replicate, List.cons_append, List.nil_append, List.getElem?_cons_zero, List.getElem?_cons_succ, List.set_cons_zero, List.set_cons_succ, frz_nil, frzs_nil, Option.bind_some, Option.map_some, leD, ltD, geD, gtD, cmpI, if_true, ite_true, if_false, ite_false, Bool.false_eq_true, ne_int, eq_int, ne_bl, eq_bl, ne_str, eq_str, ixD_t0, ixD_t1, ixD_t2, ixD_l0, ixD_l1, ixD_l2, ite_ok, ite_bl, ite_rt, isi_int_non, isi_int_bl, isi_int_int, isi_int_str, isi_int_tup, isi_int_lst, isi_bool_non, isi_bool_bl, isi_bool_int, isi_bool_str, isi_bool_tup, isi_bool_lst, isi_str_non, isi_str_bl, isi_str_int, isi_str_str, isi_str_tup, isi_str_lst, isi_tuple_non, isi_tuple_bl, isi_tuple_int, isi_tuple_str, isi_tuple_tup, isi_tuple_lst, isi_list_non, isi_list_bl, isi_list_int, isi_list_str, isi_list_tup, isi_list_lst]
    · have nb : m_need_both [x, one, other] s = .ex "BadSignature" s := by simp [m_need_both, d_need_both, n, mOf, dRet, dRetN, dSeq, dNext, dIfS, dTr, dNot, dAnd, dOr, dB, dAndV, dOrV, dNotV, dBin, dChain, dCall, dCallD, dCallK, dCallB, dCons, dNil, dTup, dLst, dF, dC, dVar, dOwn, dV, dO, dAsg, dIsi, dSl, dPart, dNoPart, dIf, dMb, dBinL, dListOf, dDrop, dRaise, dWalk, dRng, walkD, R.bind_ok, R.bind_ex, R.bind_bad, R.map, R.out_ok, R.out_ex, R.out_bad, ofO, truD, asB, asI, List.map_cons, List.map_nil, List.length_cons, List.length_nil, Nat.reduceAdd, Nat.reduceSub, List.replicate, List.cons_append, List.nil_append, List.getElem?_cons_zero, List.getElem?_cons_succ, List.set_cons_zero, List.set_cons_succ, frz_nil, frzs_nil, Option.bind_some, Option.map_some, leD, ltD, geD, gtD, cmpI, if_true, ite_true, if_false, ite_false, Bool.false_eq_true, ne_int, eq_int, ne_bl, eq_bl, ne_str, eq_str, ixD_t0, ixD_t1, ixD_t2, ixD_l0, ixD_l1, ixD_l2, ite_ok, ite_bl, ite_rt, isi_int_non, isi_int_bl, isi_int_int, isi_int_str, isi_int_tup, isi_int_lst, isi_bool_non, isi_bool_bl, isi_bool_int, isi_bool_str, isi_bool_tup, isi_bool_lst, isi_str_non, isi_str_bl, isi_str_int, isi_str_str, isi_str_tup, isi_str_lst, isi_tuple_non, isi_tuple_bl, isi_tuple_int, isi_tuple_str, isi_tuple_tup, isi_tuple_lst, isi_list_non, isi_list_bl, isi_list_int, isi_list_str, isi_list_tup, isi_list_lst]
      simp [m_is_below, d_is_below, nb, mOf, dRet, dRetN, dSeq, dNext, dIfS, dTr, dNot, dAnd, dOr, dB, dAndV, dOrV, dNotV, dBin, dChain, dCall, dCallD, dCallK, dCallB, dCons, dNil, dTup, dLst, dF, dC, dVar, dOwn, dV, dO, dAsg, dIsi, dSl, dPart, dNoPart, dIf, dMb, dBinL, dListOf, dDrop, dRaise, dWalk, dRng, walkD, R.bind_ok, R.bind_ex, R.bind_bad, R.map, R.out_ok, R.out_ex, R.out_bad, ofO, truD, asB, asI, List.map_cons, List.map_nil, List.length_cons, List.length_nil, Nat.reduceAdd, Nat.reduceSub, List.replicate, List.cons_append, List.nil_append, List.getElem?_cons_zero, List.getElem?_cons_succ, List.set_cons_zero, List.set_cons_succ, frz_nil, frzs_nil, Option.bind_some, Option.map_some, leD, ltD, geD, gtD, cmpI, if_true, ite_true, if_false, ite_false, Bool.false_eq_true, ne_int, eq_int, ne_bl, eq_bl, ne_str, eq_str, ixD_t0, ixD_t1, ixD_t2, ixD_l0, ixD_l1, ixD_l2, ite_ok, ite_bl, ite_rt, isi_int_non, isi_int_bl, isi_int_int, isi_int_str, isi_int_tup, isi_int_lst, isi_bool_non, isi_bool_bl, isi_bool_int, isi_bool_str, isi_bool_tup, isi_bool_lst, isi_str_non, isi_str_bl, isi_str_int, isi_str_str, isi_str_tup, isi_str_lst, isi_tuple_non, isi_tuple_bl, isi_tuple_int, isi_tuple_str, isi_tuple_tup, isi_tuple_lst, isi_list_non, isi_list_bl, isi_list_int, isi_list_str, isi_list_tup, isi_list_lst]
def wrongs (cs : List Int) (ws : List (List Nat)) : List D := [.non, .tup [.tup (cs.map .int), .lst (ws.map .str)], .tup [.tup (cs.map .int ++ [.int 0]), .tup (ws.map .str)]]
section
variable {a b : Int} {sz cs : List Int} {ws : List (List Nat)} {x : D}
theorem wrong_fine (h : Sg a b sz) (hc : CfOk a b sz cs ws) (hx : x ∈ wrongs cs ws) : fine x = true ∧ confB a b sz x = false := by
  have z3 := h.len
  have lc := hc.lc
  have w2 := hc.w2 h
  simp only [wrongs, List.mem_cons, List.not_mem_nil, or_false] at hx
  have bT : basT (.tup (cs.map D.int)) = true := basT_tup cf_bas (by rw [List.length_map]; omega)
  have wT : basT (.tup (ws.map D.str)) = true := basT_tup wd_bas (by rw [List.length_map]; omega)
  rcases hx with h | h | h <;> subst h
  · exact ⟨rfl, rfl⟩
  · exact ⟨by simp only [fine, Bool.and_eq_true]; exact ⟨bT, rfl⟩, by simp [confB, wds]⟩
  · refine ⟨?_, ?_⟩
    · simp only [fine, Bool.and_eq_true]
      refine ⟨basT_tup (fun d hd => ?_) (by rw [List.length_append, List.length_map, List.length_singleton]; omega), wT⟩
      rcases List.mem_append.mp hd with z | z
      · exact cf_bas d z
      · rw [List.mem_singleton.mp z]; rfl
    · simp [confB, ctl, lc]
theorem asks_w0 (h : Sg a b sz) (hc : CfOk a b sz cs ws) (hx : x ∈ wrongs cs ws) {y : D} : asks 0 (SigP a b sz) x y s = .ok (.bl false) s := by
  obtain ⟨f, c⟩ := wrong_fine h hc hx
  have e := is_conf_ev (s := s) h f
  rw [c] at e
  exact e
theorem asks_w1 (h : Sg a b sz) (hc : CfOk a b sz cs ws) (hx : x ∈ wrongs cs ws) {y : D} : asks 1 (SigP a b sz) x y s = .ex "BadConfiguration" s := by
  obtain ⟨f, c⟩ := wrong_fine h hc hx
  have e := need_conf_ev (s := s) h f
  rw [c] at e
  show m_letters_in [SigP a b sz, x] s = _
  simp [m_letters_in, d_letters_in, need_sig_ev h, e, mOf, dRet, dRetN, dSeq, dNext, dIfS, dTr, dNot, dAnd, dOr, dB, dAndV, dOrV, dNotV, dBin, dChain, dCall, dCallD, dCallK, dCallB, dCons, dNil, dTup, dLst, dF, dC, dVar, dOwn, dV, dO, dAsg, dIsi, dSl, dPart, dNoPart, dIf, dMb, dBinL, dListOf, dDrop, dRaise, dWalk, dRng, walkD, R.bind_ok, R.bind_ex, R.bind_bad, R.map, R.out_ok, R.out_ex, R.out_bad, ofO, truD, asB, asI, List.map_cons, List.map_nil, List.length_cons, List.length_nil, Nat.reduceAdd, Nat.reduceSub, List.replicate, List.cons_append, List.nil_append, List.getElem?_cons_zero, List.getElem?_cons_succ, List.set_cons_zero, List.set_cons_succ, frz_nil, frzs_nil, Option.bind_some, Option.map_some, leD, ltD, geD, gtD, cmpI, if_true, ite_true, if_false, ite_false, Bool.false_eq_true, ne_int, eq_int, ne_bl, eq_bl, ne_str, eq_str, ixD_t0, ixD_t1, ixD_t2, ixD_l0, ixD_l1, ixD_l2, ite_ok, ite_bl, ite_rt, isi_int_non, isi_int_bl, isi_int_int, isi_int_str, isi_int_tup, isi_int_lst, isi_bool_non, isi_bool_bl, isi_bool_int, isi_bool_str, isi_bool_tup, isi_bool_lst, isi_str_non, isi_str_bl, isi_str_int, isi_str_str, isi_str_tup, isi_str_lst, isi_tuple_non, isi_tuple_bl, isi_tuple_int, isi_tuple_str, isi_tuple_tup, isi_tuple_lst, isi_list_non, isi_list_bl, isi_list_int, isi_list_str, isi_list_tup, isi_list_lst]
theorem asks_w2 (h : Sg a b sz) (hc : CfOk a b sz cs ws) (hx : x ∈ wrongs cs ws) {y : D} : asks 2 (SigP a b sz) x y s = .ex "BadConfiguration" s := by
  obtain ⟨f, c⟩ := wrong_fine h hc hx
  have e := need_conf_ev (s := s) h f
  rw [c] at e
  have nb : m_need_both [SigP a b sz, x, y] s = .ex "BadConfiguration" s := by simp [m_need_both, d_need_both, need_sig_ev h, e, mOf, dRet, dRetN, dSeq, dNext, dIfS, dTr, dNot, dAnd, dOr, dB, dAndV, dOrV, dNotV, dBin, dChain, dCall, dCallD, dCallK, dCallB, dCons, dNil, dTup, dLst, dF, dC, dVar, dOwn, dV, dO, dAsg, dIsi, dSl, dPart, dNoPart, dIf, dMb, dBinL, dListOf, dDrop, dRaise, dWalk, dRng, walkD, R.bind_ok, R.bind_ex, R.bind_bad, R.map, R.out_ok, R.out_ex, R.out_bad, ofO, truD, asB, asI, List.map_cons, List.map_nil, List.length_cons, List.length_nil, Nat.reduceAdd, Nat.reduceSub, List.replicate, List.cons_append, List.nil_append, List.getElem?_cons_zero, List.getElem?_cons_succ, List.set_cons_zero, List.set_cons_succ, frz_nil, frzs_nil, Option.bind_some, Option.map_some, leD, ltD, geD, gtD, cmpI, if_true, ite_true, if_false, ite_false, Bool.false_eq_true, ne_int, eq_int, ne_bl, eq_bl, ne_str, eq_str, ixD_t0, ixD_t1, ixD_t2, ixD_l0, ixD_l1, ixD_l2, ite_ok, ite_bl, ite_rt, isi_int_non, isi_int_bl, isi_int_int, isi_int_str, isi_int_tup, isi_int_lst, isi_bool_non, isi_bool_bl, isi_bool_int, isi_bool_str, isi_bool_tup, isi_bool_lst, isi_str_non, isi_str_bl, isi_str_int, isi_str_str, isi_str_tup, isi_str_lst, isi_tuple_non, isi_tuple_bl, isi_tuple_int, isi_tuple_str, isi_tuple_tup, isi_tuple_lst, isi_list_non, isi_list_bl, isi_list_int, isi_list_str, isi_list_tup, isi_list_lst]
  show m_is_below [SigP a b sz, x, y] s = _
  simp [m_is_below, d_is_below, nb, mOf, dRet, dRetN, dSeq, dNext, dIfS, dTr, dNot, dAnd, dOr, dB, dAndV, dOrV, dNotV, dBin, dChain, dCall, dCallD, dCallK, dCallB, dCons, dNil, dTup, dLst, dF, dC, dVar, dOwn, dV, dO, dAsg, dIsi, dSl, dPart, dNoPart, dIf, dMb, dBinL, dListOf, dDrop, dRaise, dWalk, dRng, walkD, R.bind_ok, R.bind_ex, R.bind_bad, R.map, R.out_ok, R.out_ex, R.out_bad, ofO, truD, asB, asI, List.map_cons, List.map_nil, List.length_cons, List.length_nil, Nat.reduceAdd, Nat.reduceSub, List.replicate, List.cons_append, List.nil_append, List.getElem?_cons_zero, List.getElem?_cons_succ, List.set_cons_zero, List.set_cons_succ, frz_nil, frzs_nil, Option.bind_some, Option.map_some, leD, ltD, geD, gtD, cmpI, if_true, ite_true, if_false, ite_false, Bool.false_eq_true, ne_int, eq_int, ne_bl, eq_bl, ne_str, eq_str, ixD_t0, ixD_t1, ixD_t2, ixD_l0, ixD_l1, ixD_l2, ite_ok, ite_bl, ite_rt, isi_int_non, isi_int_bl, isi_int_int, isi_int_str, isi_int_tup, isi_int_lst, isi_bool_non, isi_bool_bl, isi_bool_int, isi_bool_str, isi_bool_tup, isi_bool_lst, isi_str_non, isi_str_bl, isi_str_int, isi_str_str, isi_str_tup, isi_str_lst, isi_tuple_non, isi_tuple_bl, isi_tuple_int, isi_tuple_str, isi_tuple_tup, isi_tuple_lst, isi_list_non, isi_list_bl, isi_list_int, isi_list_str, isi_list_tup, isi_list_lst]
theorem asks_w3 (h : Sg a b sz) (hc : CfOk a b sz cs ws) (hx : x ∈ wrongs cs ws) : asks 2 (SigP a b sz) (Cf cs ws) x s = .ex "BadOther" s := by
  obtain ⟨f, c⟩ := wrong_fine h hc hx
  have nb := need_both_ev (s := s) h hc f
  rw [c] at nb
  show m_is_below [SigP a b sz, Cf cs ws, x] s = _
  simp [m_is_below, d_is_below, nb, mOf, dRet, dRetN, dSeq, dNext, dIfS, dTr, dNot, dAnd, dOr, dB, dAndV, dOrV, dNotV, dBin, dChain, dCall, dCallD, dCallK, dCallB, dCons, dNil, dTup, dLst, dF, dC, dVar, dOwn, dV, dO, dAsg, dIsi, dSl, dPart, dNoPart, dIf, dMb, dBinL, dListOf, dDrop, dRaise, dWalk, dRng, walkD, R.bind_ok, R.bind_ex, R.bind_bad, R.map, R.out_ok, R.out_ex, R.out_bad, ofO, truD, asB, asI, List.map_cons, List.map_nil, List.length_cons, List.length_nil, Nat.reduceAdd, Nat.reduceSub, List.replicate, List.cons_append, List.nil_append, List.getElem?_cons_zero, List.getElem?_cons_succ, List.set_cons_zero, List.set_cons_succ, frz_nil, frzs_nil, Option.bind_some, Option.map_some, leD, ltD, geD, gtD, cmpI, if_true, ite_true, if_false, ite_false, Bool.false_eq_true, ne_int, eq_int, ne_bl, eq_bl, ne_str, eq_str, ixD_t0, ixD_t1, ixD_t2, ixD_l0, ixD_l1, ixD_l2, ite_ok, ite_bl, ite_rt, isi_int_non, isi_int_bl, isi_int_int, isi_int_str, isi_int_tup, isi_int_lst, isi_bool_non, isi_bool_bl, isi_bool_int, isi_bool_str, isi_bool_tup, isi_bool_lst, isi_str_non, isi_str_bl, isi_str_int, isi_str_str, isi_str_tup, isi_str_lst, isi_tuple_non, isi_tuple_bl, isi_tuple_int, isi_tuple_str, isi_tuple_tup, isi_tuple_lst, isi_list_non, isi_list_bl, isi_list_int, isi_list_str, isi_list_tup, isi_list_lst]
end
/-! ### a turn -/
section
variable {a b : Int} {sz cs : List Int} {ws : List (List Nat)} {x0 x2 x5 x6 x7 x8 x9 x10 x11 : Option Sl}
theorem law_step1 (h : Sg a b sz) (hc : CfOk a b sz cs ws) {d : D} (hf : fine d = true) : L_law_1 [x0, some (.val .deck), x2, some (.val (SigP a b sz)), some (.val (Cf cs ws)), some (.val d), x6, x7, x8, x9, x10, x11] s =
    .nx [x0, some (.val .deck), x2, some (.val (SigP a b sz)), some (.val (Cf cs ws)), some (.val d), x6, x7, x8, x9, some (.val (.bl (confB a b sz d))), x11] s := by
  have e1 := law_judge_ev (s := s) hf (a := a) (b := b) h.len
  have e2 := is_conf_ev (s := s) h hf
  cases z : confB a b sz d
  · rw [z] at e1 e2
    simp [L_law_1, e1, e2, same_bl, mOf, dRet, dRetN, dSeq, dNext, dIfS, dTr, dNot, dAnd, dOr, dB, dAndV, dOrV, dNotV, dBin, dChain, dCall, dCallD, dCallK, dCallB, dCons, dNil, dTup, dLst, dF, dC, dVar, dOwn, dV, dO, dAsg, dIsi, dSl, dPart, dNoPart, dIf, dMb, dBinL, dListOf, dDrop, dRaise, dWalk, dRng, walkD, R.bind_ok, R.bind_ex, R.bind_bad, R.map, R.out_ok, R.out_ex, R.out_bad, ofO, truD, asB, asI, List.map_cons, List.map_nil, List.length_cons, List.length_nil, Nat.reduceAdd, Nat.reduceSub, List.replicate, List.cons_append, List.nil_append, List.getElem?_cons_zero, List.getElem?_cons_succ, List.set_cons_zero, List.set_cons_succ, frz_nil, frzs_nil, Option.bind_some, Option.map_some, leD, ltD, geD, gtD, cmpI, if_true, ite_true, if_false, ite_false, Bool.false_eq_true, ne_int, eq_int, ne_bl, eq_bl, ne_str, eq_str, ixD_t0, ixD_t1, ixD_t2, ixD_l0, ixD_l1, ixD_l2, ite_ok, ite_bl, ite_rt, isi_int_non, isi_int_bl, isi_int_int, isi_int_str, isi_int_tup, isi_int_lst, isi_bool_non, isi_bool_bl, isi_bool_int, isi_bool_str, isi_bool_tup, isi_bool_lst, isi_str_non, isi_str_bl, isi_str_int, isi_str_str, isi_str_tup, isi_str_lst, isi_tuple_non, isi_tuple_bl, isi_tuple_int, isi_tuple_str, isi_tuple_tup, isi_tuple_lst, isi_list_non, isi_list_bl, isi_list_int, isi_list_str, isi_list_tup, isi_list_lst]
  · obtain ⟨cs', ws', rfl, hc'⟩ := conf_cf z
    rw [z] at e1 e2
    have e3 := compared_ev (s := s) h hc' hc
    have e4 := compared_ev (s := s) h hc' hc'
    simp [L_law_1, e1, e2, same_bl, e3, e4, mOf, dRet, dRetN, dSeq, dNext, dIfS, dTr, dNot, dAnd, dOr, dB, dAndV, dOrV, dNotV, dBin, dChain, dCall, dCallD, dCallK, dCallB, dCons, dNil, dTup, dLst, dF, dC, dVar, dOwn, dV, dO, dAsg, dIsi, dSl, dPart, dNoPart, dIf, dMb, dBinL, dListOf, dDrop, dRaise, dWalk, dRng, walkD, R.bind_ok, R.bind_ex, R.bind_bad, R.map, R.out_ok, R.out_ex, R.out_bad, ofO, truD, asB, asI, List.map_cons, List.map_nil, List.length_cons, List.length_nil, Nat.reduceAdd, Nat.reduceSub, List.replicate, List.cons_append, List.nil_append, List.getElem?_cons_zero, List.getElem?_cons_succ, List.set_cons_zero, List.set_cons_succ, frz_nil, frzs_nil, Option.bind_some, Option.map_some, leD, ltD, geD, gtD, cmpI, if_true, ite_true, if_false, ite_false, Bool.false_eq_true, ne_int, eq_int, ne_bl, eq_bl, ne_str, eq_str, ixD_t0, ixD_t1, ixD_t2, ixD_l0, ixD_l1, ixD_l2, ite_ok, ite_bl, ite_rt, isi_int_non, isi_int_bl, isi_int_int, isi_int_str, isi_int_tup, isi_int_lst, isi_bool_non, isi_bool_bl, isi_bool_int, isi_bool_str, isi_bool_tup, isi_bool_lst, isi_str_non, isi_str_bl, isi_str_int, isi_str_str, isi_str_tup, isi_str_lst, isi_tuple_non, isi_tuple_bl, isi_tuple_int, isi_tuple_str, isi_tuple_tup, isi_tuple_lst, isi_list_non, isi_list_bl, isi_list_int, isi_list_str, isi_list_tup, isi_list_lst]
theorem law_loop1 (h : Sg a b sz) (hc : CfOk a b sz cs ws) : ∀ (ds : List D) (x5 x10 : Option Sl), (∀ d ∈ ds, fine d = true) → ∃ y5 y10, forL (gN 5) L_law_1 ds [x0, some (.val .deck), x2, some (.val (SigP a b sz)), some (.val (Cf cs ws)), x5, x6, x7, x8, x9, x10, x11] s =
    .nx [x0, some (.val .deck), x2, some (.val (SigP a b sz)), some (.val (Cf cs ws)), y5, x6, x7, x8, x9, y10, x11] s
  | [], x5, x10, _ => ⟨x5, x10, rfl⟩
  | d :: ds, x5, x10, hd => by
    obtain ⟨y5, y10, e⟩ := law_loop1 h hc ds (some (.val d)) (some (.val (.bl (confB a b sz d)))) fun y hy => hd y (.tail _ hy)
    refine ⟨y5, y10, ?_⟩
    rw [forL_nx (g := gN 5) rfl (law_step1 h hc (hd d (.head _))), e]
theorem law_loop2 (h : Sg a b sz) (hc : CfOk a b sz cs ws) (h9 : ∀ w ∈ ws, w.length ≤ 9) : ∀ (ds : List D) (x6 : Option Sl) (s : DeckSt), s.Ok → ∃ y6 s', forL (gN 6) L_law_2 ds [x0, some (.val .deck), x2, some (.val (SigP a b sz)), some (.val (Cf cs ws)), x5, x6, x7, x8, x9, x10, x11] s =
    .nx [x0, some (.val .deck), x2, some (.val (SigP a b sz)), some (.val (Cf cs ws)), x5, y6, x7, x8, x9, x10, x11] s' ∧ s'.Ok
  | [], x6, s, ok => ⟨x6, s, rfl, ok⟩
  | d :: ds, x6, s, ok => by
    obtain ⟨v, s1, e1, ok1, cs', ws', rfl, hc'⟩ := other_dr h hc h9 ok
    obtain ⟨y6, s2, e, ok2⟩ := law_loop2 h hc h9 ds (some (.val d)) s1 ok1
    have e3 := compared_ev (s := s1) h hc' hc
    refine ⟨y6, s2, ?_, ok2⟩
    rw [forL_nx (g := gN 6) (s' := s1) (ρ' := [x0, some (.val .deck), x2, some (.val (SigP a b sz)), some (.val (Cf cs ws)), x5, some (.val d), x7, x8, x9, x10, x11]) rfl ?_, e]
    simp [L_law_2, e1, e3, mOf, dRet, dRetN, dSeq, dNext, dIfS, dTr, dNot, dAnd, dOr, dB, dAndV, dOrV, dNotV, dBin, dChain, dCall, dCallD, dCallK, dCallB, dCons, dNil, dTup, dLst, dF, dC, dVar, dOwn, dV, dO, dAsg, dIsi, dSl, dPart, dNoPart, dIf, dMb, dBinL, dListOf, dDrop, dRaise, dWalk, dRng, walkD, R.bind_ok, R.bind_ex, R.bind_bad, R.map, R.out_ok, R.out_ex, R.out_bad, ofO, truD, asB, asI, List.map_cons, List.map_nil, List.length_cons, List.length_nil, Nat.reduceAdd, Nat.reduceSub, List.replicate, List.cons_append, List.nil_append, List.getElem?_cons_zero, List.getElem?_cons_succ, List.set_cons_zero, List.set_cons_succ, frz_nil, frzs_nil, Option.bind_some, Option.map_some, leD, ltD, geD, gtD, cmpI, if_true, ite_true, if_false, ite_false, Bool.false_eq_true, ne_int, eq_int, ne_bl, eq_bl, ne_str, eq_str, ixD_t0, ixD_t1, ixD_t2, ixD_l0, ixD_l1, ixD_l2, ite_ok, ite_bl, ite_rt, isi_int_non, isi_int_bl, isi_int_int, isi_int_str, isi_int_tup, isi_int_lst, isi_bool_non, isi_bool_bl, isi_bool_int, isi_bool_str, isi_bool_tup, isi_bool_lst, isi_str_non, isi_str_bl, isi_str_int, isi_str_str, isi_str_tup, isi_str_lst, isi_tuple_non, isi_tuple_bl, isi_tuple_int, isi_tuple_str, isi_tuple_tup, isi_tuple_lst, isi_list_non, isi_list_bl, isi_list_int, isi_list_str, isi_list_tup, isi_list_lst]
theorem law_turn (ok : s.Ok) {x3 x4 : Option Sl} : ∃ ρ' s', L_law_3 [x0, some (.val .deck), x2, x3, x4, x5, x6, x7, x8, x9, x10, x11] s = .nx ρ' s' ∧ InvL 12 ρ' s' := by
  obtain ⟨v, s1, e1, ok1, a, b, sz, rfl, h⟩ := sig_dr ok
  obtain ⟨v, s2, e2, ok2, cs, ws, rfl, hc, h9⟩ := conf_dr h ok1
  obtain ⟨v, s3, e3, ok3, ds, rfl, hd, hl⟩ := near_dr h hc ok2
  obtain ⟨y5, y10, e4⟩ := law_loop1 (s := s3) (x0 := x0) (x2 := x2) (x6 := x6) (x7 := x7) (x8 := x8) (x9 := x9) (x11 := x11) h hc (Cf cs ws :: ds) x5 x10 (fun d hx => by
    cases hx with
    | head => exact hc.fine h
    | tail _ hx => exact hd d hx)
  obtain ⟨y6, s4, e5, ok4⟩ := law_loop2 (x0 := x0) (x2 := x2) (x5 := y5) (x7 := x7) (x8 := x8) (x9 := x9) (x10 := y10) (x11 := x11) h hc h9 (rngD 0 4) x6 s3 ok3
  obtain ⟨v, s5, e6, ok5, j, rfl, j0, j1⟩ := pick1 ok4 (n := 4) (by omega) (by omega)
  obtain ⟨v, s6, e7, ok6, i, rfl, i0, i1⟩ := pick1 ok5 (n := 3) (by omega) (by omega)
  have hj : ∃ x ∈ badSig a b sz, ixD (.lst [.non, .tup [.int a, .int b], .tup [.int 4, .int b, Sz sz], .lst [.int a, .int b, Sz sz]]) (.int j) = some x := by
    have : j = 0 ∨ j = 1 ∨ j = 2 ∨ j = 3 := by omega
    rcases this with h | h | h | h <;> subst h
    · exact ⟨_, by simp [badSig], ixD_lst (k := 0)⟩
    · exact ⟨_, by simp [badSig], ixD_lst (k := 1)⟩
    · exact ⟨_, by simp [badSig], ixD_lst (k := 2)⟩
    · exact ⟨_, by simp [badSig], ixD_lst (k := 3)⟩
  have hi : ∃ x ∈ wrongs cs ws, ixD (.lst (wrongs cs ws)) (.int i) = some x := by
    have : i = 0 ∨ i = 1 ∨ i = 2 := by omega
    rcases this with h | h | h <;> subst h
    · exact ⟨_, by simp [wrongs], ixD_lst (k := 0)⟩
    · exact ⟨_, by simp [wrongs], ixD_lst (k := 1)⟩
    · exact ⟨_, by simp [wrongs], ixD_lst (k := 2)⟩
  obtain ⟨bad, hbad, ej⟩ := hj
  obtain ⟨wrong, hwr, ei⟩ := hi
  have hbs := bad_sig (s := s6) hbad
  have w65 : ws.length ≤ 65536 := by have := hc.w2 h; omega
  have lc := hc.lc
  have z3 := h.len
  have a1 : addD (.lst [Cf cs ws]) (.lst ds) = some (.lst (Cf cs ws :: ds)) := if_pos (by rw [List.length_singleton]; omega)
  have r4 : rng1 [.int 4] = some (rngD 0 4) := rfl
  have sl1 : slD (SigP a b sz) none (some 2) = some (.tup [.int a, .int b]) := rfl
  have sl2 : slD (SigP a b sz) (some 1) none = some (.tup [.int b, Sz sz]) := rfl
  have ad : addD (.tup [.int 4]) (.tup [.int b, Sz sz]) = some (.tup [.int 4, .int b, Sz sz]) := rfl
  have p1 := addT_ev (x := cs.map D.int) (y := [.int 0]) (by rw [List.length_map, List.length_singleton]; omega)
  have r3 : rng1 [.int 3] = some [.int 0, .int 1, .int 2] := rfl
  have q1 : ∀ x9 y10, dLc (gN 11) [11] [] (dRng rng1 (dCons (dC (.int 3)) dNil)) dYes (dCall m__law_refused (dCons (dVar 11) (dCons (dVar 7) (dCons (dVar 8) (dCons (dVar 8) dNil))))) [x0, some (.val .deck), x2, some (.val (SigP a b sz)), some (.val (Cf cs ws)), y5, y6, some (.val bad), some (.val wrong), x9, y10, x11] s6 = .ok [.str wSig, .str wSig, .str wSig] s6 := fun x9 y10 => by
    refine dLc_ev [(0 : Int), 1, 2] (fun i => .int i) (fun _ => .str wSig) (by simp [r3, mOf, dRet, dRetN, dSeq, dNext, dIfS, dTr, dNot, dAnd, dOr, dB, dAndV, dOrV, dNotV, dBin, dChain, dCall, dCallD, dCallK, dCallB, dCons, dNil, dTup, dLst, dF, dC, dVar, dOwn, dV, dO, dAsg, dIsi, dSl, dPart, dNoPart, dIf, dMb, dBinL, dListOf, dDrop, dRaise, dWalk, dRng, walkD, R.bind_ok, R.bind_ex, R.bind_bad, R.map, R.out_ok, R.out_ex, R.out_bad, ofO, truD, asB, asI, List.map_cons, List.map_nil, List.length_cons, List.length_nil, Nat.reduceAdd, Nat.reduceSub, List.replicate, List.cons_append, List.nil_append, List.getElem?_cons_zero, List.getElem?_cons_succ, List.set_cons_zero, List.set_cons_succ, frz_nil, frzs_nil, Option.bind_some, Option.map_some, leD, ltD, geD, gtD, cmpI, if_true, ite_true, if_false, ite_false, Bool.false_eq_true, ne_int, eq_int, ne_bl, eq_bl, ne_str, eq_str, ixD_t0, ixD_t1, ixD_t2, ixD_l0, ixD_l1, ixD_l2, ite_ok, ite_bl, ite_rt, isi_int_non, isi_int_bl, isi_int_int, isi_int_str, isi_int_tup, isi_int_lst, isi_bool_non, isi_bool_bl, isi_bool_int, isi_bool_str, isi_bool_tup, isi_bool_lst, isi_str_non, isi_str_bl, isi_str_int, isi_str_str, isi_str_tup, isi_str_lst, isi_tuple_non, isi_tuple_bl, isi_tuple_int, isi_tuple_str, isi_tuple_tup, isi_tuple_lst, isi_list_non, isi_list_bl, isi_list_int, isi_list_str, isi_list_tup, isi_list_lst]) (by decide) fun i hi => ⟨_, rfl, ?_⟩
    have := ref_sig (s := s6) (asks_bad (which := i) (one := wrong) (other := wrong) hbs)
    simp [wipeE, this, mOf, dRet, dRetN, dSeq, dNext, dIfS, dTr, dNot, dAnd, dOr, dB, dAndV, dOrV, dNotV, dBin, dChain, dCall, dCallD, dCallK, dCallB, dCons, dNil, dTup, dLst, dF, dC, dVar, dOwn, dV, dO, dAsg, dIsi, dSl, dPart, dNoPart, dIf, dMb, dBinL, dListOf, dDrop, dRaise, dWalk, dRng, walkD, R.bind_ok, R.bind_ex, R.bind_bad, R.map, R.out_ok, R.out_ex, R.out_bad, ofO, truD, asB, asI, List.map_cons, List.map_nil, List.length_cons, List.length_nil, Nat.reduceAdd, Nat.reduceSub, List.replicate, List.cons_append, List.nil_append, List.getElem?_cons_zero, List.getElem?_cons_succ, List.set_cons_zero, List.set_cons_succ, frz_nil, frzs_nil, Option.bind_some, Option.map_some, leD, ltD, geD, gtD, cmpI, if_true, ite_true, if_false, ite_false, Bool.false_eq_true, ne_int, eq_int, ne_bl, eq_bl, ne_str, eq_str, ixD_t0, ixD_t1, ixD_t2, ixD_l0, ixD_l1, ixD_l2, ite_ok, ite_bl, ite_rt, isi_int_non, isi_int_bl, isi_int_int, isi_int_str, isi_int_tup, isi_int_lst, isi_bool_non, isi_bool_bl, isi_bool_int, isi_bool_str, isi_bool_tup, isi_bool_lst, isi_str_non, isi_str_bl, isi_str_int, isi_str_str, isi_str_tup, isi_str_lst, isi_tuple_non, isi_tuple_bl, isi_tuple_int, isi_tuple_str, isi_tuple_tup, isi_tuple_lst, isi_list_non, isi_list_bl, isi_list_int, isi_list_str, isi_list_tup, isi_list_lst]
  have q2 : ∀ x9 y10, dLc (gN 11) [11] [] (dRng rng1 (dCons (dC (.int 3)) dNil)) dYes (dCall m__law_refused (dCons (dVar 11) (dCons (dVar 3) (dCons (dVar 8) (dCons (dVar 8) dNil))))) [x0, some (.val .deck), x2, some (.val (SigP a b sz)), some (.val (Cf cs ws)), y5, y6, some (.val bad), some (.val wrong), x9, y10, x11] s6 = .ok [.str wNone, .str wConf, .str wConf] s6 := fun x9 y10 => by
    refine dLc_ev [(0 : Int), 1, 2] (fun i => .int i) (fun i => if i = 0 then .str wNone else .str wConf) (by simp [r3, mOf, dRet, dRetN, dSeq, dNext, dIfS, dTr, dNot, dAnd, dOr, dB, dAndV, dOrV, dNotV, dBin, dChain, dCall, dCallD, dCallK, dCallB, dCons, dNil, dTup, dLst, dF, dC, dVar, dOwn, dV, dO, dAsg, dIsi, dSl, dPart, dNoPart, dIf, dMb, dBinL, dListOf, dDrop, dRaise, dWalk, dRng, walkD, R.bind_ok, R.bind_ex, R.bind_bad, R.map, R.out_ok, R.out_ex, R.out_bad, ofO, truD, asB, asI, List.map_cons, List.map_nil, List.length_cons, List.length_nil, Nat.reduceAdd, Nat.reduceSub, List.replicate, List.cons_append, List.nil_append, List.getElem?_cons_zero, List.getElem?_cons_succ, List.set_cons_zero, List.set_cons_succ, frz_nil, frzs_nil, Option.bind_some, Option.map_some, leD, ltD, geD, gtD, cmpI, if_true, ite_true, if_false, ite_false, Bool.false_eq_true, ne_int, eq_int, ne_bl, eq_bl, ne_str, eq_str, ixD_t0, ixD_t1, ixD_t2, ixD_l0, ixD_l1, ixD_l2, ite_ok, ite_bl, ite_rt, isi_int_non, isi_int_bl, isi_int_int, isi_int_str, isi_int_tup, isi_int_lst, isi_bool_non, isi_bool_bl, isi_bool_int, isi_bool_str, isi_bool_tup, isi_bool_lst, isi_str_non, isi_str_bl, isi_str_int, isi_str_str, isi_str_tup, isi_str_lst, isi_tuple_non, isi_tuple_bl, isi_tuple_int, isi_tuple_str, isi_tuple_tup, isi_tuple_lst, isi_list_non, isi_list_bl, isi_list_int, isi_list_str, isi_list_tup, isi_list_lst]) (by decide) fun i hi => ⟨_, rfl, ?_⟩
    have t0 := ref_ok (s := s6) (asks_w0 (y := wrong) h hc hwr)
    have t1 := ref_conf (s := s6) (asks_w1 (y := wrong) h hc hwr)
    have t2 := ref_conf (s := s6) (asks_w2 (y := wrong) h hc hwr)
    simp only [List.mem_cons, List.not_mem_nil, or_false] at hi
    rcases hi with h | h | h <;> subst h
    · simp [wipeE, t0, mOf, dRet, dRetN, dSeq, dNext, dIfS, dTr, dNot, dAnd, dOr, dB, dAndV, dOrV, dNotV, dBin, dChain, dCall, dCallD, dCallK, dCallB, dCons, dNil, dTup, dLst, dF, dC, dVar, dOwn, dV, dO, dAsg, dIsi, dSl, dPart, dNoPart, dIf, dMb, dBinL, dListOf, dDrop, dRaise, dWalk, dRng, walkD, R.bind_ok, R.bind_ex, R.bind_bad, R.map, R.out_ok, R.out_ex, R.out_bad, ofO, truD, asB, asI, List.map_cons, List.map_nil, List.length_cons, List.length_nil, Nat.reduceAdd, Nat.reduceSub, List.replicate, List.cons_append, List.nil_append, List.getElem?_cons_zero, List.getElem?_cons_succ, List.set_cons_zero, List.set_cons_succ, frz_nil, frzs_nil, Option.bind_some, Option.map_some, leD, ltD, geD, gtD, cmpI, if_true, ite_true, if_false, ite_false, Bool.false_eq_true, ne_int, eq_int, ne_bl, eq_bl, ne_str, eq_str, ixD_t0, ixD_t1, ixD_t2, ixD_l0, ixD_l1, ixD_l2, ite_ok, ite_bl, ite_rt, isi_int_non, isi_int_bl, isi_int_int, isi_int_str, isi_int_tup, isi_int_lst, isi_bool_non, isi_bool_bl, isi_bool_int, isi_bool_str, isi_bool_tup, isi_bool_lst, isi_str_non, isi_str_bl, isi_str_int, isi_str_str, isi_str_tup, isi_str_lst, isi_tuple_non, isi_tuple_bl, isi_tuple_int, isi_tuple_str, isi_tuple_tup, isi_tuple_lst, isi_list_non, isi_list_bl, isi_list_int, isi_list_str, isi_list_tup, isi_list_lst]
    · simp [wipeE, t1, mOf, dRet, dRetN, dSeq, dNext, dIfS, dTr, dNot, dAnd, dOr, dB, dAndV, dOrV, dNotV, dBin, dChain, dCall, dCallD, dCallK, dCallB, dCons, dNil, dTup, dLst, dF, dC, dVar, dOwn, dV, dO, dAsg, dIsi, dSl, dPart, dNoPart, dIf, dMb, dBinL, dListOf, dDrop, dRaise, dWalk, dRng, walkD, R.bind_ok, R.bind_ex, R.bind_bad, R.map, R.out_ok, R.out_ex, R.out_bad, ofO, truD, asB, asI, List.map_cons, List.map_nil, List.length_cons, List.length_nil, Nat.reduceAdd, Nat.reduceSub, List.replicate, List.cons_append, List.nil_append, List.getElem?_cons_zero, List.getElem?_cons_succ, List.set_cons_zero, List.set_cons_succ, frz_nil, frzs_nil, Option.bind_some, Option.map_some, leD, ltD, geD, gtD, cmpI, if_true, ite_true, if_false, ite_false, Bool.false_eq_true, ne_int, eq_int, ne_bl, eq_bl, ne_str, eq_str, ixD_t0, ixD_t1, ixD_t2, ixD_l0, ixD_l1, ixD_l2, ite_ok, ite_bl, ite_rt, isi_int_non, isi_int_bl, isi_int_int, isi_int_str, isi_int_tup, isi_int_lst, isi_bool_non, isi_bool_bl, isi_bool_int, isi_bool_str, isi_bool_tup, isi_bool_lst, isi_str_non, isi_str_bl, isi_str_int, isi_str_str, isi_str_tup, isi_str_lst, isi_tuple_non, isi_tuple_bl, isi_tuple_int, isi_tuple_str, isi_tuple_tup, isi_tuple_lst, isi_list_non, isi_list_bl, isi_list_int, isi_list_str, isi_list_tup, isi_list_lst]
    · simp [wipeE, t2, mOf, dRet, dRetN, dSeq, dNext, dIfS, dTr, dNot, dAnd, dOr, dB, dAndV, dOrV, dNotV, dBin, dChain, dCall, dCallD, dCallK, dCallB, dCons, dNil, dTup, dLst, dF, dC, dVar, dOwn, dV, dO, dAsg, dIsi, dSl, dPart, dNoPart, dIf, dMb, dBinL, dListOf, dDrop, dRaise, dWalk, dRng, walkD, R.bind_ok, R.bind_ex, R.bind_bad, R.map, R.out_ok, R.out_ex, R.out_bad, ofO, truD, asB, asI, List.map_cons, List.map_nil, List.length_cons, List.length_nil, Nat.reduceAdd, Nat.reduceSub, List.replicate, List.cons_append, List.nil_append, List.getElem?_cons_zero, List.getElem?_cons_succ, List.set_cons_zero, List.set_cons_succ, frz_nil, frzs_nil, Option.bind_some, Option.map_some, leD, ltD, geD, gtD, cmpI, if_true, ite_true, if_false, ite_false, Bool.false_eq_true, ne_int, eq_int, ne_bl, eq_bl, ne_str, eq_str, ixD_t0, ixD_t1, ixD_t2, ixD_l0, ixD_l1, ixD_l2, ite_ok, ite_bl, ite_rt, isi_int_non, isi_int_bl, isi_int_int, isi_int_str, isi_int_tup, isi_int_lst, isi_bool_non, isi_bool_bl, isi_bool_int, isi_bool_str, isi_bool_tup, isi_bool_lst, isi_str_non, isi_str_bl, isi_str_int, isi_str_str, isi_str_tup, isi_str_lst, isi_tuple_non, isi_tuple_bl, isi_tuple_int, isi_tuple_str, isi_tuple_tup, isi_tuple_lst, isi_list_non, isi_list_bl, isi_list_int, isi_list_str, isi_list_tup, isi_list_lst]
  have u1 := ref_other (s := s6) (asks_w3 h hc hwr)
  have u2 := ref_sig (s := s6) (asks_bad (which := 2) (one := Cf cs ws) (other := Cf cs ws) hbs)
  have rp : repD (.lst [.str wSig]) (.int 3) = some (.lst [.str wSig, .str wSig, .str wSig]) := rfl
  have ad2 : addD (.lst [.str wSig, .str wSig, .str wSig]) (.lst [.str wNone, .str wConf, .str wConf]) = some (.lst [.str wSig, .str wSig, .str wSig, .str wNone, .str wConf, .str wConf]) := rfl
  have nq : neO (.lst [.str wSig, .str wSig, .str wSig, .str wNone, .str wConf, .str wConf]) (.lst [.str wSig, .str wSig, .str wSig, .str wNone, .str wConf, .str wConf]) = some (.bl false) := rfl
  simp only [wrongs] at ei
  refine ⟨[x0, some (.val .deck), x2, some (.val (SigP a b sz)), some (.val (Cf cs ws)), y5, y6, some (.val bad), some (.val wrong), some (.val (.lst [.str wSig, .str wSig, .str wSig, .str wNone, .str wConf, .str wConf])), y10, x11], s6, ?_, rfl, rfl, ok6⟩
  simp [L_law_3, e1, e2, e3, a1, dFor, e4, r4, e5, sl1, sl2, ad, itemsD, Option.filter, w65, m__law_pick, e6, e7, ej, ei, p1, q1, q2, rp, ad2, nq, u1, u2, mOf, dRet, dRetN, dSeq, dNext, dIfS, dTr, dNot, dAnd, dOr, dB, dAndV, dOrV, dNotV, dBin, dChain, dCall, dCallD, dCallK, dCallB, dCons, dNil, dTup, dLst, dF, dC, dVar, dOwn, dV, dO, dAsg, dIsi, dSl, dPart, dNoPart, dIf, dMb, dBinL, dListOf, dDrop, dRaise, dWalk, dRng, walkD, R.bind_ok, R.bind_ex, R.bind_bad, R.map, R.out_ok, R.out_ex, R.out_bad, ofO, truD, asB, asI, List.map_cons, List.map_nil, List.length_cons, List.length_nil, Nat.reduceAdd, Nat.reduceSub, List.replicate, List.cons_append, List.nil_append, List.getElem?_cons_zero, List.getElem?_cons_succ, List.set_cons_zero, List.set_cons_succ, frz_nil, frzs_nil, Option.bind_some, Option.map_some, leD, ltD, geD, gtD, cmpI, if_true, ite_true, if_false, ite_false, Bool.false_eq_true, ne_int, eq_int, ne_bl, eq_bl, ne_str, eq_str, ixD_t0, ixD_t1, ixD_t2, ixD_l0, ixD_l1, ixD_l2, ite_ok, ite_bl, ite_rt, isi_int_non, isi_int_bl, isi_int_int, isi_int_str, isi_int_tup, isi_int_lst, isi_bool_non, isi_bool_bl, isi_bool_int, isi_bool_str, isi_bool_tup, isi_bool_lst, isi_str_non, isi_str_bl, isi_str_int, isi_str_str, isi_str_tup, isi_str_lst, isi_tuple_non, isi_tuple_bl, isi_tuple_int, isi_tuple_str, isi_tuple_tup, isi_tuple_lst, isi_list_non, isi_list_bl, isi_list_int, isi_list_str, isi_list_tup, isi_list_lst]
end
theorem law_pure (st : DeckSt) (n : Nat) (ok : st.Ok) (hn : n ≤ 63) : ∃ s', d_law (rho0 N_law.length n) st = .rt (.bl true) s' := by
  have hd : ∃ l, (dRng rng1 (dCons (dBin addD (dC (.int 2)) (dCallB min2D (dCons (dCallB lenX (dCons (dVar 0) (dNil))) (dCons (dC (.int 6)) (dNil))))) (dNil)) : DA DeckSt) (rho0 N_law.length n) st = .ok l st := by
    refine ⟨rngD 0 (2 + (if (6 : Int) < (n : Int) then 6 else (n : Int))).toNat, ?_⟩
    show ofO st (rng1 [.int (2 + (if (6 : Int) < (n : Int) then 6 else (n : Int)))]) = _
    unfold rng1
    dsimp only
    rw [if_pos (by split <;> omega)]
    rfl
  obtain ⟨l, hl⟩ := hd
  refine turns_pure (N := 10) ok hl (by decide) fun ρ s I => ?_
  obtain ⟨h0, h1, h2⟩ := I
  match ρ, h0, h1 with
  | [x0, x1, x2, x3, x4, x5, x6, x7, x8, x9, x10, x11], _, h1 =>
    cases h1
    exact law_turn h2
end

theorem all_mk {l : PySem.W.OpenLaw} {w : World} {K : PySem.W.Frag} {h : Heap} {mg : Str → Option Value} {fa : Addr} (X : K.In h) (G : h.Ns mainGlobals mg) (hfa : mg "law" = some (.ref fa))
    {f0 : Addr} {oc0 : Value} {od0 an0 : Option Addr} {kV0 dc0 pm0 cd0 ct0 : Value} {sl0 : Array (Option Value)}
    {f1 : Addr} {oc1 : Value} {od1 an1 : Option Addr} {kV1 dc1 pm1 cd1 ct1 : Value} {sl1 : Array (Option Value)}
    {f2 : Addr} {oc2 : Value} {od2 an2 : Option Addr} {kV2 dc2 pm2 cd2 ct2 : Value} {sl2 : Array (Option Value)}
    {f3 : Addr} {oc3 : Value} {od3 an3 : Option Addr} {kV3 dc3 pm3 cd3 ct3 : Value} {sl3 : Array (Option Value)}
    {f4 : Addr} {oc4 : Value} {od4 an4 : Option Addr} {kV4 dc4 pm4 cd4 ct4 : Value} {sl4 : Array (Option Value)}
    {f5 : Addr} {oc5 : Value} {od5 an5 : Option Addr} {kV5 dc5 pm5 cd5 ct5 : Value} {sl5 : Array (Option Value)}
    {f6 : Addr} {oc6 : Value} {od6 an6 : Option Addr} {kV6 dc6 pm6 cd6 ct6 : Value} {sl6 : Array (Option Value)}
    {f7 : Addr} {oc7 : Value} {od7 an7 : Option Addr} {kV7 dc7 pm7 cd7 ct7 : Value} {sl7 : Array (Option Value)}
    {f8 : Addr} {oc8 : Value} {od8 an8 : Option Addr} {kV8 dc8 pm8 cd8 ct8 : Value} {sl8 : Array (Option Value)}
    {f9 : Addr} {oc9 : Value} {od9 an9 : Option Addr} {kV9 dc9 pm9 cd9 ct9 : Value} {sl9 : Array (Option Value)}
    {f10 : Addr} {oc10 : Value} {od10 an10 : Option Addr} {kV10 dc10 pm10 cd10 ct10 : Value} {sl10 : Array (Option Value)}
    {f11 : Addr} {oc11 : Value} {od11 an11 : Option Addr} {kV11 dc11 pm11 cd11 ct11 : Value} {sl11 : Array (Option Value)}
    {f12 : Addr} {oc12 : Value} {od12 an12 : Option Addr} {kV12 dc12 pm12 cd12 ct12 : Value} {sl12 : Array (Option Value)}
    {f13 : Addr} {oc13 : Value} {od13 an13 : Option Addr} {kV13 dc13 pm13 cd13 ct13 : Value} {sl13 : Array (Option Value)}
    {f14 : Addr} {oc14 : Value} {od14 an14 : Option Addr} {kV14 dc14 pm14 cd14 ct14 : Value} {sl14 : Array (Option Value)}
    {f15 : Addr} {oc15 : Value} {od15 an15 : Option Addr} {kV15 dc15 pm15 cd15 ct15 : Value} {sl15 : Array (Option Value)}
    {f16 : Addr} {oc16 : Value} {od16 an16 : Option Addr} {kV16 dc16 pm16 cd16 ct16 : Value} {sl16 : Array (Option Value)}
    {f17 : Addr} {oc17 : Value} {od17 an17 : Option Addr} {kV17 dc17 pm17 cd17 ct17 : Value} {sl17 : Array (Option Value)}
    {f18 : Addr} {oc18 : Value} {od18 an18 : Option Addr} {kV18 dc18 pm18 cd18 ct18 : Value} {sl18 : Array (Option Value)}
    {f19 : Addr} {oc19 : Value} {od19 an19 : Option Addr} {kV19 dc19 pm19 cd19 ct19 : Value} {sl19 : Array (Option Value)}
    {T20 : Addr} {ocT20 : Value} {odT20 : Option Addr} {slT20 : Array (Option Value)} {nT20 : Nat} {tk20_0 : Nat}
    {f20 : Addr} {oc20 : Value} {od20 an20 : Option Addr} {kV20 dc20 pm20 cd20 ct20 : Value} {sl20 : Array (Option Value)}
    {f21 : Addr} {oc21 : Value} {od21 an21 : Option Addr} {kV21 dc21 pm21 cd21 ct21 : Value} {sl21 : Array (Option Value)}
    {f22 : Addr} {oc22 : Value} {od22 an22 : Option Addr} {kV22 dc22 pm22 cd22 ct22 : Value} {sl22 : Array (Option Value)}
    {f23 : Addr} {oc23 : Value} {od23 an23 : Option Addr} {kV23 dc23 pm23 cd23 ct23 : Value} {sl23 : Array (Option Value)}
    {f24 : Addr} {oc24 : Value} {od24 an24 : Option Addr} {kV24 dc24 pm24 cd24 ct24 : Value} {sl24 : Array (Option Value)}
    {f25 : Addr} {oc25 : Value} {od25 an25 : Option Addr} {kV25 dc25 pm25 cd25 ct25 : Value} {sl25 : Array (Option Value)}
    {f26 : Addr} {oc26 : Value} {od26 an26 : Option Addr} {kV26 dc26 pm26 cd26 ct26 : Value} {sl26 : Array (Option Value)}
    {f27 : Addr} {oc27 : Value} {od27 an27 : Option Addr} {kV27 dc27 pm27 cd27 ct27 : Value} {sl27 : Array (Option Value)}
    {f28 : Addr} {oc28 : Value} {od28 an28 : Option Addr} {kV28 dc28 pm28 cd28 ct28 : Value} {sl28 : Array (Option Value)}
    {f29 : Addr} {oc29 : Value} {od29 an29 : Option Addr} {kV29 dc29 pm29 cd29 ct29 : Value} {sl29 : Array (Option Value)}
    {f30 : Addr} {oc30 : Value} {od30 an30 : Option Addr} {kV30 dc30 pm30 cd30 ct30 : Value} {sl30 : Array (Option Value)}
    {f31 : Addr} {oc31 : Value} {od31 an31 : Option Addr} {kV31 dc31 pm31 cd31 ct31 : Value} {sl31 : Array (Option Value)}
    {f32 : Addr} {oc32 : Value} {od32 an32 : Option Addr} {kV32 dc32 pm32 cd32 ct32 : Value} {sl32 : Array (Option Value)}
    {f33 : Addr} {oc33 : Value} {od33 an33 : Option Addr} {kV33 dc33 pm33 cd33 ct33 : Value} {sl33 : Array (Option Value)}
    {f34 : Addr} {oc34 : Value} {od34 an34 : Option Addr} {kV34 dc34 pm34 cd34 ct34 : Value} {sl34 : Array (Option Value)}
    {cv0 : Value}
    {e0 : Addr}
    {e1 : Addr}
    {e2 : Addr}
    (a0 : PySem.W.nsIn K mainGlobals "_law_deck" = some (some (.ref f0))) (l0 : K.lookup f0 = some ⟨oc0, od0, .func (PySem.W.fnOf "_law_deck" "_law_deck" (defArgs s__law_deck) (defBody s__law_deck) (defScope s__law_deck) .none kV0 dc0 pm0 an0 cd0 ct0), sl0⟩) (c0 : PySem.W.codeIn K cd0 "_law_deck" = true) (k0 : PySem.W.keepIn K (.ref f0) = true)
    (a1 : PySem.W.nsIn K mainGlobals "_law_pick" = some (some (.ref f1))) (l1 : K.lookup f1 = some ⟨oc1, od1, .func (PySem.W.fnOf "_law_pick" "_law_pick" (defArgs s__law_pick) (defBody s__law_pick) (defScope s__law_pick) .none kV1 dc1 pm1 an1 cd1 ct1), sl1⟩) (c1 : PySem.W.codeIn K cd1 "_law_pick" = true) (k1 : PySem.W.keepIn K (.ref f1) = true)
    (a2 : PySem.W.nsIn K mainGlobals "_law_sizes" = some (some (.ref f2))) (l2 : K.lookup f2 = some ⟨oc2, od2, .func (PySem.W.fnOf "_law_sizes" "_law_sizes" (defArgs s__law_sizes) (defBody s__law_sizes) (defScope s__law_sizes) .none kV2 dc2 pm2 an2 cd2 ct2), sl2⟩) (c2 : PySem.W.codeIn K cd2 "_law_sizes" = true) (k2 : PySem.W.keepIn K (.ref f2) = true)
    (a3 : PySem.W.nsIn K mainGlobals "_law_signature" = some (some (.ref f3))) (l3 : K.lookup f3 = some ⟨oc3, od3, .func (PySem.W.fnOf "_law_signature" "_law_signature" (defArgs s__law_signature) (defBody s__law_signature) (defScope s__law_signature) .none kV3 dc3 pm3 an3 cd3 ct3), sl3⟩) (c3 : PySem.W.codeIn K cd3 "_law_signature" = true) (k3 : PySem.W.keepIn K (.ref f3) = true)
    (a4 : PySem.W.nsIn K mainGlobals "_law_word" = some (some (.ref f4))) (l4 : K.lookup f4 = some ⟨oc4, od4, .func (PySem.W.fnOf "_law_word" "_law_word" (defArgs s__law_word) (defBody s__law_word) (defScope s__law_word) .none kV4 dc4 pm4 an4 cd4 ct4), sl4⟩) (c4 : PySem.W.codeIn K cd4 "_law_word" = true) (k4 : PySem.W.keepIn K (.ref f4) = true)
    (a5 : PySem.W.nsIn K mainGlobals "_law_configuration" = some (some (.ref f5))) (l5 : K.lookup f5 = some ⟨oc5, od5, .func (PySem.W.fnOf "_law_configuration" "_law_configuration" (defArgs s__law_configuration) (defBody s__law_configuration) (defScope s__law_configuration) .none kV5 dc5 pm5 an5 cd5 ct5), sl5⟩) (c5 : PySem.W.codeIn K cd5 "_law_configuration" = true) (k5 : PySem.W.keepIn K (.ref f5) = true)
    (a6 : PySem.W.nsIn K mainGlobals "_law_near" = some (some (.ref f6))) (l6 : K.lookup f6 = some ⟨oc6, od6, .func (PySem.W.fnOf "_law_near" "_law_near" (defArgs s__law_near) (defBody s__law_near) (defScope s__law_near) .none kV6 dc6 pm6 an6 cd6 ct6), sl6⟩) (c6 : PySem.W.codeIn K cd6 "_law_near" = true) (k6 : PySem.W.keepIn K (.ref f6) = true)
    (a7 : PySem.W.nsIn K mainGlobals "_law_int" = some (some (.ref f7))) (l7 : K.lookup f7 = some ⟨oc7, od7, .func (PySem.W.fnOf "_law_int" "_law_int" (defArgs s__law_int) (defBody s__law_int) (defScope s__law_int) .none kV7 dc7 pm7 an7 cd7 ct7), sl7⟩) (c7 : PySem.W.codeIn K cd7 "_law_int" = true) (k7 : PySem.W.keepIn K (.ref f7) = true)
    (a8 : PySem.W.nsIn K mainGlobals "_law_judge" = some (some (.ref f8))) (l8 : K.lookup f8 = some ⟨oc8, od8, .func (PySem.W.fnOf "_law_judge" "_law_judge" (defArgs s__law_judge) (defBody s__law_judge) (defScope s__law_judge) .none kV8 dc8 pm8 an8 cd8 ct8), sl8⟩) (c8 : PySem.W.codeIn K cd8 "_law_judge" = true) (k8 : PySem.W.keepIn K (.ref f8) = true)
    (a9 : PySem.W.nsIn K mainGlobals "_law_same" = some (some (.ref f9))) (l9 : K.lookup f9 = some ⟨oc9, od9, .func (PySem.W.fnOf "_law_same" "_law_same" (defArgs s__law_same) (defBody s__law_same) (defScope s__law_same) .none kV9 dc9 pm9 an9 cd9 ct9), sl9⟩) (c9 : PySem.W.codeIn K cd9 "_law_same" = true) (k9 : PySem.W.keepIn K (.ref f9) = true)
    (a10 : PySem.W.nsIn K mainGlobals "is_row" = some (some (.ref f10))) (l10 : K.lookup f10 = some ⟨oc10, od10, .func (PySem.W.fnOf "is_row" "is_row" (defArgs s_is_row) (defBody s_is_row) (defScope s_is_row) .none kV10 dc10 pm10 an10 cd10 ct10), sl10⟩) (c10 : PySem.W.codeIn K cd10 "is_row" = true) (k10 : PySem.W.keepIn K (.ref f10) = true)
    (a11 : PySem.W.nsIn K mainGlobals "is_int" = some (some (.ref f11))) (l11 : K.lookup f11 = some ⟨oc11, od11, .func (PySem.W.fnOf "is_int" "is_int" (defArgs s_is_int) (defBody s_is_int) (defScope s_is_int) .none kV11 dc11 pm11 an11 cd11 ct11), sl11⟩) (c11 : PySem.W.codeIn K cd11 "is_int" = true) (k11 : PySem.W.keepIn K (.ref f11) = true)
    (a12 : PySem.W.nsIn K mainGlobals "within" = some (some (.ref f12))) (l12 : K.lookup f12 = some ⟨oc12, od12, .func (PySem.W.fnOf "within" "within" (defArgs s_within) (defBody s_within) (defScope s_within) .none kV12 dc12 pm12 an12 cd12 ct12), sl12⟩) (c12 : PySem.W.codeIn K cd12 "within" = true) (k12 : PySem.W.keepIn K (.ref f12) = true)
    (a13 : PySem.W.nsIn K mainGlobals "product_of" = some (some (.ref f13))) (l13 : K.lookup f13 = some ⟨oc13, od13, .func (PySem.W.fnOf "product_of" "product_of" (defArgs s_product_of) (defBody s_product_of) (defScope s_product_of) .none kV13 dc13 pm13 an13 cd13 ct13), sl13⟩) (c13 : PySem.W.codeIn K cd13 "product_of" = true) (k13 : PySem.W.keepIn K (.ref f13) = true)
    (a14 : PySem.W.nsIn K mainGlobals "are_sizes" = some (some (.ref f14))) (l14 : K.lookup f14 = some ⟨oc14, od14, .func (PySem.W.fnOf "are_sizes" "are_sizes" (defArgs s_are_sizes) (defBody s_are_sizes) (defScope s_are_sizes) .none kV14 dc14 pm14 an14 cd14 ct14), sl14⟩) (c14 : PySem.W.codeIn K cd14 "are_sizes" = true) (k14 : PySem.W.keepIn K (.ref f14) = true)
    (a15 : PySem.W.nsIn K mainGlobals "is_signature" = some (some (.ref f15))) (l15 : K.lookup f15 = some ⟨oc15, od15, .func (PySem.W.fnOf "is_signature" "is_signature" (defArgs s_is_signature) (defBody s_is_signature) (defScope s_is_signature) .none kV15 dc15 pm15 an15 cd15 ct15), sl15⟩) (c15 : PySem.W.codeIn K cd15 "is_signature" = true) (k15 : PySem.W.keepIn K (.ref f15) = true)
    (a16 : PySem.W.nsIn K mainGlobals "need_signature" = some (some (.ref f16))) (l16 : K.lookup f16 = some ⟨oc16, od16, .func (PySem.W.fnOf "need_signature" "need_signature" (defArgs s_need_signature) (defBody s_need_signature) (defScope s_need_signature) .none kV16 dc16 pm16 an16 cd16 ct16), sl16⟩) (c16 : PySem.W.codeIn K cd16 "need_signature" = true) (k16 : PySem.W.keepIn K (.ref f16) = true)
    (a17 : PySem.W.nsIn K mainGlobals "is_control_of" = some (some (.ref f17))) (l17 : K.lookup f17 = some ⟨oc17, od17, .func (PySem.W.fnOf "is_control_of" "is_control_of" (defArgs s_is_control_of) (defBody s_is_control_of) (defScope s_is_control_of) .none kV17 dc17 pm17 an17 cd17 ct17), sl17⟩) (c17 : PySem.W.codeIn K cd17 "is_control_of" = true) (k17 : PySem.W.keepIn K (.ref f17) = true)
    (a18 : PySem.W.nsIn K mainGlobals "is_word_of" = some (some (.ref f18))) (l18 : K.lookup f18 = some ⟨oc18, od18, .func (PySem.W.fnOf "is_word_of" "is_word_of" (defArgs s_is_word_of) (defBody s_is_word_of) (defScope s_is_word_of) .none kV18 dc18 pm18 an18 cd18 ct18), sl18⟩) (c18 : PySem.W.codeIn K cd18 "is_word_of" = true) (k18 : PySem.W.keepIn K (.ref f18) = true)
    (a19 : PySem.W.nsIn K mainGlobals "are_words_of" = some (some (.ref f19))) (l19 : K.lookup f19 = some ⟨oc19, od19, .func (PySem.W.fnOf "are_words_of" "are_words_of" (defArgs s_are_words_of) (defBody s_are_words_of) (defScope s_are_words_of) .none kV19 dc19 pm19 an19 cd19 ct19), sl19⟩) (c19 : PySem.W.codeIn K cd19 "are_words_of" = true) (k19 : PySem.W.keepIn K (.ref f19) = true)
    (a20 : PySem.W.nsIn K mainGlobals "is_configuration_of" = some (some (.ref f20))) (l20 : K.lookup f20 = some ⟨oc20, od20, .func (PySem.W.fnOf "is_configuration_of" "is_configuration_of" (defArgs s_is_configuration_of) (defBody s_is_configuration_of) (defScope s_is_configuration_of) (.ref T20) kV20 dc20 pm20 an20 cd20 ct20), sl20⟩) (c20 : PySem.W.codeIn K cd20 "is_configuration_of" = true) (k20 : PySem.W.keepIn K (.ref f20) = true)
    (lT20 : K.lookup T20 = some ⟨ocT20, odT20, .seq ([.int 60 tk20_0] : List Value).toArray nT20, slT20⟩)
    (a21 : PySem.W.nsIn K mainGlobals "is_configuration" = some (some (.ref f21))) (l21 : K.lookup f21 = some ⟨oc21, od21, .func (PySem.W.fnOf "is_configuration" "is_configuration" (defArgs s_is_configuration) (defBody s_is_configuration) (defScope s_is_configuration) .none kV21 dc21 pm21 an21 cd21 ct21), sl21⟩) (c21 : PySem.W.codeIn K cd21 "is_configuration" = true) (k21 : PySem.W.keepIn K (.ref f21) = true)
    (a22 : PySem.W.nsIn K mainGlobals "_law_sub" = some (some (.ref f22))) (l22 : K.lookup f22 = some ⟨oc22, od22, .func (PySem.W.fnOf "_law_sub" "_law_sub" (defArgs s__law_sub) (defBody s__law_sub) (defScope s__law_sub) .none kV22 dc22 pm22 an22 cd22 ct22), sl22⟩) (c22 : PySem.W.codeIn K cd22 "_law_sub" = true) (k22 : PySem.W.keepIn K (.ref f22) = true)
    (a23 : PySem.W.nsIn K mainGlobals "_law_below" = some (some (.ref f23))) (l23 : K.lookup f23 = some ⟨oc23, od23, .func (PySem.W.fnOf "_law_below" "_law_below" (defArgs s__law_below) (defBody s__law_below) (defScope s__law_below) .none kV23 dc23 pm23 an23 cd23 ct23), sl23⟩) (c23 : PySem.W.codeIn K cd23 "_law_below" = true) (k23 : PySem.W.keepIn K (.ref f23) = true)
    (a24 : PySem.W.nsIn K mainGlobals "need_configuration" = some (some (.ref f24))) (l24 : K.lookup f24 = some ⟨oc24, od24, .func (PySem.W.fnOf "need_configuration" "need_configuration" (defArgs s_need_configuration) (defBody s_need_configuration) (defScope s_need_configuration) .none kV24 dc24 pm24 an24 cd24 ct24), sl24⟩) (c24 : PySem.W.codeIn K cd24 "need_configuration" = true) (k24 : PySem.W.keepIn K (.ref f24) = true)
    (a25 : PySem.W.nsIn K mainGlobals "need_both" = some (some (.ref f25))) (l25 : K.lookup f25 = some ⟨oc25, od25, .func (PySem.W.fnOf "need_both" "need_both" (defArgs s_need_both) (defBody s_need_both) (defScope s_need_both) .none kV25 dc25 pm25 an25 cd25 ct25), sl25⟩) (c25 : PySem.W.codeIn K cd25 "need_both" = true) (k25 : PySem.W.keepIn K (.ref f25) = true)
    (a26 : PySem.W.nsIn K mainGlobals "lies_in" = some (some (.ref f26))) (l26 : K.lookup f26 = some ⟨oc26, od26, .func (PySem.W.fnOf "lies_in" "lies_in" (defArgs s_lies_in) (defBody s_lies_in) (defScope s_lies_in) .none kV26 dc26 pm26 an26 cd26 ct26), sl26⟩) (c26 : PySem.W.codeIn K cd26 "lies_in" = true) (k26 : PySem.W.keepIn K (.ref f26) = true)
    (a27 : PySem.W.nsIn K mainGlobals "below_in" = some (some (.ref f27))) (l27 : K.lookup f27 = some ⟨oc27, od27, .func (PySem.W.fnOf "below_in" "below_in" (defArgs s_below_in) (defBody s_below_in) (defScope s_below_in) .none kV27 dc27 pm27 an27 cd27 ct27), sl27⟩) (c27 : PySem.W.codeIn K cd27 "below_in" = true) (k27 : PySem.W.keepIn K (.ref f27) = true)
    (a28 : PySem.W.nsIn K mainGlobals "is_below" = some (some (.ref f28))) (l28 : K.lookup f28 = some ⟨oc28, od28, .func (PySem.W.fnOf "is_below" "is_below" (defArgs s_is_below) (defBody s_is_below) (defScope s_is_below) .none kV28 dc28 pm28 an28 cd28 ct28), sl28⟩) (c28 : PySem.W.codeIn K cd28 "is_below" = true) (k28 : PySem.W.keepIn K (.ref f28) = true)
    (a29 : PySem.W.nsIn K mainGlobals "letter_count" = some (some (.ref f29))) (l29 : K.lookup f29 = some ⟨oc29, od29, .func (PySem.W.fnOf "letter_count" "letter_count" (defArgs s_letter_count) (defBody s_letter_count) (defScope s_letter_count) .none kV29 dc29 pm29 an29 cd29 ct29), sl29⟩) (c29 : PySem.W.codeIn K cd29 "letter_count" = true) (k29 : PySem.W.keepIn K (.ref f29) = true)
    (a30 : PySem.W.nsIn K mainGlobals "letters_in" = some (some (.ref f30))) (l30 : K.lookup f30 = some ⟨oc30, od30, .func (PySem.W.fnOf "letters_in" "letters_in" (defArgs s_letters_in) (defBody s_letters_in) (defScope s_letters_in) .none kV30 dc30 pm30 an30 cd30 ct30), sl30⟩) (c30 : PySem.W.codeIn K cd30 "letters_in" = true) (k30 : PySem.W.keepIn K (.ref f30) = true)
    (a31 : PySem.W.nsIn K mainGlobals "_law_compared" = some (some (.ref f31))) (l31 : K.lookup f31 = some ⟨oc31, od31, .func (PySem.W.fnOf "_law_compared" "_law_compared" (defArgs s__law_compared) (defBody s__law_compared) (defScope s__law_compared) .none kV31 dc31 pm31 an31 cd31 ct31), sl31⟩) (c31 : PySem.W.codeIn K cd31 "_law_compared" = true) (k31 : PySem.W.keepIn K (.ref f31) = true)
    (a32 : PySem.W.nsIn K mainGlobals "_law_other" = some (some (.ref f32))) (l32 : K.lookup f32 = some ⟨oc32, od32, .func (PySem.W.fnOf "_law_other" "_law_other" (defArgs s__law_other) (defBody s__law_other) (defScope s__law_other) .none kV32 dc32 pm32 an32 cd32 ct32), sl32⟩) (c32 : PySem.W.codeIn K cd32 "_law_other" = true) (k32 : PySem.W.keepIn K (.ref f32) = true)
    (a33 : PySem.W.nsIn K mainGlobals "_law_refused" = some (some (.ref f33))) (l33 : K.lookup f33 = some ⟨oc33, od33, .func (PySem.W.fnOf "_law_refused" "_law_refused" (defArgs s__law_refused) (defBody s__law_refused) (defScope s__law_refused) .none kV33 dc33 pm33 an33 cd33 ct33), sl33⟩) (c33 : PySem.W.codeIn K cd33 "_law_refused" = true) (k33 : PySem.W.keepIn K (.ref f33) = true)
    (a34 : PySem.W.nsIn K mainGlobals "law" = some (some (.ref f34))) (l34 : K.lookup f34 = some ⟨oc34, od34, .func (PySem.W.fnOf "law" "law" (defArgs s_law) (defBody s_law) (defScope s_law) .none kV34 dc34 pm34 an34 cd34 ct34), sl34⟩) (c34 : PySem.W.codeIn K cd34 "law" = true) (k34 : PySem.W.keepIn K (.ref f34) = true)
    (z0 : PySem.W.nsIn K mainGlobals "all" = some none)
    (z1 : PySem.W.nsIn K mainGlobals "bool" = some none)
    (z2 : PySem.W.nsIn K mainGlobals "int" = some none)
    (z3 : PySem.W.nsIn K mainGlobals "isinstance" = some none)
    (z4 : PySem.W.nsIn K mainGlobals "len" = some none)
    (z5 : PySem.W.nsIn K mainGlobals "list" = some none)
    (z6 : PySem.W.nsIn K mainGlobals "min" = some none)
    (z7 : PySem.W.nsIn K mainGlobals "range" = some none)
    (z8 : PySem.W.nsIn K mainGlobals "str" = some none)
    (z9 : PySem.W.nsIn K mainGlobals "sum" = some none)
    (z10 : PySem.W.nsIn K mainGlobals "tuple" = some none)
    (z11 : PySem.W.nsIn K mainGlobals "zip" = some none)
    (vs0 : PySem.W.nsIn K mainGlobals "ALPHABET" = some (some cv0)) (vt0 : ∃ t, cv0 = .str "abc" t)
    (v1 : ∃ t, PySem.W.nsIn K mainGlobals "MOST_CHANNELS" = some (some (.int 2 t)))
    (v2 : ∃ t, PySem.W.nsIn K mainGlobals "MOST_CONTROLS" = some (some (.int 16 t)))
    (v3 : ∃ t, PySem.W.nsIn K mainGlobals "MOST_PROCESSES" = some (some (.int 3 t)))
    (v4 : ∃ t, PySem.W.nsIn K mainGlobals "MOST_STATES" = some (some (.int 4 t)))
    (ea0 : PySem.W.nsIn K mainGlobals "BadConfiguration" = some (some (.ref e0))) (ex0 : PySem.W.excIn K e0 [.type "ValueError", .type "Exception", .type "BaseException", .type "object"] "ValueError.__new__" = true) (ek0 : PySem.W.keepIn K (.ref e0) = true) (eb0 : PySem.W.subIn K (.ref e0) (.type "BaseException") = some true) (et0 : PySem.W.typeIn K (.ref e0) = some (.type "type")) (ei0 : PySem.W.isClsIn K e0 = true)
    (ea1 : PySem.W.nsIn K mainGlobals "BadOther" = some (some (.ref e1))) (ex1 : PySem.W.excIn K e1 [.type "ValueError", .type "Exception", .type "BaseException", .type "object"] "ValueError.__new__" = true) (ek1 : PySem.W.keepIn K (.ref e1) = true) (eb1 : PySem.W.subIn K (.ref e1) (.type "BaseException") = some true) (et1 : PySem.W.typeIn K (.ref e1) = some (.type "type")) (ei1 : PySem.W.isClsIn K e1 = true)
    (ea2 : PySem.W.nsIn K mainGlobals "BadSignature" = some (some (.ref e2))) (ex2 : PySem.W.excIn K e2 [.type "ValueError", .type "Exception", .type "BaseException", .type "object"] "ValueError.__new__" = true) (ek2 : PySem.W.keepIn K (.ref e2) = true) (eb2 : PySem.W.subIn K (.ref e2) (.type "BaseException") = some true) (et2 : PySem.W.typeIn K (.ref e2) = some (.type "type")) (ei2 : PySem.W.isClsIn K e2 = true)
    (su0_0 : PySem.W.subIn K (.ref e0) (.ref e0) = some true)
    (su0_1 : PySem.W.subIn K (.ref e0) (.ref e1) = some false)
    (su0_2 : PySem.W.subIn K (.ref e0) (.ref e2) = some false)
    (su1_0 : PySem.W.subIn K (.ref e1) (.ref e0) = some false)
    (su1_1 : PySem.W.subIn K (.ref e1) (.ref e1) = some true)
    (su1_2 : PySem.W.subIn K (.ref e1) (.ref e2) = some false)
    (su2_0 : PySem.W.subIn K (.ref e2) (.ref e0) = some false)
    (su2_1 : PySem.W.subIn K (.ref e2) (.ref e1) = some false)
    (su2_2 : PySem.W.subIn K (.ref e2) (.ref e2) = some true) :
    ∃ fd : FuncData, (∀ (s : Shared) (v : Value), BindsTo s fd ⟨[v], []⟩ [("script", v)]) ∧ ∀ base : Heap, K.In base → base.Ns mainGlobals mg → FnOk l.prog w K mg base (L2.CX l.prog w) 9 fa fd ["script"] (spLaw K) := by
  have e := hfa.symm.trans (PySem.W.mg_of X G a34)
  cases e
  have E0 : ErrOk K mg "BadConfiguration" e0 := ⟨PySem.W.mg_of X G ea0, ex0, ek0, eb0, et0, ei0⟩
  have E1 : ErrOk K mg "BadOther" e1 := ⟨PySem.W.mg_of X G ea1, ex1, ek1, eb1, et1, ei1⟩
  have E2 : ErrOk K mg "BadSignature" e2 := ⟨PySem.W.mg_of X G ea2, ex2, ek2, eb2, et2, ei2⟩
  have T : Txt K mg := ⟨PySem.W.mg_none_of X G z0, PySem.W.mg_none_of X G z1, PySem.W.mg_none_of X G z2, PySem.W.mg_none_of X G z3, PySem.W.mg_none_of X G z4, PySem.W.mg_none_of X G z5, PySem.W.mg_none_of X G z6, PySem.W.mg_none_of X G z7, PySem.W.mg_none_of X G z8, PySem.W.mg_none_of X G z9, PySem.W.mg_none_of X G z10, PySem.W.mg_none_of X G z11, (by obtain ⟨t, e⟩ := vt0; subst e; exact ⟨t, PySem.W.mg_of X G vs0⟩), (by obtain ⟨t, e⟩ := v1; exact ⟨t, PySem.W.mg_of X G e⟩), (by obtain ⟨t, e⟩ := v2; exact ⟨t, PySem.W.mg_of X G e⟩), (by obtain ⟨t, e⟩ := v3; exact ⟨t, PySem.W.mg_of X G e⟩), (by obtain ⟨t, e⟩ := v4; exact ⟨t, PySem.W.mg_of X G e⟩), ⟨e0, E0⟩, ⟨e1, E1⟩, ⟨e2, E2⟩, subT_ok (all_cons ⟨e0, e0, E0.g, E0.g, exm_pair E0 su0_0⟩ (all_cons ⟨e0, e1, E0.g, E1.g, exm_pair E1 su0_1⟩ (all_cons ⟨e0, e2, E0.g, E2.g, exm_pair E2 su0_2⟩ (all_cons ⟨e1, e0, E1.g, E0.g, exm_pair E0 su1_0⟩ (all_cons ⟨e1, e1, E1.g, E1.g, exm_pair E1 su1_1⟩ (all_cons ⟨e1, e2, E1.g, E2.g, exm_pair E2 su1_2⟩ (all_cons ⟨e2, e0, E2.g, E0.g, exm_pair E0 su2_0⟩ (all_cons ⟨e2, e1, E2.g, E1.g, exm_pair E1 su2_1⟩ (all_cons ⟨e2, e2, E2.g, E2.g, exm_pair E2 su2_2⟩ all_nil)))))))))⟩
  have F0 := fun_mk (st := s__law_deck) l0 c0 k0
  have b0 := F0.binds (ps := ["script"]) fun _ _ _ _ _ _ us hl => match us, hl with | [_], _ => rfl
  have m0 := PySem.W.mg_of X G a0
  have F1 := fun_mk (st := s__law_pick) l1 c1 k1
  have b1 := F1.binds (ps := ["deck", "many"]) fun _ _ _ _ _ _ us hl => match us, hl with | [_, _], _ => rfl
  have m1 := PySem.W.mg_of X G a1
  have F2 := fun_mk (st := s__law_sizes) l2 c2 k2
  have b2 := F2.binds (ps := ["deck"]) fun _ _ _ _ _ _ us hl => match us, hl with | [_], _ => rfl
  have m2 := PySem.W.mg_of X G a2
  have F3 := fun_mk (st := s__law_signature) l3 c3 k3
  have b3 := F3.binds (ps := ["deck"]) fun _ _ _ _ _ _ us hl => match us, hl with | [_], _ => rfl
  have m3 := PySem.W.mg_of X G a3
  have F4 := fun_mk (st := s__law_word) l4 c4 k4
  have b4 := F4.binds (ps := ["deck", "letters", "most"]) fun _ _ _ _ _ _ us hl => match us, hl with | [_, _, _], _ => rfl
  have m4 := PySem.W.mg_of X G a4
  have F5 := fun_mk (st := s__law_configuration) l5 c5 k5
  have b5 := F5.binds (ps := ["deck", "signature", "most"]) fun _ _ _ _ _ _ us hl => match us, hl with | [_, _, _], _ => rfl
  have m5 := PySem.W.mg_of X G a5
  have F6 := fun_mk (st := s__law_near) l6 c6 k6
  have b6 := F6.binds (ps := ["deck", "signature", "configuration"]) fun _ _ _ _ _ _ us hl => match us, hl with | [_, _, _], _ => rfl
  have m6 := PySem.W.mg_of X G a6
  have F7 := fun_mk (st := s__law_int) l7 c7 k7
  have b7 := F7.binds (ps := ["thing", "low", "high"]) fun _ _ _ _ _ _ us hl => match us, hl with | [_, _, _], _ => rfl
  have m7 := PySem.W.mg_of X G a7
  have F8 := fun_mk (st := s__law_judge) l8 c8 k8
  have b8 := F8.binds (ps := ["signature", "thing"]) fun _ _ _ _ _ _ us hl => match us, hl with | [_, _], _ => rfl
  have m8 := PySem.W.mg_of X G a8
  have F9 := fun_mk (st := s__law_same) l9 c9 k9
  have b9 := F9.binds (ps := ["told", "due"]) fun _ _ _ _ _ _ us hl => match us, hl with | [_, _], _ => rfl
  have m9 := PySem.W.mg_of X G a9
  have F10 := fun_mk (st := s_is_row) l10 c10 k10
  have b10 := F10.binds (ps := ["thing", "fewest", "most"]) fun _ _ _ _ _ _ us hl => match us, hl with | [_, _, _], _ => rfl
  have m10 := PySem.W.mg_of X G a10
  have F11 := fun_mk (st := s_is_int) l11 c11 k11
  have b11 := F11.binds (ps := ["thing"]) fun _ _ _ _ _ _ us hl => match us, hl with | [_], _ => rfl
  have m11 := PySem.W.mg_of X G a11
  have F12 := fun_mk (st := s_within) l12 c12 k12
  have b12 := F12.binds (ps := ["thing", "low", "high"]) fun _ _ _ _ _ _ us hl => match us, hl with | [_, _, _], _ => rfl
  have m12 := PySem.W.mg_of X G a12
  have F13 := fun_mk (st := s_product_of) l13 c13 k13
  have b13 := F13.binds (ps := ["numbers"]) fun _ _ _ _ _ _ us hl => match us, hl with | [_], _ => rfl
  have m13 := PySem.W.mg_of X G a13
  have F14 := fun_mk (st := s_are_sizes) l14 c14 k14
  have b14 := F14.binds (ps := ["thing"]) fun _ _ _ _ _ _ us hl => match us, hl with | [_], _ => rfl
  have m14 := PySem.W.mg_of X G a14
  have F15 := fun_mk (st := s_is_signature) l15 c15 k15
  have b15 := F15.binds (ps := ["thing"]) fun _ _ _ _ _ _ us hl => match us, hl with | [_], _ => rfl
  have m15 := PySem.W.mg_of X G a15
  have F16 := fun_mk (st := s_need_signature) l16 c16 k16
  have b16 := F16.binds (ps := ["signature"]) fun _ _ _ _ _ _ us hl => match us, hl with | [_], _ => rfl
  have m16 := PySem.W.mg_of X G a16
  have F17 := fun_mk (st := s_is_control_of) l17 c17 k17
  have b17 := F17.binds (ps := ["signature", "thing"]) fun _ _ _ _ _ _ us hl => match us, hl with | [_, _], _ => rfl
  have m17 := PySem.W.mg_of X G a17
  have F18 := fun_mk (st := s_is_word_of) l18 c18 k18
  have b18 := F18.binds (ps := ["letters", "thing", "most"]) fun _ _ _ _ _ _ us hl => match us, hl with | [_, _, _], _ => rfl
  have m18 := PySem.W.mg_of X G a18
  have F19 := fun_mk (st := s_are_words_of) l19 c19 k19
  have b19 := F19.binds (ps := ["signature", "thing", "most"]) fun _ _ _ _ _ _ us hl => match us, hl with | [_, _, _], _ => rfl
  have m19 := PySem.W.mg_of X G a19
  have F20 := funD_mk (st := s_is_configuration_of) (dvs := [V.int 60]) l20 lT20 (.cons ⟨_, rfl⟩ .nil) (by simp) c20 k20
  have m20 := PySem.W.mg_of X G a20
  have F21 := fun_mk (st := s_is_configuration) l21 c21 k21
  have b21 := F21.binds (ps := ["signature", "thing"]) fun _ _ _ _ _ _ us hl => match us, hl with | [_, _], _ => rfl
  have m21 := PySem.W.mg_of X G a21
  have F22 := fun_mk (st := s__law_sub) l22 c22 k22
  have b22 := F22.binds (ps := ["word", "other"]) fun _ _ _ _ _ _ us hl => match us, hl with | [_, _], _ => rfl
  have m22 := PySem.W.mg_of X G a22
  have F23 := fun_mk (st := s__law_below) l23 c23 k23
  have b23 := F23.binds (ps := ["one", "other"]) fun _ _ _ _ _ _ us hl => match us, hl with | [_, _], _ => rfl
  have m23 := PySem.W.mg_of X G a23
  have F24 := fun_mk (st := s_need_configuration) l24 c24 k24
  have b24 := F24.binds (ps := ["signature", "configuration"]) fun _ _ _ _ _ _ us hl => match us, hl with | [_, _], _ => rfl
  have m24 := PySem.W.mg_of X G a24
  have F25 := fun_mk (st := s_need_both) l25 c25 k25
  have b25 := F25.binds (ps := ["signature", "one", "other"]) fun _ _ _ _ _ _ us hl => match us, hl with | [_, _, _], _ => rfl
  have m25 := PySem.W.mg_of X G a25
  have F26 := fun_mk (st := s_lies_in) l26 c26 k26
  have b26 := F26.binds (ps := ["word", "other"]) fun _ _ _ _ _ _ us hl => match us, hl with | [_, _], _ => rfl
  have m26 := PySem.W.mg_of X G a26
  have F27 := fun_mk (st := s_below_in) l27 c27 k27
  have b27 := F27.binds (ps := ["one", "other"]) fun _ _ _ _ _ _ us hl => match us, hl with | [_, _], _ => rfl
  have m27 := PySem.W.mg_of X G a27
  have F28 := fun_mk (st := s_is_below) l28 c28 k28
  have b28 := F28.binds (ps := ["signature", "one", "other"]) fun _ _ _ _ _ _ us hl => match us, hl with | [_, _, _], _ => rfl
  have m28 := PySem.W.mg_of X G a28
  have F29 := fun_mk (st := s_letter_count) l29 c29 k29
  have b29 := F29.binds (ps := ["configuration"]) fun _ _ _ _ _ _ us hl => match us, hl with | [_], _ => rfl
  have m29 := PySem.W.mg_of X G a29
  have F30 := fun_mk (st := s_letters_in) l30 c30 k30
  have b30 := F30.binds (ps := ["signature", "configuration"]) fun _ _ _ _ _ _ us hl => match us, hl with | [_, _], _ => rfl
  have m30 := PySem.W.mg_of X G a30
  have F31 := fun_mk (st := s__law_compared) l31 c31 k31
  have b31 := F31.binds (ps := ["signature", "one", "other"]) fun _ _ _ _ _ _ us hl => match us, hl with | [_, _, _], _ => rfl
  have m31 := PySem.W.mg_of X G a31
  have F32 := fun_mk (st := s__law_other) l32 c32 k32
  have b32 := F32.binds (ps := ["deck", "signature", "configuration"]) fun _ _ _ _ _ _ us hl => match us, hl with | [_, _, _], _ => rfl
  have m32 := PySem.W.mg_of X G a32
  have F33 := fun_mk (st := s__law_refused) l33 c33 k33
  have b33 := F33.binds (ps := ["which", "signature", "one", "other"]) fun _ _ _ _ _ _ us hl => match us, hl with | [_, _, _, _], _ => rfl
  have m33 := PySem.W.mg_of X G a33
  have F34 := fun_mk (st := s_law) l34 c34 k34
  have b34 := F34.binds (ps := ["script"]) fun _ _ _ _ _ _ us hl => match us, hl with | [_], _ => rfl
  have m34 := PySem.W.mg_of X G a34
  refine ⟨PySem.W.fnOf "law" "law" (defArgs s_law) (defBody s_law) (defScope s_law) .none kV34 dc34 pm34 an34 cd34 ct34, fun s v => .of_eq rfl, fun base _ _ => ?_⟩
  have h__law_pick := (fn_pick (P := l.prog) (w := w) (base := base) (ok_pick F1 T.n_int) m1 k1 b1)
  have o2 := ok__law_sizes (P := l.prog) (w := w) (base := base) T h__law_pick F2
  have h__law_sizes := fn_ofok o2 m2 k2 b2
  have o3 := ok__law_signature (P := l.prog) (w := w) (base := base) T h__law_sizes h__law_pick F3
  have h__law_signature := fn_ofok o3 m3 k3 b3
  have o4 := ok__law_word (P := l.prog) (w := w) (base := base) T h__law_pick F4
  have h__law_word := fn_ofok o4 m4 k4 b4
  have o5 := ok__law_configuration (P := l.prog) (w := w) (base := base) T h__law_pick h__law_word F5
  have h__law_configuration := fn_ofok o5 m5 k5 b5
  have o6 := ok__law_near (P := l.prog) (w := w) (base := base) T h__law_pick F6
  have h__law_near := fn_ofok o6 m6 k6 b6
  have o7 := ok__law_int (P := l.prog) (w := w) (base := base) T  F7
  have h__law_int := fn_ofok o7 m7 k7 b7
  have o8 := ok__law_judge (P := l.prog) (w := w) (base := base) T h__law_int F8
  have h__law_judge := fn_ofok o8 m8 k8 b8
  have o9 := ok__law_same (P := l.prog) (w := w) (base := base) T  F9
  have h__law_same := fn_ofok o9 m9 k9 b9
  have o10 := ok_is_row (P := l.prog) (w := w) (base := base) T  F10
  have h_is_row := fn_ofok o10 m10 k10 b10
  have o11 := ok_is_int (P := l.prog) (w := w) (base := base) T  F11
  have h_is_int := fn_ofok o11 m11 k11 b11
  have o12 := ok_within (P := l.prog) (w := w) (base := base) T h_is_int F12
  have h_within := fn_ofok o12 m12 k12 b12
  have o13 := ok_product_of (P := l.prog) (w := w) (base := base) T  F13
  have h_product_of := fn_ofok o13 m13 k13 b13
  have o14 := ok_are_sizes (P := l.prog) (w := w) (base := base) T h_is_row h_within h_product_of F14
  have h_are_sizes := fn_ofok o14 m14 k14 b14
  have o15 := ok_is_signature (P := l.prog) (w := w) (base := base) T h_is_row h_within h_are_sizes F15
  have h_is_signature := fn_ofok o15 m15 k15 b15
  have o16 := ok_need_signature (P := l.prog) (w := w) (base := base) T h_is_signature F16
  have h_need_signature := fn_ofok o16 m16 k16 b16
  have o17 := ok_is_control_of (P := l.prog) (w := w) (base := base) T h_is_row h_within F17
  have h_is_control_of := fn_ofok o17 m17 k17 b17
  have o18 := ok_is_word_of (P := l.prog) (w := w) (base := base) T  F18
  have h_is_word_of := fn_ofok o18 m18 k18 b18
  have o19 := ok_are_words_of (P := l.prog) (w := w) (base := base) T h_is_row h_is_word_of F19
  have h_are_words_of := fn_ofok o19 m19 k19 b19
  have o20 := ok_is_configuration_of (P := l.prog) (w := w) (base := base) T h_is_row h_is_control_of h_are_words_of F20
  have hd_is_configuration_of_2 := fdf_ofok (a := 2) (dd := [D.int 60]) (dvs := [V.int 60]) o20 m20 k20 (FunD.binds1 (ps := ["signature", "thing", "most"]) F20 2 0 (by simp) (by simp) fun _ _ _ _ _ _ _ us its h1 h2 => match us, its, h1, h2 with | [_, _], [_], _, _ => ⟨_, rfl, rfl⟩) (by simp) (fun C H A => .cons (.int _) (.nil))
  have o21 := ok_is_configuration (P := l.prog) (w := w) (base := base) T h_need_signature hd_is_configuration_of_2 F21
  have h_is_configuration := fn_ofok o21 m21 k21 b21
  have o22 := ok__law_sub (P := l.prog) (w := w) (base := base) T  F22
  have h__law_sub := fn_ofok o22 m22 k22 b22
  have o23 := ok__law_below (P := l.prog) (w := w) (base := base) T h__law_sub F23
  have h__law_below := fn_ofok o23 m23 k23 b23
  have o24 := ok_need_configuration (P := l.prog) (w := w) (base := base) T hd_is_configuration_of_2 F24
  have h_need_configuration := fn_ofok o24 m24 k24 b24
  have o25 := ok_need_both (P := l.prog) (w := w) (base := base) T h_need_signature h_need_configuration hd_is_configuration_of_2 F25
  have h_need_both := fn_ofok o25 m25 k25 b25
  have o26 := ok_lies_in (P := l.prog) (w := w) (base := base) T  F26
  have h_lies_in := fn_ofok o26 m26 k26 b26
  have o27 := ok_below_in (P := l.prog) (w := w) (base := base) T h_lies_in F27
  have h_below_in := fn_ofok o27 m27 k27 b27
  have o28 := ok_is_below (P := l.prog) (w := w) (base := base) T h_need_both h_below_in F28
  have h_is_below := fn_ofok o28 m28 k28 b28
  have hk_is_below_1_one_other := fk_ofok (a := 1) (ks := ["one", "other"]) (is := [0, 1, 2]) o28 m28 k28 (kbn_mk F28 fun _ _ _ _ _ _ us ws h1 h2 => match us, ws, h1, h2 with | [_], [_, _], _, _ => rfl)
  have o29 := ok_letter_count (P := l.prog) (w := w) (base := base) T  F29
  have h_letter_count := fn_ofok o29 m29 k29 b29
  have o30 := ok_letters_in (P := l.prog) (w := w) (base := base) T h_need_signature h_need_configuration h_letter_count F30
  have h_letters_in := fn_ofok o30 m30 k30 b30
  have o31 := ok__law_compared (P := l.prog) (w := w) (base := base) T h__law_same h__law_below h_is_below hk_is_below_1_one_other h_letters_in F31
  have h__law_compared := fn_ofok o31 m31 k31 b31
  have o32 := ok__law_other (P := l.prog) (w := w) (base := base) T h__law_pick F32
  have h__law_other := fn_ofok o32 m32 k32 b32
  have o33 := ok__law_refused (P := l.prog) (w := w) (base := base) T h_is_configuration h_letters_in h_is_below F33
  have h__law_refused := fn_ofok o33 m33 k33 b33
  exact law_mk (k := 8) F34 sc_law (ok_deck F0 T.n_int) m0 k0 b0 rfl (by decide) (by decide)
    (fun cdv A outer s H E hr => ⟨_, ps_set (i := 1) sc_law.nd rfl (Or.inl rfl) (pe_callS (ok_deck F0 T.n_int) (hr.mono (by decide)) rfl m0 k0 b0 (fun σ => passAt (W := fun cls d _ H => E cls d H) (takes_of rfl rfl rfl rfl) σ) (pa_cons (pv 0) pa_nil)), fun σ H1 D h => h⟩)
    (fun cdv A outer s H E C pc hr => ok_law T h__law_signature h__law_configuration h__law_near h__law_judge h__law_same h_is_configuration h__law_compared h__law_other h__law_pick h__law_refused trivial cdv _ A outer s H E C pc hr)
    law_pure
end Mir
open PySem PySem.W PyProof.Rows
set_option maxRecDepth 100000 in
set_option maxHeartbeats 0 in
theorem PySem.Challenge.cw_roadsworn_k08_configurations_holds : PySem.Challenge.rw_roadsworn_k08_configurations.Holds := by
  w_on; o_law; k_head; (case hw => w_witness2)
  k_fill
  refine Mir.walk_law (l := PySem.Challenge.rw_roadsworn_k08_configurations) 9 rfl rfl ⟨rfl, by decide, by decide⟩ (fun w h Y => PySem.W.kIn_of Y) ?F
  case F =>
    intro w mg fa h KX G hmg
    refine' Mir.all_mk KX G hmg ?a0 ?l0 ?c0 ?k0 ?a1 ?l1 ?c1 ?k1 ?a2 ?l2 ?c2 ?k2 ?a3 ?l3 ?c3 ?k3 ?a4 ?l4 ?c4 ?k4 ?a5 ?l5 ?c5 ?k5 ?a6 ?l6 ?c6 ?k6 ?a7 ?l7 ?c7 ?k7 ?a8 ?l8 ?c8 ?k8 ?a9 ?l9 ?c9 ?k9 ?a10 ?l10 ?c10 ?k10 ?a11 ?l11 ?c11 ?k11 ?a12 ?l12 ?c12 ?k12 ?a13 ?l13 ?c13 ?k13 ?a14 ?l14 ?c14 ?k14 ?a15 ?l15 ?c15 ?k15 ?a16 ?l16 ?c16 ?k16 ?a17 ?l17 ?c17 ?k17 ?a18 ?l18 ?c18 ?k18 ?a19 ?l19 ?c19 ?k19 ?a20 ?l20 ?c20 ?k20 ?lT20 ?a21 ?l21 ?c21 ?k21 ?a22 ?l22 ?c22 ?k22 ?a23 ?l23 ?c23 ?k23 ?a24 ?l24 ?c24 ?k24 ?a25 ?l25 ?c25 ?k25 ?a26 ?l26 ?c26 ?k26 ?a27 ?l27 ?c27 ?k27 ?a28 ?l28 ?c28 ?k28 ?a29 ?l29 ?c29 ?k29 ?a30 ?l30 ?c30 ?k30 ?a31 ?l31 ?c31 ?k31 ?a32 ?l32 ?c32 ?k32 ?a33 ?l33 ?c33 ?k33 ?a34 ?l34 ?c34 ?k34 ?z0 ?z1 ?z2 ?z3 ?z4 ?z5 ?z6 ?z7 ?z8 ?z9 ?z10 ?z11 ?vs0 ?vt0 ?v1 ?v2 ?v3 ?v4 ?ea0 ?ex0 ?ek0 ?eb0 ?et0 ?ei0 ?ea1 ?ex1 ?ek1 ?eb1 ?et1 ?ei1 ?ea2 ?ex2 ?ek2 ?eb2 ?et2 ?ei2 ?su0_0 ?su0_1 ?su0_2 ?su1_0 ?su1_1 ?su1_2 ?su2_0 ?su2_1 ?su2_2
    (case a0 => k_is)
    (case l0 => k_is)
    (case c0 => k_is)
    (case k0 => k_is)
    (case a1 => k_is)
    (case l1 => k_is)
    (case c1 => k_is)
    (case k1 => k_is)
    (case a2 => k_is)
    (case l2 => k_is)
    (case c2 => k_is)
    (case k2 => k_is)
    (case a3 => k_is)
    (case l3 => k_is)
    (case c3 => k_is)
    (case k3 => k_is)
    (case a4 => k_is)
    (case l4 => k_is)
    (case c4 => k_is)
    (case k4 => k_is)
    (case a5 => k_is)
    (case l5 => k_is)
    (case c5 => k_is)
    (case k5 => k_is)
    (case a6 => k_is)
    (case l6 => k_is)
    (case c6 => k_is)
    (case k6 => k_is)
    (case a7 => k_is)
    (case l7 => k_is)
    (case c7 => k_is)
    (case k7 => k_is)
    (case a8 => k_is)
    (case l8 => k_is)
    (case c8 => k_is)
    (case k8 => k_is)
    (case a9 => k_is)
    (case l9 => k_is)
    (case c9 => k_is)
    (case k9 => k_is)
    (case a10 => k_is)
    (case l10 => k_is)
    (case c10 => k_is)
    (case k10 => k_is)
    (case a11 => k_is)
    (case l11 => k_is)
    (case c11 => k_is)
    (case k11 => k_is)
    (case a12 => k_is)
    (case l12 => k_is)
    (case c12 => k_is)
    (case k12 => k_is)
    (case a13 => k_is)
    (case l13 => k_is)
    (case c13 => k_is)
    (case k13 => k_is)
    (case a14 => k_is)
    (case l14 => k_is)
    (case c14 => k_is)
    (case k14 => k_is)
    (case a15 => k_is)
    (case l15 => k_is)
    (case c15 => k_is)
    (case k15 => k_is)
    (case a16 => k_is)
    (case l16 => k_is)
    (case c16 => k_is)
    (case k16 => k_is)
    (case a17 => k_is)
    (case l17 => k_is)
    (case c17 => k_is)
    (case k17 => k_is)
    (case a18 => k_is)
    (case l18 => k_is)
    (case c18 => k_is)
    (case k18 => k_is)
    (case a19 => k_is)
    (case l19 => k_is)
    (case c19 => k_is)
    (case k19 => k_is)
    (case a20 => k_is)
    (case l20 => k_is)
    (case c20 => k_is)
    (case k20 => k_is)
    (case lT20 => k_is)
    (case a21 => k_is)
    (case l21 => k_is)
    (case c21 => k_is)
    (case k21 => k_is)
    (case a22 => k_is)
    (case l22 => k_is)
    (case c22 => k_is)
    (case k22 => k_is)
    (case a23 => k_is)
    (case l23 => k_is)
    (case c23 => k_is)
    (case k23 => k_is)
    (case a24 => k_is)
    (case l24 => k_is)
    (case c24 => k_is)
    (case k24 => k_is)
    (case a25 => k_is)
    (case l25 => k_is)
    (case c25 => k_is)
    (case k25 => k_is)
    (case a26 => k_is)
    (case l26 => k_is)
    (case c26 => k_is)
    (case k26 => k_is)
    (case a27 => k_is)
    (case l27 => k_is)
    (case c27 => k_is)
    (case k27 => k_is)
    (case a28 => k_is)
    (case l28 => k_is)
    (case c28 => k_is)
    (case k28 => k_is)
    (case a29 => k_is)
    (case l29 => k_is)
    (case c29 => k_is)
    (case k29 => k_is)
    (case a30 => k_is)
    (case l30 => k_is)
    (case c30 => k_is)
    (case k30 => k_is)
    (case a31 => k_is)
    (case l31 => k_is)
    (case c31 => k_is)
    (case k31 => k_is)
    (case a32 => k_is)
    (case l32 => k_is)
    (case c32 => k_is)
    (case k32 => k_is)
    (case a33 => k_is)
    (case l33 => k_is)
    (case c33 => k_is)
    (case k33 => k_is)
    (case a34 => k_is)
    (case l34 => k_is)
    (case c34 => k_is)
    (case k34 => k_is)
    (case z0 => k_is)
    (case z1 => k_is)
    (case z2 => k_is)
    (case z3 => k_is)
    (case z4 => k_is)
    (case z5 => k_is)
    (case z6 => k_is)
    (case z7 => k_is)
    (case z8 => k_is)
    (case z9 => k_is)
    (case z10 => k_is)
    (case z11 => k_is)
    (case vs0 => k_is)
    (case vt0 => exact ⟨_, rfl⟩)
    (case v1 => apply Exists.intro; k_is)
    (case v2 => apply Exists.intro; k_is)
    (case v3 => apply Exists.intro; k_is)
    (case v4 => apply Exists.intro; k_is)
    (case ea0 => k_is)
    (case ex0 => k_exc)
    (case ek0 => k_is)
    (case eb0 => k_is)
    (case et0 => k_is)
    (case ei0 => k_is)
    (case ea1 => k_is)
    (case ex1 => k_exc)
    (case ek1 => k_is)
    (case eb1 => k_is)
    (case et1 => k_is)
    (case ei1 => k_is)
    (case ea2 => k_is)
    (case ex2 => k_exc)
    (case ek2 => k_is)
    (case eb2 => k_is)
    (case et2 => k_is)
    (case ei2 => k_is)
    (case su0_0 => k_is)
    (case su0_1 => k_is)
    (case su0_2 => k_is)
    (case su1_0 => k_is)
    (case su1_1 => k_is)
    (case su1_2 => k_is)
    (case su2_0 => k_is)
    (case su2_1 => k_is)
    (case su2_2 => k_is)
#print axioms PySem.Challenge.cw_roadsworn_k08_configurations_holds
