import PyProof.Rows.All
import Wide.All
import OpenK.AllK
import Wide.FinOn
import PyProof.EqAt
import PyProof.EqKinds
import PyProof.TupleCall
import HandS.ForMost
import HandS.ForExc
import HandS.IsInst
import HandS.Flow
import HandS.TryMany
import HandS.TupAny
import HandS.TupMul
import HandS.Comp
import HandS.Zip
import HandS.RevRange
import HandS.Defaults
import HandS.Wide
import HandS.Rev
import HandS.StrMore
import HandS.Style
import HandS.CallSlots
import HandS.Iter
import KE.GoesEnum
import KE.GoesZip
import KE.DataMinMax
import KE.DataCmp
import KE.SortData
import PySem.Challenge.RW_roadsworn_k01_words_and_embeddings
set_option Elab.async false
set_option linter.all false
set_option maxRecDepth 100000
set_option maxHeartbeats 2000000
/-! Python values as pure data; what a piece of the program does as a function on them; one lemma a construct. -/
namespace Mir
open PySem PySem.Spec L2
open PyProof.Rows hiding St

/-- a value as a tree -/
inductive D where
  | non | bl (b : Bool) | int (i : Int) | str (s : List Nat) | tup (ds : List D) | lst (ds : List D) | dic (ks vs : List D) | deck | ext (n : Nat)

abbrev mkS (l : List Nat) : Str := ⟨l.toArray⟩
def SOk (l : List Nat) : Prop := l.length ≤ 1048576 ∧ ∀ c ∈ l, c < 1114112

/-- the law's deck: where it stands, what it holds -/
structure Deck (S : Type) where
  val : V
  dom : Addr → Prop
  At : S → Hp → Prop
  stab : ∀ s H H', At s H → (∀ a, dom a → H' a = H a) → At s H'
  there : ∀ s H a, At s H → dom a → H a ≠ none
  /-- other objects from outside, n items long: the addresses they are read by -/
  sa : Addr → Prop
  ext : Hp → V → Nat → Prop
  ext_st : ∀ H H' v n, ext H v n → (∀ a, sa a → H' a = H a) → ext H' v n

/-- a value v stands for the tree d, by addresses outside A -/
inductive Dat {S : Type} (C : Deck S) (H : Hp) (A : Addr → Prop) : V → D → Prop
  | non : Dat C H A .non .non
  | bl (b : Bool) : Dat C H A (.bl b) (.bl b)
  | int (i : Int) : Dat C H A (.int i) (.int i)
  | str {l : List Nat} : SOk l → Dat C H A (.str (mkS l)) (.str l)
  | tup {a : Addr} {xs : List V} {ds : List D} : ¬ A a → H a = some (.tup xs) → xs.length = ds.length → (∀ (i : Nat) x d, xs[i]? = some x → ds[i]? = some d → Dat C H A x d) → Dat C H A (.ref a) (.tup ds)
  | lst {a : Addr} {xs : List V} {ds : List D} : ¬ A a → H a = some (.lst xs) → xs.length = ds.length → (∀ (i : Nat) x d, xs[i]? = some x → ds[i]? = some d → Dat C H A x d) → Dat C H A (.ref a) (.lst ds)
  | deck : Dat C H A C.val .deck
  | ext {v : V} {n : Nat} : (∀ a, C.sa a → ¬ A a ∧ H a ≠ none) → C.ext H v n → Dat C H A v (.ext n)

/-- lists of values -/
structure Dats {S : Type} (C : Deck S) (H : Hp) (A : Addr → Prop) (xs : List V) (ds : List D) : Prop where
  len : xs.length = ds.length
  at_ : ∀ (i : Nat) x d, xs[i]? = some x → ds[i]? = some d → Dat C H A x d

/-- all that is tracked outside of dom is kept -/
def Keep (dom : Addr → Prop) (H H' : Hp) : Prop := ∀ a o, ¬ dom a → H a = some o → H' a = some o
theorem Keep.refl {dom : Addr → Prop} {H : Hp} : Keep dom H H := fun _ _ _ h => h
theorem Keep.trans {dom : Addr → Prop} {H H' H'' : Hp} (a : Keep dom H H') (b : Keep dom H' H'') : Keep dom H H'' := fun x o n h => b x o n (a x o n h)
theorem Keep.upd {dom : Addr → Prop} {H : Hp} {p : Addr} {o : HO} (h : H p = none) : Keep dom H (upd H p o) := fun a u _ e => by
  rw [upd_ne (ne_of_none e h)]; exact e

section
variable {S : Type} {C : Deck S} {H H' : Hp} {A A' dom : Addr → Prop} {v : V} {d : D} {xs : List V} {ds : List D}
theorem some_ne {a : Addr} {o : HO} (r : H a = some o) : H a ≠ none := by rw [r]; exact fun z => nomatch z
/-- the heap grows, the forbidden addresses change outside of what was tracked -/
theorem Dat.lift (h : Dat C H A v d) (k : Keep dom H H') (hd : ∀ a, dom a → A a) (hA : ∀ a, A' a → A a ∨ H a = none) : Dat C H' A' v d := by
  induction h with
  | non => exact .non
  | bl b => exact .bl b
  | int i => exact .int i
  | str s => exact .str s
  | @tup a xs ds n r l _ ih =>
    refine .tup (fun z => ?_) (k a _ (fun z => n (hd a z)) r) l ih
    rcases hA a z with z | z
    · exact n z
    · exact some_ne r z
  | @lst a xs ds n r l _ ih =>
    refine .lst (fun z => ?_) (k a _ (fun z => n (hd a z)) r) l ih
    rcases hA a z with z | z
    · exact n z
    · exact some_ne r z
  | deck => exact .deck
  | ext h e =>
    have kk : ∀ a, C.sa a → H' a = H a := fun a ha => by
      obtain ⟨h1, h2⟩ := h a ha
      cases q : H a with
      | none => exact absurd q h2
      | some o => exact k a o (fun z => h1 (hd a z)) q
    refine .ext (fun a ha => ⟨fun z => ?_, by rw [kk a ha]; exact (h a ha).2⟩) (C.ext_st _ _ _ _ e kk)
    rcases hA a z with z | z
    · exact (h a ha).1 z
    · exact (h a ha).2 z
theorem Dats.lift (h : Dats C H A xs ds) (k : Keep dom H H') (hd : ∀ a, dom a → A a) (hA : ∀ a, A' a → A a ∨ H a = none) : Dats C H' A' xs ds :=
  ⟨h.len, fun i x d e1 e2 => (h.at_ i x d e1 e2).lift k hd hA⟩
theorem Dat.keep (h : Dat C H A v d) (k : Keep dom H H') (hd : ∀ a, dom a → A a) : Dat C H' A v d := h.lift k hd fun _ => .inl
theorem Dats.keep (h : Dats C H A xs ds) (k : Keep dom H H') (hd : ∀ a, dom a → A a) : Dats C H' A xs ds := h.lift k hd fun _ => .inl
theorem Dat.less (h : Dat C H A v d) (hA : ∀ a, A' a → A a) : Dat C H A' v d := by
  induction h with
  | non => exact .non
  | bl b => exact .bl b
  | int i => exact .int i
  | str s => exact .str s
  | tup n r l _ ih => exact .tup (fun z => n (hA _ z)) r l ih
  | lst n r l _ ih => exact .lst (fun z => n (hA _ z)) r l ih
  | deck => exact .deck
  | ext h e => exact .ext (fun a ha => ⟨fun z => (h a ha).1 (hA a z), (h a ha).2⟩) e
theorem Dats.less (h : Dats C H A xs ds) (hA : ∀ a, A' a → A a) : Dats C H A' xs ds := ⟨h.len, fun i x d e1 e2 => (h.at_ i x d e1 e2).less hA⟩
/-- what is written at a forbidden address is not seen -/
theorem Dat.write (h : Dat C H A v d) (k : ∀ a, ¬ A a → H' a = H a) : Dat C H' A v d := by
  induction h with
  | non => exact .non
  | bl b => exact .bl b
  | int i => exact .int i
  | str s => exact .str s
  | tup n r l _ ih => exact .tup n ((k _ n).trans r) l ih
  | lst n r l _ ih => exact .lst n ((k _ n).trans r) l ih
  | deck => exact .deck
  | ext h e => exact .ext (fun a ha => ⟨(h a ha).1, by rw [k a (h a ha).1]; exact (h a ha).2⟩) (C.ext_st _ _ _ _ e fun a ha => k a (h a ha).1)
theorem Dats.write (h : Dats C H A xs ds) (k : ∀ a, ¬ A a → H' a = H a) : Dats C H' A xs ds := ⟨h.len, fun i x d e1 e2 => (h.at_ i x d e1 e2).write k⟩
theorem Dats.nil : Dats C H A [] [] := ⟨rfl, fun i x d e => by simp at e⟩
theorem Dats.cons (h : Dat C H A v d) (t : Dats C H A xs ds) : Dats C H A (v :: xs) (d :: ds) := ⟨by simp [t.len], fun i x e e1 e2 => by
  cases i with
  | zero => simp at e1 e2; subst e1; subst e2; exact h
  | succ i => exact t.at_ i x e (by simpa using e1) (by simpa using e2)⟩
theorem Dats.uncons {d : D} {ds : List D} (h : Dats C H A xs (d :: ds)) : ∃ x r, xs = x :: r ∧ Dat C H A x d ∧ Dats C H A r ds := by
  cases xs with
  | nil => exact absurd h.len (by simp)
  | cons x r => exact ⟨x, r, rfl, h.at_ 0 x d rfl rfl, by simpa using h.len, fun i y e e1 e2 => h.at_ (i + 1) y e (by simpa using e1) (by simpa using e2)⟩
theorem Dats.unnil (h : Dats C H A xs []) : xs = [] := List.length_eq_zero_iff.mp h.len
theorem Dats.append {ys : List V} {es : List D} (h : Dats C H A xs ds) (t : Dats C H A ys es) : Dats C H A (xs ++ ys) (ds ++ es) := by
  induction ds generalizing xs with
  | nil => rw [h.unnil]; exact t
  | cons d ds ih =>
    obtain ⟨x, r, rfl, h1, h2⟩ := h.uncons
    exact (ih h2).cons h1
theorem Dats.get {i : Nat} {d : D} (h : Dats C H A xs ds) (e : ds[i]? = some d) : ∃ x, xs[i]? = some x ∧ Dat C H A x d := by
  have hl : i < ds.length := (List.getElem?_eq_some_iff.mp e).1
  have hx : i < xs.length := by rw [h.len]; exact hl
  exact ⟨xs[i], List.getElem?_eq_getElem hx, h.at_ i _ d (List.getElem?_eq_getElem hx) e⟩
theorem Dat.tup_mk {a : Addr} (n : ¬ A a) (r : H a = some (.tup xs)) (h : Dats C H A xs ds) : Dat C H A (.ref a) (.tup ds) := .tup n r h.len h.at_
theorem Dat.lst_mk {a : Addr} (n : ¬ A a) (r : H a = some (.lst xs)) (h : Dats C H A xs ds) : Dat C H A (.ref a) (.lst ds) := .lst n r h.len h.at_
theorem Dat.of_tup (h : Dat C H A v (.tup ds)) : ∃ a xs, v = .ref a ∧ ¬ A a ∧ H a = some (.tup xs) ∧ Dats C H A xs ds := by
  cases h with
  | tup n r l i => exact ⟨_, _, rfl, n, r, l, i⟩
theorem Dat.of_lst (h : Dat C H A v (.lst ds)) : ∃ a xs, v = .ref a ∧ ¬ A a ∧ H a = some (.lst xs) ∧ Dats C H A xs ds := by
  cases h with
  | lst n r l i => exact ⟨_, _, rfl, n, r, l, i⟩
end

/-- a slot: data, or a list that this frame alone knows -/
inductive Sl where
  | val (d : D)
  | own (ds : List D)
abbrev En := List (Option Sl)

/-- the outcome of an expression: a value, an own error by its name, or nothing that is told -/
inductive R (S α : Type) where
  | ok (a : α) (s : S)
  | ex (c : Str) (s : S)
  | bad
def R.bind {S α β : Type} (r : R S α) (f : α → S → R S β) : R S β :=
  match r with
  | .ok a s => f a s
  | .ex c s => .ex c s
  | .bad => .bad
def R.map {S α β : Type} (r : R S α) (f : α → β) : R S β :=
  match r with
  | .ok a s => .ok (f a) s
  | .ex c s => .ex c s
  | .bad => .bad
@[simp] theorem R.bind_ok {S α β : Type} {a : α} {s : S} {f : α → S → R S β} : (R.ok a s).bind f = f a s := rfl
@[simp] theorem R.bind_ex {S α β : Type} {c : Str} {s : S} {f : α → S → R S β} : (R.ex c s : R S α).bind f = .ex c s := rfl
@[simp] theorem R.bind_bad {S α β : Type} {f : α → S → R S β} : (R.bad : R S α).bind f = .bad := rfl
@[simp] theorem R.map_ok {S α β : Type} {a : α} {s : S} {f : α → β} : (R.ok a s).map f = .ok (f a) s := rfl
abbrev E1 (S α : Type) := En → S → R S α
abbrev DE (S : Type) := E1 S D
abbrev DT (S : Type) := E1 S Bool
abbrev DA (S : Type) := E1 S (List D)

inductive Out (S : Type) where
  | nx (ρ : En) (s : S)
  | rt (d : D) (s : S)
  | bk (ρ : En) (s : S)
  | ct (ρ : En) (s : S)
  | ex (c : Str) (ρ : En) (s : S)
  | bad
abbrev DS (S : Type) := En → S → Out S

section
variable {S : Type}
def SlAt (C : Deck S) (A0 : Addr → Prop) (H0 : Hp) (A : Addr → Prop) (H : Hp) (v : V) : Sl → Prop
  | .val d => Dat C H A v d
  | .own ds => ∃ a xs, v = .ref a ∧ A a ∧ H0 a = none ∧ ¬ A0 a ∧ H a = some (.lst xs) ∧ Dats C H A xs ds

/-- the state: slots, heap, deck -/
structure SAt (C : Deck S) (A0 : Addr → Prop) (H0 : Hp) (A : Addr → Prop) (H : Hp) (σ : St) (ρ : En) (st : S) : Prop where
  len : σ.length = ρ.length
  sl : ∀ (i : Nat) x, ρ[i]? = some (some x) → ∃ v, σ[i]? = some (some v) ∧ SlAt C A0 H0 A H v x
  apart : ∀ (i j : Nat) ds es, i ≠ j → ρ[i]? = some (some (.own ds)) → ρ[j]? = some (some (.own es)) → σ[i]? ≠ σ[j]?
  fresh : ∀ a, A a → H a ≠ none
  sub : ∀ a, A0 a → A a
  lim : ∀ a, A a → A0 a ∨ H0 a = none
  dom : ∀ a, C.dom a → A0 a
  keep : Keep C.dom H0 H
  at_ : C.At st H
variable {C : Deck S} {A0 A A' : Addr → Prop} {H0 H H' : Hp} {σ : St} {ρ : En} {st st' : S}
theorem SAt.domA (I : SAt C A0 H0 A H σ ρ st) : ∀ a, C.dom a → A a := fun a h => I.sub a (I.dom a h)
/-- own slots stand outside of dom -/
theorem SAt.next (I : SAt C A0 H0 A H σ ρ st) (k : Keep C.dom H H') (h : C.At st' H') : SAt C A0 H0 A H' σ ρ st' where
  len := I.len
  sl := fun i x e => by
    obtain ⟨v, e1, q⟩ := I.sl i x e
    refine ⟨v, e1, ?_⟩
    cases x with
    | val d => exact Dat.keep q k I.domA
    | own ds =>
      obtain ⟨a, xs, rfl, h1, h2, h3, h4, h5⟩ := q
      exact ⟨a, xs, rfl, h1, h2, h3, k a _ (fun z => h3 (I.dom a z)) h4, h5.keep k I.domA⟩
  apart := I.apart
  fresh := fun a ha => by
    by_cases z : C.dom a
    · exact C.there _ _ a h z
    · cases e : H a with
      | none => exact absurd e (I.fresh a ha)
      | some o => rw [k a o z e]; exact fun z => nomatch z
  sub := I.sub
  lim := I.lim
  dom := I.dom
  keep := I.keep.trans k
  at_ := h

/-- a slot is given data -/
theorem SAt.set {v : V} {d : D} {i : Nat} (I : SAt C A0 H0 A H σ ρ st) (h : Dat C H A v d) : SAt C A0 H0 A H (σ.set i (some v)) (ρ.set i (some (.val d))) st where
  len := by rw [List.length_set, List.length_set]; exact I.len
  sl := fun j x e => by
    by_cases hj : j = i
    · subst hj
      have hl : j < ρ.length := by have := (List.getElem?_eq_some_iff.mp e).1; rwa [List.length_set] at this
      rw [List.getElem?_set_self hl] at e
      cases e
      exact ⟨v, by rw [List.getElem?_set_self (by rw [I.len]; exact hl)], h⟩
    · rw [List.getElem?_set_ne (Ne.symm hj)] at e
      obtain ⟨w, e1, q⟩ := I.sl j x e
      exact ⟨w, by rw [List.getElem?_set_ne (Ne.symm hj)]; exact e1, q⟩
  apart := fun j k ds es n e1 e2 => by
    have ne : ∀ {j ds}, (ρ.set i (some (.val d)))[j]? = some (some (.own ds)) → j ≠ i ∧ ρ[j]? = some (some (.own ds)) := fun {j ds} e => by
      by_cases hj : j = i
      · subst hj
        have hl : j < ρ.length := by have := (List.getElem?_eq_some_iff.mp e).1; rwa [List.length_set] at this
        rw [List.getElem?_set_self hl] at e
        cases e
      · exact ⟨hj, by rwa [List.getElem?_set_ne (Ne.symm hj)] at e⟩
    obtain ⟨n1, q1⟩ := ne e1
    obtain ⟨n2, q2⟩ := ne e2
    rw [List.getElem?_set_ne (Ne.symm n1), List.getElem?_set_ne (Ne.symm n2)]
    exact I.apart j k ds es n q1 q2
  fresh := I.fresh
  sub := I.sub
  lim := I.lim
  dom := I.dom
  keep := I.keep
  at_ := I.at_
/-- the addresses that stay forbidden when the own slots in sc are given away -/
def Amin (A : Addr → Prop) (σ : St) (ρ : En) (sc : List Nat) : Addr → Prop := fun a => A a ∧ ∀ i ∈ sc, ∀ ds, ρ[i]? = some (some (.own ds)) → σ[i]? ≠ some (some (.ref a))
theorem Amin.sub {sc : List Nat} {a : Addr} (h : Amin A σ ρ sc a) : A a := h.1
theorem Amin.nil : Amin A σ ρ [] = A := by
  funext a
  exact propext ⟨fun h => h.1, fun h => ⟨h, fun _ z => nomatch z⟩⟩
theorem Amin.more {sc sc' : List Nat} {a : Addr} (hs : ∀ i ∈ sc, i ∈ sc') (h : Amin A σ ρ sc' a) : Amin A σ ρ sc a := ⟨h.1, fun i hi => h.2 i (hs i hi)⟩
theorem SAt.own_ne (I : SAt C A0 H0 A H σ ρ st) {i : Nat} {ds : List D} {a : Addr} (e : ρ[i]? = some (some (.own ds))) (ha : A0 a) : σ[i]? ≠ some (some (.ref a)) := fun z => by
  obtain ⟨v, e1, a', xs, rfl, h1, h2, h3, h4, h5⟩ := I.sl i _ e
  rw [e1] at z
  cases z
  exact h3 ha
theorem SAt.sub0 (I : SAt C A0 H0 A H σ ρ st) (sc : List Nat) : ∀ a, A0 a → Amin A σ ρ sc a := fun a h => ⟨I.sub a h, fun _ _ _ e => I.own_ne e h⟩
theorem SAt.dom0 (I : SAt C A0 H0 A H σ ρ st) (sc : List Nat) : ∀ a, C.dom a → Amin A σ ρ sc a := fun a h => I.sub0 sc a (I.dom a h)
/-- the own slots in sc become data -/
def frz (sc : List Nat) (ρ : En) : En := ρ.mapIdx fun i x => match x with
  | some (.own ds) => if i ∈ sc then some (.val (.lst ds)) else x
  | _ => x
theorem frz_get {sc : List Nat} {ρ : En} {i : Nat} : (frz sc ρ)[i]? = (ρ[i]?).map fun x => match x with
    | some (.own ds) => if i ∈ sc then some (.val (.lst ds)) else x
    | _ => x := by
  unfold frz
  rw [List.getElem?_mapIdx]
@[simp] theorem frz_nil (ρ : En) : frz [] ρ = ρ := by
  refine List.ext_getElem? fun i => ?_
  rw [frz_get]
  cases ρ[i]? with
  | none => rfl
  | some x => cases x with
    | none => rfl
    | some y => cases y <;> simp
theorem SAt.freeze (I : SAt C A0 H0 A H σ ρ st) (sc : List Nat) : SAt C A0 H0 (Amin A σ ρ sc) H σ (frz sc ρ) st where
  len := by unfold frz; rw [List.length_mapIdx]; exact I.len
  sl := fun i x e => by
    rw [frz_get] at e
    cases q : ρ[i]? with
    | none => rw [q] at e; cases e
    | some y =>
      rw [q] at e
      cases y with
      | none => simp at e
      | some y =>
        obtain ⟨v, e1, s⟩ := I.sl i y q
        refine ⟨v, e1, ?_⟩
        cases y with
        | val d =>
          simp at e
          subst e
          exact Dat.less s fun _ => Amin.sub
        | own ds =>
          obtain ⟨a, xs, rfl, h1, h2, h3, h4, h5⟩ := s
          by_cases hi : i ∈ sc
          · simp [hi] at e
            subst e
            exact Dat.lst_mk (fun z => z.2 i hi ds q e1) h4 (h5.less fun _ => Amin.sub)
          · simp [hi] at e
            subst e
            refine ⟨a, xs, rfl, ⟨h1, fun j hj es ej => ?_⟩, h2, h3, h4, h5.less fun _ => Amin.sub⟩
            have := I.apart j i es ds (fun z => hi (z ▸ hj)) ej q
            rw [e1] at this
            exact this
  apart := fun i j ds es n e1 e2 => by
    have ow : ∀ {i : Nat} {ds : List D}, (frz sc ρ)[i]? = some (some (Sl.own ds)) → ρ[i]? = some (some (Sl.own ds)) := fun {i ds} e => by
      rw [frz_get] at e
      cases q : ρ[i]? with
      | none => rw [q] at e; cases e
      | some y =>
        rw [q] at e
        cases y with
        | none => simp at e
        | some y => cases y with
          | val d => simp at e
          | own ds' =>
            by_cases hi : i ∈ sc
            · simp [hi] at e
            · simpa [hi] using e
    exact I.apart i j ds es n (ow e1) (ow e2)
  fresh := fun a h => I.fresh a h.1
  sub := I.sub0 sc
  lim := fun a h => I.lim a h.1
  dom := I.dom
  keep := I.keep
  at_ := I.at_

/-! ### goals -/
/-- what is wanted of an outcome: ok by P, an own error by the wish W -/
def RG (C : Deck S) (mg : Str → Option Value) (W : WX) (σ : St) (H : Hp) {α : Type} (r : R S α) (P : α → S → Hp → Prop) : Prop :=
  match r with
  | .ok a s => ∀ H', Keep C.dom H H' → C.At s H' → P a s H'
  | .ex c s => ∀ a H', mg c = some (.ref a) → Keep C.dom H H' → C.At s H' → W (.ref a) none σ H'
  | .bad => False
section
variable {mg : Str → Option Value} {W : WX} {α β : Type} {r : R S α} {P P' : α → S → Hp → Prop}
theorem RG.move (h : RG C mg W σ H r P) (k : Keep C.dom H H') : RG C mg W σ H' r P := by
  cases r with
  | ok a s => exact fun H'' k' t => h H'' (k.trans k') t
  | ex c s => exact fun a H'' m k' t => h a H'' m (k.trans k') t
  | bad => exact h
theorem RG.imp (h : RG C mg W σ H r P) (f : ∀ a s H', Keep C.dom H H' → C.At s H' → P a s H' → P' a s H') : RG C mg W σ H r P' := by
  cases r with
  | ok a s => exact fun H' k t => f a s H' k t (h H' k t)
  | ex c s => exact h
  | bad => exact h
theorem RG.bind {g : α → S → R S β} {P : β → S → Hp → Prop} (h : RG C mg W σ H (r.bind g) P) : RG C mg W σ H r fun a s H' => RG C mg W σ H' (g a s) P := by
  cases r with
  | ok a s => exact fun H' k _ => RG.move (r := g a s) h k
  | ex c s => exact h
  | bad => exact h
end
/-- the reading of an expression by what it does -/
def cte (C : Deck S) (mg : Str → Option Value) (W : WX) (sc : List Nat) (de : DE S) : TE := fun σ H Q => ∃ A0 H0 A ρ st, SAt C A0 H0 A H σ ρ st ∧
  RG C mg W σ H (de ρ st) fun d _ H' => ∀ v, Dat C H' (Amin A σ ρ sc) v d → Q v H'
def ctt (C : Deck S) (mg : Str → Option Value) (W : WX) (dt : DT S) : TT := fun σ H Q => ∃ A0 H0 A ρ st, SAt C A0 H0 A H σ ρ st ∧ RG C mg W σ H (dt ρ st) fun b _ H' => Q b H'
def cta (C : Deck S) (mg : Str → Option Value) (W : WX) (sc : List Nat) (da : DA S) : TA := fun σ H Q => ∃ A0 H0 A ρ st, SAt C A0 H0 A H σ ρ st ∧
  RG C mg W σ H (da ρ st) fun ds _ H' => ∀ vs, Dats C H' (Amin A σ ρ sc) vs ds → Q vs H'
/-- a fresh list -/
def ctf (C : Deck S) (mg : Str → Option Value) (W : WX) (sc : List Nat) (da : DA S) : TE := fun σ H Q => ∃ A0 H0 A ρ st, SAt C A0 H0 A H σ ρ st ∧
  RG C mg W σ H (da ρ st) fun ds _ H1 => ∀ p xs, H1 p = none → Dats C H1 (Amin A σ ρ sc) xs ds → xs.length ≤ sizeLine → Q (.ref p) (upd H1 p (.lst xs))
def SG (C : Deck S) (mg : Str → Option Value) (W : WX) (A0 : Addr → Prop) (H0 : Hp) (o : Out S) (D : Ends) : Prop :=
  match o with
  | .nx ρ s => ∀ A H σ, SAt C A0 H0 A H σ ρ s → D.nx σ H
  | .rt d s => ∀ H v, Keep C.dom H0 H → C.At s H → Dat C H A0 v d → D.rt v H
  | .bk ρ s => ∀ A H σ, SAt C A0 H0 A H σ ρ s → D.bk σ H
  | .ct ρ s => ∀ A H σ, SAt C A0 H0 A H σ ρ s → D.ct σ H
  | .ex c ρ s => ∀ a A H σ, mg c = some (.ref a) → SAt C A0 H0 A H σ ρ s → W (.ref a) none σ H
  | .bad => False
def cts (C : Deck S) (mg : Str → Option Value) (W : WX) (ds : DS S) : TS := fun D σ H => ∃ A0 H0 A ρ st, SAt C A0 H0 A H σ ρ st ∧ SG C mg W A0 H0 (ds ρ st) D

variable {X : Cx} {W : WX}
theorem pe_imp {e : Expr} {t t' : TE} (h : PE X e t) (i : ∀ σ H Q, t' σ H Q → t σ H Q) : PE X e t' := ⟨fun pins s σ H Q I q => h.run pins s σ H Q I (i σ H Q q)⟩
theorem pt_imp {e : Expr} {t t' : TT} (h : PT X e t) (i : ∀ σ H Q, t' σ H Q → t σ H Q) : PT X e t' := ⟨fun pins s σ H Q I q => h.run pins s σ H Q I (i σ H Q q)⟩
theorem pw_imp {e : Expr} {t t' : TT} (h : PW X e t) (i : ∀ σ H Q, t' σ H Q → t σ H Q) : PW X e t' := ⟨fun wh pins s σ H Q I q => h.run wh pins s σ H Q I (i σ H Q q)⟩
theorem pa_imp {es : List Expr} {t t' : TA} (h : PA X es t) (i : ∀ σ H Q, t' σ H Q → t σ H Q) : PA X es t' := ⟨fun pos pins s σ H Q I q => h.run pos pins s σ H Q I (i σ H Q q)⟩
theorem ps_imp {st : Stmt} {t t' : TS} (h : PS X st t) (i : ∀ D σ H, t' D σ H → t D σ H) : PS X st t' := ⟨fun pins s σ H D I q => h.run pins s σ H D I (i D σ H q)⟩
theorem pss_imp {st : List Stmt} {t t' : TS} (h : PSs X st t) (i : ∀ D σ H, t' D σ H → t D σ H) : PSs X st t' := ⟨fun pins s σ H D I q => h.run pins s σ H D I (i D σ H q)⟩

/-- an expression does de; sc: the own slots that its value may go through -/
def PD (X : Cx) (C : Deck S) (W : WX) (e : Expr) (sc : List Nat) (de : DE S) : Prop := PE X e (cte C X.mg W sc de)
def PTd (X : Cx) (C : Deck S) (W : WX) (e : Expr) (dt : DT S) : Prop := PT X e (ctt C X.mg W dt)
def PWd (X : Cx) (C : Deck S) (W : WX) (e : Expr) (dt : DT S) : Prop := PW X e (ctt C X.mg W dt)
def PAd (X : Cx) (C : Deck S) (W : WX) (es : List Expr) (sc : List Nat) (da : DA S) : Prop := PA X es (cta C X.mg W sc da)
def PF (X : Cx) (C : Deck S) (W : WX) (e : Expr) (sc : List Nat) (da : DA S) : Prop := PE X e (ctf C X.mg W sc da)
def PSd (X : Cx) (C : Deck S) (W : WX) (s : Stmt) (ds : DS S) : Prop := PS X s (cts C X.mg W ds)
def PBd (X : Cx) (C : Deck S) (W : WX) (b : List Stmt) (ds : DS S) : Prop := PSs X b (cts C X.mg W ds)

/-! ### names, constants -/
variable {e a b : Expr} {es : List Expr} {pos : Pos} {sc sc' sa sb : List Nat} {de da db : DE S} {dt dt' : DT S} {dl : DA S}
theorem RG.done {α : Type} {x : α} {mg : Str → Option Value} {P : α → S → Hp → Prop} (h : RG C mg W σ H (.ok x st) P) (t : C.At st H) : P x st H := h H Keep.refl t
def dC (d : D) : DE S := fun _ s => .ok d s
def dVar (i : Nat) : DE S := fun ρ s => match ρ[i]? with
  | some (some (.val d)) => .ok d s
  | _ => .bad
def dOwn (i : Nat) : DE S := fun ρ s => match ρ[i]? with
  | some (some (.own ds)) => .ok (.lst ds) s
  | some (some (.val d)) => .ok d s
  | _ => .bad
theorem pd_of (h : PE X e t) (i : ∀ (A0 : Addr → Prop) (H0 : Hp) (A : Addr → Prop) (ρ : En) (st : S) (σ : St) (H : Hp) (Q : VK), SAt C A0 H0 A H σ ρ st →
    RG C X.mg W σ H (de ρ st) (fun d _ H' => ∀ v, Dat C H' (Amin A σ ρ sc) v d → Q v H') → t σ H Q) : PD X C W e sc de :=
  pe_imp h fun σ H Q ⟨A0, H0, A, ρ, st, I, g⟩ => i A0 H0 A ρ st σ H Q I g
theorem pd_int {i : Int} {j} : PD X C W (.Constant (.int i) j pos) [] (dC (.int i)) := pd_of pe_int fun _ _ _ _ _ _ _ _ I g => g.done I.at_ _ (.int i)
theorem pd_bl {k : Bool} {j} : PD X C W (.Constant (.bool k) j pos) [] (dC (.bl k)) := pd_of pe_bl fun _ _ _ _ _ _ _ _ I g => g.done I.at_ _ (.bl k)
theorem pd_non {j} : PD X C W (.Constant .none j pos) [] (dC .non) := pd_of pe_non fun _ _ _ _ _ _ _ _ I g => g.done I.at_ _ .non
theorem pd_str {x : Str} {j} (l : List Nat) (hx : x = mkS l) (hl : SOk l) : PD X C W (.Constant (.str x) j pos) [] (dC (.str l)) := by
  subst hx
  exact pd_of pe_str fun _ _ _ _ _ _ _ _ I g => g.done I.at_ _ (.str hl)
theorem pd_var (i : Nat) {x : Str} (hN : X.N[i]? = some x := by rfl) (hv : Vis X.env.scope x := by first | exact Or.inl rfl | exact Or.inr (Or.inl rfl) | exact Or.inr (Or.inr rfl)) (hd : (x == ("__debug__" : Str)) = false := by decide)
    (hcd : (x == ("__classdict__" : Str)) = false := by decide) : PD X C W (.Name x pos) [] (dVar i) :=
  pd_of (pe_var hN hv hd hcd) fun A0 H0 A ρ st σ H Q I g => by
    unfold dVar at g
    split at g
    · rename_i d q
      obtain ⟨v, e1, h⟩ := I.sl i _ q
      exact ⟨v, e1, g.done I.at_ v (by rw [Amin.nil]; exact h)⟩
    · exact g.elim
theorem pd_own (i : Nat) {x : Str} (hN : X.N[i]? = some x := by rfl) (hv : Vis X.env.scope x := by first | exact Or.inl rfl | exact Or.inr (Or.inl rfl) | exact Or.inr (Or.inr rfl)) (hd : (x == ("__debug__" : Str)) = false := by decide)
    (hcd : (x == ("__classdict__" : Str)) = false := by decide) : PD X C W (.Name x pos) [i] (dOwn i) :=
  pd_of (pe_var hN hv hd hcd) fun A0 H0 A ρ st σ H Q I g => by
    unfold dOwn at g
    split at g
    · rename_i ds q
      obtain ⟨v, e1, a, xs, rfl, h1, h2, h3, h4, h5⟩ := I.sl i _ q
      exact ⟨_, e1, g.done I.at_ _ (Dat.lst_mk (fun z => z.2 i (by simp) ds q e1) h4 (h5.less fun _ => Amin.sub))⟩
    · rename_i d q
      obtain ⟨v, e1, h⟩ := I.sl i _ q
      exact ⟨v, e1, g.done I.at_ v (Dat.less h fun _ => Amin.sub)⟩
    · exact g.elim
/-- a module's name that holds a plain value -/
theorem pd_glob {x : Str} {d : D} {v : V} {u : Value} (hm : X.mg x = some u) (r : RelV v u) (hd : ∀ (H : Hp) (A : Addr → Prop), Dat C H A v d) (hg : Gl X x := by rfl) (hdb : (x == ("__debug__" : Str)) = false := by decide) : PD X C W (.Name x pos) [] (dC d) :=
  pd_of (pe_glob hg hm r hdb) fun _ _ _ _ _ _ _ _ I g => g.done I.at_ _ (hd _ _)
/-- more slots may be named -/
theorem pd_more (h : PD X C W e sc de) (hs : ∀ i ∈ sc, i ∈ sc') : PD X C W e sc' de :=
  pd_of h fun A0 H0 A ρ st σ H Q I g => ⟨A0, H0, A, ρ, st, I, g.imp fun d s H' _ _ q v dv => q v (dv.less fun _ => Amin.more hs)⟩

/-! ### argument lists, displays -/
def dNil : DA S := fun _ s => .ok [] s
def dCons (de : DE S) (dl : DA S) : DA S := fun ρ s => (de ρ s).bind fun d s1 => (dl ρ s1).bind fun ds s2 => .ok (d :: ds) s2
theorem pad_nil : PAd X C W [] [] (dNil : DA S) := pa_imp pa_nil fun σ H Q ⟨A0, H0, A, ρ, st, I, g⟩ => g.done I.at_ [] Dats.nil
theorem pad_cons (h : PD X C W e sa de) (t : PAd X C W es sb dl) (hs : starEach (e :: es) X.env = (false, eval e X.env) :: starEach es X.env := by rfl) : PAd X C W (e :: es) (sa ++ sb) (dCons de dl) :=
  pa_imp (pa_cons h t hs) fun σ H Q ⟨A0, H0, A, ρ, st, I, g⟩ =>
    ⟨A0, H0, A, ρ, st, I, g.bind.imp fun d s1 H1 k1 t1 g1 v dv => by
      have I1 := I.next k1 t1
      refine ⟨A0, H0, A, ρ, s1, I1, g1.bind.imp fun ds s2 H2 k2 t2 g2 vs dvs => ?_⟩
      exact g2.done t2 (v :: vs) (.cons ((dv.keep k2 (I1.dom0 sa)).less fun _ => Amin.more fun i hi => List.mem_append_left _ hi) (dvs.less fun _ => Amin.more fun i hi => List.mem_append_right _ hi))⟩
def dTup (dl : DA S) : DE S := fun ρ s => (dl ρ s).bind fun ds s1 => if ds.length ≤ 65536 then .ok (.tup ds) s1 else .bad
theorem small_line {n : Nat} (h : n ≤ 65536) : n ≤ sizeLine := by rw [sizeLine_eq]; omega
theorem pd_tup {x1} (h : PAd X C W es sc dl) : PD X C W (.Tuple es x1 pos) sc (dTup dl) :=
  pd_of (pe_tup h) fun A0 H0 A ρ st σ H Q I g => ⟨A0, H0, A, ρ, st, I, g.bind.imp fun ds s1 H1 k1 t1 g1 vs dvs => by
    by_cases hl : ds.length ≤ 65536
    · rw [if_pos hl] at g1
      have I1 := I.next k1 t1
      refine ⟨by rw [dvs.len]; exact small_line hl, fun p hp => ?_⟩
      have kp : Keep C.dom H1 (upd H1 p (.tup vs)) := Keep.upd hp
      refine g1 _ kp (C.stab _ _ _ t1 fun a ha => upd_ne fun z => ?_) (.ref p) (Dat.tup_mk (fun z => I1.fresh p z.1 hp) upd_same (dvs.keep kp (I1.dom0 sc)))
      subst z
      exact C.there _ _ _ t1 ha hp
    · rw [if_neg hl] at g1; exact g1.elim⟩
def dLst (dl : DA S) : DA S := fun ρ s => (dl ρ s).bind fun ds s1 => if ds.length ≤ 65536 then .ok ds s1 else .bad
theorem pf_of (h : PE X e t) (i : ∀ (A0 : Addr → Prop) (H0 : Hp) (A : Addr → Prop) (ρ : En) (st : S) (σ : St) (H : Hp) (Q : VK), SAt C A0 H0 A H σ ρ st →
    RG C X.mg W σ H (dl ρ st) (fun ds _ H1 => ∀ p xs, H1 p = none → Dats C H1 (Amin A σ ρ sc) xs ds → xs.length ≤ sizeLine → Q (.ref p) (upd H1 p (.lst xs))) → t σ H Q) : PF X C W e sc dl :=
  pe_imp h fun σ H Q ⟨A0, H0, A, ρ, st, I, g⟩ => i A0 H0 A ρ st σ H Q I g
theorem pf_lst (h : PAd X C W es sc dl) : PF X C W (.List es pos) sc (dLst dl) :=
  pf_of (pe_lst h) fun A0 H0 A ρ st σ H Q I g => ⟨A0, H0, A, ρ, st, I, g.bind.imp fun ds s1 H1 k1 t1 g1 vs dvs => by
    by_cases hl : ds.length ≤ 65536
    · rw [if_pos hl] at g1
      have hz : vs.length ≤ sizeLine := by rw [dvs.len]; exact small_line hl
      exact ⟨hz, fun p hp => g1.done t1 p vs hp dvs hz⟩
    · rw [if_neg hl] at g1; exact g1.elim⟩
/-- a fresh list as a value -/
def dF (dl : DA S) : DE S := fun ρ s => (dl ρ s).map .lst
theorem RG.map {α β : Type} {r : R S α} {f : α → β} {mg : Str → Option Value} {P : β → S → Hp → Prop} (h : RG C mg W σ H (r.map f) P) : RG C mg W σ H r fun a s H' => P (f a) s H' := by
  cases r with
  | ok a s => exact h
  | ex c s => exact h
  | bad => exact h
theorem RG.keepOk {α : Type} {r : R S α} {mg : Str → Option Value} {P : α → S → Hp → Prop} (h : RG C mg W σ H r P) : RG C mg W σ H r fun a s H' => ∀ H'', Keep C.dom H' H'' → C.At s H'' → P a s H'' := by
  cases r with
  | ok a s => exact fun H' k _ H'' k' t => h H'' (k.trans k') t
  | ex c s => exact h
  | bad => exact h
theorem at_upd {s : S} {p : Addr} {o : HO} (t : C.At s H) (hp : H p = none) : C.At s (upd H p o) := C.stab _ _ _ t fun a ha => upd_ne fun z => by
  subst z
  exact C.there _ _ _ t ha hp
theorem pd_f (h : PF X C W e sc dl) : PD X C W e sc (dF dl) :=
  pd_of h fun A0 H0 A ρ st σ H Q I g => ⟨A0, H0, A, ρ, st, I, g.map.keepOk.imp fun ds s1 H1 k1 t1 g1 p xs hp dxs hz => by
    have I1 := I.next k1 t1
    have kp : Keep C.dom H1 (upd H1 p (.lst xs)) := Keep.upd hp
    exact g1 _ kp (at_upd t1 hp) (.ref p) (Dat.lst_mk (fun z => I1.fresh p z.1 hp) upd_same (dxs.keep kp (I1.dom0 sc)))⟩
end
end Mir

set_option Elab.async false
set_option linter.all false
set_option maxRecDepth 100000
set_option maxHeartbeats 2000000
namespace Mir
open PySem PySem.Spec L2
open PyProof.Rows hiding St

/-! ### equality of data -/
mutual
def eqD : D → D → Bool
  | .non, .non => true
  | .bl a, .bl b => a == b
  | .bl a, .int j => (if a then 1 else 0) == j
  | .int i, .bl b => i == (if b then 1 else 0)
  | .int i, .int j => i == j
  | .str x, .str y => x == y
  | .tup xs, .tup ys => eqDs xs ys
  | .lst xs, .lst ys => eqDs xs ys
  | _, _ => false
def eqDs : List D → List D → Bool
  | [], [] => true
  | x :: xs, y :: ys => eqD x y && eqDs xs ys
  | _, _ => false
end
mutual
def toPy : D → PyData
  | .non => .none
  | .bl b => .bool b
  | .int i => .int i
  | .str l => .str (mkS l)
  | .tup ds => .tuple (toPys ds)
  | .lst ds => .list (toPys ds)
  | .dic _ _ => .dict []
  | .deck => .dict []
  | .ext _ => .dict []
def toPys : List D → List PyData
  | [] => []
  | d :: ds => toPy d :: toPys ds
end
/-- data, at most n deep -/
def fit : Nat → D → Bool
  | _, .non => true
  | _, .bl _ => true
  | _, .int _ => true
  | _, .str _ => true
  | n + 1, .tup ds => ds.all (fit n)
  | n + 1, .lst ds => ds.all (fit n)
  | _, _ => false
theorem mkS_eq (x y : List Nat) : ((mkS x) == (mkS y)) = (x == y) := by
  rw [Bool.eq_iff_iff, beq_iff_eq, beq_iff_eq]
  constructor
  · intro h
    have := congrArg (fun s : Str => s.cps.toList) h
    simpa using this
  · intro h; rw [h]
theorem dec_mkS (x y : List Nat) : decide (mkS x = mkS y) = (x == y) := by
  rw [← mkS_eq]
  rw [Bool.eq_iff_iff]; simp
def plainD : D → Bool
  | .dic _ _ => false
  | .deck => false
  | .ext _ => false
  | _ => true
theorem fit_plain : ∀ {n : Nat} {d : D}, fit n d = true → plainD d = true
  | n, .non, _ => rfl
  | n, .bl _, _ => rfl
  | n, .int _, _ => rfl
  | n, .str _, _ => rfl
  | n, .tup _, _ => rfl
  | n, .lst _, _ => rfl
  | 0, .dic _ _, h => by simp [fit] at h
  | n + 1, .dic _ _, h => by simp [fit] at h
  | 0, .deck, h => by simp [fit] at h
  | n + 1, .deck, h => by simp [fit] at h
  | 0, .ext _, h => by simp [fit] at h
  | n + 1, .ext _, h => by simp [fit] at h
mutual
theorem eqv_py : ∀ (n m : Nat) (a b : D), fit n a = true → fit m b = true → PyData.eqv (toPy a) (toPy b) = eqD a b
  | n, m, .non, b, ha, hb => by cases b <;> first | (have := fit_plain hb; simp [plainD] at this; done) | simp [toPy, PyData.eqv, eqD]
  | n, m, .bl x, b, ha, hb => by cases b <;> first | (have := fit_plain hb; simp [plainD] at this; done) | simp [toPy, PyData.eqv, eqD]
  | n, m, .int x, b, ha, hb => by cases b <;> first | (have := fit_plain hb; simp [plainD] at this; done) | simp [toPy, PyData.eqv, eqD]
  | n, m, .str x, b, ha, hb => by cases b <;> first | (have := fit_plain hb; simp [plainD] at this; done) | simp only [toPy, PyData.eqv, eqD, mkS_eq]
  | 0, m, .tup x, b, ha, hb => by simp [fit] at ha
  | 0, m, .lst x, b, ha, hb => by simp [fit] at ha
  | n + 1, m, .tup x, b, ha, hb => by
    cases b with
    | tup y =>
      cases m with
      | zero => simp [fit] at hb
      | succ m =>
        simp only [fit] at ha hb
        simp only [toPy, PyData.eqv, eqD]
        exact eqvs_py n m x y ha hb
    | dic _ _ => have := fit_plain hb; simp [plainD] at this
    | deck => have := fit_plain hb; simp [plainD] at this
    | ext _ => have := fit_plain hb; simp [plainD] at this
    | _ => simp [toPy, PyData.eqv, eqD]
  | n + 1, m, .lst x, b, ha, hb => by
    cases b with
    | lst y =>
      cases m with
      | zero => simp [fit] at hb
      | succ m =>
        simp only [fit] at ha hb
        simp only [toPy, PyData.eqv, eqD]
        exact eqvs_py n m x y ha hb
    | dic _ _ => have := fit_plain hb; simp [plainD] at this
    | deck => have := fit_plain hb; simp [plainD] at this
    | ext _ => have := fit_plain hb; simp [plainD] at this
    | _ => simp [toPy, PyData.eqv, eqD]
  | 0, m, .dic _ _, b, ha, hb => by simp [fit] at ha
  | n + 1, m, .dic _ _, b, ha, hb => by simp [fit] at ha
  | 0, m, .deck, b, ha, hb => by simp [fit] at ha
  | n + 1, m, .deck, b, ha, hb => by simp [fit] at ha
  | 0, m, .ext _, b, ha, hb => by simp [fit] at ha
  | n + 1, m, .ext _, b, ha, hb => by simp [fit] at ha
theorem eqvs_py : ∀ (n m : Nat) (a b : List D), a.all (fit n) = true → b.all (fit m) = true → PyData.eqvAll (toPys a) (toPys b) = eqDs a b
  | n, m, [], [], _, _ => by simp [toPys, PyData.eqvAll, eqDs]
  | n, m, [], y :: ys, _, _ => by simp [toPys, PyData.eqvAll, eqDs]
  | n, m, x :: xs, [], _, _ => by simp [toPys, PyData.eqvAll, eqDs]
  | n, m, x :: xs, y :: ys, ha, hb => by
    simp only [List.all_cons, Bool.and_eq_true] at ha hb
    simp only [toPys, PyData.eqvAll, eqDs, eqv_py n m x y ha.1 hb.1, eqvs_py n m xs ys ha.2 hb.2]
end
theorem strOk_mk {l : List Nat} (h : SOk l) : PyData.strOk (mkS l) = true := by
  unfold PyData.strOk
  rw [show (mkS l).cps = l.toArray from rfl, List.all_toArray, List.all_eq_true]
  exact fun c hc => decide_eq_true (h.2 c hc)
section
variable {S : Type} {C : Deck S} {K : PySem.W.Frag} {H : Hp} {A : Addr → Prop}
mutual
theorem dp_of : ∀ (n : Nat) (d : D) (v : V), Dat C H A v d → fit n d = true → Dp K H v (toPy d) ∧ (toPy d).canLay0 = true ∧ (toPy d).depth ≤ n
  | n, .non, v, h, _ => by cases h; exact ⟨by simp only [toPy]; exact .non, by simp [toPy, PyData.canLay0], by simp [toPy, PyData.depth]⟩
  | n, .bl b, v, h, _ => by cases h; exact ⟨by simp only [toPy]; exact .bl b, by simp [toPy, PyData.canLay0], by simp [toPy, PyData.depth]⟩
  | n, .int i, v, h, _ => by cases h; exact ⟨by simp only [toPy]; exact .int i, by simp [toPy, PyData.canLay0], by simp [toPy, PyData.depth]⟩
  | n, .str l, v, h, _ => by cases h with | str s => exact ⟨by simp only [toPy]; exact .str _, by simp only [toPy, PyData.canLay0]; exact strOk_mk s, by simp [toPy, PyData.depth]⟩
  | 0, .tup ds, v, h, f => by simp [fit] at f
  | n + 1, .tup ds, v, h, f => by
    obtain ⟨a, xs, rfl, na, r, hd⟩ := h.of_tup
    simp only [fit] at f
    obtain ⟨h1, h2, h3⟩ := dps_of n ds xs hd f
    exact ⟨by simp only [toPy]; exact .tup (.of r) h1, by simpa only [toPy, PyData.canLay0] using h2, by simp only [toPy, PyData.depth]; omega⟩
  | 0, .lst ds, v, h, f => by simp [fit] at f
  | n + 1, .lst ds, v, h, f => by
    obtain ⟨a, xs, rfl, na, r, hd⟩ := h.of_lst
    simp only [fit] at f
    obtain ⟨h1, h2, h3⟩ := dps_of n ds xs hd f
    exact ⟨by simp only [toPy]; exact .lst (.of r) h1, by simpa only [toPy, PyData.canLay0] using h2, by simp only [toPy, PyData.depth]; omega⟩
  | 0, .dic _ _, _, _, f => by simp [fit] at f
  | n + 1, .dic _ _, _, _, f => by simp [fit] at f
  | 0, .deck, _, _, f => by simp [fit] at f
  | n + 1, .deck, _, _, f => by simp [fit] at f
  | 0, .ext _, _, _, f => by simp [fit] at f
  | n + 1, .ext _, _, _, f => by simp [fit] at f
theorem dps_of : ∀ (n : Nat) (ds : List D) (xs : List V), Dats C H A xs ds → ds.all (fit n) = true → DpAll K H xs (toPys ds) ∧ PyData.canLayAll0 (toPys ds) = true ∧ PyData.depthAll (toPys ds) ≤ n
  | n, [], xs, h, _ => by rw [h.unnil]; exact ⟨by simp only [toPys]; exact .nil, by simp [toPys, PyData.canLayAll0], by simp [toPys, PyData.depthAll]⟩
  | n, d :: ds, xs, h, f => by
    obtain ⟨x, r, rfl, h1, h2⟩ := h.uncons
    simp only [List.all_cons, Bool.and_eq_true] at f
    obtain ⟨p1, p2, p3⟩ := dp_of n d x h1 f.1
    obtain ⟨q1, q2, q3⟩ := dps_of n ds r h2 f.2
    exact ⟨by simp only [toPys]; exact .cons p1 q1, by simp only [toPys, PyData.canLayAll0, p2, q2, Bool.and_self], by simp only [toPys, PyData.depthAll]; omega⟩
end
theorem dp_shaped {d : D} {v : V} (h : Dat C H A v d) (f : fit 64 d = true) : Dp K H v (toPy d) ∧ SeqAt.shaped (toPy d) = true := by
  obtain ⟨h1, h2, h3⟩ := dp_of (K := K) 64 d v h f
  exact ⟨h1, by unfold SeqAt.shaped; rw [h2]; simp [h3]⟩
end

/-! ### operators -/
section
variable {S : Type} {C : Deck S} {X : Cx} {W : WX} {A0 A A' : Addr → Prop} {H0 H H' : Hp} {σ : St} {ρ : En} {st st' : S}
/-- what stands around a value's rule -/
structure VAt (C : Deck S) (A : Addr → Prop) (H : Hp) (s : S) : Prop where
  fresh : ∀ a, A a → H a ≠ none
  dom : ∀ a, C.dom a → A a
  at_ : C.At s H
theorem SAt.vat (I : SAt C A0 H0 A H σ ρ st) (sc : List Nat) : VAt C (Amin A σ ρ sc) H st := ⟨fun a h => I.fresh a h.1, I.dom0 sc, I.at_⟩
/-- a new object, as data -/
theorem VAt.new {s : S} {p : Addr} {o : HO} (I : VAt C A H s) (hp : H p = none) : Keep C.dom H (upd H p o) ∧ C.At s (upd H p o) ∧ ¬ A p :=
  ⟨Keep.upd hp, at_upd I.at_ hp, fun z => I.fresh p z hp⟩
def OpD (C : Deck S) (r : R2) (f : D → D → Option D) : Prop := ∀ (A : Addr → Prop) (s : S) (H : Hp) (x y : V) (dx dy d : D) (Q : VK), VAt C A H s → Dat C H A x dx → Dat C H A y dy → f dx dy = some d →
  (∀ H' v, Keep C.dom H H' → C.At s H' → Dat C H' A v d → Q v H') → r x y H Q
def ofO {α : Type} (s : S) : Option α → R S α
  | some a => .ok a s
  | none => .bad
@[simp] theorem ofO_some {α : Type} {s : S} {a : α} : ofO s (some a) = .ok a s := rfl
@[simp] theorem ofO_none {α : Type} {s : S} : (ofO s none : R S α) = .bad := rfl
def dBin (f : D → D → Option D) (da db : DE S) : DE S := fun ρ s => (da ρ s).bind fun x s1 => (db ρ s1).bind fun y s2 => ofO s2 (f x y)
theorem RG.ofO {α : Type} {s : S} {o : Option α} {mg : Str → Option Value} {P : α → S → Hp → Prop} (h : RG C mg W σ H (ofO s o) P) : ∃ a, o = some a ∧ ∀ H', Keep C.dom H H' → C.At s H' → P a s H' := by
  cases o with
  | none => exact h.elim
  | some a => exact ⟨a, rfl, h⟩
variable {e a b c : Expr} {es : List Expr} {pos : Pos} {sc sc' sa sb : List Nat} {de da db dc : DE S} {dt dt' : DT S} {dl : DA S} {f f' : D → D → Option D} {r r' : R2}
theorem tOp_d (I : SAt C A0 H0 A H σ ρ st) {Q : VK} (hr : OpD C r f) (g : RG C X.mg W σ H (dBin f da db ρ st) fun d _ H' => ∀ v, Dat C H' (Amin A σ ρ (sa ++ sb)) v d → Q v H') : tOp r (cte C X.mg W sa da) (cte C X.mg W sb db) σ H Q :=
  ⟨A0, H0, A, ρ, st, I, g.bind.imp fun d s1 H1 k1 t1 g1 v dv => by
    have I1 := I.next k1 t1
    refine ⟨A0, H0, A, ρ, s1, I1, g1.bind.imp fun d2 s2 H2 k2 t2 g2 v2 dv2 => ?_⟩
    obtain ⟨d3, e3, q⟩ := g2.ofO
    have I2 := I1.next k2 t2
    exact hr (Amin A σ ρ (sa ++ sb)) s2 H2 v v2 d d2 d3 Q (I2.vat _) ((dv.keep k2 (I1.dom0 sa)).less fun _ => Amin.more fun i hi => List.mem_append_left _ hi) (dv2.less fun _ => Amin.more fun i hi => List.mem_append_right _ hi) e3
      fun H' v' k t h => q H' k t v' h⟩
theorem pd_bin {op : Operator} (ho : OpR X (binaryOp op) r) (hr : OpD C r f) (ha : PD X C W a sa da) (hb : PD X C W b sb db) : PD X C W (.BinOp a op b pos) (sa ++ sb) (dBin f da db) :=
  pd_of (pe_op ho ha hb) fun A0 H0 A ρ st σ H Q I g => tOp_d I hr g
theorem OpD.or (h : OpD C r f) (h' : OpD C r' f') : OpD C (fun x y H Q => r x y H Q ∨ r' x y H Q) (fun x y => (f x y).or (f' x y)) := fun A s H x y dx dy d Q I h1 h2 e q => by
  dsimp only at e
  cases z : f dx dy with
  | some d' =>
    rw [z] at e
    cases e
    exact .inl (h A s H x y dx dy _ Q I h1 h2 z q)
  | none =>
    rw [z] at e
    exact .inr (h' A s H x y dx dy _ Q I h1 h2 e q)
/-- ints -/
def fI (g : Int → Int → Option Int) : D → D → Option D
  | .int i, .int j => (g i j).map .int
  | _, _ => none
theorem od_int {Cc : Int → Int → Prop} {g : Int → Int → Int} (k : Int → Int → Bool) (hk : ∀ i j, k i j = true → Cc i j) : OpD C (rI Cc fun i j => .int (g i j)) (fI fun i j => if k i j then some (g i j) else none) := by
  intro A s H x y dx dy d Q I h1 h2 e q
  cases h1 with
  | int i =>
    cases h2 with
    | int j =>
      simp only [fI] at e
      by_cases z : k i j = true
      · rw [if_pos z] at e
        simp only [Option.map_some, Option.some.injEq] at e
        subst e
        exact ⟨i, j, rfl, rfl, hk i j z, q H _ Keep.refl I.at_ (.int _)⟩
      · rw [if_neg z] at e; cases e
    | _ => cases e
  | _ => cases e
theorem od_int0 {g : Int → Int → Int} : OpD C (rI0 fun i j => .int (g i j)) (fI fun i j => some (g i j)) := by
  intro A s H x y dx dy d Q I h1 h2 e q
  cases h1 with
  | int i =>
    cases h2 with
    | int j =>
      simp only [fI, Option.map_some, Option.some.injEq] at e
      subst e
      exact ⟨i, j, rfl, rfl, q H _ Keep.refl I.at_ (.int _)⟩
    | _ => cases e
  | _ => cases e
theorem line_eq : sizeLine = 16777216 := sizeLine_eq
def addS : D → D → Option D
  | .str x, .str y => if x.length + y.length ≤ 1048576 then some (.str (x ++ y)) else none
  | _, _ => none
theorem SOk.app {x y : List Nat} (h : SOk x) (h' : SOk y) (l : x.length + y.length ≤ 1048576) : SOk (x ++ y) := ⟨by rw [List.length_append]; exact l, fun c hc => (List.mem_append.mp hc).elim (h.2 c) (h'.2 c)⟩
theorem mkS_app (x y : List Nat) : mkS x ++ mkS y = mkS (x ++ y) := by
  show Str.mk (x.toArray ++ y.toArray) = Str.mk (x ++ y).toArray
  congr 1
  simp
theorem mkS_len (x : List Nat) : (mkS x).length = x.length := by show x.toArray.size = _; simp
theorem od_addS : OpD C (fun x y H Q => ∃ i j, x = .str i ∧ y = .str j ∧ i.length + j.length ≤ sizeLine ∧ Q (.str (i ++ j)) H) addS := by
  intro A s H x y dx dy d Q I h1 h2 e q
  cases h1 with
  | str o1 =>
    cases h2 with
    | str o2 =>
      rename_i l1 l2
      simp only [addS] at e
      by_cases z : l1.length + l2.length ≤ 1048576
      · rw [if_pos z] at e
        cases e
        refine ⟨_, _, rfl, rfl, by rw [mkS_len, mkS_len, line_eq]; omega, ?_⟩
        rw [mkS_app]
        exact q H _ Keep.refl I.at_ (.str (o1.app o2 z))
      · rw [if_neg z] at e; cases e
    | _ => cases e
  | _ => cases e
def addT : D → D → Option D
  | .tup x, .tup y => if x.length + y.length ≤ 65536 then some (.tup (x ++ y)) else none
  | _, _ => none
theorem od_addT {K : PySem.W.Frag} : OpD C (rCatA K) addT := by
  intro A s H x y dx dy d Q I h1 h2 e q
  cases dx with
  | tup ds =>
    cases dy with
    | tup es =>
      simp only [addT] at e
      by_cases z : ds.length + es.length ≤ 65536
      · rw [if_pos z] at e
        cases e
        obtain ⟨p1, xs, rfl, n1, r1, t1⟩ := h1.of_tup
        obtain ⟨p2, ys, rfl, n2, r2, t2⟩ := h2.of_tup
        refine ⟨p1, p2, xs, ys, rfl, rfl, .of r1, .of r2, by rw [t1.len, t2.len, line_eq]; omega, fun ex => ?_, fun _ ey => ?_, fun _ _ p hp => ?_⟩
        · have e1 : ds = [] := List.length_eq_zero_iff.mp (by rw [← t1.len, ex]; rfl)
          rw [e1, List.nil_append] at q
          exact q H _ Keep.refl I.at_ h2
        · have e1 : es = [] := List.length_eq_zero_iff.mp (by rw [← t2.len, ey]; rfl)
          rw [e1, List.append_nil] at q
          exact q H _ Keep.refl I.at_ h1
        · obtain ⟨k, t, n⟩ := I.new (o := .tup (xs ++ ys)) hp
          exact q _ _ k t (Dat.tup_mk n upd_same ((t1.append t2).keep k I.dom))
      · rw [if_neg z] at e; cases e
    | _ => cases e
  | _ => cases e
def addL : D → D → Option D
  | .lst x, .lst y => if x.length + y.length ≤ 65536 then some (.lst (x ++ y)) else none
  | _, _ => none
theorem od_addL : OpD C rCat addL := by
  intro A s H x y dx dy d Q I h1 h2 e q
  cases dx with
  | lst ds =>
    cases dy with
    | lst es =>
      simp only [addL] at e
      by_cases z : ds.length + es.length ≤ 65536
      · rw [if_pos z] at e
        cases e
        obtain ⟨p1, xs, rfl, n1, r1, t1⟩ := h1.of_lst
        obtain ⟨p2, ys, rfl, n2, r2, t2⟩ := h2.of_lst
        refine ⟨p1, p2, xs, ys, rfl, rfl, r1, r2, by rw [t1.len, t2.len, line_eq]; omega, fun p hp => ?_⟩
        obtain ⟨k, t, n⟩ := I.new (o := .lst (xs ++ ys)) hp
        exact q _ _ k t (Dat.lst_mk n upd_same ((t1.append t2).keep k I.dom))
      · rw [if_neg z] at e; cases e
    | _ => cases e
  | _ => cases e
/-- a + b -/
def addD : D → D → Option D
  | .int i, .int j => some (.int (i + j))
  | .str x, .str y => if x.length + y.length ≤ 1048576 then some (.str (x ++ y)) else none
  | .tup x, .tup y => if x.length + y.length ≤ 65536 then some (.tup (x ++ y)) else none
  | .lst x, .lst y => if x.length + y.length ≤ 65536 then some (.lst (x ++ y)) else none
  | _, _ => none
def rAddD (K : PySem.W.Frag) : R2 := fun x y H Q => (rI0 fun i j => V.int (i + j)) x y H Q ∨ (∃ i j, x = .str i ∧ y = .str j ∧ i.length + j.length ≤ sizeLine ∧ Q (.str (i ++ j)) H) ∨ rCatA K x y H Q ∨ rCat x y H Q
theorem opr_add : OpR X (binaryOp .Add) (rAddD X.K) := op_add.or (op_add_str.or (op_catA.or op_cat))
theorem OpD.imp (h : OpD C r f) (i : ∀ x y d, f' x y = some d → f x y = some d) : OpD C r f' := fun A s H x y dx dy d Q I h1 h2 e q => h A s H x y dx dy d Q I h1 h2 (i _ _ _ e) q
theorem od_add0 {K : PySem.W.Frag} : OpD C (rAddD K) (fun x y => (fI (fun i j => some (i + j)) x y).or ((addS x y).or ((addT x y).or (addL x y)))) := od_int0.or (od_addS.or (od_addT.or od_addL))
theorem od_add {K : PySem.W.Frag} : OpD C (rAddD K) addD := od_add0.imp fun x y d e => by
  cases x <;> cases y <;> simp only [addD] at e <;> try cases e
  all_goals simp only [fI, addS, addT, addL, Option.map_some, Option.none_or, Option.some_or, Option.or_none]
  all_goals exact e
theorem pd_add (ha : PD X C W a sa da) (hb : PD X C W b sb db) : PD X C W (.BinOp a .Add b pos) (sa ++ sb) (dBin addD da db) := pd_bin opr_add od_add ha hb
def subD : D → D → Option D
  | .int i, .int j => some (.int (i - j))
  | _, _ => none
theorem pd_sub (ha : PD X C W a sa da) (hb : PD X C W b sb db) : PD X C W (.BinOp a .Sub b pos) (sa ++ sb) (dBin subD da db) := pd_bin op_sub (od_int0.imp fun x y d e => by cases x <;> cases y <;> first | (cases e; rfl) | cases e) ha hb

/-! ### comparisons -/
def cmpI (g : Int → Int → Bool) : D → D → Option D
  | .int i, .int j => some (.bl (g i j))
  | _, _ => none
theorem oc_int {g : Int → Int → Bool} : OpD C (rI0 fun i j => .bl (g i j)) (cmpI g) := by
  intro A s H x y dx dy d Q I h1 h2 e q
  cases h1 with
  | int i =>
    cases h2 with
    | int j => cases e; exact ⟨i, j, rfl, rfl, q H _ Keep.refl I.at_ (.bl _)⟩
    | _ => cases e
  | _ => cases e
def eqF (neg : Bool) : D → D → Option D := fun x y => if fit 64 x && fit 64 y then some (.bl (if neg then !eqD x y else eqD x y)) else none
theorem oc_eq {K : PySem.W.Frag} : OpD C (rEqD K) (eqF false) := by
  intro A s H x y dx dy d Q I h1 h2 e q
  unfold eqF at e
  by_cases z : (fit 64 dx && fit 64 dy) = true
  · rw [if_pos z] at e
    simp only [Bool.and_eq_true] at z
    cases e
    obtain ⟨p1, s1⟩ := dp_shaped (K := K) h1 z.1
    obtain ⟨p2, s2⟩ := dp_shaped (K := K) h2 z.2
    refine ⟨_, _, p1, p2, s1, s2, ?_⟩
    rw [eqv_py 64 64 dx dy z.1 z.2]
    exact q H _ Keep.refl I.at_ (.bl _)
  · rw [if_neg z] at e; cases e
theorem oc_ne {K : PySem.W.Frag} : OpD C (rNeD K) (eqF true) := by
  intro A s H x y dx dy d Q I h1 h2 e q
  unfold eqF at e
  by_cases z : (fit 64 dx && fit 64 dy) = true
  · rw [if_pos z] at e
    simp only [Bool.and_eq_true] at z
    cases e
    obtain ⟨p1, s1⟩ := dp_shaped (K := K) h1 z.1
    obtain ⟨p2, s2⟩ := dp_shaped (K := K) h2 z.2
    refine ⟨_, _, p1, p2, s1, s2, ?_⟩
    rw [eqv_py 64 64 dx dy z.1 z.2]
    exact q H _ Keep.refl I.at_ (.bl _)
  · rw [if_neg z] at e; cases e
/-- is None -/
def isN (neg : Bool) : D → D → Option D
  | x, .non => match x with
    | .non => some (.bl (!neg))
    | .ext _ => none
    | .deck => none
    | _ => some (.bl neg)
  | _, _ => none
theorem oc_isN : OpD C (fun x y H Q => y = .non ∧ Q (.bl (decide (x = .non))) H) (isN false) := by
  intro A s H x y dx dy d Q I h1 h2 e q
  cases dy <;> simp only [isN] at e <;> try cases e
  cases h2
  refine ⟨rfl, ?_⟩
  cases h1 <;> simp only [isN] at e <;> cases e <;> exact q H _ Keep.refl I.at_ (by simpa using Dat.bl _)
theorem oc_notN : OpD C (fun x y H Q => y = .non ∧ Q (.bl (!decide (x = .non))) H) (isN true) := by
  intro A s H x y dx dy d Q I h1 h2 e q
  cases dy <;> simp only [isN] at e <;> try cases e
  cases h2
  refine ⟨rfl, ?_⟩
  cases h1 <;> simp only [isN] at e <;> cases e <;> exact q H _ Keep.refl I.at_ (by simpa using Dat.bl _)
theorem pd_cmp {op : CmpOp} (ho : OpR X (compareOp op) r) (hr : OpD C r f) (ha : PD X C W a sa da) (hb : PD X C W b sb db) (hm : behindInMarks op b = false) : PD X C W (.Compare a [op] [b] pos) (sa ++ sb) (dBin f da db) :=
  pd_of (pe_cmpR ho ha hb hm) fun A0 H0 A ρ st σ H Q I g => tOp_d I hr g
/-- a value that is True or False -/
def asB : D → Option Bool
  | .bl b => some b
  | _ => none
def dB (de : DE S) : DT S := fun ρ s => (de ρ s).bind fun d s1 => ofO s1 (asB d)
theorem asB_some {d : D} {b : Bool} (h : asB d = some b) : d = .bl b := by cases d <;> simp [asB] at h; subst h; rfl
theorem ptd_of (h : PT X e t) (i : ∀ (A0 : Addr → Prop) (H0 : Hp) (A : Addr → Prop) (ρ : En) (st : S) (σ : St) (H : Hp) (Q : Bool → Hp → Prop), SAt C A0 H0 A H σ ρ st →
    RG C X.mg W σ H (dt ρ st) (fun b _ H' => Q b H') → t σ H Q) : PTd X C W e dt :=
  pt_imp h fun σ H Q ⟨A0, H0, A, ρ, st, I, g⟩ => i A0 H0 A ρ st σ H Q I g
theorem ptd_cmp {op : CmpOp} (ho : OpR X (compareOp op) r) (hr : OpD C r f) (ha : PD X C W a sa da) (hb : PD X C W b sb db) (hm : behindInMarks op b = false) : PTd X C W (.Compare a [op] [b] pos) (dB (dBin f da db)) :=
  ptd_of (pt_cmpR ho ha hb hm) fun A0 H0 A ρ st σ H Q I g => tOp_d (sa := sa) (sb := sb) I hr (g.bind.imp fun d s1 H1 k1 t1 g1 v dv => by
    obtain ⟨b, eb, q⟩ := g1.ofO
    have := asB_some eb
    subst this
    cases dv
    exact ⟨b, rfl, q H1 Keep.refl t1⟩)
end
end Mir

set_option Elab.async false
set_option linter.all false
set_option maxRecDepth 100000
set_option maxHeartbeats 2000000
namespace Mir
open PySem PySem.Spec L2
open PyProof.Rows hiding St

section
variable {S : Type} {C : Deck S} {X : Cx} {W : WX} {A0 A A' : Addr → Prop} {H0 H H' : Hp} {σ : St} {ρ : En} {st st' : S}
variable {e a b c : Expr} {es rest : List Expr} {pos p p2 : Pos} {sc sc' sa sb : List Nat} {de da db dc : DE S} {dt dt' du : DT S} {dl : DA S} {f f' : D → D → Option D} {r r' : R2}
/-! ### comparisons by their operators -/
def ltD : D → D → Option D
  | .int i, .int j => some (.bl (decide (i < j)))
  | .str x, .str y => some (.bl (decide (x < y)))
  | _, _ => none
def rLtD : R2 := fun x y H Q => (rI0 fun i j => V.bl (decide (i < j))) x y H Q ∨ ∃ i j, x = .str i ∧ y = .str j ∧ Q (.bl (decide (i.cps.toList < j.cps.toList))) H
theorem opr_lt : OpR X (compareOp .Lt) rLtD := op_lt.or op_lt_str
theorem od_lt : OpD C rLtD ltD := by
  intro A s H x y dx dy d Q I h1 h2 e q
  cases h1 <;> cases h2 <;> simp only [ltD] at e <;> first | cases e | skip
  · exact .inl ⟨_, _, rfl, rfl, q H _ Keep.refl I.at_ (.bl _)⟩
  · refine .inr ⟨_, _, rfl, rfl, ?_⟩
    exact q H _ Keep.refl I.at_ (.bl _)
def leD : D → D → Option D := cmpI fun i j => decide (i ≤ j)
def gtD : D → D → Option D := cmpI fun i j => decide (j < i)
def geD : D → D → Option D := cmpI fun i j => decide (j ≤ i)
def eqO : D → D → Option D := eqF false
def neO : D → D → Option D := eqF true
/-- an operator of comparison, with what it does -/
structure CmpOk (X : Cx) (C : Deck S) (op : CmpOp) (r : R2) (f : D → D → Option D) : Prop where
  opr : OpR X (compareOp op) r
  od : OpD C r f
theorem k_lt : CmpOk X C .Lt rLtD ltD := ⟨opr_lt, od_lt⟩
theorem k_le : CmpOk X C .LtE (rI0 fun i j => .bl (decide (i ≤ j))) leD := ⟨op_le, oc_int⟩
theorem k_gt : CmpOk X C .Gt (rI0 fun i j => .bl (decide (j < i))) gtD := ⟨op_gt, oc_int⟩
theorem k_ge : CmpOk X C .GtE (rI0 fun i j => .bl (decide (j ≤ i))) geD := ⟨op_ge, oc_int⟩
theorem k_eq (hu : X.A.units + 64 < cLine) : CmpOk X C .Eq (rEqD X.K) eqO := ⟨op_eqD hu, oc_eq⟩
theorem k_ne (hu : X.A.units + 64 < cLine) : CmpOk X C .NotEq (rNeD X.K) neO := ⟨op_neD hu, oc_ne⟩
/-- is None, is True, is False -/
def isF (neg : Bool) : D → D → Option D
  | .non, .non => some (.bl (!neg))
  | .bl _, .non => some (.bl neg)
  | .int _, .non => some (.bl neg)
  | .str _, .non => some (.bl neg)
  | .tup _, .non => some (.bl neg)
  | .lst _, .non => some (.bl neg)
  | .dic _ _, .non => some (.bl neg)
  | .non, .bl _ => some (.bl neg)
  | .bl a, .bl b => some (.bl (if neg then a != b else a == b))
  | .int _, .bl _ => some (.bl neg)
  | .str _, .bl _ => some (.bl neg)
  | .tup _, .bl _ => some (.bl neg)
  | .lst _, .bl _ => some (.bl neg)
  | _, _ => none
def rIsB (neg : Bool) : R2 := fun x y H Q => ((∃ b, y = .bl b) ∨ y = .non) ∧ Q (.bl (if neg then !decide (x = y) else decide (x = y))) H
theorem isSame_lit {M : Model} {A : Around} {E : Value → Shared → Prop} {s : Shared} {x y : V} {u v : Value} {R : Bool → Shared → Prop} (rx : RelV x u) (ry : RelV y v) (hy : (∃ b, y = .bl b) ∨ y = .non) (q : R (decide (x = y)) s) : wpAny M A (isSame u v) R E s := by
  have eq_ : ∀ {u v : Value} {k : Bool}, plainIs u v = true → (u == v) = k → k = decide (x = y) → wpAny M A (isSame u v) R E s := fun h1 h2 h3 => wpAny_isSame_plain h1 (by rw [h2, h3]; exact q)
  rcases hy with ⟨b, rfl⟩ | rfl
  · cases ry
    cases x with
    | ref a => cases rx; exact eq_ rfl rfl (by simp)
    | non => cases rx; exact eq_ rfl rfl (by simp)
    | bl b' => cases rx; cases b <;> cases b' <;> exact eq_ rfl rfl (by simp)
    | int i => obtain ⟨t, rfl⟩ := rx; exact eq_ rfl rfl (by simp)
    | str x => obtain ⟨t, rfl⟩ := rx; exact eq_ rfl rfl (by simp)
    | byt x => obtain ⟨t, rfl⟩ := rx; exact eq_ rfl rfl (by simp)
    | flt x => obtain ⟨t, rfl⟩ := rx; exact eq_ rfl rfl (by simp)
    | ty n => cases rx; exact eq_ rfl rfl (by simp)
  · cases ry
    cases x with
    | ref a => cases rx; exact eq_ rfl rfl (by simp)
    | non => cases rx; exact eq_ rfl rfl (by simp)
    | bl b' => cases rx; exact eq_ rfl rfl (by simp)
    | int i => obtain ⟨t, rfl⟩ := rx; exact eq_ rfl rfl (by simp)
    | str x => obtain ⟨t, rfl⟩ := rx; exact eq_ rfl rfl (by simp)
    | byt x => obtain ⟨t, rfl⟩ := rx; exact eq_ rfl rfl (by simp)
    | flt x => obtain ⟨t, rfl⟩ := rx; exact eq_ rfl rfl (by simp)
    | ty n => cases rx; exact eq_ rfl rfl (by simp)
theorem op_isB : OpR X (compareOp .Is) (rIsB false) := by
  intro pins s σ H x y v u Q I rx ry h
  obtain ⟨hy, q⟩ := h
  show wpAny _ _ ((isSame v u) >>= fun z => pure (Value.bool z)) _ _ s
  exact wpAny_bind (isSame_lit rx ry hy (wpAny_pure (fin_bl I q rfl)))
theorem op_notB : OpR X (compareOp .IsNot) (rIsB true) := by
  intro pins s σ H x y v u Q I rx ry h
  obtain ⟨hy, q⟩ := h
  show wpAny _ _ ((isSame v u) >>= fun z => pure (Value.bool (!z))) _ _ s
  exact wpAny_bind (isSame_lit rx ry hy (wpAny_pure (fin_bl I q rfl)))
theorem oc_is (neg : Bool) : OpD C (rIsB neg) (isF neg) := by
  intro A s H x y dx dy d Q I h1 h2 e q
  cases h2 with
  | non =>
    refine ⟨.inr rfl, ?_⟩
    cases h1 <;> simp only [isF] at e <;> first | (cases e; done) | skip
    all_goals (cases e; refine q H _ Keep.refl I.at_ ?_; cases neg <;> simpa using Dat.bl _)
  | bl k =>
    refine ⟨.inl ⟨k, rfl⟩, ?_⟩
    cases h1 <;> simp only [isF] at e <;> first | (cases e; done) | skip
    all_goals (cases e; refine q H _ Keep.refl I.at_ ?_)
    all_goals (cases neg <;> cases k <;> first | exact .bl _ | (rename_i m; cases m <;> exact .bl _))
  | _ => cases h1 <;> simp only [isF] at e <;> cases e
theorem k_is : CmpOk X C .Is (rIsB false) (isF false) := ⟨op_isB, oc_is _⟩
theorem k_isnot : CmpOk X C .IsNot (rIsB true) (isF true) := ⟨op_notB, oc_is _⟩
/-- one sign in a text; a flat thing in a list or tuple -/
def flatD : D → Bool
  | .non => true
  | .bl _ => true
  | .int _ => true
  | .str _ => true
  | _ => false
def inF (neg : Bool) : D → D → Option D
  | .str [c], .str z => some (.bl (if neg then !z.contains c else z.contains c))
  | x, .tup ys => if flatD x && ys.all flatD then some (.bl (if neg then !ys.any (fun y => eqD y x) else ys.any fun y => eqD y x)) else none
  | x, .lst ys => if flatD x && ys.all flatD then some (.bl (if neg then !ys.any (fun y => eqD y x) else ys.any fun y => eqD y x)) else none
  | _, _ => none

/-! ### a comparison as a value and as a test -/
theorem pd_c {op : CmpOp} (k : CmpOk X C op r f) (ha : PD X C W a sa da) (hb : PD X C W b sb db) (hm : behindInMarks op b = false := by exact nomark _) : PD X C W (.Compare a [op] [b] pos) (sa ++ sb) (dBin f da db) := pd_cmp k.opr k.od ha hb hm
theorem ptd_c {op : CmpOp} (k : CmpOk X C op r f) (ha : PD X C W a sa da) (hb : PD X C W b sb db) (hm : behindInMarks op b = false := by exact nomark _) : PTd X C W (.Compare a [op] [b] pos) (dB (dBin f da db)) := ptd_cmp k.opr k.od ha hb hm
/-- a op b op' c -/
def dChain (f f' : D → D → Option D) (da db dc : DE S) : DE S := fun ρ s => (da ρ s).bind fun x s1 => (db ρ s1).bind fun y s2 => (ofO s2 ((f x y).bind asB)).bind fun k s3 =>
  if k = true then (dc ρ s3).bind fun z s4 => ofO s4 (f' y z) else .ok (.bl false) s3
theorem chain_d (I : SAt C A0 H0 A H σ ρ st) {Q : VK} (hr : OpD C r f) (hr' : OpD C r' f') (g : RG C X.mg W σ H (dChain f f' da db dc ρ st) fun d _ H' => ∀ v, Dat C H' (Amin A σ ρ (sa ++ sb ++ sc)) v d → Q v H') :
    tChain r r' (cte C X.mg W sa da) (cte C X.mg W sb db) (cte C X.mg W sc dc) σ H Q :=
  ⟨A0, H0, A, ρ, st, I, g.bind.imp fun d s1 H1 k1 t1 g1 v dv => by
    have I1 := I.next k1 t1
    refine ⟨A0, H0, A, ρ, s1, I1, g1.bind.imp fun d2 s2 H2 k2 t2 g2 v2 dv2 => ?_⟩
    have I2 := I1.next k2 t2
    obtain ⟨k, ek, q⟩ := g2.bind.ofO
    obtain ⟨d3, e3, e4⟩ := Option.bind_eq_some_iff.mp ek
    have := asB_some e4
    subst this
    have m1 : ∀ i ∈ sa, i ∈ sa ++ sb ++ sc := fun i hi => List.mem_append_left _ (List.mem_append_left _ hi)
    have m2 : ∀ i ∈ sb, i ∈ sa ++ sb ++ sc := fun i hi => List.mem_append_left _ (List.mem_append_right _ hi)
    have m3 : ∀ i ∈ sc, i ∈ sa ++ sb ++ sc := fun i hi => List.mem_append_right _ hi
    have dv' : Dat C H2 (Amin A σ ρ (sa ++ sb ++ sc)) v d := (dv.keep k2 (I1.dom0 sa)).less fun _ => Amin.more m1
    have dv2' : Dat C H2 (Amin A σ ρ (sa ++ sb ++ sc)) v2 d2 := dv2.less fun _ => Amin.more m2
    refine hr (Amin A σ ρ (sa ++ sb ++ sc)) s2 H2 v v2 d d2 _ _ (I2.vat _) dv' dv2' e3 fun H3 v3 k3 t3 dv3 => ?_
    cases dv3
    refine ⟨k, rfl, ?_⟩
    have q' := (q H2 Keep.refl t2).move k3
    have I3 := I2.next k3 t3
    cases k with
    | false => exact q' H3 Keep.refl t3 _ (.bl false)
    | true =>
      refine ⟨A0, H0, A, ρ, s2, I3, q'.bind.imp fun d4 s4 H4 k4 t4 g4 v4 dv4 => ?_⟩
      have I4 := I3.next k4 t4
      obtain ⟨d5, e5, q5⟩ := g4.ofO
      exact hr' (Amin A σ ρ (sa ++ sb ++ sc)) s4 H4 v2 v4 d2 d4 d5 Q (I4.vat _) (dv2'.keep (k3.trans k4) (I2.dom0 _)) (dv4.less fun _ => Amin.more m3) e5 fun H' v' k t h => q5 H' k t v' h⟩
theorem pd_chain {op op' : CmpOp} (k : CmpOk X C op r f) (k' : CmpOk X C op' r' f') (ha : PD X C W a sa da) (hb : PD X C W b sb db) (hc : PD X C W c sc dc) (hm : lastMarks [op, op'] [b, c] = false := by with_unfolding_all rfl) :
    PD X C W (.Compare a [op, op'] [b, c] pos) (sa ++ sb ++ sc) (dChain f f' da db dc) :=
  pd_of (pe_chain k.opr k'.opr ha hb hc hm) fun A0 H0 A ρ st σ H Q I g => chain_d I k.od k'.od g
theorem ptd_chain {op op' : CmpOp} (k : CmpOk X C op r f) (k' : CmpOk X C op' r' f') (ha : PD X C W a sa da) (hb : PD X C W b sb db) (hc : PD X C W c sc dc) (hm : lastMarks [op, op'] [b, c] = false := by with_unfolding_all rfl) :
    PTd X C W (.Compare a [op, op'] [b, c] pos) (dB (dChain f f' da db dc)) :=
  ptd_of (pt_chain k.opr k'.opr ha hb hc hm) fun A0 H0 A ρ st σ H Q I g => chain_d (sa := sa) (sb := sb) (sc := sc) I k.od k'.od (g.bind.imp fun d s1 H1 k1 t1 g1 v dv => by
    obtain ⟨b, eb, q⟩ := g1.ofO
    have := asB_some eb
    subst this
    cases dv
    exact ⟨b, rfl, q H1 Keep.refl t1⟩)

/-! ### truth, and, or, not, if -/
def truD : D → Option Bool
  | .non => some false
  | .bl b => some b
  | .int i => some (i != 0)
  | .str l => some (!l.isEmpty)
  | .tup ds => some (!ds.isEmpty)
  | .lst ds => some (!ds.isEmpty)
  | _ => none
theorem tru_of {K : PySem.W.Frag} {v : V} {d : D} {k : Bool} (h : Dat C H A v d) (e : truD d = some k) : TruV K v H k := by
  have em : ∀ {xs : List V} {ds : List D}, Dats C H A xs ds → (!xs.isEmpty) = !ds.isEmpty := fun {xs ds} t => by
    have := t.len
    cases xs <;> cases ds <;> simp at this ⊢
  cases d with
  | non => cases h; cases e; exact rfl
  | bl b => cases h; cases e; exact rfl
  | int i => cases h; cases e; exact rfl
  | str l =>
    cases h with
    | str s =>
      cases e
      refine ⟨by rw [mkS_len, line_eq]; have := s.1; omega, ?_⟩
      rw [mkS_len]
      cases l <;> simp
      omega
  | tup ds =>
    obtain ⟨p, xs, rfl, n, r, t⟩ := h.of_tup
    cases e
    exact .inr (.inl ⟨xs, .of r, (em t).symm⟩)
  | lst ds =>
    obtain ⟨p, xs, rfl, n, r, t⟩ := h.of_lst
    cases e
    exact .inl ⟨xs, .of r, (em t).symm⟩
  | dic _ _ => cases e
  | deck => cases e
  | ext _ => cases e
def dTr (de : DE S) : DT S := fun ρ s => (de ρ s).bind fun d s1 => ofO s1 (truD d)
/-- any expression as a test, by its truth -/
theorem ptd_tr (h : PD X C W e sc de) (he : ∀ whole, isTrue e X.env whole = (do let v ← whole; standAt e.pos; holding [v] (truthy v)) := by intro _; rfl) : PTd X C W e (dTr de) :=
  ptd_of (pt_truth h he) fun A0 H0 A ρ st σ H Q I g => ⟨A0, H0, A, ρ, st, I, g.bind.imp fun d s1 H1 k1 t1 g1 v dv => by
    obtain ⟨k, ek, q⟩ := g1.ofO
    exact ⟨k, tru_of dv ek, q H1 Keep.refl t1⟩⟩
def dNot (dt : DT S) : DT S := fun ρ s => (dt ρ s).map (!·)
def dAnd (dt du : DT S) : DT S := fun ρ s => (dt ρ s).bind fun k s1 => if k = true then du ρ s1 else .ok false s1
def dOr (dt du : DT S) : DT S := fun ρ s => (dt ρ s).bind fun k s1 => if k = true then .ok true s1 else du ρ s1
theorem ptd_not (h : PTd X C W a dt) : PTd X C W (.UnaryOp .Not a pos) (dNot dt) :=
  ptd_of (pt_not h) fun A0 H0 A ρ st σ H Q I g => ⟨A0, H0, A, ρ, st, I, g.map.imp fun k s1 H1 k1 t1 g1 => g1⟩
theorem pwd_of (h : PW X e t) (i : ∀ (A0 : Addr → Prop) (H0 : Hp) (A : Addr → Prop) (ρ : En) (st : S) (σ : St) (H : Hp) (Q : Bool → Hp → Prop), SAt C A0 H0 A H σ ρ st →
    RG C X.mg W σ H (dt ρ st) (fun b _ H' => Q b H') → t σ H Q) : PWd X C W e dt :=
  pw_imp h fun σ H Q ⟨A0, H0, A, ρ, st, I, g⟩ => i A0 H0 A ρ st σ H Q I g
theorem pwd_and1 (h : PTd X C W a dt) : PWd X C W (.BoolOp .And [a] pos) dt := pwd_of (pw_and1 h) fun A0 H0 A ρ st σ H Q I g => ⟨A0, H0, A, ρ, st, I, g⟩
theorem pwd_or1 (h : PTd X C W a dt) : PWd X C W (.BoolOp .Or [a] pos) dt := pwd_of (pw_or1 h) fun A0 H0 A ρ st σ H Q I g => ⟨A0, H0, A, ρ, st, I, g⟩
theorem pwd_and (h : PTd X C W a dt) (h' : PWd X C W (.BoolOp .And (b :: rest) pos) du) : PWd X C W (.BoolOp .And (a :: b :: rest) pos) (dAnd dt du) :=
  pwd_of (pw_and h h') fun A0 H0 A ρ st σ H Q I g => ⟨A0, H0, A, ρ, st, I, g.bind.imp fun k s1 H1 k1 t1 g1 => by
    cases k with
    | true => exact ⟨A0, H0, A, ρ, s1, I.next k1 t1, g1⟩
    | false => exact g1.done t1⟩
theorem pwd_or (h : PTd X C W a dt) (h' : PWd X C W (.BoolOp .Or (b :: rest) pos) du) : PWd X C W (.BoolOp .Or (a :: b :: rest) pos) (dOr dt du) :=
  pwd_of (pw_or h h') fun A0 H0 A ρ st σ H Q I g => ⟨A0, H0, A, ρ, st, I, g.bind.imp fun k s1 H1 k1 t1 g1 => by
    cases k with
    | true => exact g1.done t1
    | false => exact ⟨A0, H0, A, ρ, s1, I.next k1 t1, g1⟩⟩
theorem ptd_w (h : PWd X C W e dt) : PTd X C W e dt := PW.pt h
/-- as values -/
def dAndV (da db : DE S) : DE S := fun ρ s => (da ρ s).bind fun d s1 => (ofO s1 (truD d)).bind fun k s2 => if k = true then db ρ s2 else .ok d s2
def dOrV (da db : DE S) : DE S := fun ρ s => (da ρ s).bind fun d s1 => (ofO s1 (truD d)).bind fun k s2 => if k = true then .ok d s2 else db ρ s2
theorem pd_one {op} (h : PD X C W a sa da) : PD X C W (.BoolOp op [a] pos) sa da := pd_of (pe_one h) fun A0 H0 A ρ st σ H Q I g => ⟨A0, H0, A, ρ, st, I, g⟩
theorem pd_and (ha : PD X C W a sa da) (hb : PD X C W (.BoolOp .And (b :: rest) pos) sb db) : PD X C W (.BoolOp .And (a :: b :: rest) pos) (sa ++ sb) (dAndV da db) :=
  pd_of (pe_andT ha hb) fun A0 H0 A ρ st σ H Q I g => ⟨A0, H0, A, ρ, st, I, g.bind.imp fun d s1 H1 k1 t1 g1 v dv => by
    obtain ⟨k, ek, q⟩ := g1.bind.ofO
    refine ⟨k, tru_of dv ek, ?_⟩
    have q' := q H1 Keep.refl t1
    cases k with
    | true => exact ⟨A0, H0, A, ρ, s1, I.next k1 t1, q'.imp fun d2 s2 H2 _ _ g2 v2 dv2 => g2 v2 (dv2.less fun _ => Amin.more fun i hi => List.mem_append_right _ hi)⟩
    | false => exact q'.done t1 v (dv.less fun _ => Amin.more fun i hi => List.mem_append_left _ hi)⟩
theorem pd_or (ha : PD X C W a sa da) (hb : PD X C W (.BoolOp .Or (b :: rest) pos) sb db) : PD X C W (.BoolOp .Or (a :: b :: rest) pos) (sa ++ sb) (dOrV da db) :=
  pd_of (pe_orT ha hb) fun A0 H0 A ρ st σ H Q I g => ⟨A0, H0, A, ρ, st, I, g.bind.imp fun d s1 H1 k1 t1 g1 v dv => by
    obtain ⟨k, ek, q⟩ := g1.bind.ofO
    refine ⟨k, tru_of dv ek, ?_⟩
    have q' := q H1 Keep.refl t1
    cases k with
    | false => exact ⟨A0, H0, A, ρ, s1, I.next k1 t1, q'.imp fun d2 s2 H2 _ _ g2 v2 dv2 => g2 v2 (dv2.less fun _ => Amin.more fun i hi => List.mem_append_right _ hi)⟩
    | true => exact q'.done t1 v (dv.less fun _ => Amin.more fun i hi => List.mem_append_left _ hi)⟩
def dNotV (de : DE S) : DE S := fun ρ s => (de ρ s).bind fun d s1 => (ofO s1 (truD d)).map fun k => .bl (!k)
theorem pd_not (h : PD X C W a sa da) : PD X C W (.UnaryOp .Not a pos) [] (dNotV da) :=
  pd_of (pe_notT h) fun A0 H0 A ρ st σ H Q I g => ⟨A0, H0, A, ρ, st, I, g.bind.imp fun d s1 H1 k1 t1 g1 v dv => by
    obtain ⟨k, ek, q⟩ := g1.map.ofO
    exact ⟨k, tru_of dv ek, q H1 Keep.refl t1 _ (.bl _)⟩⟩
def dIf (dt : DT S) (da db : DE S) : DE S := fun ρ s => (dt ρ s).bind fun k s1 => if k = true then da ρ s1 else db ρ s1
theorem pd_if (hc : PTd X C W c dt) (ha : PD X C W a sa da) (hb : PD X C W b sb db) : PD X C W (.IfExp c a b pos) (sa ++ sb) (dIf dt da db) :=
  pd_of (pe_ifExp hc ha hb) fun A0 H0 A ρ st σ H Q I g => ⟨A0, H0, A, ρ, st, I, g.bind.imp fun k s1 H1 k1 t1 g1 => by
    cases k with
    | true => exact ⟨A0, H0, A, ρ, s1, I.next k1 t1, g1.imp fun d2 s2 H2 _ _ g2 v2 dv2 => g2 v2 (dv2.less fun _ => Amin.more fun i hi => List.mem_append_left _ hi)⟩
    | false => exact ⟨A0, H0, A, ρ, s1, I.next k1 t1, g1.imp fun d2 s2 H2 _ _ g2 v2 dv2 => g2 v2 (dv2.less fun _ => Amin.more fun i hi => List.mem_append_right _ hi)⟩⟩

/-! ### subscripts, slices -/
def ixD : D → D → Option D
  | .tup ds, .int i => atI ds i
  | .lst ds, .int i => atI ds i
  | .str l, .int i => (atI l i).map fun c => .str [c]
  | _, _ => none
theorem atI_dats {xs : List V} {ds : List D} {i : Int} {d : D} (t : Dats C H A xs ds) (e : atI ds i = some d) : ∃ x, atI xs i = some x ∧ Dat C H A x d := by
  unfold atI at e ⊢
  rw [t.len]
  obtain ⟨j, e1, e2⟩ := Option.bind_eq_some_iff.mp e
  obtain ⟨x, h1, h2⟩ := t.get e2
  exact ⟨x, by rw [e1]; exact h1, h2⟩
theorem oix : OpD C (rIx X.K) ixD := by
  intro A s H x y dx dy d Q I h1 h2 e q
  cases dy <;> cases dx <;> simp only [ixD] at e <;> try cases e
  case int.str i l =>
    cases h2
    cases h1 with
    | str o =>
      obtain ⟨c, e1, e2⟩ := Option.map_eq_some_iff.mp e
      subst e2
      refine .inr (.inr ⟨_, _, c, rfl, rfl, by rw [mkS_len, line_eq]; have := o.1; omega, by simpa using e1, ?_⟩)
      refine q H (.str (mkS [c])) Keep.refl I.at_ (.str ⟨by simp, fun z hz => ?_⟩)
      obtain ⟨j, _, e3, _⟩ := atI_get e1
      simp at hz
      subst hz
      exact o.2 _ (List.mem_of_getElem? e3)
  case int.tup i ds =>
    cases h2
    obtain ⟨p, xs, rfl, n, r, t⟩ := h1.of_tup
    obtain ⟨x, e1, hx⟩ := atI_dats t e
    exact .inr (.inl ⟨p, xs, i, x, rfl, rfl, .of r, e1, q H _ Keep.refl I.at_ hx⟩)
  case int.lst i ds =>
    cases h2
    obtain ⟨p, xs, rfl, n, r, t⟩ := h1.of_lst
    obtain ⟨x, e1, hx⟩ := atI_dats t e
    exact .inl ⟨p, xs, i, x, rfl, rfl, .of r, e1, q H _ Keep.refl I.at_ hx⟩
theorem pd_ix (ha : PD X C W a sa da) (hb : PD X C W b sb db) (hs : PlainIx b := by exact fun _ _ => rfl) : PD X C W (.Subscript a b pos) (sa ++ sb) (dBin ixD da db) :=
  pd_of (pe_ix ix_seq ha hb hs) fun A0 H0 A ρ st σ H Q I g => tOp_d I oix g
/-- an item of an own list: it does not go through the list itself -/
def dIxO (i : Nat) (db : DE S) : DE S := fun ρ s => match ρ[i]? with
  | some (some (.own ds)) => (db ρ s).bind fun y s1 => ofO s1 (ixD (.lst ds) y)
  | some (some (.val d)) => (db ρ s).bind fun y s1 => ofO s1 (ixD d y)
  | _ => .bad
theorem pd_ixo (i : Nat) {x : Str} (hb : PD X C W b [] db) (hs : PlainIx b := by exact fun _ _ => rfl) (hN : X.N[i]? = some x := by rfl) (hv : Vis X.env.scope x := by first | exact Or.inl rfl | exact Or.inr (Or.inl rfl) | exact Or.inr (Or.inr rfl)) (hd : (x == ("__debug__" : Str)) = false := by decide)
    (hcd : (x == ("__classdict__" : Str)) = false := by decide) : PD X C W (.Subscript (.Name x p) b pos) [] (dIxO i db) :=
  pd_of (pe_ix ix_seq (pe_var hN hv hd hcd) hb hs) fun A0 H0 A ρ st σ H Q I g => by
    unfold dIxO at g
    split at g
    · rename_i ds q
      obtain ⟨v, e1, a, xs, rfl, h1, h2, h3, h4, h5⟩ := I.sl i _ q
      refine ⟨_, e1, A0, H0, A, ρ, st, I, g.bind.imp fun y s1 H1 k1 t1 g1 v dv => ?_⟩
      have I1 := I.next k1 t1
      rw [Amin.nil] at dv
      obtain ⟨d, e, q1⟩ := g1.ofO
      cases y <;> simp only [ixD] at e <;> try cases e
      cases dv
      have h4' : H1 a = some (.lst xs) := k1 a _ (fun z => h3 (I.dom a z)) h4
      obtain ⟨x, e2, hx⟩ := atI_dats (h5.keep k1 I.domA) e
      exact .inl ⟨a, xs, _, x, rfl, rfl, .of h4', e2, q1 H1 Keep.refl t1 _ (by rw [Amin.nil]; exact hx)⟩
    · rename_i d q
      obtain ⟨v, e1, h⟩ := I.sl i _ q
      refine ⟨_, e1, A0, H0, A, ρ, st, I, g.bind.imp fun y s1 H1 k1 t1 g1 v' dv => ?_⟩
      have I1 := I.next k1 t1
      rw [Amin.nil] at dv
      obtain ⟨d', e, q1⟩ := g1.ofO
      have V1 : VAt C A H1 s1 := ⟨I1.fresh, I1.domA, t1⟩
      exact oix A s1 H1 _ _ d y d' Q V1 (Dat.keep h k1 I.domA) dv e fun H' v k t hh => q1 H' k t v (by rw [Amin.nil]; exact hh)
    · exact g.elim
/-- the parts of a slice -/
def PartD (X : Cx) (C : Deck S) (W : WX) (e : Option Expr) (dp : E1 S (Option Int)) : Prop := PO X e fun σ H Q => ∃ A0 H0 A ρ st, SAt C A0 H0 A H σ ρ st ∧ RG C X.mg W σ H (dp ρ st) fun o _ H' => Q o H'
def dNoPart : E1 S (Option Int) := fun _ s => .ok none s
def asI : D → Option Int
  | .int i => some i
  | _ => none
def dPart (de : DE S) : E1 S (Option Int) := fun ρ s => (de ρ s).bind fun d s1 => (ofO s1 (asI d)).map some
theorem po_imp {e : Option Expr} {t t' : TO} (h : PO X e t) (i : ∀ σ H Q, t' σ H Q → t σ H Q) : PO X e t' := ⟨fun pins s σ H Q I q => h.run pins s σ H Q I (i σ H Q q)⟩
theorem part_none : PartD X C W none (dNoPart : E1 S (Option Int)) := po_imp po_none fun σ H Q ⟨A0, H0, A, ρ, st, I, g⟩ => g.done I.at_
theorem part_some (h : PD X C W e sc de) : PartD X C W (some e) (dPart de) := po_imp (po_some h) fun σ H Q ⟨A0, H0, A, ρ, st, I, g⟩ => ⟨A0, H0, A, ρ, st, I, g.bind.imp fun d s1 H1 k1 t1 g1 v dv => by
  obtain ⟨i, ei, q⟩ := g1.map.ofO
  cases d <;> simp only [asI] at ei <;> cases ei
  cases dv
  exact ⟨_, rfl, q H1 Keep.refl t1⟩⟩
def cutL {α : Type} (xs : List α) (lo hi : Option Int) : List α := (xs.drop (HT.sIx xs.length 0 lo)).take (HT.sIx xs.length xs.length hi - HT.sIx xs.length 0 lo)
def slD (d : D) (lo hi : Option Int) : Option D :=
  match d with
  | .str l => some (.str (cutL l lo hi))
  | .tup ds => some (.tup (cutL ds lo hi))
  | .lst ds => some (.lst (cutL ds lo hi))
  | _ => none
theorem cut_dats {xs : List V} {ds : List D} (t : Dats C H A xs ds) (lo hi : Option Int) : Dats C H A (cutV xs lo hi) (cutL ds lo hi) := by
  unfold cutV cutL
  rw [t.len]
  refine ⟨by simp [t.len], fun i x d e1 e2 => ?_⟩
  rw [List.getElem?_take] at e1 e2
  split at e1
  · rename_i hi
    rw [if_pos hi] at e2
    rw [List.getElem?_drop] at e1 e2
    exact t.at_ _ x d e1 e2
  · cases e1
def rSlD (K : PySem.W.Frag) : V → Option Int → Option Int → Hp → VK → Prop := fun x lo hi H Q => rSlL K x lo hi H Q ∨ rSlA K x lo hi H Q ∨ rSlS x lo hi H Q
theorem sl_all : SlR X (rSlD X.K) := sl_list.or (sl_tupA.or sl_str)
theorem cutL_whole {α : Type} {xs : List α} {lo hi : Option Int} (h : HT.sIx xs.length 0 lo = 0 ∧ HT.sIx xs.length xs.length hi = xs.length) : cutL xs lo hi = xs := by
  unfold cutL
  rw [h.1, h.2]; simp
def dSl (de : DE S) (dp dq : E1 S (Option Int)) : DE S := fun ρ s => (de ρ s).bind fun d s1 => (dp ρ s1).bind fun lo s2 => (dq ρ s2).bind fun hi s3 => ofO s3 (slD d lo hi)
theorem pd_sl {lo hi : Option Expr} {dp dq : E1 S (Option Int)} (h : PD X C W e sc de) (hl : PartD X C W lo dp) (hh : PartD X C W hi dq) : PD X C W (.Subscript e (.Slice lo hi none p2) pos) sc (dSl de dp dq) :=
  pd_of (pe_slice sl_all h hl hh) fun A0 H0 A ρ st σ H Q I g => ⟨A0, H0, A, ρ, st, I, g.bind.imp fun d s1 H1 k1 t1 g1 v dv => by
    have I1 := I.next k1 t1
    refine ⟨A0, H0, A, ρ, s1, I1, g1.bind.imp fun l s2 H2 k2 t2 g2 => ?_⟩
    have I2 := I1.next k2 t2
    refine ⟨A0, H0, A, ρ, s2, I2, g2.bind.imp fun u s3 H3 k3 t3 g3 => ?_⟩
    have I3 := I2.next k3 t3
    obtain ⟨d', e', q⟩ := g3.ofO
    have dv3 := dv.keep (k2.trans k3) (I1.dom0 sc)
    have V3 := I3.vat sc
    cases d <;> simp only [slD] at e' <;> cases e'
    case str z =>
      cases dv3 with
      | str o =>
        refine .inr (.inr ⟨_, rfl, by rw [mkS_len, line_eq]; have := o.1; omega, ?_⟩)
        have e : cutS (mkS z) l u = mkS (cutL z l u) := by
          unfold cutS cutL
          rw [mkS_len]
        rw [e]
        refine q H3 Keep.refl t3 _ (.str ⟨?_, fun c hc => o.2 c (List.mem_of_mem_drop (List.mem_of_mem_take hc))⟩)
        have := o.1
        unfold cutL
        rw [List.length_take, List.length_drop]
        omega
    case tup ds =>
      obtain ⟨p, xs, rfl, n, r, t⟩ := dv3.of_tup
      refine .inr (.inl ⟨p, xs, rfl, .of r, fun hw => ?_, fun hw p' hp => ?_⟩)
      · rw [t.len] at hw
        rw [cutL_whole hw] at q
        exact q H3 Keep.refl t3 _ dv3
      · obtain ⟨k, t', n'⟩ := V3.new (o := .tup (cutV xs l u)) hp
        exact q _ k t' _ (Dat.tup_mk n' upd_same ((cut_dats t l u).keep k V3.dom))
    case lst ds =>
      obtain ⟨p, xs, rfl, n, r, t⟩ := dv3.of_lst
      refine .inl ⟨p, xs, rfl, .of r, fun p' hp => ?_⟩
      obtain ⟨k, t', n'⟩ := V3.new (o := .lst (cutV xs l u)) hp
      exact q _ k t' _ (Dat.lst_mk n' upd_same ((cut_dats t l u).keep k V3.dom))⟩
end
end Mir

set_option Elab.async false
set_option linter.all false
set_option maxRecDepth 100000
set_option maxHeartbeats 2000000
namespace Mir
open PySem PySem.Spec L2
open PyProof.Rows hiding St

section
variable {S : Type} {C : Deck S} {X : Cx} {W : WX} {A0 A A' : Addr → Prop} {H0 H H' : Hp} {σ : St} {ρ : En} {st st' : S}
variable {e a b c : Expr} {es rest : List Expr} {pos p p2 : Pos} {sc sc' sa sb : List Nat} {de da db dc : DE S} {dt dt' du : DT S} {dl : DA S}
/-! ### calls of built-ins -/
def CallD (C : Deck S) (r : List V → Hp → VK → Prop) (f : List D → Option D) : Prop := ∀ (A : Addr → Prop) (s : S) (H : Hp) (xs : List V) (ds : List D) (d : D) (Q : VK), VAt C A H s → Dats C H A xs ds → f ds = some d →
  (∀ H' v, Keep C.dom H H' → C.At s H' → Dat C H' A v d → Q v H') → r xs H Q
def dCallB (f : List D → Option D) (dl : DA S) : DE S := fun ρ s => (dl ρ s).bind fun ds s1 => ofO s1 (f ds)
theorem tCB_d {r : List V → Hp → VK → Prop} {f : List D → Option D} (I : SAt C A0 H0 A H σ ρ st) {Q : VK} (hr : CallD C r f) (g : RG C X.mg W σ H (dCallB f dl ρ st) fun d _ H' => ∀ v, Dat C H' (Amin A σ ρ sc) v d → Q v H') :
    tCB r (cta C X.mg W sc dl) σ H Q := ⟨A0, H0, A, ρ, st, I, g.bind.imp fun ds s1 H1 k1 t1 g1 vs dvs => by
  obtain ⟨d, ed, q⟩ := g1.ofO
  exact hr (Amin A σ ρ sc) s1 H1 vs ds d Q ((I.next k1 t1).vat sc) dvs ed fun H' v k t h => q H' k t v h⟩
theorem pd_callB {x : Str} {id : String} {r : List V → Hp → VK → Prop} {f : List D → Option D} (hc : CallR X (.builtin id) r) (hr : CallD C r f) (hm : X.mg x = none) (ha : PAd X C W (e :: es) sc dl) (hv : bootBuiltins x = some (.builtin id) := by decide +kernel) (hg : Gl X x := by rfl) (hn : x ≠ "__name__" := by decide) (hdb : (x == ("__debug__" : Str)) = false := by decide)
    (he : starEach (e :: es) X.env = (false, eval e X.env) :: starEach es X.env := by rfl) (hpl : (backTo pos (starEach es X.env)).any (·.1) = false := by rfl) : PD X C W (.Call (.Name x p) (e :: es) [] pos) sc (dCallB f dl) :=
  pd_of (pe_callB hc hg hm hv ha hn hdb he hpl) fun A0 H0 A ρ st σ H Q I g => tCB_d I hr g
theorem pd_callTy {x : Str} {T : String} {r : List V → Hp → VK → Prop} {f : List D → Option D} (hc : CallR X (.type T) r) (hr : CallD C r f) (hm : X.mg x = none) (ha : PAd X C W (e :: es) sc dl) (hv : bootBuiltins x = some (.type T) := by decide +kernel) (hg : Gl X x := by rfl) (hn : x ≠ "__name__" := by decide) (hdb : (x == ("__debug__" : Str)) = false := by decide)
    (he : starEach (e :: es) X.env = (false, eval e X.env) :: starEach es X.env := by rfl) (hpl : (backTo pos (starEach es X.env)).any (·.1) = false := by rfl) : PD X C W (.Call (.Name x p) (e :: es) [] pos) sc (dCallB f dl) :=
  pd_of (pe_callTy hc hg hm hv ha hn hdb he hpl) fun A0 H0 A ρ st σ H Q I g => tCB_d I hr g
theorem Dats.one {xs : List V} {d : D} (h : Dats C H A xs [d]) : ∃ x, xs = [x] ∧ Dat C H A x d := by
  obtain ⟨x, r, rfl, h1, h2⟩ := h.uncons
  rw [h2.unnil]
  exact ⟨x, rfl, h1⟩
theorem Dats.two {xs : List V} {d d' : D} (h : Dats C H A xs [d, d']) : ∃ x y, xs = [x, y] ∧ Dat C H A x d ∧ Dat C H A y d' := by
  obtain ⟨x, r, rfl, h1, h2⟩ := h.uncons
  obtain ⟨y, rfl, h3⟩ := h2.one
  exact ⟨x, y, rfl, h1, h3⟩
/-- len -/
def lenD : List D → Option D
  | [.str l] => some (.int l.length)
  | [.tup ds] => some (.int ds.length)
  | [.lst ds] => some (.int ds.length)
  | _ => none
theorem cd_len {K : PySem.W.Frag} : CallD C (fun xs H Q => ∃ x n, xs = [x] ∧ LenV K x H n ∧ Q (.int n) H) lenD := by
  intro A s H xs ds d Q I h e q
  match ds, e with
  | [.str l], e =>
    cases e
    obtain ⟨x, rfl, hx⟩ := h.one
    cases hx with
    | str o => exact ⟨_, l.length, rfl, ⟨by rw [mkS_len, line_eq]; have := o.1; omega, by rw [mkS_len]⟩, q H _ Keep.refl I.at_ (.int _)⟩
  | [.tup ds], e =>
    cases e
    obtain ⟨x, rfl, hx⟩ := h.one
    obtain ⟨p, xs, rfl, n, r, t⟩ := hx.of_tup
    exact ⟨_, ds.length, rfl, .inr ⟨xs, .of r, t.len.symm⟩, q H _ Keep.refl I.at_ (.int _)⟩
  | [.lst ds], e =>
    cases e
    obtain ⟨x, rfl, hx⟩ := h.one
    obtain ⟨p, xs, rfl, n, r, t⟩ := hx.of_lst
    exact ⟨_, ds.length, rfl, .inl ⟨xs, .of r, t.len.symm⟩, q H _ Keep.refl I.at_ (.int _)⟩
theorem pd_len (hm : X.mg "len" = none) (ha : PAd X C W [e] sc dl) (hg : Gl X "len" := by rfl) (he : starEach [e] X.env = (false, eval e X.env) :: starEach [] X.env := by rfl) (hpl : (backTo pos (starEach [] X.env)).any (·.1) = false := by rfl) : PD X C W (.Call (.Name "len" p) [e] [] pos) sc (dCallB lenD dl) :=
  pd_callB call_len cd_len hm ha PySem.boot_len hg (by decide) (by decide) he hpl
/-- all, any of a list of bools -/
def allBl : List D → Option (List Bool)
  | [] => some []
  | .bl b :: r => (allBl r).map (b :: ·)
  | _ :: _ => none
theorem allBl_some : ∀ {ds : List D} {bs : List Bool}, allBl ds = some bs → ds = bs.map D.bl
  | [], bs, h => by cases h; rfl
  | .bl b :: r, bs, h => by
    simp only [allBl, Option.map_eq_some_iff] at h
    obtain ⟨t, h1, rfl⟩ := h
    rw [allBl_some h1]; rfl
  | .non :: _, _, h => by cases h
  | .int _ :: _, _, h => by cases h
  | .str _ :: _, _, h => by cases h
  | .tup _ :: _, _, h => by cases h
  | .lst _ :: _, _, h => by cases h
  | .dic _ _ :: _, _, h => by cases h
  | .deck :: _, _, h => by cases h
  | .ext _ :: _, _, h => by cases h
theorem allBl_map : ∀ bs : List Bool, allBl (bs.map D.bl) = some bs
  | [] => rfl
  | b :: bs => by simp [allBl, allBl_map bs]
theorem dats_bl : ∀ {bs : List Bool} {xs : List V}, Dats C H A xs (bs.map D.bl) → xs = bs.map V.bl
  | [], xs, h => h.unnil
  | b :: bs, xs, h => by
    obtain ⟨x, r, rfl, h1, h2⟩ := h.uncons
    cases h1
    rw [dats_bl h2]; rfl
def allD : List D → Option D
  | [.lst ds] => (allBl ds).map fun bs => .bl (bs.all id)
  | _ => none
def anyD : List D → Option D
  | [.lst ds] => (allBl ds).map fun bs => .bl (bs.any id)
  | _ => none
theorem cd_all {K : PySem.W.Frag} : CallD C (rAll K) allD := by
  intro A s H xs ds d Q I h e q
  match ds, e with
  | [.lst ds], e =>
    obtain ⟨bs, e1, rfl⟩ := Option.map_eq_some_iff.mp e
    obtain ⟨x, rfl, hx⟩ := h.one
    obtain ⟨p, xs, rfl, n, r, t⟩ := hx.of_lst
    rw [allBl_some e1] at t
    rw [dats_bl t] at r
    exact ⟨p, bs, rfl, .of r, q H _ Keep.refl I.at_ (.bl _)⟩
theorem cd_any {K : PySem.W.Frag} : CallD C (rAny K) anyD := by
  intro A s H xs ds d Q I h e q
  match ds, e with
  | [.lst ds], e =>
    obtain ⟨bs, e1, rfl⟩ := Option.map_eq_some_iff.mp e
    obtain ⟨x, rfl, hx⟩ := h.one
    obtain ⟨p, xs, rfl, n, r, t⟩ := hx.of_lst
    rw [allBl_some e1] at t
    rw [dats_bl t] at r
    exact ⟨p, bs, rfl, .of r, q H _ Keep.refl I.at_ (.bl _)⟩
theorem pd_all (hc : X.calm = true) (hm : X.mg "all" = none) (ha : PAd X C W [e] sc dl) (hg : Gl X "all" := by rfl) (he : starEach [e] X.env = (false, eval e X.env) :: starEach [] X.env := by rfl) (hpl : (backTo pos (starEach [] X.env)).any (·.1) = false := by rfl) : PD X C W (.Call (.Name "all" p) [e] [] pos) sc (dCallB allD dl) :=
  pd_callB (cr_all hc) cd_all hm ha (by decide +kernel) hg (by decide) (by decide) he hpl
theorem pd_any (hc : X.calm = true) (hm : X.mg "any" = none) (ha : PAd X C W [e] sc dl) (hg : Gl X "any" := by rfl) (he : starEach [e] X.env = (false, eval e X.env) :: starEach [] X.env := by rfl) (hpl : (backTo pos (starEach [] X.env)).any (·.1) = false := by rfl) : PD X C W (.Call (.Name "any" p) [e] [] pos) sc (dCallB anyD dl) :=
  pd_callB (cr_any hc) cd_any hm ha (by decide +kernel) hg (by decide) (by decide) he hpl
/-- tuple, int, min, max -/
def tupleD : List D → Option D
  | [.lst ds] => some (.tup ds)
  | [.tup ds] => some (.tup ds)
  | _ => none
theorem cd_tuple {K : PySem.W.Frag} : CallD C (fun xs H Q => ∃ p ys, xs = [.ref p] ∧ ((SqL K H p ys ∧ ∀ l, H l = none → Q (.ref l) (upd H l (.tup ys))) ∨ (SqT K H p ys ∧ Q (.ref p) H))) tupleD := by
  intro A s H xs ds d Q I h e q
  match ds, e with
  | [.lst ds], e =>
    cases e
    obtain ⟨x, rfl, hx⟩ := h.one
    obtain ⟨p, xs, rfl, n, r, t⟩ := hx.of_lst
    refine ⟨p, xs, rfl, .inl ⟨.of r, fun l hl => ?_⟩⟩
    obtain ⟨k, t', n'⟩ := I.new (o := .tup xs) hl
    exact q _ _ k t' (Dat.tup_mk n' upd_same (t.keep k I.dom))
  | [.tup ds], e =>
    cases e
    obtain ⟨x, rfl, hx⟩ := h.one
    obtain ⟨p, xs, rfl, n, r, t⟩ := hx.of_tup
    exact ⟨p, xs, rfl, .inr ⟨.of r, q _ _ Keep.refl I.at_ hx⟩⟩
theorem pd_tuple (hm : X.mg "tuple" = none) (ha : PAd X C W [e] sc dl) (hg : Gl X "tuple" := by rfl) (he : starEach [e] X.env = (false, eval e X.env) :: starEach [] X.env := by rfl) (hpl : (backTo pos (starEach [] X.env)).any (·.1) = false := by rfl) : PD X C W (.Call (.Name "tuple" p) [e] [] pos) sc (dCallB tupleD dl) :=
  pd_callTy call_tuple_of cd_tuple hm ha (by decide +kernel) hg (by decide) (by decide) he hpl
def intD : List D → Option D
  | [.int i] => some (.int i)
  | [.bl k] => some (.int (if k then 1 else 0))
  | _ => none
theorem cd_int : CallD C (fun xs H Q => (∃ i, xs = [V.int i] ∧ Q (.int i) H) ∨ ∃ k, xs = [V.bl k] ∧ Q (.int (if k then 1 else 0)) H) intD := by
  intro A s H xs ds d Q I h e q
  match ds, e with
  | [.int i], e => cases e; obtain ⟨x, rfl, hx⟩ := h.one; cases hx; exact .inl ⟨i, rfl, q _ _ Keep.refl I.at_ (.int _)⟩
  | [.bl i], e => cases e; obtain ⟨x, rfl, hx⟩ := h.one; cases hx; exact .inr ⟨i, rfl, q _ _ Keep.refl I.at_ (.int _)⟩
theorem pd_intc (hm : X.mg "int" = none) (ha : PAd X C W [e] sc dl) (hg : Gl X "int" := by rfl) (he : starEach [e] X.env = (false, eval e X.env) :: starEach [] X.env := by rfl) (hpl : (backTo pos (starEach [] X.env)).any (·.1) = false := by rfl) : PD X C W (.Call (.Name "int" p) [e] [] pos) sc (dCallB intD dl) :=
  pd_callTy call_int1 cd_int hm ha (by decide +kernel) hg (by decide) (by decide) he hpl
def min2D : List D → Option D
  | [.int i, .int j] => some (.int (if j < i then j else i))
  | _ => none
def max2D : List D → Option D
  | [.int i, .int j] => some (.int (if j > i then j else i))
  | _ => none
theorem cd_min2 : CallD C (fun xs H Q => ∃ i j, xs = [V.int i, .int j] ∧ Q (.int (if j < i then j else i)) H) min2D := by
  intro A s H xs ds d Q I h e q
  match ds, e with
  | [.int i, .int j], e => cases e; obtain ⟨x, y, rfl, hx, hy⟩ := h.two; cases hx; cases hy; exact ⟨i, j, rfl, q _ _ Keep.refl I.at_ (.int _)⟩
theorem cd_max2 : CallD C (fun xs H Q => ∃ i j, xs = [V.int i, .int j] ∧ Q (.int (if j > i then j else i)) H) max2D := by
  intro A s H xs ds d Q I h e q
  match ds, e with
  | [.int i, .int j], e => cases e; obtain ⟨x, y, rfl, hx, hy⟩ := h.two; cases hx; cases hy; exact ⟨i, j, rfl, q _ _ Keep.refl I.at_ (.int _)⟩
theorem pd_min2 (hc : X.calm = true) (hm : X.mg "min" = none) (ha : PAd X C W [a, b] sc dl) (hg : Gl X "min" := by rfl) (he : starEach [a, b] X.env = (false, eval a X.env) :: starEach [b] X.env := by rfl) (hpl : (backTo pos (starEach [b] X.env)).any (·.1) = false := by rfl) : PD X C W (.Call (.Name "min" p) [a, b] [] pos) sc (dCallB min2D dl) :=
  pd_callB (call_min2 hc) cd_min2 hm ha (by decide +kernel) hg (by decide) (by decide) he hpl
theorem pd_max2 (hc : X.calm = true) (hm : X.mg "max" = none) (ha : PAd X C W [a, b] sc dl) (hg : Gl X "max" := by rfl) (he : starEach [a, b] X.env = (false, eval a X.env) :: starEach [b] X.env := by rfl) (hpl : (backTo pos (starEach [b] X.env)).any (·.1) = false := by rfl) : PD X C W (.Call (.Name "max" p) [a, b] [] pos) sc (dCallB max2D dl) :=
  pd_callB (call_max2 hc) cd_max2 hm ha (by decide +kernel) hg (by decide) (by decide) he hpl
/-- list(x): a fresh list -/
def itemsD : D → Option (List D)
  | .lst ds => some ds
  | .tup ds => some ds
  | _ => none
def dListOf (de : DE S) : DA S := fun ρ s => (de ρ s).bind fun d s1 => ofO s1 ((itemsD d).filter fun ds => ds.length ≤ 65536)
theorem pf_list (hm : X.mg "list" = none) (h : PD X C W e sc de) (hg : Gl X "list" := by rfl) (he : starEach [e] X.env = (false, eval e X.env) :: starEach [] X.env := by rfl) (hpl : (backTo pos (starEach [] X.env)).any (·.1) = false := by rfl) : PF X C W (.Call (.Name "list" p) [e] [] pos) sc (dListOf de) :=
  pf_of (pe_callTy call_list_of hg hm (by decide +kernel) (pa_cons h pa_nil he) (by decide) (by decide) he hpl) fun A0 H0 A ρ st σ H Q I g => ⟨A0, H0, A, ρ, st, I, g.bind.imp fun d s1 H1 k1 t1 g1 v dv => by
    obtain ⟨ds, eds, q⟩ := g1.ofO
    obtain ⟨e1, e2⟩ := Option.filter_eq_some_iff.mp eds
    have hl : ds.length ≤ 65536 := by simpa using e2
    cases d <;> simp only [itemsD] at e1 <;> cases e1
    · obtain ⟨p, xs, rfl, n, r, t⟩ := dv.of_tup
      exact ⟨p, xs, rfl, .inr (.of r), fun l hl' => q H1 Keep.refl t1 l xs hl' t (by rw [t.len]; exact small_line hl)⟩
    · obtain ⟨p, xs, rfl, n, r, t⟩ := dv.of_lst
      exact ⟨p, xs, rfl, .inl (.of r), fun l hl' => q H1 Keep.refl t1 l xs hl' t (by rw [t.len]; exact small_line hl)⟩⟩

/-! ### isinstance -/
def tyD : D → Option String
  | .non => some "NoneType"
  | .bl _ => some "bool"
  | .int _ => some "int"
  | .str _ => some "str"
  | .tup _ => some "tuple"
  | .lst _ => some "list"
  | _ => none
theorem tyx_of {K : PySem.W.Frag} {v : V} {d : D} {T : String} (h : Dat C H A v d) (e : tyD d = some T) : TyX K H v (.type T) := by
  cases d <;> simp only [tyD] at e <;> cases e
  · cases h; exact .base .non
  · cases h; exact .base (.bl _)
  · cases h; exact .base (.int _)
  · cases h; exact .base (.str _)
  · obtain ⟨p, xs, rfl, n, r, t⟩ := h.of_tup; exact .base (.tup r)
  · obtain ⟨p, xs, rfl, n, r, t⟩ := h.of_lst; exact .base (.lst r)
def isiD (T : String) (d : D) : Option D := ((tyD d).bind fun t => kitB t T).map .bl
def dIsi (T : String) (de : DE S) : DE S := fun ρ s => (de ρ s).bind fun d s1 => ofO s1 (isiD T d)
theorem pd_isi (T : String) {x : Str} (hm1 : X.mg "isinstance" = none) (hm : X.mg x = none) (h : PD X C W e sc de) (hv : bootBuiltins x = some (.type T) := by decide +kernel) (hg : Gl X x := by rfl) (hg1 : Gl X "isinstance" := by rfl) (hn : x ≠ "__name__" := by decide) (hdb : (x == ("__debug__" : Str)) = false := by decide) {q : Pos}
    (he : starEach [e, .Name x q] X.env = (false, eval e X.env) :: starEach [.Name x q] X.env := by rfl) (he2 : starEach [.Name x q] X.env = (false, eval (.Name x q) X.env) :: starEach [] X.env := by rfl) (hpl : (backTo pos (starEach [.Name x q] X.env)).any (·.1) = false := by rfl) : PD X C W (.Call (.Name "isinstance" p) [e, .Name x q] [] pos) [] (dIsi T de) :=
  pd_of (pe_callB call_isi hg1 hm1 (by decide +kernel) (pa_cons h (pa_cons (pe_bltn (v := .ty T) hg hm hv rfl hn hdb) pa_nil he2) he) (by decide) (by decide) he hpl) fun A0 H0 A ρ st σ H Q I g => ⟨A0, H0, A, ρ, st, I, g.bind.imp fun d s1 H1 k1 t1 g1 v dv => by
    obtain ⟨d2, e2, q⟩ := g1.ofO
    obtain ⟨k, e3, rfl⟩ := Option.map_eq_some_iff.mp e2
    obtain ⟨t, e4, e5⟩ := Option.bind_eq_some_iff.mp e3
    exact ⟨v, .ty T, .type t, .type T, k, rfl, .ty T, tyx_of dv e4, kit_ty e5, q H1 Keep.refl t1 _ (.bl k)⟩⟩
/-! the answers, by cases -/
theorem kb_int_int : kitB "int" "int" = some true := by decide +kernel
theorem kb_bool_int : kitB "bool" "int" = some true := by decide +kernel
theorem kb_none_int : kitB "NoneType" "int" = some false := by decide +kernel
theorem kb_str_int : kitB "str" "int" = some false := by decide +kernel
theorem kb_tup_int : kitB "tuple" "int" = some false := by decide +kernel
theorem kb_lst_int : kitB "list" "int" = some false := by decide +kernel
theorem kb_int_bool : kitB "int" "bool" = some false := by decide +kernel
theorem kb_bool_bool : kitB "bool" "bool" = some true := by decide +kernel
theorem kb_none_bool : kitB "NoneType" "bool" = some false := by decide +kernel
theorem kb_str_bool : kitB "str" "bool" = some false := by decide +kernel
theorem kb_tup_bool : kitB "tuple" "bool" = some false := by decide +kernel
theorem kb_lst_bool : kitB "list" "bool" = some false := by decide +kernel
theorem kb_int_str : kitB "int" "str" = some false := by decide +kernel
theorem kb_bool_str : kitB "bool" "str" = some false := by decide +kernel
theorem kb_none_str : kitB "NoneType" "str" = some false := by decide +kernel
theorem kb_str_str : kitB "str" "str" = some true := by decide +kernel
theorem kb_tup_str : kitB "tuple" "str" = some false := by decide +kernel
theorem kb_lst_str : kitB "list" "str" = some false := by decide +kernel
theorem kb_int_tup : kitB "int" "tuple" = some false := by decide +kernel
theorem kb_bool_tup : kitB "bool" "tuple" = some false := by decide +kernel
theorem kb_none_tup : kitB "NoneType" "tuple" = some false := by decide +kernel
theorem kb_str_tup : kitB "str" "tuple" = some false := by decide +kernel
theorem kb_tup_tup : kitB "tuple" "tuple" = some true := by decide +kernel
theorem kb_lst_tup : kitB "list" "tuple" = some false := by decide +kernel
theorem kb_int_lst : kitB "int" "list" = some false := by decide +kernel
theorem kb_bool_lst : kitB "bool" "list" = some false := by decide +kernel
theorem kb_none_lst : kitB "NoneType" "list" = some false := by decide +kernel
theorem kb_str_lst : kitB "str" "list" = some false := by decide +kernel
theorem kb_tup_lst : kitB "tuple" "list" = some false := by decide +kernel
theorem kb_lst_lst : kitB "list" "list" = some true := by decide +kernel

/-! ### defs -/
/-- a def's promise by its function on data -/
def spOf (mg : Str → Option Value) (PC : Deck S → Prop) (n : Nat) (m : List D → S → R S D) : Sp := fun vs H Q E => ∃ (C : Deck S) (A : Addr → Prop) (s : S) (ds : List D), PC C ∧ VAt C A H s ∧ Dats C H A vs ds ∧ ds.length = n ∧
  match m ds s with
  | .ok d s' => ∀ H' v, Keep C.dom H H' → C.At s' H' → Dat C H' A v d → Q v H'
  | .ex c s' => ∀ a H', mg c = some (.ref a) → Keep C.dom H H' → C.At s' H' → E (.ref a) none H'
  | .bad => False
/-- a def under its name -/
structure Fn (P : Program) (w : World) (K : PySem.W.Frag) (mg : Str → Option Value) (base : Heap) (PC : Deck S → Prop) (x : Str) (k n : Nat) (m : List D → S → R S D) : Prop where
  ex : ∃ (f : Addr) (fd : FuncData) (ps : List Str), FnOk P w K mg base (L2.CX P w) k f fd ps (spOf mg PC n m) ∧ mg x = some (.ref f) ∧ PySem.W.keepIn K (.ref f) = true ∧ Binds K fd ps []
variable {PC : Deck S → Prop}
theorem spOf.imp {mg : Str → Option Value} {n : Nat} {m m' : List D → S → R S D} (h : ∀ ds s, ds.length = n → m' ds s ≠ .bad → m ds s = m' ds s) {vs : List V} {H : Hp} {Q : VK} {E : XK} (g : spOf mg PC n m' vs H Q E) : spOf mg PC n m vs H Q E := by
  obtain ⟨C, A, s, ds, pc, V, D, hl, g⟩ := g
  refine ⟨C, A, s, ds, pc, V, D, hl, ?_⟩
  cases e : m' ds s with
  | bad => rw [e] at g; exact g.elim
  | ok d s' => rw [h ds s hl (by rw [e]; exact fun z => nomatch z), e]; rw [e] at g; exact g
  | ex c s' => rw [h ds s hl (by rw [e]; exact fun z => nomatch z), e]; rw [e] at g; exact g
theorem Fn.imp {P : Program} {w : World} {K : PySem.W.Frag} {mg : Str → Option Value} {base : Heap} {x : Str} {k n : Nat} {m m' : List D → S → R S D} (F : Fn P w K mg base PC x k n m) (h : ∀ ds s, ds.length = n → m' ds s ≠ .bad → m ds s = m' ds s) : Fn P w K mg base PC x k n m' := by
  obtain ⟨f, fd, ps, F, r⟩ := F.ex
  exact ⟨f, fd, ps, F.imp fun vs H Q E g => spOf.imp h g, r⟩
theorem Fn.mono {P : Program} {w : World} {K : PySem.W.Frag} {mg : Str → Option Value} {base : Heap} {x : Str} {k k' n : Nat} {m : List D → S → R S D} (F : Fn P w K mg base PC x k n m) (h : k ≤ k') : Fn P w K mg base PC x k' n m := by
  obtain ⟨f, fd, ps, F, r⟩ := F.ex
  exact ⟨f, fd, ps, F.mono h, r⟩
def dCall (m : List D → S → R S D) (dl : DA S) : DE S := fun ρ s => (dl ρ s).bind m
theorem call_d {n : Nat} {m : List D → S → R S D} (I : SAt C A0 H0 A H σ ρ st) (pc : PC C) {Q : VK} {vs : List V} {ds : List D} (hl : ds.length = n) (dvs : Dats C H (Amin A σ ρ sc) vs ds) (g : RG C X.mg W σ H (m ds st) fun d _ H' => ∀ v, Dat C H' (Amin A σ ρ sc) v d → Q v H') :
    spOf X.mg PC n m vs H Q (WE W σ) := by
  refine ⟨C, Amin A σ ρ sc, st, ds, pc, I.vat sc, dvs, hl, ?_⟩
  cases e : m ds st with
  | bad => rw [e] at g; exact g
  | ok d s' => rw [e] at g; exact fun H' v k t h => g H' k t v h
  | ex c s' => rw [e] at g; exact g
theorem Dats.length_eq {xs : List V} {ds : List D} (h : Dats C H A xs ds) : ds.length = xs.length := h.len.symm
/-- how many arguments are written -/
def dLen (n : Nat) (dl : DA S) : Prop := ∀ ρ s ds s', dl ρ s = .ok ds s' → ds.length = n
theorem dLen_nil : dLen 0 (dNil : DA S) := fun ρ s ds s' e => by cases e; rfl
theorem dLen_cons {n : Nat} (h : dLen n dl) : dLen (n + 1) (dCons de dl) := fun ρ s ds s' e => by
  unfold dCons at e
  cases e1 : de ρ s with
  | bad => rw [e1] at e; cases e
  | ex c s1 => rw [e1] at e; cases e
  | ok d s1 =>
    rw [e1] at e
    simp only [R.bind_ok] at e
    cases e2 : dl ρ s1 with
    | bad => rw [e2] at e; cases e
    | ex c s1 => rw [e2] at e; cases e
    | ok ds2 s2 =>
      rw [e2] at e
      cases e
      rw [List.length_cons, h _ _ _ _ e2]
theorem pd_call {x : Str} {k j n : Nat} {m : List D → S → R S D} (F : Fn X.prog X.w X.K X.mg X.base PC x k n m) (pc : PC C) (hr : Room j X.A) (hk : k ≤ j) (tk : Takes X W) (ha : PAd X C W (e :: es) sc dl) (hn : dLen n dl) (hg : Gl X x := by rfl) (hdb : (x == ("__debug__" : Str)) = false := by decide)
    (he : starEach (e :: es) X.env = (false, eval e X.env) :: starEach es X.env := by rfl) (hpl : (backTo pos (starEach es X.env)).any (·.1) = false := by rfl) : PD X C W (.Call (.Name x p) (e :: es) [] pos) sc (dCall m dl) := by
  obtain ⟨f, fd, ps, F, hm, hkp, hb⟩ := F.ex
  refine pd_of (pe_callS F (hr.mono hk) hg hm hkp hb (fun σ => passAt tk σ) ha hdb he hpl) fun A0 H0 A ρ st σ H Q I g => ?_
  unfold dCall at g
  have hn' := hn ρ st
  refine ⟨A0, H0, A, ρ, st, I, ?_⟩
  cases e1 : dl ρ st with
  | bad => rw [e1] at g; exact g
  | ex c s1 => rw [e1] at g; exact g
  | ok ds s1 =>
    rw [e1] at g
    simp only [R.bind_ok] at g
    exact fun H' k t vs dvs => call_d (I.next k t) pc (hn' _ _ e1) dvs (g.move k)

/-! ### statements -/
def R.out {α : Type} (r : R S α) (ρ : En) (f : α → S → Out S) : Out S :=
  match r with
  | .ok a s => f a s
  | .ex c s => .ex c ρ s
  | .bad => .bad
@[simp] theorem R.out_ok {α : Type} {a : α} {s : S} {ρ : En} {f : α → S → Out S} : (R.ok a s).out ρ f = f a s := rfl
@[simp] theorem R.out_ex {α : Type} {c : Str} {s : S} {ρ : En} {f : α → S → Out S} : (R.ex c s : R S α).out ρ f = .ex c ρ s := rfl
@[simp] theorem R.out_bad {α : Type} {ρ : En} {f : α → S → Out S} : (R.bad : R S α).out ρ f = .bad := rfl
variable {mg : Str → Option Value} {DD : Ends}
theorem SG.out {α : Type} {r : R S α} {f : α → S → Out S} (I : SAt C A0 H0 A H σ ρ st) (g : SG C mg W A0 H0 (r.out ρ f) DD) : RG C mg W σ H r fun a s H' => SAt C A0 H0 A H' σ ρ s ∧ SG C mg W A0 H0 (f a s) DD := by
  cases r with
  | ok a s => exact fun H' k t => ⟨I.next k t, g⟩
  | ex c s => exact fun a H' m k t => g a A H' σ m (I.next k t)
  | bad => exact g
variable {s0 : Stmt} {ss : List Stmt} {ds ds' : DS S}
theorem psd_of {t : TS} (h : PS X s0 t) (i : ∀ (A0 : Addr → Prop) (H0 : Hp) (A : Addr → Prop) (ρ : En) (st : S) (σ : St) (H : Hp) (DD : Ends), SAt C A0 H0 A H σ ρ st → SG C X.mg W A0 H0 (ds ρ st) DD → t DD σ H) : PSd X C W s0 ds :=
  ps_imp h fun DD σ H ⟨A0, H0, A, ρ, st, I, g⟩ => i A0 H0 A ρ st σ H DD I g
def dNext : DS S := fun ρ s => .nx ρ s
def dSeq (ds ds' : DS S) : DS S := fun ρ s => match ds ρ s with
  | .nx ρ' s' => ds' ρ' s'
  | o => o
theorem SG.nx_done {DD : Ends} (g : SG C mg W A0 H0 (.nx ρ st) DD) (I : SAt C A0 H0 A H σ ρ st) : DD.nx σ H := g A H σ I
theorem pbd_nil : PBd X C W [] (dNext : DS S) := pss_imp pss_nil fun DD σ H ⟨A0, H0, A, ρ, st, I, g⟩ => g A H σ I
theorem SG.seq (g : SG C mg W A0 H0 (dSeq ds ds' ρ st) DD) : SG C mg W A0 H0 (ds ρ st) { DD with nx := cts C mg W ds' DD } := by
  unfold dSeq at g
  cases e : ds ρ st with
  | nx ρ' s' => rw [e] at g; exact fun A H σ I => ⟨A0, H0, A, ρ', s', I, g⟩
  | rt d s' => rw [e] at g; exact g
  | bk ρ' s' => rw [e] at g; exact g
  | ct ρ' s' => rw [e] at g; exact g
  | ex c ρ' s' => rw [e] at g; exact g
  | bad => rw [e] at g; exact g
theorem pbd_cons (h : PSd X C W s0 ds) (h' : PBd X C W ss ds') : PBd X C W (s0 :: ss) (dSeq ds ds') := pss_imp (pss_cons h h') fun DD σ H ⟨A0, H0, A, ρ, st, I, g⟩ => ⟨A0, H0, A, ρ, st, I, g.seq⟩
theorem pbd_one (h : PSd X C W s0 ds) : PBd X C W [s0] ds := pss_one h
theorem psd_pass : PSd X C W (.Pass pos) (dNext : DS S) := psd_of ps_pass fun A0 H0 A ρ st σ H DD I g => g A H σ I
def dBreak : DS S := fun ρ s => .bk ρ s
def dCont : DS S := fun ρ s => .ct ρ s
theorem psd_break : PSd X C W (.Break pos) (dBreak : DS S) := psd_of ps_break fun A0 H0 A ρ st σ H DD I g => g A H σ I
theorem psd_cont : PSd X C W (.Continue pos) (dCont : DS S) := psd_of ps_continue fun A0 H0 A ρ st σ H DD I g => g A H σ I
def dRet (de : DE S) : DS S := fun ρ s => (de ρ s).out ρ fun d s1 => .rt d s1
theorem psd_ret (h : PD X C W e sc de) : PSd X C W (.Return (some e) pos) (dRet de) :=
  psd_of (ps_ret h) fun A0 H0 A ρ st σ H DD I g => ⟨A0, H0, A, ρ, st, I, (g.out I).imp fun d s1 H1 k1 t1 ⟨I1, g1⟩ v dv => g1 H1 v I1.keep t1 (dv.less (I1.sub0 sc))⟩
def dRetN : DS S := fun _ s => .rt .non s
theorem psd_retN : PSd X C W (.Return none pos) (dRetN : DS S) := psd_of ps_retN fun A0 H0 A ρ st σ H DD I g => g H .non I.keep I.at_ .non
def dIfS (dt : DT S) (ds ds' : DS S) : DS S := fun ρ s => (dt ρ s).out ρ fun k s1 => if k = true then ds ρ s1 else ds' ρ s1
theorem psd_if {xs ys : List Stmt} (hc : PTd X C W c dt) (ha : PBd X C W xs ds) (hb : PBd X C W ys ds') : PSd X C W (.If c xs ys pos) (dIfS dt ds ds') :=
  psd_of (ps_if hc ha hb) fun A0 H0 A ρ st σ H DD I g => ⟨A0, H0, A, ρ, st, I, (g.out I).imp fun k s1 H1 k1 t1 ⟨I1, g1⟩ => by
    cases k with
    | true => exact ⟨A0, H0, A, ρ, s1, I1, g1⟩
    | false => exact ⟨A0, H0, A, ρ, s1, I1, g1⟩⟩
def dDrop (de : DE S) : DS S := fun ρ s => (de ρ s).out ρ fun _ s1 => .nx ρ s1
theorem psd_drop (h : PD X C W e sc de) (hs : swapsWith e none pos.line X.env = pure false := by rfl) : PSd X C W (.Expr e pos) (dDrop de) :=
  psd_of (ps_expr h hs) fun A0 H0 A ρ st σ H DD I g => ⟨A0, H0, A, ρ, st, I, (g.out I).imp fun d s1 H1 k1 t1 ⟨I1, g1⟩ v dv => g1 A H1 σ I1⟩

/-! ### assignment -/
def scal : Sl → Bool
  | .val .non => true
  | .val (.bl _) => true
  | .val (.int _) => true
  | .val (.str _) => true
  | .val .deck => true
  | _ => false
def frzs (x : Sl) (sc : List Nat) (ρ : En) : En := if scal x then ρ else frz sc ρ
@[simp] theorem frzs_nil (x : Sl) (ρ : En) : frzs x [] ρ = ρ := by unfold frzs; split <;> simp
/-- a value for a slot: data, or a fresh list -/
def ctv (C : Deck S) (mg : Str → Option Value) (W : WX) (sc : List Nat) (dv : E1 S Sl) : TE := fun σ H Q => ∃ A0 H0 A ρ st, SAt C A0 H0 A H σ ρ st ∧
  RG C mg W σ H (dv ρ st) fun x _ H1 => match x with
    | .val d => ∀ v, Dat C H1 (Amin A σ ρ sc) v d → Q v H1
    | .own ds => ∀ p xs, H1 p = none → Dats C H1 (Amin A σ ρ sc) xs ds → xs.length ≤ sizeLine → Q (.ref p) (upd H1 p (.lst xs))
def PV (X : Cx) (C : Deck S) (W : WX) (e : Expr) (sc : List Nat) (dv : E1 S Sl) : Prop := PE X e (ctv C X.mg W sc dv)
def dV (de : DE S) : E1 S Sl := fun ρ s => (de ρ s).map .val
def dO (dl : DA S) : E1 S Sl := fun ρ s => (dl ρ s).map .own
theorem pv_v (h : PD X C W e sc de) : PV X C W e sc (dV de) := pe_imp h fun σ H Q ⟨A0, H0, A, ρ, st, I, g⟩ => ⟨A0, H0, A, ρ, st, I, g.map⟩
theorem pv_o (h : PF X C W e sc dl) : PV X C W e sc (dO dl) := pe_imp h fun σ H Q ⟨A0, H0, A, ρ, st, I, g⟩ => ⟨A0, H0, A, ρ, st, I, g.map⟩
/-- a value that waits to be stored -/
structure Pend (C : Deck S) (A0 : Addr → Prop) (H0 : Hp) (A : Addr → Prop) (H : Hp) (σ : St) (ρ : En) (v : V) (x : Sl) : Prop where
  sl : SlAt C A0 H0 A H v x
  apart : ∀ ds, x = .own ds → ∀ (j : Nat) es, ρ[j]? = some (some (.own es)) → σ[j]? ≠ some (some v)
theorem SAt.give {v : V} {x : Sl} {i : Nat} (I : SAt C A0 H0 A H σ ρ st) (h : Pend C A0 H0 A H σ ρ v x) : SAt C A0 H0 A H (σ.set i (some v)) (ρ.set i (some x)) st where
  len := by rw [List.length_set, List.length_set]; exact I.len
  sl := fun j y e => by
    by_cases hj : j = i
    · subst hj
      have hl : j < ρ.length := by have := (List.getElem?_eq_some_iff.mp e).1; rwa [List.length_set] at this
      rw [List.getElem?_set_self hl] at e
      cases e
      exact ⟨v, by rw [List.getElem?_set_self (by rw [I.len]; exact hl)], h.sl⟩
    · rw [List.getElem?_set_ne (Ne.symm hj)] at e
      obtain ⟨w, e1, q⟩ := I.sl j y e
      exact ⟨w, by rw [List.getElem?_set_ne (Ne.symm hj)]; exact e1, q⟩
  apart := fun j k ds es n e1 e2 => by
    have ne : ∀ {j : Nat} {ds : List D}, (ρ.set i (some x))[j]? = some (some (Sl.own ds)) → (j = i ∧ x = .own ds ∧ (σ.set i (some v))[j]? = some (some v)) ∨ (j ≠ i ∧ ρ[j]? = some (some (Sl.own ds))) := fun {j ds} e => by
      by_cases hj : j = i
      · subst hj
        have hl : j < ρ.length := by have := (List.getElem?_eq_some_iff.mp e).1; rwa [List.length_set] at this
        rw [List.getElem?_set_self hl] at e
        cases e
        exact .inl ⟨rfl, rfl, List.getElem?_set_self (by rw [I.len]; exact hl)⟩
      · exact .inr ⟨hj, by rwa [List.getElem?_set_ne (Ne.symm hj)] at e⟩
    rcases ne e1 with ⟨j1, x1, q1⟩ | ⟨n1, q1⟩ <;> rcases ne e2 with ⟨j2, x2, q2⟩ | ⟨n2, q2⟩
    · exact absurd (j1.trans j2.symm) n
    · rw [q1, List.getElem?_set_ne (Ne.symm n2)]
      exact fun z => h.apart _ x1 k _ q2 z.symm
    · rw [q2, List.getElem?_set_ne (Ne.symm n1)]
      exact h.apart _ x2 j _ q1
    · rw [List.getElem?_set_ne (Ne.symm n1), List.getElem?_set_ne (Ne.symm n2)]
      exact I.apart j k ds es n q1 q2
  fresh := I.fresh
  sub := I.sub
  lim := I.lim
  dom := I.dom
  keep := I.keep
  at_ := I.at_
/-- a fresh list, known to this frame alone -/
theorem SAt.newOwn {p : Addr} {xs : List V} {ds : List D} (I : SAt C A0 H0 A H σ ρ st) (hp : H p = none) (t : Dats C H A xs ds) :
    SAt C A0 H0 (fun a => A a ∨ a = p) (upd H p (.lst xs)) σ ρ st ∧ Pend C A0 H0 (fun a => A a ∨ a = p) (upd H p (.lst xs)) σ ρ (.ref p) (.own ds) := by
  have nA : ¬ A p := fun z => I.fresh p z hp
  have kp : Keep C.dom H (upd H p (.lst xs)) := Keep.upd hp
  have I1 := I.next kp (at_upd I.at_ hp)
  have h0 : H0 p = none := by
    cases e : H0 p with
    | none => rfl
    | some o =>
      by_cases z : C.dom p
      · exact absurd (I.domA p z) nA
      · have := I.keep p o z e; rw [hp] at this; cases this
  have lift : ∀ {v d}, Dat C H A v d → Dat C (upd H p (.lst xs)) (fun a => A a ∨ a = p) v d := fun h => h.lift kp I.domA fun a ha => ha.imp id fun z => by rw [z]; exact hp
  refine ⟨⟨I.len, fun i x e => ?_, I.apart, fun a ha => ?_, fun a ha => .inl (I.sub a ha), fun a ha => ?_, I.dom, I1.keep, I1.at_⟩, ⟨⟨p, xs, rfl, .inr rfl, h0, fun z => nA (I.sub p z), upd_same, t.len, fun i x d e1 e2 => lift (t.at_ i x d e1 e2)⟩, fun ds _ j es e z => ?_⟩⟩
  · obtain ⟨v, e1, q⟩ := I.sl i x e
    refine ⟨v, e1, ?_⟩
    cases x with
    | val d => exact lift q
    | own es =>
      obtain ⟨a, ys, rfl, h1, h2, h3, h4, h5⟩ := q
      exact ⟨a, ys, rfl, .inl h1, h2, h3, by rw [upd_ne (ne_of_none h4 hp)]; exact h4, h5.len, fun i x d e1 e2 => lift (h5.at_ i x d e1 e2)⟩
  · rcases ha with ha | rfl
    · exact I1.fresh a ha
    · rw [upd_same]; exact fun z => nomatch z
  · rcases ha with ha | rfl
    · exact I.lim a ha
    · exact .inr h0
  · obtain ⟨v, e1, a, ys, rfl, h1, h2, h3, h4, h5⟩ := I.sl j _ e
    rw [e1] at z
    cases z
    rw [hp] at h4; cases h4
theorem SAt.freezes (I : SAt C A0 H0 A H σ ρ st) (x : Sl) (sc : List Nat) {v : V} (hv : ∀ d, x = .val d → Dat C H (Amin A σ ρ sc) v d) : ∃ A', SAt C A0 H0 A' H σ (frzs x sc ρ) st ∧ (∀ a, A' a → A a) ∧ (scal x = false → A' = Amin A σ ρ sc) ∧ ∀ d, x = .val d → Dat C H A' v d := by
  unfold frzs
  by_cases hs : scal x = true
  · rw [if_pos hs]
    refine ⟨A, I, fun _ z => z, (by rw [hs]; exact fun z => nomatch z), fun d e => ?_⟩
    subst e
    have h := hv d rfl
    cases h <;> simp only [scal] at hs <;> first | cases hs | skip
    · exact .non
    · exact .bl _
    · exact .int _
    · exact .str (by assumption)
    · exact .deck
  · rw [if_neg hs]
    exact ⟨_, I.freeze sc, fun _ => Amin.sub, fun _ => rfl, fun d e => hv d e⟩
def dAsg (i : Nat) (sc : List Nat) (dv : E1 S Sl) : DS S := fun ρ s => (dv ρ s).out ρ fun x s1 => .nx ((frzs x sc ρ).set i (some x)) s1
/-- the slot is given what was reckoned -/
theorem ctv_give {i : Nat} {dv : E1 S Sl} {DD : Ends} (I : SAt C A0 H0 A H σ ρ st) (g : SG C mg W A0 H0 (dAsg i sc dv ρ st) DD) : ctv C mg W sc dv σ H fun v H' => DD.nx (σ.set i (some v)) H' :=
  ⟨A0, H0, A, ρ, st, I, (g.out I).imp fun x s1 H1 k1 t1 ⟨I1, g1⟩ => by
    cases x with
    | val d =>
      intro v dv
      obtain ⟨A', I2, _, _, h2⟩ := I1.freezes (.val d) sc (v := v) (fun d' e => by cases e; exact dv)
      exact g1 A' H1 _ (I2.give ⟨h2 d rfl, fun ds e => nomatch e⟩)
    | own ds =>
      intro p xs hp t hz
      obtain ⟨A', I2, _, e2, _⟩ := I1.freezes (.own ds) sc (v := .non) (fun d' e => nomatch e)
      have e2 := e2 rfl
      subst e2
      obtain ⟨I3, P3⟩ := I2.newOwn hp t
      exact g1 _ _ _ (I3.give P3)⟩
theorem psd_asg (i : Nat) {x : Str} {px : Pos} {dv : E1 S Sl} (nd : X.N.Nodup) (he : PV X C W e sc dv) (hi : X.N[i]? = some x := by rfl) (hx : Loc X.env.scope x := by first | exact Or.inl rfl | exact Or.inr rfl) (hf : X.fn x = true ∨ X.env.scope.names.lookup x = some .local := by first | exact .inl rfl | exact .inr rfl | assumption)
    (hs : swapsWithSole [.Name x px] e pos.line X.env = pure false := by rfl) (hw : swappedStores [.Name x px] e X.env = pure none := by rfl) (h1 : (assignEach [.Name x px] X.env).map (·.2) = [assign (.Name x px) X.env] := by rfl) : PSd X C W (.Assign [.Name x px] e pos) (dAsg i sc dv) :=
  psd_of (ps_asg he (pg_name nd hi hx hf) hs hw h1) fun A0 H0 A ρ st σ H DD I g => ctv_give I g
end
end Mir

set_option Elab.async false
set_option linter.all false
set_option maxRecDepth 100000
set_option maxHeartbeats 2000000
namespace Mir
open PySem PySem.Spec L2
open PyProof.Rows hiding St

section
variable {S : Type} {C : Deck S} {X : Cx} {W : WX} {A0 A A' : Addr → Prop} {H0 H H' B : Hp} {σ : St} {ρ : En} {st st' : S}
variable {e a b c tg iter : Expr} {es rest : List Expr} {pos p p2 : Pos} {sc sc' sa sb vs : List Nat} {de da db dc : DE S} {dt dt' du : DT S} {dl : DA S} {ds ds' : DS S} {mg : Str → Option Value} {DD : Ends} {xs ys : List Stmt}
/-! ### targets -/
abbrev DG := D → En → Option En
/-- d given to the target makes g of the slots; gs: the slots that it sets -/
def ctg (C : Deck S) (gs : List Nat) (g : DG) : TG := fun v σ H Q => ∃ A0 H0 A ρ st d ρ', SAt C A0 H0 A H σ ρ st ∧ Dat C H A v d ∧ g d ρ = some ρ' ∧
  ∀ σ', SAt C A0 H0 A H σ' ρ' st → (∀ vs : List Nat, (∀ i ∈ gs, i ∈ vs) → wipe σ' vs = wipe σ vs) → Q σ' H
/-- a target makes no list one's own -/
def NoOwn (g : DG) : Prop := ∀ d ρ ρ', g d ρ = some ρ' → ∀ (i : Nat) ds, ρ'[i]? = some (some (.own ds)) → ρ[i]? = some (some (.own ds))
structure PGd (X : Cx) (C : Deck S) (tg : Expr) (gs : List Nat) (g : DG) : Prop where
  pg : PG X tg (ctg C gs g)
  no : NoOwn g
theorem pg_imp {t t' : TG} (h : PG X tg t) (i : ∀ v σ H Q, t' v σ H Q → t v σ H Q) : PG X tg t' := ⟨fun pins s σ H v u Q I r q => h.run pins s σ H v u Q I r (i v σ H Q q)⟩
def gN (i : Nat) : DG := fun d ρ => some (ρ.set i (some (.val d)))
theorem wipe_set {σ : St} {i : Nat} {x : Option V} : ∀ {vs : List Nat}, i ∈ vs → wipe (σ.set i x) vs = wipe σ vs
  | v :: vs, h => by
    unfold wipe
    by_cases hv : v = i
    · subst hv
      by_cases h2 : v ∈ vs
      · rw [wipe_set h2]
      · have e : ∀ (σ : St) (x : Option V) (vs : List Nat), v ∉ vs → wipe (σ.set v x) vs = (wipe σ vs).set v x := by
          intro σ x vs
          induction vs with
          | nil => intro _; rfl
          | cons w ws ih =>
            intro hn
            simp only [List.mem_cons, not_or] at hn
            unfold wipe
            rw [ih hn.2, List.set_comm _ _ (Ne.symm hn.1).symm]
        rw [e _ _ _ h2, List.set_set]
    · have : i ∈ vs := (List.mem_cons.mp h).resolve_left fun z => hv z.symm
      rw [wipe_set this]
theorem pgd_name (i : Nat) {x : Str} (nd : X.N.Nodup) (hi : X.N[i]? = some x := by rfl) (hx : Loc X.env.scope x := by first | exact Or.inl rfl | exact Or.inr rfl) (hf : X.fn x = true ∨ X.env.scope.names.lookup x = some .local := by first | exact .inl rfl | exact .inr rfl | assumption) : PGd X C (.Name x pos) [i] (gN i) where
  no := fun d ρ ρ' e j ds h => by
    cases e
    by_cases hj : j = i
    · subst hj
      have hl : j < ρ.length := by have := (List.getElem?_eq_some_iff.mp h).1; rwa [List.length_set] at this
      rw [List.getElem?_set_self hl] at h; cases h
    · rwa [List.getElem?_set_ne (Ne.symm hj)] at h
  pg := pg_imp (pg_name nd hi hx hf) fun v σ H Q ⟨A0, H0, A, ρ, st, d, ρ', I, hd, e, k⟩ => by
    cases e
    exact k _ (I.set hd) fun vs hv => wipe_set (hv i (by simp))
/-- targets of a tuple, one after another -/
abbrev DGs := List D → En → Option En
def ctgs (C : Deck S) (gs : List Nat) (g : DGs) : TGs := fun vs σ H Q => ∃ A0 H0 A ρ st ds ρ', SAt C A0 H0 A H σ ρ st ∧ Dats C H A vs ds ∧ g ds ρ = some ρ' ∧
  ∀ σ', SAt C A0 H0 A H σ' ρ' st → (∀ vs : List Nat, (∀ i ∈ gs, i ∈ vs) → wipe σ' vs = wipe σ vs) → Q σ' H
structure PGsd (X : Cx) (C : Deck S) (ts : List Expr) (gs : List Nat) (g : DGs) : Prop where
  pg : PGs X ts (ctgs C gs g)
  no : ∀ ds ρ ρ', g ds ρ = some ρ' → ∀ (i : Nat) es, ρ'[i]? = some (some (.own es)) → ρ[i]? = some (some (.own es))
theorem pgs_imp {ts : List Expr} {t t' : TGs} (h : PGs X ts t) (i : ∀ v σ H Q, t' v σ H Q → t v σ H Q) : PGs X ts t' := ⟨fun pins s σ H v u Q I r q => h.run pins s σ H v u Q I r (i v σ H Q q)⟩
def gsNil : DGs := fun ds ρ => match ds with
  | [] => some ρ
  | _ => none
def gsCons (g : DG) (gs : DGs) : DGs := fun ds ρ => match ds with
  | d :: r => (g d ρ).bind fun ρ1 => gs r ρ1
  | [] => none
theorem pgsd_nil : PGsd X C [] [] gsNil := .mk (no := fun ds ρ ρ' e i es h => by cases ds <;> simp only [gsNil] at e <;> cases e; exact h) (pg := pgs_imp pgs_nil fun vs σ H Q ⟨A0, H0, A, ρ, st, ds, ρ', I, hd, e, k⟩ => by
  cases ds with
  | nil => cases e; exact ⟨hd.unnil, k σ I fun _ _ => rfl⟩
  | cons d r => cases e)
theorem pgsd_cons {t : Expr} {ts : List Expr} {g : DG} {gs : DGs} {l l' : List Nat} (h : PGd X C t l g) (h' : PGsd X C ts l' gs) (hs : (assignEach (t :: ts) X.env).map (·.2) = assign t X.env :: (assignEach ts X.env).map (·.2) := by rfl) : PGsd X C (t :: ts) (l ++ l') (gsCons g gs) where
  no := fun ds ρ ρ' e i es q => by
    cases ds with
    | nil => cases e
    | cons d r =>
      obtain ⟨ρ1, e1, e2⟩ := Option.bind_eq_some_iff.mp e
      exact h.no d ρ ρ1 e1 i es (h'.no r ρ1 ρ' e2 i es q)
  pg := pgs_imp (pgs_cons h.pg h'.pg hs) fun vs σ H Q ⟨A0, H0, A, ρ, st, ds, ρ', I, hd, e, k⟩ => by
    cases ds with
    | nil => cases e
    | cons d r =>
      obtain ⟨ρ1, e1, e2⟩ := Option.bind_eq_some_iff.mp e
      obtain ⟨x, vr, rfl, h1, h2⟩ := hd.uncons
      exact ⟨x, vr, rfl, A0, H0, A, ρ, st, d, ρ1, I, h1, e1, fun σ1 I1 w1 => ⟨A0, H0, A, ρ1, st, r, ρ', I1, h2, e2, fun σ2 I2 w2 => k σ2 I2 fun vs hv =>
        (w2 vs fun i hi => hv i (List.mem_append_right _ hi)).trans (w1 vs fun i hi => hv i (List.mem_append_left _ hi))⟩⟩
def gT (n : Nat) (gs : DGs) : DG := fun d ρ => match d with
  | .tup ds => if ds.length = n then gs ds ρ else none
  | _ => none
theorem pgd_tup {ts : List Expr} {k : Nat} {l : List Nat} {gs : DGs} (n : Nat) (hc : X.calm = true) (h : PGsd X C ts l gs) (hn : (assignEach ts X.env).length = n := by rfl) (hst : (assignEach ts X.env).findIdx? (·.1) = none := by rfl) : PGd X C (.Tuple ts k pos) l (gT n gs) where
  no := fun d ρ ρ' e i es q => by
    cases d <;> simp only [gT] at e <;> try cases e
    split at e
    · exact h.no _ _ _ e i es q
    · cases e
  pg := pg_imp (pg_tup hc h.pg hn hst) fun v σ H Q ⟨A0, H0, A, ρ, st, d, ρ', I, hd, e, k⟩ => by
    cases d <;> simp only [gT] at e <;> try cases e
    rename_i ds
    by_cases hl : ds.length = n
    · rw [if_pos hl] at e
      obtain ⟨p, ys, rfl, na, r, t⟩ := hd.of_tup
      exact ⟨p, ys, rfl, .of r, by rw [t.len, hl], A0, H0, A, ρ, st, ds, ρ', I, t, e, k⟩
    · rw [if_neg hl] at e; cases e
/-- t1, t2 = e -/
def dAsgT (g : DG) (sc : List Nat) (de : DE S) : DS S := fun ρ s => (de ρ s).out ρ fun d s1 => match g d (frz sc ρ) with
  | some ρ' => .nx ρ' s1
  | none => .bad
theorem psd_asgT {g : DG} {l : List Nat} (he : PD X C W e sc de) (hg : PGd X C tg l g) (hs : swapsWithSole [tg] e pos.line X.env = pure false := by rfl) (hw : swappedStores [tg] e X.env = pure none := by rfl) (h1 : (assignEach [tg] X.env).map (·.2) = [assign tg X.env] := by rfl) : PSd X C W (.Assign [tg] e pos) (dAsgT g sc de) :=
  psd_of (ps_asg he hg.pg hs hw h1) fun A0 H0 A ρ st σ H DD I g' => ⟨A0, H0, A, ρ, st, I, (g'.out I).imp fun d s1 H1 k1 t1 ⟨I1, g1⟩ v dv => by
    cases e1 : g d (frz sc ρ) with
    | none => rw [e1] at g1; exact g1.elim
    | some ρ' =>
      rw [e1] at g1
      exact ⟨A0, H0, _, _, s1, d, ρ', I1.freeze sc, dv, e1, fun σ' I' _ => g1 _ _ _ I'⟩⟩
/-- a, b = e1, e2: two names -/
def dPar (i j : Nat) (sa sb : List Nat) (dv dw : E1 S Sl) : DS S := fun ρ s => (dv ρ s).out ρ fun x s1 => (dw (frzs x sa ρ) s1).out (frzs x sa ρ) fun y s2 => .nx (((frzs y sb (frzs x sa ρ)).set i (some x)).set j (some y)) s2
theorem Pend.keep {v : V} {x : Sl} (P : Pend C A0 H0 A H σ ρ v x) (I : SAt C A0 H0 A H σ ρ st) (k : Keep C.dom H H') : Pend C A0 H0 A H' σ ρ v x := by
  refine ⟨?_, P.apart⟩
  have s := P.sl
  cases x with
  | val d => exact Dat.keep s k I.domA
  | own ds =>
    obtain ⟨a, ys, rfl, h1, h2, h3, h4, h5⟩ := s
    exact ⟨a, ys, rfl, h1, h2, h3, k a _ (fun z => h3 (I.dom a z)) h4, h5.keep k I.domA⟩

/-! ### what is walked -/
/-- the iterator J hands out ds, from any heap that has what stood at B outside A -/
structure Yields (C : Deck S) (A : Addr → Prop) (B : Hp) (J : It) (ds : List D) : Prop where
  stop : ∀ H, Keep A B H → J.stop ds.length H
  go : ∀ i H, i < ds.length → Keep A B H → J.go i H
  yld : ∀ i H x H', i < ds.length → Keep A B H → J.yld i H x H' → ∃ d, ds[i]? = some d ∧ Keep C.dom H H' ∧ (∀ s, C.At s H → C.At s H') ∧ ∀ A', (∀ a, A' a → H a ≠ none) → (∀ a, A' a → A a ∨ B a = none) → Dat C H' A' x d
def cti (C : Deck S) (mg : Str → Option Value) (W : WX) (sc : List Nat) (di : DA S) : TI := fun σ H R => ∃ A0 H0 A ρ st, SAt C A0 H0 A H σ ρ st ∧ RG C mg W σ H (di ρ st) fun ds _ H1 => ∀ J, Yields C (Amin A σ ρ sc) H1 J ds → R J H1
def PId (X : Cx) (C : Deck S) (W : WX) (tg iter : Expr) (sc : List Nat) (di : DA S) : Prop := PI X tg iter (cti C X.mg W sc di)
theorem pi_imp {w w' : TI} (h : PI X tg iter w) (i : ∀ σ H R, w' σ H R → w σ H R) : PI X tg iter w' := ⟨fun pins s σ H R I q => h.run pins s σ H R I (i σ H R q)⟩
theorem pid_of {w : TI} {di : DA S} (h : PI X tg iter w) (i : ∀ (A0 : Addr → Prop) (H0 : Hp) (A : Addr → Prop) (ρ : En) (st : S) (σ : St) (H : Hp) (R : It → Hp → Prop), SAt C A0 H0 A H σ ρ st →
    RG C X.mg W σ H (di ρ st) (fun ds _ H1 => ∀ J, Yields C (Amin A σ ρ sc) H1 J ds → R J H1) → w σ H R) : PId X C W tg iter sc di := pi_imp h fun σ H R ⟨A0, H0, A, ρ, st, I, g⟩ => i A0 H0 A ρ st σ H R I g
/-- data of the base, at a later heap -/
theorem Dat.later {v : V} {d : D} (h : Dat C B A v d) (k : Keep A B H) (hA : ∀ a, A' a → A a ∨ B a = none) : Dat C H A' v d := h.lift k (fun _ z => z) hA
theorem y_list {K : PySem.W.Frag} {p : Addr} {vs : List V} {ds : List D} (n : ¬ A p) (r : B p = some (.lst vs)) (t : Dats C B A vs ds) : Yields C A B (Itl K p) ds where
  stop := fun H k => ⟨vs, .of (k p _ n r), by rw [t.len]; exact Nat.le_refl _⟩
  go := fun i H hi k => ⟨vs, vs[i]'(by rw [t.len]; exact hi), .of (k p _ n r), List.getElem?_eq_getElem _⟩
  yld := fun i H x H' hi k y => by
    obtain ⟨rfl, y⟩ := y
    have e := y vs (.of (k p _ n r))
    exact ⟨ds[i], List.getElem?_eq_getElem hi, Keep.refl, fun _ z => z, fun A' _ hA => (t.at_ i x _ e (List.getElem?_eq_getElem hi)).later k hA⟩
theorem y_tup {K : PySem.W.Frag} {p : Addr} {vs : List V} {ds : List D} (n : ¬ A p) (r : B p = some (.tup vs)) (t : Dats C B A vs ds) : Yields C A B (Itt K p) ds where
  stop := fun H k => ⟨vs, .of (k p _ n r), by rw [t.len]; exact Nat.le_refl _⟩
  go := fun i H hi k => ⟨vs, vs[i]'(by rw [t.len]; exact hi), .of (k p _ n r), List.getElem?_eq_getElem _⟩
  yld := fun i H x H' hi k y => by
    obtain ⟨rfl, y⟩ := y
    have e := y vs (.of (k p _ n r))
    exact ⟨ds[i], List.getElem?_eq_getElem hi, Keep.refl, fun _ z => z, fun A' _ hA => (t.at_ i x _ e (List.getElem?_eq_getElem hi)).later k hA⟩
theorem y_str {l : List Nat} (o : SOk l) : Yields C A B (Its (mkS l)) (l.map fun c => .str [c]) where
  stop := fun H k => by show (mkS l).cps.size ≤ _; simp
  go := fun i H hi k => by show _ < (mkS l).cps.size; simpa using hi
  yld := fun i H x H' hi k y => by
    obtain ⟨rfl, c, e, rfl⟩ := y
    have e' : l[i]? = some c := by simpa using e
    exact ⟨.str [c], by rw [List.getElem?_map, e']; rfl, Keep.refl, fun _ z => z, fun A' _ hA => .str ⟨by simp, fun z hz => by simp at hz; subst hz; exact o.2 _ (List.mem_of_getElem? e')⟩⟩
/-- lo, lo + 1, .. -/
def rngD (lo : Int) (n : Nat) : List D := (List.range n).map fun (k : Nat) => .int (lo + (k : Int))
theorem rngD_len (lo : Int) (n : Nat) : (rngD lo n).length = n := by simp [rngD]
theorem y_rng {lo : Int} {n : Nat} : Yields C A B (Itr lo n) (rngD lo n) where
  stop := fun H k => by show n ≤ _; rw [rngD_len]; exact Nat.le_refl _
  go := fun i H hi k => by show _ < n; rwa [rngD_len] at hi
  yld := fun i H x H' hi k y => by
    obtain ⟨rfl, rfl⟩ := y
    rw [rngD_len] at hi
    exact ⟨.int (lo + i), by simp [rngD, List.getElem?_range hi], Keep.refl, fun _ z => z, fun A' _ hA => .int _⟩
/-- a list, a tuple, a text by what it is -/
def walkD : D → Option (List D)
  | .lst ds => some ds
  | .tup ds => some ds
  | .str l => some (l.map fun c => .str [c])
  | _ => none
def dWalk (de : DE S) (f : D → Option (List D)) : DA S := fun ρ s => (de ρ s).bind fun d s1 => ofO s1 (f d)
def wL : D → Option (List D)
  | .lst ds => some ds
  | _ => none
def wT : D → Option (List D)
  | .tup ds => some ds
  | _ => none
def wS : D → Option (List D)
  | .str l => some (l.map fun c => .str [c])
  | _ => none
theorem pid_list (h : PD X C W iter sc de) : PId X C W tg iter sc (dWalk de wL) :=
  pid_of (pi_list h) fun A0 H0 A ρ st σ H R I g => ⟨A0, H0, A, ρ, st, I, g.bind.imp fun d s1 H1 k1 t1 g1 v dv => by
    obtain ⟨ds, e, q⟩ := g1.ofO
    cases d <;> simp only [wL] at e <;> cases e
    obtain ⟨p, xs, rfl, n, r, t⟩ := dv.of_lst
    exact ⟨p, rfl, ⟨xs, .of r⟩, q H1 Keep.refl t1 _ (y_list n r t)⟩⟩
theorem pid_tup (h : PD X C W iter sc de) : PId X C W tg iter sc (dWalk de wT) :=
  pid_of (pi_tup h) fun A0 H0 A ρ st σ H R I g => ⟨A0, H0, A, ρ, st, I, g.bind.imp fun d s1 H1 k1 t1 g1 v dv => by
    obtain ⟨ds, e, q⟩ := g1.ofO
    cases d <;> simp only [wT] at e <;> cases e
    obtain ⟨p, xs, rfl, n, r, t⟩ := dv.of_tup
    exact ⟨p, rfl, ⟨xs, .of r⟩, q H1 Keep.refl t1 _ (y_tup n r t)⟩⟩
theorem pid_str (h : PD X C W iter sc de) : PId X C W tg iter sc (dWalk de wS) :=
  pid_of (pi_str h) fun A0 H0 A ρ st σ H R I g => ⟨A0, H0, A, ρ, st, I, g.bind.imp fun d s1 H1 k1 t1 g1 v dv => by
    obtain ⟨ds, e, q⟩ := g1.ofO
    cases d <;> simp only [wS] at e <;> cases e
    cases dv with
    | str o => exact ⟨_, rfl, q H1 Keep.refl t1 _ (y_str o)⟩⟩
/-- whichever it is -/
theorem PId.or {di di' : DA S} (h : PId X C W tg iter sc di) (h' : PId X C W tg iter sc di') {dj : DA S} (k : ∀ ρ s, dj ρ s = di ρ s ∨ dj ρ s = di' ρ s) : PId X C W tg iter sc dj :=
  ⟨fun pins s σ H R I ⟨A0, H0, A, ρ, st, J, g⟩ => by
    rcases k ρ st with e | e
    · rw [e] at g; exact h.run pins s σ H R I ⟨A0, H0, A, ρ, st, J, g⟩
    · rw [e] at g; exact h'.run pins s σ H R I ⟨A0, H0, A, ρ, st, J, g⟩⟩
theorem pid_any (h : PD X C W iter sc de) : PId X C W tg iter sc (dWalk de walkD) := by
  have key : ∀ ρ s, dWalk de walkD ρ s = dWalk de wL ρ s ∨ dWalk de walkD ρ s = dWalk de wT ρ s ∨ dWalk de walkD ρ s = dWalk de wS ρ s := fun ρ s => by
    unfold dWalk
    cases e : de ρ s with
    | bad => exact .inl rfl
    | ex c s1 => exact .inl rfl
    | ok d s1 => cases d <;> first | exact .inl rfl | exact .inr (.inl rfl) | exact .inr (.inr rfl)
  exact ⟨fun pins s σ H R I ⟨A0, H0, A, ρ, st, J, g⟩ => by
    rcases key ρ st with e | e | e <;> rw [e] at g
    · exact (pid_list h).run pins s σ H R I ⟨A0, H0, A, ρ, st, J, g⟩
    · exact (pid_tup h).run pins s σ H R I ⟨A0, H0, A, ρ, st, J, g⟩
    · exact (pid_str h).run pins s σ H R I ⟨A0, H0, A, ρ, st, J, g⟩⟩
def big : Int := 1048576
def rng1 : List D → Option (List D)
  | [.int j] => if j ≤ 65536 ∧ -65536 ≤ j then some (rngD 0 j.toNat) else none
  | _ => none
def rng2 : List D → Option (List D)
  | [.int i, .int j] => if j ≤ 65536 ∧ -65536 ≤ j ∧ i ≤ 65536 ∧ -65536 ≤ i then some (rngD i (j - i).toNat) else none
  | _ => none
def dRng (f : List D → Option (List D)) (dl : DA S) : DA S := fun ρ s => (dl ρ s).bind fun ds s1 => ofO s1 (f ds)
theorem pid_rng1 (hm : X.mg "range" = none) (ha : PAd X C W [a] sc dl) (hg : Gl X "range" := by rfl) (hs : starEach [a] X.env = [(false, eval a X.env)] := by rfl) : PId X C W tg (.Call (.Name "range" p) [a] [] pos) [] (dRng rng1 dl) :=
  pid_of (pi_range1 hg hm ha hs) fun A0 H0 A ρ st σ H R I g => ⟨A0, H0, A, ρ, st, I, g.bind.imp fun ds s1 H1 k1 t1 g1 vs dvs => by
    obtain ⟨l, e, q⟩ := g1.ofO
    match ds, e with
    | [.int j], e =>
      simp only [rng1] at e
      by_cases z : j ≤ 65536 ∧ -65536 ≤ j
      · rw [if_pos z] at e
        cases e
        obtain ⟨x, rfl, hx⟩ := dvs.one
        cases hx
        exact ⟨j, rfl, by omega, by omega, q H1 Keep.refl t1 _ y_rng⟩
      · rw [if_neg z] at e; cases e⟩
theorem pid_rng2 (hm : X.mg "range" = none) (ha : PAd X C W [a, b] sc dl) (hg : Gl X "range" := by rfl) (hs : starEach [a, b] X.env = [(false, eval a X.env), (false, eval b X.env)] := by rfl) (hs2 : starEach [b] X.env = [(false, eval b X.env)] := by rfl) : PId X C W tg (.Call (.Name "range" p) [a, b] [] pos) [] (dRng rng2 dl) :=
  pid_of (pi_range2 hg hm ha hs hs2) fun A0 H0 A ρ st σ H R I g => ⟨A0, H0, A, ρ, st, I, g.bind.imp fun ds s1 H1 k1 t1 g1 vs dvs => by
    obtain ⟨l, e, q⟩ := g1.ofO
    match ds, e with
    | [.int i, .int j], e =>
      simp only [rng2] at e
      by_cases z : j ≤ 65536 ∧ -65536 ≤ j ∧ i ≤ 65536 ∧ -65536 ≤ i
      · rw [if_pos z] at e
        cases e
        obtain ⟨x, y, rfl, hx, hy⟩ := dvs.two
        cases hx
        cases hy
        exact ⟨i, j, rfl, ⟨by omega, by omega, by omega, by omega⟩, q H1 Keep.refl t1 _ y_rng⟩
      · rw [if_neg z] at e; cases e⟩

/-! ### for -/
/-- the base of a loop: what stood ahead of it, without what this frame alone knows -/
noncomputable def reb (A0 A : Addr → Prop) (H : Hp) : Hp := open Classical in fun a => if A a ∧ ¬ A0 a then none else H a
theorem reb_some {a : Addr} {o : HO} (h : reb A0 A H a = some o) : H a = some o ∧ (A a → A0 a) := by
  unfold reb at h
  split at h
  · cases h
  · rename_i n
    exact ⟨h, fun z => Classical.byContradiction fun w => n ⟨z, w⟩⟩
theorem reb_none {a : Addr} (h : reb A0 A H a = none) : (A a ∧ ¬ A0 a) ∨ H a = none := by
  unfold reb at h
  split at h
  · rename_i n; exact .inl n
  · exact .inr h
theorem SAt.rebase (I : SAt C A0 H0 A H σ ρ st) : SAt C A0 (reb A0 A H) A H σ ρ st where
  len := I.len
  sl := fun i x e => by
    obtain ⟨v, e1, q⟩ := I.sl i x e
    refine ⟨v, e1, ?_⟩
    cases x with
    | val d => exact q
    | own ds =>
      obtain ⟨a, ys, rfl, h1, h2, h3, h4, h5⟩ := q
      exact ⟨a, ys, rfl, h1, by unfold reb; rw [if_pos ⟨h1, h3⟩], h3, h4, h5⟩
  apart := I.apart
  fresh := I.fresh
  sub := I.sub
  lim := fun a ha => by
    by_cases z : A0 a
    · exact .inl z
    · exact .inr (by unfold reb; rw [if_pos ⟨ha, z⟩])
  dom := I.dom
  keep := fun a o _ h => (reb_some h).1
  at_ := I.at_
theorem reb_base (I : SAt C A0 H0 A B σ ρ st) {a : Addr} (h : reb A0 A B a = none) (n : ¬ C.dom a) : H0 a = none := by
  cases e : H0 a with
  | none => rfl
  | some o =>
    have q := I.keep a o n e
    rcases reb_none h with ⟨h1, h2⟩ | h1
    · rcases I.lim a h1 with z | z
      · exact absurd z h2
      · rw [z] at e; cases e
    · rw [h1] at q; cases q
theorem SAt.unbase {σ' : St} {ρ' : En} (I : SAt C A0 H0 A B σ ρ st) (J : SAt C A0 (reb A0 A B) A' H σ' ρ' st') : SAt C A0 H0 A' H σ' ρ' st' where
  len := J.len
  sl := fun i x e => by
    obtain ⟨v, e1, q⟩ := J.sl i x e
    refine ⟨v, e1, ?_⟩
    cases x with
    | val d => exact q
    | own ds =>
      obtain ⟨a, ys, rfl, h1, h2, h3, h4, h5⟩ := q
      exact ⟨a, ys, rfl, h1, reb_base I h2 fun z => h3 (I.dom a z), h3, h4, h5⟩
  apart := J.apart
  fresh := J.fresh
  sub := J.sub
  lim := fun a ha => by
    by_cases z : A0 a
    · exact .inl z
    · rcases J.lim a ha with h | h
      · exact .inl h
      · exact .inr (reb_base I h fun w => z (I.dom a w))
  dom := J.dom
  keep := fun a o n h => by
    have q := I.keep a o n h
    refine J.keep a o n ?_
    cases e : reb A0 A B a with
    | some u => have := (reb_some e).1; rw [q] at this; rw [this]
    | none => rw [reb_base I e n] at h; cases h
  at_ := J.at_
theorem SG.rebase {o : Out S} (I : SAt C A0 H0 A B σ ρ st) (g : SG C mg W A0 H0 o DD) : SG C mg W A0 (reb A0 A B) o DD := by
  have kk : ∀ {H : Hp}, Keep C.dom (reb A0 A B) H → Keep C.dom H0 H := fun {H} k a o n h => by
    have q := I.keep a o n h
    refine k a o n ?_
    cases e : reb A0 A B a with
    | some u => have := (reb_some e).1; rw [q] at this; rw [this]
    | none => rw [reb_base I e n] at h; cases h
  cases o with
  | nx ρ s => exact fun A' H σ J => g A' H σ (I.unbase J)
  | rt d s => exact fun H v k t h => g H v (kk k) t h
  | bk ρ s => exact fun A' H σ J => g A' H σ (I.unbase J)
  | ct ρ s => exact fun A' H σ J => g A' H σ (I.unbase J)
  | ex c ρ s => exact fun a A' H σ m J => g a A' H σ m (I.unbase J)
  | bad => exact g
def forL (g : DG) (ds : DS S) : List D → En → S → Out S
  | [], ρ, s => .nx ρ s
  | d :: r, ρ, s => match g d ρ with
    | none => .bad
    | some ρ1 => match ds ρ1 s with
      | .nx ρ' s' => forL g ds r ρ' s'
      | .ct ρ' s' => forL g ds r ρ' s'
      | .bk ρ' s' => .nx ρ' s'
      | o => o
def dFor (g : DG) (sc : List Nat) (di : DA S) (ds : DS S) : DS S := fun ρ s => (di ρ s).out ρ fun l s1 => forL g ds l (frz sc ρ) s1
/-- what the base keeps -/
theorem SAt.kept (J : SAt C A0 (reb A0 A B) A' H σ ρ st) (hd : ∀ a, C.dom a → A a) : Keep A B H := fun a o n h => by
  refine J.keep a o (fun z => n (hd a z)) ?_
  unfold reb
  rw [if_neg fun z => n z.1]; exact h
theorem SAt.lims (J : SAt C A0 (reb A0 A B) A' H σ ρ st) (hs : ∀ a, A0 a → A a) : ∀ a, A' a → A a ∨ B a = none := fun a ha => by
  rcases J.lim a ha with z | z
  · exact .inl (hs a z)
  · exact (reb_none z).imp (·.1) id
theorem psd_for {g : DG} {l : List Nat} {di : DA S} (hp : PassesOwn (model X.prog X.w) X.A X.env X.xe) (hc : X.calm = true) (hi : PId X C W tg iter sc di) (hg : PGd X C tg l g) (hb : PBd X C W xs ds) (hs : ∀ x, foldedSetIterable iter X.env x = pure x := by intro _; rfl) : PSd X C W (.For tg iter xs [] pos) (dFor g sc di ds) :=
  psd_of (ps_for hp hc hi hg.pg hb hs) fun A0 H0 A ρ st σ H DD I gg => ⟨A0, H0, A, ρ, st, I, (gg.out I).imp fun ds' s1 H1 k1 t1 ⟨I1, g1⟩ J Y => by
    have I2 := I1.freeze sc
    have I3 := I2.rebase
    have g3 := SG.rebase I2 g1
    refine ⟨fun i m σ' H' => m = ds'.length - i ∧ i ≤ ds'.length ∧ ∃ A' ρ' s', SAt C A0 (reb A0 (Amin A σ ρ sc) H1) A' H' σ' ρ' s' ∧ SG C X.mg W A0 (reb A0 (Amin A σ ρ sc) H1) (forL g ds (ds'.drop i) ρ' s') DD, ⟨ds'.length, by simp, Nat.zero_le _, _, _, _, I3, by simpa using g3⟩, ?_⟩
    rintro i m σ' H' ⟨rfl, hi, A', ρ', s', I', g'⟩
    have kB : Keep (Amin A σ ρ sc) H1 H' := I'.kept I2.domA
    by_cases hlt : i < ds'.length
    · refine .inr ⟨Y.go i H' hlt kB, fun σ'' H'' => ∃ A'' ρ'' s'', SAt C A0 (reb A0 (Amin A σ ρ sc) H1) A'' H'' σ'' ρ'' s'' ∧ SG C X.mg W A0 (reb A0 (Amin A σ ρ sc) H1) (forL g ds (ds'.drop (i + 1)) ρ'' s'') DD,
        fun σ'' H'' z => ⟨ds'.length - (i + 1), by omega, rfl, hlt, z⟩, fun x H'' y => ?_⟩
      obtain ⟨d, ed, k'', a'', hD⟩ := Y.yld i H' x H'' hlt kB y
      have I'' := I'.next k'' (a'' _ I'.at_)
      have dx := hD A' I'.fresh (I'.lims I2.sub)
      have ed' : ds'.drop i = d :: ds'.drop (i + 1) := by
        rw [List.drop_eq_getElem_cons hlt]
        congr 1
        rw [List.getElem?_eq_getElem hlt] at ed
        exact Option.some.inj ed
      rw [ed'] at g'
      unfold forL at g'
      cases eg : g d ρ' with
      | none => rw [eg] at g'; exact g'.elim
      | some ρ1 =>
        rw [eg] at g'
        dsimp only at g'
        refine ⟨A0, _, A', ρ', s', d, ρ1, I'', dx, eg, fun σ1 I1' _ => ⟨A0, _, A', ρ1, s', I1', ?_⟩⟩
        cases eo : ds ρ1 s' with
        | nx ρ2 s2 => rw [eo] at g'; exact fun A2 H2 σ2 J2 => ⟨A2, ρ2, s2, J2, g'⟩
        | ct ρ2 s2 => rw [eo] at g'; exact fun A2 H2 σ2 J2 => ⟨A2, ρ2, s2, J2, g'⟩
        | bk ρ2 s2 => rw [eo] at g'; exact g'
        | rt d2 s2 => rw [eo] at g'; exact g'
        | ex c2 ρ2 s2 => rw [eo] at g'; exact g'
        | bad => rw [eo] at g'; exact g'
    · have e : i = ds'.length := by omega
      subst e
      rw [List.drop_length] at g'
      exact .inl ⟨Y.stop H' kB, g' A' H' σ' I'⟩⟩
/-! ### while -/
def whileN (dt : DT S) (ds : DS S) : Nat → En → S → Out S
  | 0, _, _ => .bad
  | n + 1, ρ, s => (dt ρ s).out ρ fun k s1 => if k = true then match ds ρ s1 with
      | .nx ρ' s' => whileN dt ds n ρ' s'
      | .ct ρ' s' => whileN dt ds n ρ' s'
      | .bk ρ' s' => .nx ρ' s'
      | o => o
    else .nx ρ s1
def dWhile (n : Nat) (dt : DT S) (ds : DS S) : DS S := whileN dt ds n
theorem psd_while (n : Nat) (hp : PassesOwn (model X.prog X.w) X.A X.env X.xe) (hc : PTd X C W c dt) (hb : PBd X C W xs ds) : PSd X C W (.While c xs [] pos) (dWhile n dt ds) :=
  psd_of (ps_while hp hc hb) fun A0 H0 A ρ st σ H DD I gg => by
    refine ⟨fun m σ' H' => ∃ A' ρ' s', SAt C A0 H0 A' H' σ' ρ' s' ∧ SG C X.mg W A0 H0 (whileN dt ds m ρ' s') DD, ⟨n, A, ρ, st, I, gg⟩, ?_⟩
    rintro m σ' H' ⟨A', ρ', s', I', g'⟩
    cases m with
    | zero => exact g'.elim
    | succ m =>
      unfold whileN at g'
      refine ⟨A0, H0, A', ρ', s', I', (g'.out I').imp fun k s1 H1 k1 t1 ⟨I1, g1⟩ => ?_⟩
      cases k with
      | false => exact g1 A' H1 σ' I1
      | true =>
        simp only [if_true] at g1 ⊢
        refine ⟨fun σ2 H2 => ∃ A2 ρ2 s2, SAt C A0 H0 A2 H2 σ2 ρ2 s2 ∧ SG C X.mg W A0 H0 (whileN dt ds m ρ2 s2) DD, fun σ2 H2 z => ⟨m, Nat.lt_succ_self _, z⟩, A0, H0, A', ρ', s1, I1, ?_⟩
        cases eo : ds ρ' s1 with
        | nx ρ2 s2 => rw [eo] at g1; exact fun A2 H2 σ2 J2 => ⟨A2, ρ2, s2, J2, g1⟩
        | ct ρ2 s2 => rw [eo] at g1; exact fun A2 H2 σ2 J2 => ⟨A2, ρ2, s2, J2, g1⟩
        | bk ρ2 s2 => rw [eo] at g1; exact g1
        | rt d2 s2 => rw [eo] at g1; exact g1
        | ex c2 ρ2 s2 => rw [eo] at g1; exact g1
        | bad => rw [eo] at g1; exact g1
end
end Mir

set_option Elab.async false
set_option linter.all false
set_option maxRecDepth 100000
set_option maxHeartbeats 2000000
namespace Mir
open PySem PySem.Spec L2
open PyProof.Rows hiding St

section
variable {S : Type} {C : Deck S} {X : Cx} {W : WX} {A0 A A' : Addr → Prop} {H0 H H' B : Hp} {σ : St} {ρ : En} {st st' : S}
variable {e a b c tg iter elt tg1 iter1 : Expr} {es rest ifs ifs1 : List Expr} {pos p p2 : Pos} {sc sc' sa sb vs : List Nat} {de da db dc : DE S} {dt dt' du : DT S} {dl di dj : DA S} {ds ds' : DS S} {mg : Str → Option Value} {DD : Ends} {xs ys : List Stmt}
/-! ### comprehensions -/
def wipeE (ρ : En) : List Nat → En
  | [] => ρ
  | v :: vs => (wipeE ρ vs).set v none
theorem SAt.wipe1 {i : Nat} (I : SAt C A0 H0 A H σ ρ st) : SAt C A0 H0 A H (σ.set i none) (ρ.set i none) st where
  len := by rw [List.length_set, List.length_set]; exact I.len
  sl := fun j x e => by
    by_cases hj : j = i
    · subst hj
      have hl : j < ρ.length := by have := (List.getElem?_eq_some_iff.mp e).1; rwa [List.length_set] at this
      rw [List.getElem?_set_self hl] at e; cases e
    · rw [List.getElem?_set_ne (Ne.symm hj)] at e ⊢
      exact I.sl j x e
  apart := fun j k ds es n e1 e2 => by
    have ne : ∀ {j : Nat} {ds : List D}, (ρ.set i none)[j]? = some (some (Sl.own ds)) → j ≠ i ∧ ρ[j]? = some (some (Sl.own ds)) := fun {j ds} e => by
      by_cases hj : j = i
      · subst hj
        have hl : j < ρ.length := by have := (List.getElem?_eq_some_iff.mp e).1; rwa [List.length_set] at this
        rw [List.getElem?_set_self hl] at e; cases e
      · exact ⟨hj, by rwa [List.getElem?_set_ne (Ne.symm hj)] at e⟩
    obtain ⟨n1, q1⟩ := ne e1
    obtain ⟨n2, q2⟩ := ne e2
    rw [List.getElem?_set_ne (Ne.symm n1), List.getElem?_set_ne (Ne.symm n2)]
    exact I.apart j k ds es n q1 q2
  fresh := I.fresh
  sub := I.sub
  lim := I.lim
  dom := I.dom
  keep := I.keep
  at_ := I.at_
theorem SAt.wipe (I : SAt C A0 H0 A H σ ρ st) : ∀ vs : List Nat, SAt C A0 H0 A H (L2.wipe σ vs) (wipeE ρ vs) st
  | [] => I
  | v :: vs => (I.wipe vs).wipe1
/-- a new list that grows beside the slots -/
theorem SAt.beside {p : Addr} {vs : List V} (I : SAt C A0 H0 A H σ ρ st) (hp : H p = none) : SAt C A0 H0 (fun a => A a ∨ a = p) (upd H p (.lst vs)) σ ρ st :=
  (I.newOwn (p := p) (xs := []) (ds := []) hp Dats.nil).1 |> fun J => ⟨J.len, fun i x e => by
    obtain ⟨v, e1, q⟩ := J.sl i x e
    refine ⟨v, e1, ?_⟩
    have w : ∀ a, ¬ (A a ∨ a = p) → upd H p (.lst vs) a = upd H p (.lst []) a := fun a n => by rw [upd_ne fun z => n (.inr z), upd_ne fun z => n (.inr z)]
    cases x with
    | val d => exact Dat.write q w
    | own es =>
      obtain ⟨a, ys, rfl, h1, h2, h3, h4, h5⟩ := q
      have ne : a ≠ p := fun z => by
        obtain ⟨v0, e0, a0, ys0, e3, g1, g2, g3, g4, g5⟩ := I.sl i _ e
        rw [e1] at e0
        cases e0
        cases e3
        rw [z, hp] at g4; cases g4
      exact ⟨a, ys, rfl, h1, h2, h3, by rw [upd_ne ne] at h4 ⊢; exact h4, h5.write w⟩, J.apart, fun a ha => by
        by_cases z : a = p
        · subst z; rw [upd_same]; exact fun z => nomatch z
        · have := J.fresh a ha; rw [upd_ne z] at this ⊢; exact this, J.sub, J.lim, J.dom, fun a o n h => by
        have q := I.keep a o n h
        rw [upd_ne (ne_of_none q hp)]; exact q, at_upd I.at_ hp⟩
theorem SAt.grow {p : Addr} {vs ws : List V} (J : SAt C A0 H0 A H σ ρ st) (hp : H p = some (.lst vs)) (pA : A p) (n0 : ¬ A0 p) (h0 : H0 p = none) (ap : ∀ (i : Nat) ds, ρ[i]? = some (some (.own ds)) → σ[i]? ≠ some (some (.ref p))) : SAt C A0 H0 A (upd H p (.lst ws)) σ ρ st where
  len := J.len
  sl := fun i x e => by
    obtain ⟨v, e1, q⟩ := J.sl i x e
    refine ⟨v, e1, ?_⟩
    have w : ∀ a, ¬ A a → upd H p (.lst ws) a = H a := fun a n => upd_ne fun z => n (z ▸ pA)
    cases x with
    | val d => exact Dat.write q w
    | own es =>
      obtain ⟨a, ys, rfl, h1, h2, h3, h4, h5⟩ := q
      have ne : a ≠ p := fun z => ap i es e (by rw [e1, z])
      exact ⟨a, ys, rfl, h1, h2, h3, by rw [upd_ne ne]; exact h4, h5.write w⟩
  apart := J.apart
  fresh := fun a ha => by
    by_cases z : a = p
    · subst z; rw [upd_same]; exact fun z => nomatch z
    · rw [upd_ne z]; exact J.fresh a ha
  sub := J.sub
  lim := J.lim
  dom := J.dom
  keep := fun a o n h => by
    rw [upd_ne (ne_of_none h h0)]; exact J.keep a o n h
  at_ := C.stab _ _ _ J.at_ fun a ha => upd_ne fun z => n0 (z ▸ J.dom a ha)

/-- an outcome that is no error -/
def nox {α : Type} : R S α → R S α
  | .ok a s => .ok a s
  | _ => .bad
def lcL (g : DG) (dt : DT S) (de : DE S) : List D → En → S → R S (List D)
  | [], _, s => .ok [] s
  | d :: r, ρ, s => match g d ρ with
    | none => .bad
    | some ρ1 => (dt ρ1 s).bind fun k s1 => if k = true then (de ρ1 s1).bind fun x s2 => (lcL g dt de r ρ s2).bind fun xs s3 => .ok (x :: xs) s3 else lcL g dt de r ρ s1
def dLc (g : DG) (vs sc : List Nat) (di : DA S) (dt : DT S) (de : DE S) : DA S := fun ρ s => (di ρ s).bind fun l s1 => if l.length ≤ 65536 then nox (lcL g dt de l (wipeE (frz sc ρ) vs) s1) else .bad
/-- tests of a clause -/
def PTsd (X : Cx) (C : Deck S) (W : WX) (ifs : List Expr) (dt : DT S) : Prop := PTs X ifs (ctt C X.mg W dt)
def dYes : DT S := fun _ s => .ok true s
theorem ptsd_nil : PTsd X C W [] (dYes : DT S) := ⟨fun pins s σ H Q I ⟨A0, H0, A, ρ, st, J, g⟩ => (pts_nil (X := X)).run pins s σ H Q I (g.done J.at_)⟩
theorem ptsd_one (h : PTd X C W c dt) : PTsd X C W [c] dt := pts_one h
abbrev W0 : WX := fun _ _ _ _ => False
theorem RG.nox {α : Type} {r : R S α} {P : α → S → Hp → Prop} (h : RG C mg W σ H (nox r) P) : ∃ a s, r = .ok a s ∧ ∀ H', Keep C.dom H H' → C.At s H' → P a s H' := by
  cases r with
  | ok a s => exact ⟨a, s, rfl, h⟩
  | ex c s => exact h.elim
  | bad => exact h.elim
theorem bind_ok_iff {α β : Type} {r : R S α} {f : α → S → R S β} {b : β} {s : S} (h : r.bind f = .ok b s) : ∃ a s1, r = .ok a s1 ∧ f a s1 = .ok b s := by
  cases r with
  | ok a s1 => exact ⟨a, s1, rfl, h⟩
  | ex c s => cases h
  | bad => cases h
/-- the list that is made so far -/
structure Made (C : Deck S) (A : Addr → Prop) (H : Hp) (p : Addr) (acc : List D) (n : Nat) : Prop where
  ex : ∃ vs, H p = some (.lst vs) ∧ Dats C H A vs acc ∧ vs.length ≤ n
theorem dats_snoc {vs : List V} {acc : List D} {v : V} {d : D} (t : Dats C H A vs acc) (h : Dat C H A v d) : Dats C H A (vs ++ [v]) (acc ++ [d]) := t.append (.cons h .nil)
theorem Yields.more {J : It} {ds : List D} (Y : Yields C A B J ds) (h : ∀ a, A' a → A a) : Yields C A' B J ds where
  stop := fun H k => Y.stop H fun a o n e => k a o (fun z => n (h a z)) e
  go := fun i H hi k => Y.go i H hi fun a o n e => k a o (fun z => n (h a z)) e
  yld := fun i H x H' hi k y => by
    obtain ⟨d, e, k1, k2, k3⟩ := Y.yld i H x H' hi (fun a o n e => k a o (fun z => n (h a z)) e) y
    exact ⟨d, e, k1, k2, fun A2 h1 h2 => k3 A2 h1 fun a ha => (h2 a ha).imp (h a) id⟩
theorem wipe_idem (σ : St) (vs : List Nat) : L2.wipe (L2.wipe σ vs) vs = L2.wipe σ vs := by
  have key : ∀ (ws : List Nat), (∀ i ∈ ws, i ∈ vs) → L2.wipe (L2.wipe σ vs) ws = L2.wipe σ vs := by
    intro ws
    induction ws with
    | nil => intro _; rfl
    | cons w ws ih =>
      intro h
      show (L2.wipe (L2.wipe σ vs) ws).set w none = _
      rw [ih fun i hi => h i (List.mem_cons_of_mem _ hi)]
      refine List.ext_getElem? fun j => ?_
      by_cases hj : w = j
      · subst hj
        by_cases hl : w < (L2.wipe σ vs).length
        · rw [List.getElem?_set_self hl]
          cases q : (L2.wipe σ vs)[w]? with
          | none => rw [List.getElem?_eq_none_iff] at q; omega
          | some x => cases x with
            | none => rfl
            | some v => exact absurd (h w (by simp)) (wipe_some q).2
        · rw [List.getElem?_eq_none (by simpa using hl), List.getElem?_eq_none (by simpa using hl)]
      · rw [List.getElem?_set_ne hj]
  exact key vs fun _ h => h
/-- a heap without what stands at p -/
noncomputable def cutAt (H : Hp) (p : Addr) : Hp := open Classical in fun a => if a = p then none else H a
theorem cut_upd {p : Addr} {o : HO} (h : H p = some o) : upd (cutAt H p) p o = H := by
  funext a
  unfold upd cutAt
  by_cases z : a = p
  · subst z; rw [if_pos rfl, h]
  · rw [if_neg z, if_neg z]
theorem cut_ne {p a : Addr} (h : a ≠ p) : cutAt H p a = H a := by unfold cutAt; rw [if_neg h]
theorem cut_same {p : Addr} : cutAt H p p = none := by unfold cutAt; rw [if_pos rfl]
theorem noOwn_frz {g : DG} (hg : NoOwn g) {vs sc : List Nat} {d : D} {ρ1 : En} (e : g d (wipeE (frz sc ρ) vs) = some ρ1) {i : Nat} (hi : i ∈ sc) {ds : List D} : ρ1[i]? ≠ some (some (.own ds)) := fun z => by
  have q := hg _ _ _ e i ds z
  have w : ∀ vs : List Nat, (wipeE (frz sc ρ) vs)[i]? ≠ some (some (.own ds)) := by
    intro vs
    induction vs with
    | nil =>
      intro q
      have q : (frz sc ρ)[i]? = some (some (.own ds)) := q
      rw [frz_get] at q
      cases h : ρ[i]? with
      | none => rw [h] at q; cases q
      | some y =>
        rw [h] at q
        cases y with
        | none => simp at q
        | some y => cases y <;> simp [hi] at q
    | cons v vs ih =>
      intro q
      have q : ((wipeE (frz sc ρ) vs).set v none)[i]? = some (some (.own ds)) := q
      by_cases hv : v = i
      · subst hv
        have hl : v < (wipeE (frz sc ρ) vs).length := by have := (List.getElem?_eq_some_iff.mp q).1; rwa [List.length_set] at this
        rw [List.getElem?_set_self hl] at q; cases q
      · rw [List.getElem?_set_ne hv] at q
        exact ih q
  exact w vs q
theorem lc_red {g : DG} {l : List Nat} {own : List (Str × Nat)} {Q : VK} (hno : NoOwn g) (hl : ∀ i ∈ l, i ∈ own.map (·.2)) (I : SAt C A0 H0 A H σ ρ st)
    (gg : RG C mg W σ H (dLc g (own.map (·.2)) (sc ++ sa) di dt de ρ st) fun ds _ H1 => ∀ p xs, H1 p = none → Dats C H1 (Amin A σ ρ (sc ++ sa)) xs ds → xs.length ≤ sizeLine → Q (.ref p) (upd H1 p (.lst xs))) :
    tLc (cti C mg W sc di) (ctg C l g) (ctt C mg W0 dt) (cte C mg W0 sa de) (own.map (·.2)) σ H Q := by
  refine ⟨A0, H0, A, ρ, st, I, gg.bind.imp fun ds s1 H1 k1 t1 g1 J Y0 => ?_⟩
  by_cases hz : ds.length ≤ 65536
  rotate_left
  · rw [if_neg hz] at g1; exact g1.elim
  rw [if_pos hz] at g1
  obtain ⟨res, sf, eq0, q⟩ := g1.nox
  intro p hp
  have Y := Y0.more (A' := Amin A σ ρ (sc ++ sa)) fun a h => Amin.more (fun i hi => List.mem_append_left _ hi) h
  have I2 := (I.next k1 t1).freeze (sc ++ sa)
  generalize hA1 : Amin A σ ρ (sc ++ sa) = A1 at I2 Y
  have I3 := (I2.rebase.beside (vs := []) hp).wipe (own.map (·.2))
  have nA1 : ¬ A1 p := fun z => I2.fresh p z hp
  have rp : reb A0 A1 H1 p = none := by
    cases e : reb A0 A1 H1 p with
    | none => rfl
    | some o => have := (reb_some e).1; rw [hp] at this; cases this
  have np : ∀ (ρ' : En) (σ' : St) (s' : S) (A' : Addr → Prop), SAt C A0 (reb A0 A1 H1) A1 H1 σ' ρ' s' → ∀ (i : Nat) ds, ρ'[i]? = some (some (.own ds)) → σ'[i]? ≠ some (some (.ref p)) := fun ρ' σ' s' A' J i ds e z => by
    obtain ⟨v, e1, a, ys, rfl, h1, h2, h3, h4, h5⟩ := J.sl i _ e
    rw [e1] at z
    cases z
    rw [hp] at h4; cases h4
  have npw := np _ _ _ A1 (I2.rebase.wipe (own.map (·.2)))
  refine ⟨fun i m H2 => m = ds.length - i ∧ i ≤ ds.length ∧ ∃ s' acc vs, SAt C A0 (reb A0 A1 H1) (fun a => A1 a ∨ a = p) H2 (L2.wipe σ (own.map (·.2))) (wipeE (frz (sc ++ sa) ρ) (own.map (·.2))) s' ∧ H2 p = some (.lst vs) ∧ Dats C H2 (fun a => A1 a ∨ a = p) vs acc ∧ vs.length ≤ i ∧ Keep C.dom H1 H2 ∧
    ∃ rest, lcL g dt de (ds.drop i) (wipeE (frz (sc ++ sa) ρ) (own.map (·.2))) s' = .ok rest sf ∧ acc ++ rest = res,
    ⟨ds.length, by simp, Nat.zero_le _, s1, [], [], I3, upd_same, Dats.nil, Nat.zero_le _, Keep.upd hp, res, by simpa using eq0, rfl⟩, ?_⟩
  rintro i m H2 ⟨rfl, hi2, s', acc, vs, I', hv, t', hvl, kd, rest, eqr, ea⟩
  have kB : Keep A1 H1 H2 := I'.kept I2.domA
  have lm := I'.lims I2.sub
  by_cases hlt : i < ds.length
  · refine .inr ⟨Y.go i H2 hlt kB, fun H3 => ∃ s' acc vs, SAt C A0 (reb A0 A1 H1) (fun a => A1 a ∨ a = p) H3 (L2.wipe σ (own.map (·.2))) (wipeE (frz (sc ++ sa) ρ) (own.map (·.2))) s' ∧ H3 p = some (.lst vs) ∧ Dats C H3 (fun a => A1 a ∨ a = p) vs acc ∧ vs.length ≤ i + 1 ∧ Keep C.dom H1 H3 ∧
      ∃ rest, lcL g dt de (ds.drop (i + 1)) (wipeE (frz (sc ++ sa) ρ) (own.map (·.2))) s' = .ok rest sf ∧ acc ++ rest = res, fun H3 z => ⟨ds.length - (i + 1), by omega, rfl, hlt, z⟩, fun x H3 y => ?_⟩
    obtain ⟨d, ed, k3, a3, hD⟩ := Y.yld i H2 x H3 hlt kB y
    have J3 := I'.next k3 (a3 _ I'.at_)
    have dx := hD _ I'.fresh lm
    have ed' : ds.drop i = d :: ds.drop (i + 1) := by
      rw [List.drop_eq_getElem_cons hlt]
      congr 1
      rw [List.getElem?_eq_getElem hlt] at ed
      exact Option.some.inj ed
    rw [ed'] at eqr
    unfold lcL at eqr
    cases eg : g d (wipeE (frz (sc ++ sa) ρ) (own.map (·.2))) with
    | none => rw [eg] at eqr; cases eqr
    | some ρ1 =>
      rw [eg] at eqr
      obtain ⟨k, s2, e1, eqr⟩ := bind_ok_iff eqr
      refine ⟨A0, _, _, _, s', d, ρ1, J3, dx, eg, fun σ1 K1 w1 => ⟨(w1 _ hl).trans (wipe_idem _ _), A0, _, _, ρ1, s', K1, ?_⟩⟩
      rw [e1]
      intro H4 k4 t4
      have kp4 : ¬ C.dom p := fun z => nA1 (I2.domA p z)
      have J4 := J3.next k4 t4
      have v4 : H4 p = some (.lst vs) := k4 p _ kp4 (k3 p _ kp4 hv)
      have t4' : Dats C H4 (fun a => A1 a ∨ a = p) vs acc := t'.keep (k3.trans k4) fun a h => .inl (I2.domA a h)
      cases k with
      | false =>
        simp only [Bool.false_eq_true, if_false] at eqr ⊢
        exact ⟨s2, acc, vs, J4, v4, t4', by omega, (kd.trans k3).trans k4, rest, eqr, ea⟩
      | true =>
        simp only [if_true] at eqr ⊢
        obtain ⟨dxv, s3, e3, eqr⟩ := bind_ok_iff eqr
        obtain ⟨rest2, s4, e4, eqr⟩ := bind_ok_iff eqr
        cases eqr
        refine ⟨A0, _, _, ρ1, s2, K1.next k4 t4, ?_⟩
        rw [e3]
        intro H5 k5 t5 yv dyv
        have v5 : H5 p = some (.lst vs) := k5 p _ kp4 v4
        have eA : ∀ a, (A1 a ∨ a = p) → Amin (fun a => A1 a ∨ a = p) σ1 ρ1 sa a := fun a ha => ⟨ha, fun j hj es e => absurd e (noOwn_frz hno eg (List.mem_append_right _ hj))⟩
        have dyv' := dyv.less eA
        have J5 := J4.next k5 t5
        have t5' : Dats C H5 (fun a => A1 a ∨ a = p) vs acc := t4'.keep k5 fun a h => .inl (I2.domA a h)
        refine ⟨vs, v5, by rw [line_eq]; omega, s3, acc ++ [dxv], vs ++ [yv], J5.grow v5 (.inr rfl) (fun z => nA1 (I2.sub p z)) rp npw, upd_same, ?_, by simp; omega, fun a o n h => by rw [upd_ne (ne_of_none h hp)]; exact (((kd.trans k3).trans k4).trans k5) a o n h, rest2, e4, by rw [← ea]; simp⟩
        exact (dats_snoc t5' dyv').write fun a n => upd_ne fun z => n (.inr z)
  · have e : i = ds.length := by omega
    subst e
    rw [List.drop_length] at eqr
    cases eqr
    refine .inl ⟨Y.stop H2 kB, ?_⟩
    rw [List.append_nil] at ea
    subst ea
    have ne : ∀ a, C.dom a → a ≠ p := fun a h z => nA1 (z ▸ I2.domA a h)
    have := q (cutAt H2 p) (fun a o n h => by
      have hne : a ≠ p := ne_of_none h hp
      rw [cut_ne hne]
      exact kd a o n h) (C.stab _ _ _ I'.at_ fun a ha => cut_ne (ne a ha)) p vs cut_same ((t'.write fun a n => cut_ne fun z => n (.inr z)).less fun a ha => .inl (hA1 ▸ ha)) (by rw [line_eq]; omega)
    rw [cut_upd hv] at this
    exact this

theorem pf_lc {g : DG} {l : List Nat} {scope : Scope} {own : List (Str × Nat)} (hc : X.calm = true) (nd : X.N.Nodup) (hi : PId X C W tg iter sc di) (ok : BlkOk X.N X.env.scope scope own)
    (hg : ∀ (s : Shared) (H : Hp) (q : Addr) (cl : List (Str × Addr)) (fp : List Addr), PGd (X.blk s H scope (compEnvC scope cl q X.env) fp) C tg l g) (hno : NoOwn g)
    (ht : ∀ (s : Shared) (H : Hp) (q : Addr) (cl : List (Str × Addr)) (fp : List Addr), PTsd (X.blk s H scope (compEnvC scope cl q X.env) fp) C W0 ifs dt)
    (he : ∀ (s : Shared) (H : Hp) (q : Addr) (cl : List (Str × Addr)) (fp : List Addr), PD (X.blk s H scope (compEnvC scope cl q X.env) fp) C W0 elt sa de)
    (hl : ∀ i ∈ l, i ∈ own.map (·.2) := by decide) (hs : ∀ x, foldedSetIterable iter X.env x = pure x := by intro _; rfl) : PF X C W (.ListComp elt [⟨tg, iter, ifs, 0⟩] scope pos) (sc ++ sa) (dLc g (own.map (·.2)) (sc ++ sa) di dt de) :=
  pf_of (pe_lc (g := ctg C l g) (tt := ctt C X.mg W0 dt) (te := cte C X.mg W0 sa de) hc nd hi ok (fun s H q cl fp => (hg s H q cl fp).pg) ht he hs) fun A0 H0 A ρ st σ H Q I gg => lc_red hno hl I gg
/-- what is wanted of a value for a slot, by what makes a fresh list -/
theorem ctv_o {dl : DA S} {sc : List Nat} {Q : VK} (h : ctv C mg W sc (dO dl) σ H Q) : ctf C mg W sc dl σ H Q := by
  obtain ⟨A0, H0, A, ρ, st, I, g⟩ := h
  exact ⟨A0, H0, A, ρ, st, I, g.map⟩
theorem cte_f {dl : DA S} {sc : List Nat} {Q : VK} (h : cte C mg W sc (dF dl) σ H Q) : ctf C mg W sc dl σ H Q := by
  obtain ⟨A0, H0, A, ρ, st, I, g⟩ := h
  exact ⟨A0, H0, A, ρ, st, I, g.map.keepOk.imp fun ds s1 H1 k1 t1 g1 p xs hp dxs hz => by
    have I1 := I.next k1 t1
    have kp : Keep C.dom H1 (upd H1 p (.lst xs)) := Keep.upd hp
    exact g1 _ kp (at_upd t1 hp) (.ref p) (Dat.lst_mk (fun z => I1.fresh p z.1 hp) upd_same (dxs.keep kp (I1.dom0 sc)))⟩
theorem ctv_v {de : DE S} {sc : List Nat} {Q : VK} (h : ctv C mg W sc (dV de) σ H Q) : cte C mg W sc de σ H Q := by
  obtain ⟨A0, H0, A, ρ, st, I, g⟩ := h
  exact ⟨A0, H0, A, ρ, st, I, g.map⟩
/-- y = [..] on one line, y a local: the list one's own, or data -/
theorem psd_setLc (i : Nat) {y : Str} {py spos : Pos} {g : DG} {l : List Nat} {scope : Scope} {own : List (Str × Nat)} {dv : E1 S Sl} (hv : ∀ {σ : St} {H : Hp} {Q : VK}, ctv C X.mg W (sc ++ sa) dv σ H Q → ctf C X.mg W (sc ++ sa) (dLc g (own.map (·.2)) (sc ++ sa) di dt de) σ H Q)
    (hc : X.calm = true) (nd : X.N.Nodup) (hi : PId X C W tg iter sc di) (ok : BlkOk X.N X.env.scope scope own)
    (hg : ∀ (s : Shared) (H : Hp) (q : Addr) (cl : List (Str × Addr)) (fp : List Addr), PGd (X.blk s H scope (compEnvC scope cl q X.env) fp) C tg l g) (hno : NoOwn g)
    (ht : ∀ (s : Shared) (H : Hp) (q : Addr) (cl : List (Str × Addr)) (fp : List Addr), PTsd (X.blk s H scope (compEnvC scope cl q X.env) fp) C W0 ifs dt)
    (he : ∀ (s : Shared) (H : Hp) (q : Addr) (cl : List (Str × Addr)) (fp : List Addr), PD (X.blk s H scope (compEnvC scope cl q X.env) fp) C W0 elt sa de)
    (hl : ∀ i ∈ l, i ∈ own.map (·.2) := by decide) (hs : ∀ x, foldedSetIterable iter X.env x = pure x := by intro _; rfl)
    (hy : X.N[i]? = some y := by rfl) (hyl : X.env.scope.names.lookup y = some .local := by rfl) (hsw : swapsWith (.ListComp elt [⟨tg, iter, ifs, 0⟩] scope pos) (some (.Name y py)) spos.line X.env = pure true := by exact sw_true rfl rfl rfl (by decide +kernel)) :
    PSd X C W (.Assign [.Name y py] (.ListComp elt [⟨tg, iter, ifs, 0⟩] scope pos) spos) (dAsg i (sc ++ sa) dv) :=
  psd_of (ps_setLc (g := ctg C l g) (tt := ctt C X.mg W0 dt) (te := cte C X.mg W0 sa de) hc nd hy hyl hsw hi ok (fun s H q cl fp => (hg s H q cl fp).pg) ht he hs) fun A0 H0 A ρ st σ H DD I g' => by
    obtain ⟨A0', H0', A', ρ', st', I', g2⟩ := hv (ctv_give I g')
    exact lc_red hno hl I' g2

/-! ### two clauses -/
def lc2L (g : DG) (dt : DT S) (dj : DA S) (v1 : List Nat) (g1 : DG) (dt1 : DT S) (de : DE S) : List D → En → S → R S (List D)
  | [], _, s => .ok [] s
  | d :: r, ρ, s => match g d ρ with
    | none => .bad
    | some ρ1 => (dt ρ1 s).bind fun k s1 => if k = true then (dj ρ1 s1).bind fun l s2 => (lcL g1 dt1 de l (wipeE ρ1 v1) s2).bind fun xs s3 => (lc2L g dt dj v1 g1 dt1 de r ρ s3).bind fun ys s4 => .ok (xs ++ ys) s4
      else lc2L g dt dj v1 g1 dt1 de r ρ s1
def dLc2 (g : DG) (dj : DA S) (v1 : List Nat) (g1 : DG) (vs sc : List Nat) (di : DA S) (dt dt1 : DT S) (de : DE S) : DA S := fun ρ s => (di ρ s).bind fun l s1 => if l.length ≤ 65536 then
  match lc2L g dt dj v1 g1 dt1 de l (wipeE (frz sc ρ) vs) s1 with
  | .ok xs s2 => if xs.length ≤ 65536 then .ok xs s2 else .bad
  | _ => .bad else .bad
theorem noOwn_wipe {ρ : En} {i : Nat} {ds : List D} : ∀ {vs : List Nat}, (wipeE ρ vs)[i]? = some (some (.own ds)) → ρ[i]? = some (some (.own ds))
  | [], h => h
  | v :: vs, h => by
    have h : ((wipeE ρ vs).set v none)[i]? = some (some (.own ds)) := h
    by_cases hv : v = i
    · subst hv
      have hl : v < (wipeE ρ vs).length := by have := (List.getElem?_eq_some_iff.mp h).1; rwa [List.length_set] at this
      rw [List.getElem?_set_self hl] at h; cases h
    · rw [List.getElem?_set_ne hv] at h
      exact noOwn_wipe h
theorem lc2_red {g g1 : DG} {l l1 v1 : List Nat} {own : List (Str × Nat)} {dt1 : DT S} {Q : VK} (hno : NoOwn g) (hno1 : NoOwn g1) (hl : ∀ i ∈ l, i ∈ own.map (·.2)) (hl1 : ∀ i ∈ l1, i ∈ v1) (hv1 : ∀ i ∈ v1, i ∈ own.map (·.2)) (I : SAt C A0 H0 A H σ ρ st)
    (gg : RG C mg W σ H (dLc2 g dj v1 g1 (own.map (·.2)) (sc ++ sb ++ sa) di dt dt1 de ρ st) fun ds _ H1 => ∀ p xs, H1 p = none → Dats C H1 (Amin A σ ρ (sc ++ sb ++ sa)) xs ds → xs.length ≤ sizeLine → Q (.ref p) (upd H1 p (.lst xs))) :
    tLc2 (cti C mg W sc di) (ctg C l g) (ctt C mg W0 dt) (cti C mg W0 sb dj) (ctg C l1 g1) (ctt C mg W0 dt1) (cte C mg W0 sa de) (own.map (·.2)) v1 σ H Q := by
  refine ⟨A0, H0, A, ρ, st, I, gg.bind.imp fun ds s1 H1 k1 t1 g1' J Y0 => ?_⟩
  by_cases hz : ds.length ≤ 65536
  rotate_left
  · rw [if_neg hz] at g1'; exact g1'.elim
  rw [if_pos hz] at g1'
  obtain ⟨res, sf, eq0, hres, q⟩ : ∃ res sf, lc2L g dt dj v1 g1 dt1 de ds (wipeE (frz (sc ++ sb ++ sa) ρ) (own.map (·.2))) s1 = .ok res sf ∧ res.length ≤ 65536 ∧ ∀ H', Keep C.dom H1 H' → C.At sf H' → ∀ p xs, H' p = none → Dats C H' (Amin A σ ρ (sc ++ sb ++ sa)) xs res → xs.length ≤ sizeLine → Q (.ref p) (upd H' p (.lst xs)) := by
    split at g1'
    · rename_i xs s2 e
      by_cases z : xs.length ≤ 65536
      · rw [if_pos z] at g1'
        exact ⟨xs, s2, e, z, g1'⟩
      · rw [if_neg z] at g1'; exact g1'.elim
    · exact g1'.elim
  intro p hp
  have Y := Y0.more (A' := Amin A σ ρ (sc ++ sb ++ sa)) fun a h => Amin.more (fun i hi => List.mem_append_left _ (List.mem_append_left _ hi)) h
  have I2 := (I.next k1 t1).freeze (sc ++ sb ++ sa)
  generalize hA1 : Amin A σ ρ (sc ++ sb ++ sa) = A1 at I2 Y
  have I3 := (I2.rebase.beside (vs := []) hp).wipe (own.map (·.2))
  have nA1 : ¬ A1 p := fun z => I2.fresh p z hp
  have rp : reb A0 A1 H1 p = none := by
    cases e : reb A0 A1 H1 p with
    | none => rfl
    | some o => have := (reb_some e).1; rw [hp] at this; cases this
  have kp4 : ¬ C.dom p := fun z => nA1 (I2.domA p z)
  have sub1 : ∀ a, C.dom a → A1 a ∨ a = p := fun a h => .inl (I2.domA a h)
  -- an own slot of the block stands as it stood
  have npw : ∀ (i : Nat) ds, (wipeE (frz (sc ++ sb ++ sa) ρ) (own.map (·.2)))[i]? = some (some (.own ds)) → (L2.wipe σ (own.map (·.2)))[i]? ≠ some (some (.ref p)) := fun i ds e z => by
    obtain ⟨v, e1, a, ys, rfl, h1, h2, h3, h4, h5⟩ := (I2.rebase.wipe (own.map (·.2))).sl i _ e
    rw [e1] at z
    cases z
    rw [hp] at h4; cases h4
  -- what is known ahead of a turn
  refine ⟨fun i m H2 => m = ds.length - i ∧ i ≤ ds.length ∧ ∃ s' acc vs, SAt C A0 (reb A0 A1 H1) (fun a => A1 a ∨ a = p) H2 (L2.wipe σ (own.map (·.2))) (wipeE (frz (sc ++ sb ++ sa) ρ) (own.map (·.2))) s' ∧ H2 p = some (.lst vs) ∧ Dats C H2 (fun a => A1 a ∨ a = p) vs acc ∧ Keep C.dom H1 H2 ∧
    ∃ rest, lc2L g dt dj v1 g1 dt1 de (ds.drop i) (wipeE (frz (sc ++ sb ++ sa) ρ) (own.map (·.2))) s' = .ok rest sf ∧ acc ++ rest = res,
    ⟨ds.length, by simp, Nat.zero_le _, s1, [], [], I3, upd_same, Dats.nil, Keep.upd hp, res, by simpa using eq0, rfl⟩, ?_⟩
  rintro i m H2 ⟨rfl, hi2, s', acc, vs, I', hv, t', kd, rest, eqr, ea⟩
  have kB : Keep A1 H1 H2 := I'.kept I2.domA
  have lm := I'.lims I2.sub
  by_cases hlt : i < ds.length
  · refine .inr ⟨Y.go i H2 hlt kB, fun H3 => ∃ s' acc vs, SAt C A0 (reb A0 A1 H1) (fun a => A1 a ∨ a = p) H3 (L2.wipe σ (own.map (·.2))) (wipeE (frz (sc ++ sb ++ sa) ρ) (own.map (·.2))) s' ∧ H3 p = some (.lst vs) ∧ Dats C H3 (fun a => A1 a ∨ a = p) vs acc ∧ Keep C.dom H1 H3 ∧
      ∃ rest, lc2L g dt dj v1 g1 dt1 de (ds.drop (i + 1)) (wipeE (frz (sc ++ sb ++ sa) ρ) (own.map (·.2))) s' = .ok rest sf ∧ acc ++ rest = res, fun H3 z => ⟨ds.length - (i + 1), by omega, rfl, hlt, z⟩, fun x H3 y => ?_⟩
    obtain ⟨d, ed, k3, a3, hD⟩ := Y.yld i H2 x H3 hlt kB y
    have J3 := I'.next k3 (a3 _ I'.at_)
    have dx := hD _ I'.fresh lm
    have ed' : ds.drop i = d :: ds.drop (i + 1) := by
      rw [List.drop_eq_getElem_cons hlt]
      congr 1
      rw [List.getElem?_eq_getElem hlt] at ed
      exact Option.some.inj ed
    rw [ed'] at eqr
    unfold lc2L at eqr
    cases eg : g d (wipeE (frz (sc ++ sb ++ sa) ρ) (own.map (·.2))) with
    | none => rw [eg] at eqr; cases eqr
    | some ρ1 =>
      rw [eg] at eqr
      obtain ⟨k, s2, e1, eqr⟩ := bind_ok_iff eqr
      refine ⟨A0, _, _, _, s', d, ρ1, J3, dx, eg, fun σ1 K1 w1 => ⟨(w1 _ hl).trans (wipe_idem _ _), A0, _, _, ρ1, s', K1, ?_⟩⟩
      rw [e1]
      intro H4 k4 t4
      have J4 := J3.next k4 t4
      have K4 := K1.next k4 t4
      have v4 : H4 p = some (.lst vs) := k4 p _ kp4 (k3 p _ kp4 hv)
      have t4' : Dats C H4 (fun a => A1 a ∨ a = p) vs acc := t'.keep (k3.trans k4) sub1
      have kd4 := (kd.trans k3).trans k4
      cases k with
      | false =>
        simp only [Bool.false_eq_true, if_false] at eqr ⊢
        exact ⟨s2, acc, vs, J4, v4, t4', kd4, rest, eqr, ea⟩
      | true =>
        simp only [if_true] at eqr ⊢
        obtain ⟨ds1, s3, e3, eqr⟩ := bind_ok_iff eqr
        obtain ⟨xs1, s4, e4, eqr⟩ := bind_ok_iff eqr
        obtain ⟨rest2, s5, e5, eqr⟩ := bind_ok_iff eqr
        cases eqr
        have fz : ∀ (ρ2 : En), (∀ (j : Nat) es, ρ2[j]? = some (some (.own es)) → ρ1[j]? = some (some (.own es))) → ∀ ws, (∀ j ∈ ws, j ∈ sc ++ sb ++ sa) → ∀ σ2 a, (A1 a ∨ a = p) → Amin (fun a => A1 a ∨ a = p) σ2 ρ2 ws a := fun ρ2 h ws hw σ2 a ha => ⟨ha, fun j hj es e => absurd (h j es e) (noOwn_frz hno eg (hw j hj))⟩
        refine ⟨A0, _, _, ρ1, s2, K4, ?_⟩
        rw [e3]
        intro H5 k5 t5 J1 Y1'
        have Y1 := Y1'.more (A' := fun a => A1 a ∨ a = p) (fz ρ1 (fun _ _ z => z) sb (fun j hj => List.mem_append_left _ (List.mem_append_right _ hj)) σ1)
        have K5 := (K4.next k5 t5).wipe v1
        have npi : ∀ (i : Nat) ds, (wipeE ρ1 v1)[i]? = some (some (.own ds)) → (L2.wipe σ1 v1)[i]? ≠ some (some (.ref p)) := fun i es e z => by
          have q1 := hno _ _ _ eg i es (noOwn_wipe e)
          obtain ⟨z1, z2⟩ := wipe_some z
          have q2 : i ∉ own.map (·.2) := fun hm => by
            have : ∀ vs : List Nat, i ∈ vs → (wipeE (frz (sc ++ sb ++ sa) ρ) vs)[i]? ≠ some (some (.own es)) := by
              intro vs
              induction vs with
              | nil => intro h; cases h
              | cons v vs ih =>
                intro h w
                have w : ((wipeE (frz (sc ++ sb ++ sa) ρ) vs).set v none)[i]? = some (some (.own es)) := w
                by_cases hv : v = i
                · subst hv
                  have hl : v < (wipeE (frz (sc ++ sb ++ sa) ρ) vs).length := by have := (List.getElem?_eq_some_iff.mp w).1; rwa [List.length_set] at this
                  rw [List.getElem?_set_self hl] at w; cases w
                · rw [List.getElem?_set_ne hv] at w
                  exact ih ((List.mem_cons.mp h).resolve_left fun z => hv z.symm) w
            exact this _ hm q1
          have w2 : (L2.wipe σ1 (own.map (·.2)))[i]? = some (some (.ref p)) := by rw [wipe_out q2]; exact z1
          rw [(w1 _ hl).trans (wipe_idem _ _)] at w2
          exact npw i es q1 w2
        have J5 := J4.next k5 t5
        have v5 : H5 p = some (.lst vs) := k5 p _ kp4 v4
        have t5' : Dats C H5 (fun a => A1 a ∨ a = p) vs acc := t4'.keep k5 sub1
        refine ⟨fun j k H6 => k = ds1.length - j ∧ j ≤ ds1.length ∧ ∃ s6 acc6 vs6, SAt C A0 (reb A0 A1 H1) (fun a => A1 a ∨ a = p) H6 (L2.wipe σ1 v1) (wipeE ρ1 v1) s6 ∧ SAt C A0 (reb A0 A1 H1) (fun a => A1 a ∨ a = p) H6 (L2.wipe σ (own.map (·.2))) (wipeE (frz (sc ++ sb ++ sa) ρ) (own.map (·.2))) s6 ∧
          H6 p = some (.lst vs6) ∧ Dats C H6 (fun a => A1 a ∨ a = p) vs6 acc6 ∧ Keep C.dom H1 H6 ∧ Keep (fun a => A1 a ∨ a = p) H5 H6 ∧ ∃ r6, lcL g1 dt1 de (ds1.drop j) (wipeE ρ1 v1) s6 = .ok r6 s4 ∧ acc6 ++ r6 ++ rest2 = res,
          ⟨ds1.length, by simp, Nat.zero_le _, s3, acc, vs, K5, J5, v5, t5', kd4.trans k5, Keep.refl, xs1, by simpa using e4, by rw [List.append_assoc]; exact ea⟩, ?_⟩
        rintro j k H6 ⟨rfl, hj2, s6, acc6, vs6, K6, J6, v6, t6, kd6, kk6, r6, eq6, ea6⟩
        by_cases hlt6 : j < ds1.length
        · refine .inr ⟨Y1.go j H6 hlt6 kk6, fun H7 => ∃ s6 acc6 vs6, SAt C A0 (reb A0 A1 H1) (fun a => A1 a ∨ a = p) H7 (L2.wipe σ1 v1) (wipeE ρ1 v1) s6 ∧ SAt C A0 (reb A0 A1 H1) (fun a => A1 a ∨ a = p) H7 (L2.wipe σ (own.map (·.2))) (wipeE (frz (sc ++ sb ++ sa) ρ) (own.map (·.2))) s6 ∧
            H7 p = some (.lst vs6) ∧ Dats C H7 (fun a => A1 a ∨ a = p) vs6 acc6 ∧ Keep C.dom H1 H7 ∧ Keep (fun a => A1 a ∨ a = p) H5 H7 ∧ ∃ r6, lcL g1 dt1 de (ds1.drop (j + 1)) (wipeE ρ1 v1) s6 = .ok r6 s4 ∧ acc6 ++ r6 ++ rest2 = res, fun H7 z => ⟨ds1.length - (j + 1), by omega, rfl, hlt6, z⟩, fun x7 H7 y7 => ?_⟩
          obtain ⟨d7, ed7, k7, a7, hD7⟩ := Y1.yld j H6 x7 H7 hlt6 kk6 y7
          have K7 := K6.next k7 (a7 _ K6.at_)
          have J7 := J6.next k7 (a7 _ J6.at_)
          have dx7 := hD7 (fun a => A1 a ∨ a = p) K6.fresh fun a ha => .inl ha
          have ed7' : ds1.drop j = d7 :: ds1.drop (j + 1) := by
            rw [List.drop_eq_getElem_cons hlt6]
            congr 1
            rw [List.getElem?_eq_getElem hlt6] at ed7
            exact Option.some.inj ed7
          rw [ed7'] at eq6
          unfold lcL at eq6
          cases eg7 : g1 d7 (wipeE ρ1 v1) with
          | none => rw [eg7] at eq6; cases eq6
          | some ρ7 =>
            rw [eg7] at eq6
            obtain ⟨k8, s8, e8, eq6⟩ := bind_ok_iff eq6
            refine ⟨A0, _, _, _, s6, d7, ρ7, K7, dx7, eg7, fun σ7 L7 w7 => ⟨(w7 _ hl1).trans (wipe_idem _ _), A0, _, _, ρ7, s6, L7, ?_⟩⟩
            rw [e8]
            intro H8 k9 t8
            have J8 := J7.next k9 t8
            have K8 := K7.next k9 t8
            have v8 : H8 p = some (.lst vs6) := k9 p _ kp4 (k7 p _ kp4 v6)
            have t8' : Dats C H8 (fun a => A1 a ∨ a = p) vs6 acc6 := t6.keep (k7.trans k9) sub1
            have kd8 := (kd6.trans k7).trans k9
            have kk8 : Keep (fun a => A1 a ∨ a = p) H5 H8 := fun a o n h => (k7.trans k9) a o (fun z => n (sub1 a z)) (kk6 a o n h)
            cases k8 with
            | false =>
              simp only [Bool.false_eq_true, if_false] at eq6 ⊢
              exact ⟨s8, acc6, vs6, K8, J8, v8, t8', kd8, kk8, r6, eq6, ea6⟩
            | true =>
              simp only [if_true] at eq6 ⊢
              obtain ⟨dxv, s9, e9, eq6⟩ := bind_ok_iff eq6
              obtain ⟨r9, s10, e10, eq6⟩ := bind_ok_iff eq6
              cases eq6
              refine ⟨A0, _, _, ρ7, s8, L7.next k9 t8, ?_⟩
              rw [e9]
              intro H9 k10 t9 yv dyv
              have v9 : H9 p = some (.lst vs6) := k10 p _ kp4 v8
              have dyv' := dyv.less (fz ρ7 (fun j es z => noOwn_wipe (hno1 _ _ _ eg7 j es z)) sa (fun j hj => List.mem_append_right _ hj) σ7)
              have t9' : Dats C H9 (fun a => A1 a ∨ a = p) vs6 acc6 := t8'.keep k10 sub1
              have hlen : vs6.length ≤ 65536 := by
                rw [t9'.len]
                have := congrArg List.length ea6
                simp only [List.length_append, List.length_cons] at this
                omega
              refine ⟨vs6, v9, by rw [line_eq]; omega, s9, acc6 ++ [dxv], vs6 ++ [yv], (K8.next k10 t9).grow v9 (.inr rfl) (fun z => nA1 (I2.sub p z)) rp npi, (J8.next k10 t9).grow v9 (.inr rfl) (fun z => nA1 (I2.sub p z)) rp npw, upd_same, (dats_snoc t9' dyv').write fun a n => upd_ne fun z => n (.inr z),
                fun a o n h => by rw [upd_ne (ne_of_none h hp)]; exact (kd8.trans k10) a o n h, fun a o n h => by rw [upd_ne fun z => n (.inr z)]; exact k10 a o (fun z => n (sub1 a z)) (kk8 a o n h), r9, e10, by rw [← ea6]; simp⟩
        · have e : j = ds1.length := by omega
          subst e
          rw [List.drop_length] at eq6
          cases eq6
          refine .inl ⟨Y1.stop H6 kk6, _, acc6, vs6, J6, v6, t6, kd6, rest2, e5, by rw [← ea6]; simp⟩
  · have e : i = ds.length := by omega
    subst e
    rw [List.drop_length] at eqr
    cases eqr
    refine .inl ⟨Y.stop H2 kB, ?_⟩
    rw [List.append_nil] at ea
    subst ea
    have ne : ∀ a, C.dom a → a ≠ p := fun a h z => nA1 (z ▸ I2.domA a h)
    have := q (cutAt H2 p) (fun a o n h => by
      have hne : a ≠ p := ne_of_none h hp
      rw [cut_ne hne]
      exact kd a o n h) (C.stab _ _ _ I'.at_ fun a ha => cut_ne (ne a ha)) p vs cut_same ((t'.write fun a n => cut_ne fun z => n (.inr z)).less fun a ha => .inl (hA1 ▸ ha)) (by rw [t'.len, line_eq]; omega)
    rw [cut_upd hv] at this
    exact this

theorem pf_lc2 {g g1 : DG} {l l1 v1 : List Nat} {scope : Scope} {own : List (Str × Nat)} {dt1 : DT S} (hc : X.calm = true) (nd : X.N.Nodup) (hi : PId X C W tg iter sc di) (ok : BlkOk X.N X.env.scope scope own)
    (hg : ∀ (s : Shared) (H : Hp) (q : Addr) (cl : List (Str × Addr)) (fp : List Addr), PGd (X.blk s H scope (compEnvC scope cl q X.env) fp) C tg l g) (hno : NoOwn g)
    (ht : ∀ (s : Shared) (H : Hp) (q : Addr) (cl : List (Str × Addr)) (fp : List Addr), PTsd (X.blk s H scope (compEnvC scope cl q X.env) fp) C W0 ifs dt)
    (hj : ∀ (s : Shared) (H : Hp) (q : Addr) (cl : List (Str × Addr)) (fp : List Addr), PId (X.blk s H scope (compEnvC scope cl q X.env) fp) C W0 tg1 iter1 sb dj)
    (hg1 : ∀ (s : Shared) (H : Hp) (q : Addr) (cl : List (Str × Addr)) (fp : List Addr), PGd (X.blk s H scope (compEnvC scope cl q X.env) fp) C tg1 l1 g1) (hno1 : NoOwn g1)
    (ht1 : ∀ (s : Shared) (H : Hp) (q : Addr) (cl : List (Str × Addr)) (fp : List Addr), PTsd (X.blk s H scope (compEnvC scope cl q X.env) fp) C W0 ifs1 dt1)
    (he : ∀ (s : Shared) (H : Hp) (q : Addr) (cl : List (Str × Addr)) (fp : List Addr), PD (X.blk s H scope (compEnvC scope cl q X.env) fp) C W0 elt sa de)
    (hl : ∀ i ∈ l, i ∈ own.map (·.2) := by decide) (hl1 : ∀ i ∈ l1, i ∈ v1 := by decide) (hv1 : ∀ i ∈ v1, i ∈ own.map (·.2) := by decide) (hs : ∀ x, foldedSetIterable iter X.env x = pure x := by intro _; rfl) (hs1 : ∀ env x, foldedSetIterable iter1 env x = pure x := by intro _ _; rfl) :
    PF X C W (.ListComp elt [⟨tg, iter, ifs, 0⟩, ⟨tg1, iter1, ifs1, 0⟩] scope pos) (sc ++ sb ++ sa) (dLc2 g dj v1 g1 (own.map (·.2)) (sc ++ sb ++ sa) di dt dt1 de) :=
  pf_of (pe_lc2 (vs1 := v1) (g := ctg C l g) (tt := ctt C X.mg W0 dt) (wi1 := cti C X.mg W0 sb dj) (g1 := ctg C l1 g1) (tt1 := ctt C X.mg W0 dt1) (te := cte C X.mg W0 sa de) hc nd hi ok hv1 (fun s H q cl fp => (hg s H q cl fp).pg) ht hj (fun s H q cl fp => (hg1 s H q cl fp).pg) ht1 he hs hs1) fun A0 H0 A ρ st σ H Q I gg => lc2_red hno hno1 hl hl1 hv1 I gg
theorem psd_setLc2 (i : Nat) {y : Str} {py spos : Pos} {g g1 : DG} {l l1 v1 : List Nat} {scope : Scope} {own : List (Str × Nat)} {dt1 : DT S} {dv : E1 S Sl} (hv : ∀ {σ : St} {H : Hp} {Q : VK}, ctv C X.mg W (sc ++ sb ++ sa) dv σ H Q → ctf C X.mg W (sc ++ sb ++ sa) (dLc2 g dj v1 g1 (own.map (·.2)) (sc ++ sb ++ sa) di dt dt1 de) σ H Q)
    (hc : X.calm = true) (nd : X.N.Nodup) (hi : PId X C W tg iter sc di) (ok : BlkOk X.N X.env.scope scope own)
    (hg : ∀ (s : Shared) (H : Hp) (q : Addr) (cl : List (Str × Addr)) (fp : List Addr), PGd (X.blk s H scope (compEnvC scope cl q X.env) fp) C tg l g) (hno : NoOwn g)
    (ht : ∀ (s : Shared) (H : Hp) (q : Addr) (cl : List (Str × Addr)) (fp : List Addr), PTsd (X.blk s H scope (compEnvC scope cl q X.env) fp) C W0 ifs dt)
    (hj : ∀ (s : Shared) (H : Hp) (q : Addr) (cl : List (Str × Addr)) (fp : List Addr), PId (X.blk s H scope (compEnvC scope cl q X.env) fp) C W0 tg1 iter1 sb dj)
    (hg1 : ∀ (s : Shared) (H : Hp) (q : Addr) (cl : List (Str × Addr)) (fp : List Addr), PGd (X.blk s H scope (compEnvC scope cl q X.env) fp) C tg1 l1 g1) (hno1 : NoOwn g1)
    (ht1 : ∀ (s : Shared) (H : Hp) (q : Addr) (cl : List (Str × Addr)) (fp : List Addr), PTsd (X.blk s H scope (compEnvC scope cl q X.env) fp) C W0 ifs1 dt1)
    (he : ∀ (s : Shared) (H : Hp) (q : Addr) (cl : List (Str × Addr)) (fp : List Addr), PD (X.blk s H scope (compEnvC scope cl q X.env) fp) C W0 elt sa de)
    (hl : ∀ i ∈ l, i ∈ own.map (·.2) := by decide) (hl1 : ∀ i ∈ l1, i ∈ v1 := by decide) (hv1 : ∀ i ∈ v1, i ∈ own.map (·.2) := by decide) (hs : ∀ x, foldedSetIterable iter X.env x = pure x := by intro _; rfl) (hs1 : ∀ env x, foldedSetIterable iter1 env x = pure x := by intro _ _; rfl)
    (hy : X.N[i]? = some y := by rfl) (hyl : X.env.scope.names.lookup y = some .local := by rfl) (hsw : swapsWith (.ListComp elt [⟨tg, iter, ifs, 0⟩, ⟨tg1, iter1, ifs1, 0⟩] scope pos) (some (.Name y py)) spos.line X.env = pure true := by exact sw_true rfl rfl rfl (by decide +kernel)) :
    PSd X C W (.Assign [.Name y py] (.ListComp elt [⟨tg, iter, ifs, 0⟩, ⟨tg1, iter1, ifs1, 0⟩] scope pos) spos) (dAsg i (sc ++ sb ++ sa) dv) :=
  psd_of (ps_setLc2 (vs1 := v1) (g := ctg C l g) (tt := ctt C X.mg W0 dt) (wi1 := cti C X.mg W0 sb dj) (g1 := ctg C l1 g1) (tt1 := ctt C X.mg W0 dt1) (te := cte C X.mg W0 sa de) hc nd hy hyl hsw hi ok hv1 (fun s H q cl fp => (hg s H q cl fp).pg) ht hj (fun s H q cl fp => (hg1 s H q cl fp).pg) ht1 he hs hs1) fun A0 H0 A ρ st σ H DD I g' => by
    obtain ⟨A0', H0', A', ρ', st', I', g2⟩ := hv (ctv_give I g')
    exact lc2_red hno hno1 hl hl1 hv1 I' g2
end
end Mir

set_option Elab.async false
set_option linter.all false
set_option maxRecDepth 100000
set_option maxHeartbeats 2000000
namespace Mir
open PySem PySem.Spec L2
open PyProof.Rows hiding St

section
variable {S : Type} {C : Deck S} {X : Cx} {W : WX} {A0 A A' : Addr → Prop} {H0 H H' B : Hp} {σ : St} {ρ : En} {st st' : S}
variable {e a b c tg iter elt : Expr} {es rest ifs : List Expr} {pos p p2 : Pos} {sc sc' sa sb vs : List Nat} {de da db dc : DE S} {dt dt' du : DT S} {dl di dj : DA S} {ds ds' : DS S} {mg : Str → Option Value} {DD : Ends} {xs ys : List Stmt}
/-! ### a list of one's own is changed -/
theorem own_apart (I : SAt C A0 H0 A H σ ρ st) {i : Nat} {es : List D} {q : Addr} (e : ρ[i]? = some (some (.own es))) (h : σ[i]? = some (some (.ref q))) : ∀ (j : Nat) ds, j ≠ i → ρ[j]? = some (some (.own ds)) → σ[j]? ≠ some (some (.ref q)) := fun j ds n ej z => I.apart j i ds es n ej e (z.trans h.symm)
theorem SAt.writeOwn {i : Nat} {gs0 fs : List D} {q : Addr} {ws : List V} (I : SAt C A0 H0 A H σ ρ st) (e : ρ[i]? = some (some (.own gs0))) (hσ : σ[i]? = some (some (.ref q))) (t : Dats C H A ws fs) : SAt C A0 H0 A (upd H q (.lst ws)) σ (ρ.set i (some (.own fs))) st := by
  obtain ⟨v, e1, q', ys, rfl, h1, h2, h3, h4, h5⟩ := I.sl i _ e
  rw [hσ] at e1
  cases e1
  have w : ∀ a, ¬ A a → upd H q (.lst ws) a = H a := fun a n => upd_ne fun z => n (z ▸ h1)
  have hl : i < ρ.length := (List.getElem?_eq_some_iff.mp e).1
  refine ⟨by rw [List.length_set]; exact I.len, fun j x ej => ?_, fun j k ds es n e1 e2 => ?_, fun a ha => ?_, I.sub, I.lim, I.dom, fun a o n h => ?_, C.stab _ _ _ I.at_ fun a ha => upd_ne fun z => h3 (z ▸ I.dom a ha)⟩
  · by_cases hj : j = i
    · subst hj
      rw [List.getElem?_set_self hl] at ej
      cases ej
      exact ⟨_, hσ, q, ws, rfl, h1, h2, h3, upd_same, t.write w⟩
    · rw [List.getElem?_set_ne (Ne.symm hj)] at ej
      obtain ⟨v, e1, s⟩ := I.sl j x ej
      refine ⟨v, e1, ?_⟩
      cases x with
      | val d => exact Dat.write s w
      | own gs =>
        obtain ⟨a, zs, rfl, g1, g2, g3, g4, g5⟩ := s
        have ne : a ≠ q := fun z => own_apart I e hσ j gs hj ej (by rw [e1, z])
        exact ⟨a, zs, rfl, g1, g2, g3, by rw [upd_ne ne]; exact g4, g5.write w⟩
  · have back : ∀ {j : Nat} {ds : List D}, (ρ.set i (some (Sl.own fs)))[j]? = some (some (Sl.own ds)) → ∃ ds', ρ[j]? = some (some (Sl.own ds')) := fun {j ds} e' => by
      by_cases hj : j = i
      · exact ⟨gs0, by rw [hj]; exact e⟩
      · exact ⟨ds, by rwa [List.getElem?_set_ne (Ne.symm hj)] at e'⟩
    obtain ⟨d1, q1⟩ := back e1
    obtain ⟨d2, q2⟩ := back e2
    exact I.apart j k d1 d2 n q1 q2
  · by_cases z : a = q
    · subst z; rw [upd_same]; exact fun z => nomatch z
    · rw [upd_ne z]; exact I.fresh a ha
  · rw [upd_ne (ne_of_none h h2)]; exact I.keep a o n h
/-- what an own slot is -/
theorem SAt.ownAt {i : Nat} {es : List D} (I : SAt C A0 H0 A H σ ρ st) (e : ρ[i]? = some (some (.own es))) : ∃ q ws, σ[i]? = some (some (.ref q)) ∧ H q = some (.lst ws) ∧ Dats C H A ws es ∧ ¬ C.dom q := by
  obtain ⟨v, e1, q', ys, rfl, h1, h2, h3, h4, h5⟩ := I.sl i _ e
  exact ⟨q', ys, e1, h4, h5, fun z => h3 (I.dom _ z)⟩
theorem frz_own {ρ : En} {sc : List Nat} {i : Nat} {es : List D} (h : (frz sc ρ)[i]? = some (some (.own es))) : ρ[i]? = some (some (.own es)) ∧ i ∉ sc := by
  rw [frz_get] at h
  cases q : ρ[i]? with
  | none => rw [q] at h; cases h
  | some y =>
    rw [q] at h
    cases y with
    | none => simp at h
    | some y => cases y with
      | val d => simp at h
      | own ds =>
        by_cases hi : i ∈ sc
        · simp [hi] at h
        · simp [hi] at h; subst h; exact ⟨rfl, hi⟩
theorem frzs_own {x : Sl} {ρ : En} {sc : List Nat} {i : Nat} {es : List D} (h : (frzs x sc ρ)[i]? = some (some (.own es))) : ρ[i]? = some (some (.own es)) := by
  unfold frzs at h
  split at h
  · exact h
  · exact (frz_own h).1
/-- a method of a list of one's own, by values -/
def MtD (C : Deck S) (r : V → List V → Hp → VK → Prop) (f : List D → List D → Option (List D × D)) : Prop := ∀ (A : Addr → Prop) (H : Hp) (p : Addr) (ws vs : List V) (es ds es' : List D) (d : D) (Q : VK), A p → H p = some (.lst ws) → Dats C H A ws es → Dats C H A vs ds → f es ds = some (es', d) →
  (∀ ws' v, Dats C H A ws' es' → Dat C H A v d → Q v (upd H p (.lst ws'))) → r (.ref p) vs H Q
def frzl (ds : List D) (sc : List Nat) (ρ : En) : En := if ds.all (fun d => scal (.val d)) then ρ else frz sc ρ
@[simp] theorem frzl_nil (ds : List D) (ρ : En) : frzl ds [] ρ = ρ := by unfold frzl; split <;> simp
theorem scal_less {v : V} {d : D} (h : Dat C H A v d) (hs : scal (.val d) = true) : Dat C H A' v d := by
  cases h <;> simp only [scal] at hs <;> first | cases hs | skip
  · exact .non
  · exact .bl _
  · exact .int _
  · exact .str (by assumption)
  · exact .deck
theorem SAt.freezel {ds : List D} {vs : List V} (I : SAt C A0 H0 A H σ ρ st) (sc : List Nat) (t : Dats C H (Amin A σ ρ sc) vs ds) : ∃ A', SAt C A0 H0 A' H σ (frzl ds sc ρ) st ∧ Dats C H A' vs ds := by
  unfold frzl
  by_cases hs : ds.all (fun d => scal (.val d)) = true
  · rw [if_pos hs]
    refine ⟨A, I, t.len, fun i x d e1 e2 => scal_less (t.at_ i x d e1 e2) ?_⟩
    exact List.all_eq_true.mp hs d (List.mem_of_getElem? e2)
  · rw [if_neg hs]
    exact ⟨_, I.freeze sc, t⟩
/-- x.m(..) as a statement -/
def dMeth (i : Nat) (sc : List Nat) (dl : DA S) (f : List D → List D → Option (List D × D)) (k : D → En → Option En) : DS S := fun ρ s => match ρ[i]? with
  | some (some (.own _)) => (dl ρ s).out ρ fun ds s1 => match (frzl ds sc ρ)[i]? with
    | some (some (.own es)) => match f es ds with
      | some (es', d) => match k d ((frzl ds sc ρ).set i (some (.own es'))) with
        | some ρ' => .nx ρ' s1
        | none => .bad
      | none => .bad
    | _ => .bad
  | _ => .bad
theorem meth_d {r : V → List V → Hp → VK → Prop} {f : List D → List D → Option (List D × D)} {k : D → En → Option En} {i : Nat} (I : SAt C A0 H0 A H σ ρ st) (hr : MtD C r f) (g : SG C X.mg W A0 H0 (dMeth i sc dl f k ρ st) DD) {R : V → Hp → Prop}
    (fin : ∀ A' H' ρ1 s' d v, SAt C A0 H0 A' H' σ ρ1 s' → Dat C H' A' v d → (∃ ρ', k d ρ1 = some ρ' ∧ SG C X.mg W A0 H0 (.nx ρ' s') DD) → R v H') : ∃ v, σ[i]? = some (some v) ∧ tyV X.K "list" v H ∧ cta C X.mg W sc dl σ H fun vs H1 => r v vs H1 R := by
  unfold dMeth at g
  split at g
  rotate_left
  · exact g.elim
  rename_i es0 q0
  obtain ⟨p, ws, h1, h2, h3, h4⟩ := I.ownAt q0
  refine ⟨_, h1, .inl ⟨rfl, ws, .of h2⟩, A0, H0, A, ρ, st, I, (g.out I).imp fun ds s1 H1 k1 t1 ⟨I1, g1⟩ vs dvs => ?_⟩
  obtain ⟨A', I2, t2⟩ := I1.freezel sc dvs
  split at g1
  rotate_left
  · exact g1.elim
  rename_i es q
  cases ef : f es ds with
  | none => rw [ef] at g1; exact g1.elim
  | some ed =>
    obtain ⟨es', d⟩ := ed
    rw [ef] at g1
    dsimp only at g1
    cases ek : k d ((frzl ds sc ρ).set i (some (.own es'))) with
    | none => rw [ek] at g1; exact g1.elim
    | some ρ' =>
      rw [ek] at g1
      obtain ⟨p', ws', e1, e2, e3, e4⟩ := I2.ownAt q
      rw [h1] at e1
      cases e1
      obtain ⟨v, e5, a, ys, e6, g2, g3, g4, g5, g6⟩ := I2.sl i _ q
      rw [h1] at e5
      cases e5
      cases e6
      refine hr A' H1 p ws' vs es ds es' d R g2 e2 e3 t2 ef fun ws2 v t' dv => ?_
      have I3 := I2.writeOwn q h1 t'
      exact fin A' _ _ s1 d v I3 (dv.write fun a n => upd_ne fun z => n (z ▸ g2)) ⟨ρ', ek, g1⟩
def kDrop : D → En → Option En := fun _ ρ => some ρ
/-- x.m(e, ..) -/
theorem psd_meth (i : Nat) {x m : Str} {id : String} {r : V → List V → Hp → VK → Prop} {f : List D → List D → Option (List D × D)} {q1 q2 q3 : Pos} (slot : Slot "list" m id) (hty : typeOf (.builtin id) = pure (.type "method_descriptor")) (hm : MtR X id r) (hr : MtD C r f) (h : PAd X C W (e :: es) sc dl) (hN : X.N[i]? = some x := by rfl) (hv : Vis X.env.scope x := by first | exact Or.inl rfl | exact Or.inr (Or.inl rfl) | exact Or.inr (Or.inr rfl)) (hd : (x == ("__debug__" : Str)) = false := by decide) (hcd : (x == ("__classdict__" : Str)) = false := by decide)
    (hbase : attributeBase (.Name x q1) m X.env (eval (.Name x q1) X.env) = eval (.Name x q1) X.env := by rfl)
    (hfew : ((backTo q3 (starEach (e :: es) X.env)).all (fun x => !x.1) && (backToKw q3 (keywordEach [] X.env)).all (fun x => x.1.isSome) && decide ((e :: es).length + ([] : List Keyword).length + (if ([] : List Keyword).isEmpty then 0 else 1) < 30)) = true := by rfl)
    (hline : (q2.endLine == q3.line) = true := by rfl) (hst : starEach (e :: es) X.env = (false, eval e X.env) :: starEach es X.env := by rfl) (hplain : (backTo q3 (starEach es X.env)).any (·.1) = false := by rfl)
    (hs : swapsWith (.Call (.Attribute (.Name x q1) m q2) (e :: es) [] q3) none pos.line X.env = pure false := by rfl) : PSd X C W (.Expr (.Call (.Attribute (.Name x q1) m q2) (e :: es) [] q3) pos) (dMeth i sc dl f kDrop) :=
  psd_of (ps_expr (pe_bm PySem.F.plainAttrs_list slot hty hm (pe_var hN hv hd hcd) h hbase hfew hline hst hplain) hs) fun A0 H0 A ρ st σ H DD I g => by
    obtain ⟨v, e1, e2, e3⟩ := meth_d (R := fun _ H' => DD.nx σ H') I hr g fun A' H' ρ1 s' d v J _ ⟨ρ', ek, g'⟩ => by cases ek; exact g' A' H' σ J
    exact ⟨v, e1, e2, e3⟩
/-- t = x.m() -/
theorem psd_methA0 (i : Nat) {x m : Str} {id : String} {r : V → List V → Hp → VK → Prop} {f : List D → List D → Option (List D × D)} {g : DG} {l : List Nat} {q1 q2 q3 : Pos} (slot : Slot "list" m id) (hty : typeOf (.builtin id) = pure (.type "method_descriptor")) (hm : MtR X id r) (hr : MtD C r f) (hg : PGd X C tg l g) (hN : X.N[i]? = some x := by rfl) (hv : Vis X.env.scope x := by first | exact Or.inl rfl | exact Or.inr (Or.inl rfl) | exact Or.inr (Or.inr rfl)) (hd : (x == ("__debug__" : Str)) = false := by decide) (hcd : (x == ("__classdict__" : Str)) = false := by decide)
    (hbase : attributeBase (.Name x q1) m X.env (eval (.Name x q1) X.env) = eval (.Name x q1) X.env := by rfl) (hline : (q2.endLine == q3.line) = true := by rfl)
    (hs : swapsWithSole [tg] (.Call (.Attribute (.Name x q1) m q2) [] [] q3) pos.line X.env = pure false := by rfl) (hw : swappedStores [tg] (.Call (.Attribute (.Name x q1) m q2) [] [] q3) X.env = pure none := by rfl) (h1 : (assignEach [tg] X.env).map (·.2) = [assign tg X.env] := by rfl) :
    PSd X C W (.Assign [tg] (.Call (.Attribute (.Name x q1) m q2) [] [] q3) pos) (dMeth i [] dNil f g) :=
  psd_of (ps_asg (pe_bm0 PySem.F.plainAttrs_list slot hty hm (pe_var hN hv hd hcd) hbase hline) hg.pg hs hw h1) fun A0 H0 A ρ st σ H DD I gg => by
    obtain ⟨v, e1, e2, e3⟩ := meth_d (R := fun x H1 => ctg C l g x σ H1 DD.nx) I hr gg fun A' H' ρ1 s' d v J dv ⟨ρ', ek, g'⟩ => ⟨A0, H0, A', ρ1, s', d, ρ', J, dv, ek, fun σ' J' _ => g' A' H' σ' J'⟩
    refine ⟨v, e1, e2, ?_⟩
    obtain ⟨A0', H0', A', ρ', st', I', g'⟩ := e3
    exact g'.done I'.at_ [] Dats.nil
/-- x.m() as a statement -/
theorem psd_meth0 (i : Nat) {x m : Str} {id : String} {r : V → List V → Hp → VK → Prop} {f : List D → List D → Option (List D × D)} {q1 q2 q3 : Pos} (slot : Slot "list" m id) (hty : typeOf (.builtin id) = pure (.type "method_descriptor")) (hm : MtR X id r) (hr : MtD C r f) (hN : X.N[i]? = some x := by rfl) (hv : Vis X.env.scope x := by first | exact Or.inl rfl | exact Or.inr (Or.inl rfl) | exact Or.inr (Or.inr rfl)) (hd : (x == ("__debug__" : Str)) = false := by decide) (hcd : (x == ("__classdict__" : Str)) = false := by decide)
    (hbase : attributeBase (.Name x q1) m X.env (eval (.Name x q1) X.env) = eval (.Name x q1) X.env := by rfl) (hline : (q2.endLine == q3.line) = true := by rfl)
    (hs : swapsWith (.Call (.Attribute (.Name x q1) m q2) [] [] q3) none pos.line X.env = pure false := by rfl) : PSd X C W (.Expr (.Call (.Attribute (.Name x q1) m q2) [] [] q3) pos) (dMeth i [] dNil f kDrop) :=
  psd_of (ps_expr (pe_bm0 PySem.F.plainAttrs_list slot hty hm (pe_var hN hv hd hcd) hbase hline) hs) fun A0 H0 A ρ st σ H DD I gg => by
    obtain ⟨v, e1, e2, e3⟩ := meth_d (R := fun _ H' => DD.nx σ H') I hr gg fun A' H' ρ1 s' d v J _ ⟨ρ', ek, g'⟩ => by cases ek; exact g' A' H' σ J
    refine ⟨v, e1, e2, ?_⟩
    obtain ⟨A0', H0', A', ρ', st', I', g'⟩ := e3
    exact g'.done I'.at_ [] Dats.nil
/-- append, extend, pop, insert(0, ..) -/
def fApp : List D → List D → Option (List D × D) := fun es ds => match ds with
  | [d] => if es.length < 65536 then some (es ++ [d], .non) else none
  | _ => none
def fExt : List D → List D → Option (List D × D) := fun es ds => match ds with
  | [.lst fs] => if es.length + fs.length ≤ 65536 then some (es ++ fs, .non) else none
  | _ => none
def fPop : List D → List D → Option (List D × D) := fun es ds => match ds with
  | [] => (es.getLast?).map fun d => (es.dropLast, d)
  | _ => none
def fIns : List D → List D → Option (List D × D) := fun es ds => match ds with
  | [.int 0, d] => if es.length < 65536 then some (d :: es, .non) else none
  | _ => none
theorem md_app : MtD C rAppend fApp := by
  intro A H p ws vs es ds es' d Q hA hp t tv e q
  match ds, e with
  | [d0], e =>
    simp only [fApp] at e
    by_cases z : es.length < 65536
    · rw [if_pos z] at e
      cases e
      obtain ⟨v, rfl, hv⟩ := tv.one
      exact ⟨p, ws, v, rfl, rfl, hp, by rw [t.len, line_eq]; omega, q _ _ (dats_snoc t hv) .non⟩
    · rw [if_neg z] at e; cases e
theorem md_ext : MtD C rExtend fExt := by
  intro A H p ws vs es ds es' d Q hA hp t tv e q
  match ds, e with
  | [.lst fs], e =>
    simp only [fExt] at e
    by_cases z : es.length + fs.length ≤ 65536
    · rw [if_pos z] at e
      cases e
      obtain ⟨v, rfl, hv⟩ := tv.one
      obtain ⟨b, zs, rfl, n, r, tz⟩ := hv.of_lst
      exact ⟨p, b, ws, zs, rfl, rfl, hp, r, by rw [t.len, tz.len, line_eq]; omega, q _ _ (t.append tz) .non⟩
    · rw [if_neg z] at e; cases e
theorem Dats.take {xs : List V} {ds : List D} (t : Dats C H A xs ds) (n : Nat) : Dats C H A (xs.take n) (ds.take n) := ⟨by simp [t.len], fun i x d e1 e2 => by
  rw [List.getElem?_take] at e1 e2
  split at e1
  · rename_i h; rw [if_pos h] at e2; exact t.at_ i x d e1 e2
  · cases e1⟩
theorem md_pop : MtD C rPop fPop := by
  intro A H p ws vs es ds es' d Q hA hp t tv e q
  match ds, e with
  | [], e =>
    simp only [fPop, Option.map_eq_some_iff] at e
    obtain ⟨d0, e1, e2⟩ := e
    cases e2
    rw [List.getLast?_eq_getElem?] at e1
    obtain ⟨v, h1, h2⟩ := t.get e1
    refine ⟨p, ws, v, rfl, tv.unnil, hp, by rw [t.len]; exact h1, ?_⟩
    rw [List.dropLast_eq_take] at q ⊢
    exact q _ _ (by rw [t.len]; exact t.take _) h2
theorem insAt0 {ws : List V} {v : V} : ws.insertIdx 0 v = v :: ws := rfl
end
end Mir

set_option Elab.async false
set_option linter.all false
set_option maxRecDepth 100000
set_option maxHeartbeats 2000000
namespace Mir
open PySem PySem.Spec L2
open PyProof.Rows hiding St

section
variable {S : Type} {C : Deck S} {X : Cx} {W : WX} {A0 A A' : Addr → Prop} {H0 H H' B : Hp} {σ : St} {ρ : En} {st st' : S}
variable {e a b c tg iter elt : Expr} {es rest ifs : List Expr} {pos p p2 : Pos} {sc sc' sa sb vs : List Nat} {de da db dc : DE S} {dt dt' du : DT S} {dl di dj : DA S} {ds ds' : DS S} {mg : Str → Option Value} {DD : Ends} {xs ys : List Stmt} {dv dw : E1 S Sl}
/-! ### a, b = e1, e2 -/
theorem ctv_step0 (I : SAt C A0 H0 A H σ ρ st) {f : Sl → S → Out S} (g : SG C X.mg W A0 H0 ((dv ρ st).out ρ f) DD) {R : V → Hp → Prop}
    (fin : ∀ A' H' x s' v, SAt C A0 H0 A' H' σ ρ s' → Pend C A0 H0 A' H' σ ρ v x → Keep C.dom H H' → (∀ a, A a → A' a) → (∀ a, A' a → A a ∨ H a = none) → (∀ ds, x = .own ds → ∃ p, v = .ref p ∧ H p = none) → SG C X.mg W A0 H0 (f x s') DD → R v H') : ctv C X.mg W [] dv σ H R :=
  ⟨A0, H0, A, ρ, st, I, (g.out I).imp fun x s1 H1 k1 t1 ⟨I1, g1⟩ => by
    have hn : ∀ {p}, H1 p = none → H p = none := fun {p} hp => by
      cases e : H p with
      | none => rfl
      | some o =>
        by_cases z : C.dom p
        · exact absurd hp (C.there _ _ _ t1 z)
        · have := k1 p o z e; rw [hp] at this; cases this
    cases x with
    | val d =>
      intro v dv
      rw [Amin.nil] at dv
      exact fin A H1 (.val d) s1 v I1 ⟨dv, fun ds e => nomatch e⟩ k1 (fun _ z => z) (fun _ z => .inl z) (fun ds e => nomatch e) g1
    | own ds =>
      intro p xs hp t hz
      rw [Amin.nil] at t
      obtain ⟨I3, P3⟩ := I1.newOwn hp t
      exact fin _ _ _ s1 _ I3 P3 (k1.trans (Keep.upd hp)) (fun _ z => .inl z) (fun a z => z.imp id fun w => by rw [w]; exact hn hp) (fun ds e => ⟨p, rfl, hn hp⟩) g1⟩
theorem Pend.move {v : V} {x : Sl} (P : Pend C A0 H0 A H σ ρ v x) (I : SAt C A0 H0 A H σ ρ st) (k : Keep C.dom H H') (h1 : ∀ a, A a → A' a) (h2 : ∀ a, A' a → A a ∨ H a = none) : Pend C A0 H0 A' H' σ ρ v x := by
  refine ⟨?_, P.apart⟩
  have s := P.sl
  cases x with
  | val d => exact Dat.lift s k I.domA h2
  | own ds =>
    obtain ⟨a, ys, rfl, g1, g2, g3, g4, g5⟩ := s
    exact ⟨a, ys, rfl, h1 a g1, g2, g3, k a _ (fun z => g3 (I.dom a z)) g4, g5.lift k I.domA h2⟩
theorem psd_par (i j : Nat) {x y : Str} {px py pt : Pos} {kt k2 : Nat} {pt2 : Pos} (hc : X.calm = true) (nd : X.N.Nodup) (ha : PV X C W a sa dv) (hb : PV X C W b sb dw) (hsa : sa = [] := by rfl) (hsb : sb = [] := by rfl) (hi : X.N[i]? = some x := by rfl) (hj : X.N[j]? = some y := by rfl) (hij : i ≠ j := by decide)
    (hx : X.env.scope.names.lookup x = some .local := by rfl) (hy : X.env.scope.names.lookup y = some .local := by rfl)
    (hw : swappedStores [.Tuple [.Name x px, .Name y py] kt pt] (.Tuple [a, b] k2 pt2) X.env = pure (some [x, y]) := by rfl)
    (hs : swapsWithSole [.Tuple [.Name x px, .Name y py] kt pt] (.Tuple [a, b] k2 pt2) pos.line X.env = pure false := by rfl)
    (h1 : starEach [a, b] X.env = (false, eval a X.env) :: starEach [b] X.env := by rfl) (h2 : starEach [b] X.env = (false, eval b X.env) :: starEach [] X.env := by rfl) :
    PSd X C W (.Assign [.Tuple [.Name x px, .Name y py] kt pt] (.Tuple [a, b] k2 pt2) pos) (dPar i j sa sb dv dw) :=
  psd_of (ps_par hc nd hi hj hij hx hy (pa_cons ha (pa_cons hb pa_nil h2) h1) hw hs) fun A0 H0 A ρ st σ H DD I g => by
    subst hsa hsb
    refine ctv_step0 I g fun A1 H1 x1 s1 v1 I1 P1 _ _ _ _ g1 => ?_
    simp only [frzs_nil] at g1
    refine ctv_step0 I1 g1 fun A2 H2 x2 s2 v2 I2 P2 k2 m2 l2 n2 g2 => ?_
    have P1' := P1.move I1 k2 m2 l2
    have I3 := I2.give (i := i) P1'
    have P3 : Pend C A0 H0 A2 H2 (σ.set i (some v1)) (ρ.set i (some x1)) v2 x2 := ⟨P2.sl, fun ds e k es ek => by
      obtain ⟨p, ep, hp⟩ := n2 ds e
      by_cases hk : k = i
      · subst hk
        have hl : k < ρ.length := by have := (List.getElem?_eq_some_iff.mp ek).1; rwa [List.length_set] at this
        rw [List.getElem?_set_self hl] at ek
        cases ek
        obtain ⟨q, ws, rfl, _, _, _, h4, _⟩ := P1.sl
        rw [List.getElem?_set_self (by rw [I.len]; exact hl), ep]
        intro z
        cases z
        rw [hp] at h4; cases h4
      · rw [List.getElem?_set_ne (Ne.symm hk)] at ek ⊢
        exact P2.apart ds e k es ek⟩
    exact ⟨v1, v2, rfl, g2 A2 H2 _ (I3.give P3)⟩

/-! ### x op= e, x[i] = e -/
def dAug (i : Nat) (f : D → D → Option D) (de : DE S) : DS S := fun ρ s => match ρ[i]? with
  | some (some (.val d)) => (de ρ s).out ρ fun y s1 => match f d y with
    | some z => .nx (ρ.set i (some (.val z))) s1
    | none => .bad
  | _ => .bad
theorem psd_aug {op : Operator} {r : R2} {f : D → D → Option D} (i : Nat) {x : Str} (nd : X.N.Nodup) (ho : OpR X (inplaceOp op) r) (hr : OpD C r f) (h : PD X C W e [] de) (hi : X.N[i]? = some x := by rfl) (hx : Loc X.env.scope x := by first | exact Or.inl rfl | exact Or.inr rfl) (hf : X.fn x = true ∨ X.env.scope.names.lookup x = some .local := by first | exact .inl rfl | exact .inr rfl | assumption) :
    PSd X C W (.AugAssign (.Name x p) op e pos) (dAug i f de) :=
  psd_of (ps_aug nd hi hx h ho hf) fun A0 H0 A ρ st σ H DD I g => by
    unfold dAug at g
    split at g
    rotate_left
    · exact g.elim
    rename_i d q
    obtain ⟨v, e1, s⟩ := I.sl i _ q
    refine ⟨v, e1, A0, H0, A, ρ, st, I, (g.out I).imp fun y s1 H1 k1 t1 ⟨I1, g1⟩ w dw => ?_⟩
    rw [Amin.nil] at dw
    cases ef : f d y with
    | none => rw [ef] at g1; exact g1.elim
    | some z =>
      rw [ef] at g1
      exact hr A s1 H1 v w d y z _ ⟨I1.fresh, I1.domA, t1⟩ (Dat.keep s k1 I.domA) dw ef fun H2 u k t hu => g1 A H2 _ ((I1.next k t).set hu)
theorem opr_iadd : OpR X (inplaceOp .Add) (fun x y H Q => (rI0 fun i j => V.int (i + j)) x y H Q ∨ ∃ i j, x = .str i ∧ y = .str j ∧ i.length + j.length ≤ sizeLine ∧ Q (.str (i ++ j)) H) := iop_add.or iop_add_str
def iaddD : D → D → Option D
  | .int i, .int j => some (.int (i + j))
  | .str x, .str y => if x.length + y.length ≤ 1048576 then some (.str (x ++ y)) else none
  | _, _ => none
theorem od_iadd : OpD C (fun x y H Q => (rI0 fun i j => V.int (i + j)) x y H Q ∨ ∃ i j, x = .str i ∧ y = .str j ∧ i.length + j.length ≤ sizeLine ∧ Q (.str (i ++ j)) H) iaddD :=
  ((od_int0 (g := fun i j => i + j)).or od_addS).imp fun x y d e => by
    cases x <;> cases y <;> simp only [iaddD] at e <;> try cases e
    all_goals simp only [fI, addS, Option.map_some, Option.none_or, Option.some_or, Option.or_none]
    all_goals exact e
theorem psd_iadd (i : Nat) {x : Str} (nd : X.N.Nodup) (h : PD X C W e [] de) (hi : X.N[i]? = some x := by rfl) (hx : Loc X.env.scope x := by first | exact Or.inl rfl | exact Or.inr rfl) (hf : X.fn x = true ∨ X.env.scope.names.lookup x = some .local := by first | exact .inl rfl | exact .inr rfl | assumption) :
    PSd X C W (.AugAssign (.Name x p) .Add e pos) (dAug i iaddD de) := psd_aug i nd opr_iadd od_iadd h hi hx hf
def mulOk (i j : Int) : Bool := (-(2 ^ 64) < i && i < 2 ^ 64) || (-(2 ^ 64) < j && j < 2 ^ 64)
theorem mulOk_c (i j : Int) (h : mulOk i j = true) : CMul i j := by
  unfold mulOk at h
  simp only [Bool.or_eq_true, Bool.and_eq_true, decide_eq_true_eq] at h
  exact h
def mulI : D → D → Option D := fI fun i j => if mulOk i j then some (i * j) else none
theorem psd_imul (i : Nat) {x : Str} (nd : X.N.Nodup) (h : PD X C W e [] de) (hi : X.N[i]? = some x := by rfl) (hx : Loc X.env.scope x := by first | exact Or.inl rfl | exact Or.inr rfl) (hf : X.fn x = true ∨ X.env.scope.names.lookup x = some .local := by first | exact .inl rfl | exact .inr rfl | assumption) :
    PSd X C W (.AugAssign (.Name x p) .Mult e pos) (dAug i mulI de) := psd_aug i nd iop_mul (od_int _ mulOk_c) h hi hx hf
/-- l * k, t * k for small ones; ints -/
def repOk (n : Nat) (k : Int) : Bool := decide (k ≤ 65536) && decide (-65536 ≤ k) && decide (n * k.toNat ≤ 65536)
def mulD : D → D → Option D
  | .int i, .int j => if mulOk i j then some (.int (i * j)) else none
  | .lst ds, .int k => if repOk ds.length k then some (.lst (List.replicate k.toNat ds).flatten) else none
  | _, _ => none
theorem rRep_eq : ∃ R, @rRep = R := ⟨_, rfl⟩
theorem pd_mulI (ha : PD X C W a sa da) (hb : PD X C W b sb db) : PD X C W (.BinOp a .Mult b pos) (sa ++ sb) (dBin mulI da db) := pd_bin op_mul (od_int _ mulOk_c) ha hb
def modD : D → D → Option D := fI fun i j => if decide (0 < j) then some (i % j) else none
theorem pd_mod (ha : PD X C W a sa da) (hb : PD X C W b sb db) : PD X C W (.BinOp a .Mod b pos) (sa ++ sb) (dBin modD da db) := pd_bin op_mod (od_int (fun _ j => decide (0 < j)) fun i j h => of_decide_eq_true h) ha hb
def fdivD : D → D → Option D := fI fun i j => if decide (0 < j) && decide (j < 1073741824) then some (i / j) else none
theorem pd_fdiv (ha : PD X C W a sa da) (hb : PD X C W b sb db) : PD X C W (.BinOp a .FloorDiv b pos) (sa ++ sb) (dBin fdivD da db) := pd_bin op_fdiv (od_int (fun _ j => decide (0 < j) && decide (j < 1073741824)) fun i j h => by
  simp only [Bool.and_eq_true, decide_eq_true_eq] at h; exact h) ha hb
def negD : D → Option D
  | .int i => some (.int (-i))
  | _ => none
def dUn (f : D → Option D) (de : DE S) : DE S := fun ρ s => (de ρ s).bind fun d s1 => ofO s1 (f d)
theorem pd_neg (h : PD X C W e sc de) : PD X C W (.UnaryOp .USub e pos) [] (dUn negD de) :=
  pd_of (pe_un un_neg h) fun A0 H0 A ρ st σ H Q I g => ⟨A0, H0, A, ρ, st, I, g.bind.imp fun d s1 H1 k1 t1 g1 v dv => by
    obtain ⟨d', e', q⟩ := g1.ofO
    cases d <;> simp only [negD] at e' <;> cases e'
    cases dv
    exact ⟨_, rfl, q H1 Keep.refl t1 _ (.int _)⟩⟩

/-! ### own errors -/
/-- what is known of an error's class -/
structure ErrOk (K : PySem.W.Frag) (mg : Str → Option Value) (c : Str) (a : Addr) : Prop where
  g : mg c = some (.ref a)
  x : PySem.W.excIn K a [.type "ValueError", .type "Exception", .type "BaseException", .type "object"] "ValueError.__new__" = true
  k : PySem.W.keepIn K (.ref a) = true
  b : PySem.W.subIn K (.ref a) (.type "BaseException") = some true
  t : PySem.W.typeIn K (.ref a) = some (.type "type")
  i : PySem.W.isClsIn K a = true
def dRaise (c : Str) : DS S := fun ρ s => .ex c ρ s
theorem psd_raise {x m : Str} {q : Addr} {j : Nat} {p2 p3 : Pos} (E : ErrOk X.K X.mg x q) (hc : X.calm = true) (tk : Takes X W) (hg : Gl X x := by rfl) (hdb : (x == ("__debug__" : Str)) = false := by decide) :
    PSd X C W (.Raise (some (.Call (.Name x p) [.Constant (.str m) j p2] [] p3)) none pos) (dRaise x : DS S) :=
  psd_of (ps_raise hc tk (pmk_own PySem.F.excBase_ValueError E.x E.g E.k (raises_own E.b E.t) hg hdb)) fun A0 H0 A ρ st σ H DD I g => g q A H σ E.g I
/-- which error's class is one of which -/
def handle (sub : Str → Str → Option Bool) (c : Str) (ρ : En) (s : S) : List (Str × DS S) → Out S
  | [] => .ex c ρ s
  | (x, d) :: r => match sub c x with
    | some true => (match d ρ s with
      | .ex _ _ _ => .bad
      | o => o)
    | some false => handle sub c ρ s r
    | none => .bad
def dTry (sub : Str → Str → Option Bool) (ds : DS S) (hs : List (Str × DS S)) : DS S := fun ρ s => match ds ρ s with
  | .ex c ρ' s' => handle sub c ρ' s' hs
  | o => o
/-- the clauses -/
inductive HsOk (X : Cx) (C : Deck S) : List ExceptHandler → List (Value × (Addr → Value → Option Addr → TS)) → List (Str × DS S) → Prop
  | nil : HsOk X C [] [] []
  | cons {x : Str} {q : Addr} {b0 : Stmt} {suite : List Stmt} {np pos' : Pos} {hds : List ExceptHandler} {l : List (Value × (Addr → Value → Option Addr → TS))} {hs : List (Str × DS S)} {d : DS S} (hm : X.mg x = some (.ref q)) (hg : Gl X x) (hdb : (x == ("__debug__" : Str)) = false)
      (hsu : ∀ (a : Addr) (oe : Obj) (pn : List (Addr × Obj)), PBd (X.suite a ((a, oe) :: pn)) C (fun _ _ _ _ => False) (b0 :: suite) d) (r : HsOk X C hds l hs) :
      HsOk X C (.ExceptHandler (some (.Name x np)) none (b0 :: suite) pos' :: hds) ((.ref q, fun _ _ _ => cts C X.mg (fun _ _ _ _ => False) d) :: l) ((x, d) :: hs)
theorem HsOk.hds {hds : List ExceptHandler} {l : List (Value × (Addr → Value → Option Addr → TS))} {hs : List (Str × DS S)} (h : HsOk X C hds l hs) : HdsOk X hds l := by
  induction h with
  | nil => exact .nil
  | cons hm hg hdb hsu r ih => exact .cons ⟨hg, hdb, .inl hm⟩ (fun a oe cls d pn _ _ => hsu a oe pn) ih
/-- what is known of the classes: sub tells it -/
def SubOk (K : PySem.W.Frag) (mg : Str → Option Value) (sub : Str → Str → Option Bool) : Prop := ∀ c x b, sub c x = some b → ∃ a a', mg c = some (.ref a) ∧ mg x = some (.ref a') ∧ PySem.W.exmOne K (.ref a) (.ref a') = some b
theorem handle_ok {hds : List ExceptHandler} {l : List (Value × (Addr → Value → Option Addr → TS))} {hs : List (Str × DS S)} (h : HsOk X C hds l hs) {sub : Str → Str → Option Bool} (hsub : SubOk X.K X.mg sub) {c : Str} {s : S} (I : SAt C A0 H0 A H σ ρ s) {q : Addr} (hq : X.mg c = some (.ref q)) (g : SG C X.mg W A0 H0 (handle sub c ρ s hs) DD) : wMany X.K W DD l (.ref q) none σ H := by
  induction h with
  | nil => exact g q A H σ hq I
  | @cons x q' b0 suite np pos' hds l hs d hm hg hdb hsu r ih =>
    unfold handle at g
    cases e : sub c x with
    | none => rw [e] at g; exact g.elim
    | some b =>
      rw [e] at g
      obtain ⟨a, a', h1, h2, h3⟩ := hsub c x b e
      rw [hq] at h1
      rw [hm] at h2
      cases h1
      cases h2
      cases b with
      | true =>
        dsimp only at g
        refine ⟨true, h3, fun _ a1 _ => ⟨A0, H0, A, ρ, s, I, ?_⟩, fun z => nomatch z⟩
        cases eo : d ρ s with
        | ex c' ρ' s' => rw [eo] at g; exact g.elim
        | nx ρ' s' => rw [eo] at g; exact g
        | rt d' s' => rw [eo] at g; exact g
        | bk ρ' s' => rw [eo] at g; exact g
        | ct ρ' s' => rw [eo] at g; exact g
        | bad => rw [eo] at g; exact g
      | false => exact ⟨false, h3, (fun z => nomatch z), fun _ => ih g⟩
theorem psd_try {sub : Str → Str → Option Bool} {h0 : ExceptHandler} {hds : List ExceptHandler} {l : List (Value × (Addr → Value → Option Addr → TS))} {hs : List (Str × DS S)} (hst : X.stack = X.env :: X.outer) (hf : X.env.frame = some X.env.locals) (tk : Takes X W) (hsub : SubOk X.K X.mg sub)
    (hb : ∀ (W' : WX) (pn : List (Addr × Obj)) (xe : Value → Shared → Prop), Takes (X.tr pn xe) W' → PassesOwn (model X.prog X.w) X.A X.env xe → PBd (X.tr pn xe) C W' xs ds) (hh : HsOk X C (h0 :: hds) l hs) :
    PSd X C W (.Try xs (h0 :: hds) [] [] pos) (dTry sub ds hs) :=
  psd_of (ps_try_many (tb := fun W' => cts C X.mg W' ds) hst hf tk (fun W' pn xe t p => hb W' pn xe t p) hh.hds) fun A0 H0 A ρ st σ H DD I g => by
    refine ⟨A0, H0, A, ρ, st, I, ?_⟩
    unfold dTry at g
    cases eo : ds ρ st with
    | ex c ρ' s' =>
      rw [eo] at g
      exact fun q A' H' σ' hq J => handle_ok hh hsub J hq g
    | nx ρ' s' => rw [eo] at g; exact g
    | rt d' s' => rw [eo] at g; exact g
    | bk ρ' s' => rw [eo] at g; exact g
    | ct ρ' s' => rw [eo] at g; exact g
    | bad => rw [eo] at g; exact g

/-! ### a def by its body -/
/-- the function of a body -/
def mOf (N : Nat) (ds : DS S) : List D → S → R S D := fun args s => match ds (args.map (fun d => some (.val d)) ++ List.replicate (N - args.length) none) s with
  | .rt d s' => .ok d s'
  | .nx _ s' => .ok .non s'
  | .ex c _ s' => .ex c s'
  | _ => .bad
variable {PC : Deck S → Prop}
theorem start_sat {N : List Str} {vs : List V} {args : List D} {s : S} (V0 : VAt C A H s) (t : Dats C H A vs args) : SAt C A H A H (L2.start N vs) (args.map (fun d => some (.val d)) ++ List.replicate (N.length - args.length) none) s where
  len := by simp [L2.start, t.len]
  sl := fun i x e => by
    by_cases hi : i < args.length
    · rw [List.getElem?_append_left (by simpa using hi), List.getElem?_map] at e
      cases h : args[i]? with
      | none => rw [h] at e; cases e
      | some d =>
        rw [h] at e
        cases e
        obtain ⟨v, h1, h2⟩ := t.get h
        refine ⟨v, ?_, h2⟩
        unfold L2.start
        rw [List.getElem?_append_left (by simpa [t.len] using hi), List.getElem?_map, h1]
        rfl
    · rw [List.getElem?_append_right (by simpa using hi), List.getElem?_replicate] at e
      split at e <;> cases e
  apart := fun i j ds es n e1 e2 => by
    exfalso
    by_cases hi : i < args.length
    · rw [List.getElem?_append_left (by simpa using hi), List.getElem?_map] at e1
      cases h : args[i]? <;> rw [h] at e1 <;> cases e1
    · rw [List.getElem?_append_right (by simpa using hi), List.getElem?_replicate] at e1
      split at e1 <;> cases e1
  fresh := V0.fresh
  sub := fun _ z => z
  lim := fun _ z => .inl z
  dom := V0.dom
  keep := Keep.refl
  at_ := V0.at_
/-- the context of a body -/
structure BX (X : Cx) (W : WX) (j : Nat) : Prop where
  calm : X.calm = true
  tk : Takes X W
  po : PassesOwn (model X.prog X.w) X.A X.env X.xe
  room : Room j X.A
theorem fn_mk0 {P : Program} {w : World} {K : PySem.W.Frag} {mg : Str → Option Value} {base : Heap} {x : Str} {stm : Stmt} {f : Addr} {fd : FuncData} {N ps : List Str} {k : Nat} {ds : DS S} (F : Fun K x x stm f fd) (hg : mg x = some (.ref f)) (hk : PySem.W.keepIn K (.ref f) = true) (hb : Binds K fd ps []) (sc : FnScope N ps (defScope stm))
    (body : ∀ (cdv : Value) (A : Around) (outer : List PySem.Env) (s : Shared) (H : Hp) (E : XK) (C : Deck S), PC C → Room k (A.deeper (envOfC x (defScope stm) s.heap.objs.size f cdv)) → PBd (cxOf (L2.CX P w) P w K mg base N x (defScope stm) f cdv A outer s H E) C (fun cls d _ H => E cls d H) (defBody stm) ds) :
    Fn P w K mg base PC x (k + 1) ps.length (mOf N.length ds) := by
  refine ⟨f, fd, ps, F.okX sc (fun vs H Q E h => ?_) (fun cdv A outer s H vs Q E hr h => ?_), hg, hk, hb⟩
  · obtain ⟨C, A, s, args, pc, V0, t, hl, g⟩ := h
    rw [t.len, hl]
  · obtain ⟨C, A1, s1, args, pc, V0, t, hl, g⟩ := h
    refine ⟨_, body cdv A outer s H E C pc hr, A1, H, A1, _, s1, start_sat V0 t, ?_⟩
    unfold mOf at g
    generalize ho : ds (args.map (fun d => some (.val d)) ++ List.replicate (N.length - args.length) none) s1 = o at g
    cases o with
    | rt d s' => exact fun H' v k a h => g H' v k a h
    | nx ρ s' => exact fun A' H' σ J => g H' .non J.keep J.at_ .non
    | ex c ρ s' => exact fun q A' H' σ m J => g q H' m J.keep J.at_
    | bk ρ s' => exact g.elim
    | ct ρ s' => exact g.elim
    | bad => exact g.elim
end
end Mir

set_option Elab.async false
set_option linter.all false
set_option maxRecDepth 100000
set_option maxHeartbeats 2000000
namespace Mir
open PySem PySem.Spec L2
open PyProof.Rows hiding St

section
variable {S : Type} {C : Deck S} {X : Cx} {W : WX} {A0 A A' : Addr → Prop} {H0 H H' B : Hp} {σ : St} {ρ : En} {st st' : S}
variable {e a b c tg iter elt : Expr} {es rest ifs : List Expr} {pos p p2 : Pos} {sc sc' sa sb vs : List Nat} {de da db dc : DE S} {dt dt' du : DT S} {dl di dj dk : DA S} {ds ds' : DS S} {mg : Str → Option Value} {DD : Ends} {xs ys : List Stmt} {dv dw : E1 S Sl}
/-! ### a module's constants -/
theorem pd_gint {x : Str} {i : Int} (h : ∃ t, X.mg x = some (.int i t)) (hg : Gl X x := by rfl) (hdb : (x == ("__debug__" : Str)) = false := by decide) : PD X C W (.Name x pos) [] (dC (.int i)) := by
  obtain ⟨t, h⟩ := h
  exact pd_glob (v := .int i) h ⟨t, rfl⟩ (fun H A => .int i) hg hdb
theorem pd_gstr {x y : Str} {l : List Nat} (h : ∃ t, X.mg x = some (.str y t)) (hy : y = mkS l) (hl : SOk l) (hg : Gl X x := by rfl) (hdb : (x == ("__debug__" : Str)) = false := by decide) : PD X C W (.Name x pos) [] (dC (.str l)) := by
  obtain ⟨t, h⟩ := h
  subst hy
  exact pd_glob (v := .str _) h ⟨t, rfl⟩ (fun H A => .str hl) hg hdb

/-! ### in -/
theorem flat_of {v : V} {d : D} (h : Dat C H A v d) (f : flatD d = true) : flatV v = true := by
  cases h <;> simp only [flatD] at f <;> first | rfl | cases f
theorem eqV_of {v w : V} {d d' : D} (h : Dat C H A v d) (h' : Dat C H A w d') (f : flatD d = true) (f' : flatD d' = true) : eqV v w = eqD d d' := by
  cases h <;> simp only [flatD] at f <;> first | cases f | skip
  all_goals cases h' <;> simp only [flatD] at f' <;> first | (cases f'; done) | skip
  all_goals first
    | (simp only [eqV, eqD]; done)
    | (simp only [eqV, eqD, mkS_eq]; done)
    | rfl
theorem flats_of {vs : List V} {ds : List D} (t : Dats C H A vs ds) (f : ds.all flatD = true) : vs.all flatV = true := by
  rw [List.all_eq_true] at f ⊢
  intro v hv
  obtain ⟨i, hi⟩ := List.mem_iff_getElem?.mp hv
  have hl : i < ds.length := by rw [← t.len]; exact (List.getElem?_eq_some_iff.mp hi).1
  exact flat_of (t.at_ i v _ hi (List.getElem?_eq_getElem hl)) (f _ (List.getElem_mem hl))
theorem inV_of {v : V} {d : D} (h : Dat C H A v d) (f : flatD d = true) : ∀ {vs : List V} {ds : List D}, Dats C H A vs ds → ds.all flatD = true → inV v vs = ds.any fun y => eqD y d
  | vs, [], t, _ => by rw [t.unnil]; rfl
  | vs, e :: ds, t, g => by
    obtain ⟨x, r, rfl, h1, h2⟩ := t.uncons
    simp only [List.all_cons, Bool.and_eq_true] at g
    show (eqV x v || inV v r) = _
    rw [eqV_of h1 h g.1 f, inV_of h f h2 g.2]; rfl
def rInS (neg : Bool) : R2 := fun x y H Q => ∃ (c : Nat) (z : Str), x = .str ⟨#[c]⟩ ∧ y = .str z ∧ Q (.bl (if neg then !decide (c ∈ z.cps.toList) else decide (c ∈ z.cps.toList))) H
theorem op_inS : OpR X (compareOp .In) (rInS false) := op_in_sign
theorem op_notInS : OpR X (compareOp .NotIn) (rInS true) := op_notIn_sign
theorem oc_in {K : PySem.W.Frag} (neg : Bool) : OpD C (fun x y H Q => rInS neg x y H Q ∨ rIn K neg x y H Q) (inF neg) := by
  intro A s H x y dx dy d Q I h1 h2 e q
  cases dy with
  | str z =>
    cases dx <;> simp only [inF] at e <;> try cases e
    rename_i l
    match l, e with
    | [c], e =>
      simp only [inF] at e
      cases e
      cases h1
      cases h2 with
      | str o =>
        refine .inl ⟨c, _, rfl, rfl, ?_⟩
        refine q H _ Keep.refl I.at_ ?_
        have e : decide (c ∈ (mkS z).cps.toList) = z.contains c := by
          rw [show (mkS z).cps.toList = z from by simp]
          rw [Bool.eq_iff_iff]; simp
        rw [e]
        exact .bl _
    | [], e => simp [inF] at e
    | _ :: _ :: _, e => simp [inF] at e
  | tup ys =>
    have e' : (if flatD dx && ys.all flatD then some (D.bl (if neg then !ys.any (fun y => eqD y dx) else ys.any fun y => eqD y dx)) else none) = some d := by
      cases dx <;> first | exact e | (rename_i l; match l, e with | [], e => exact e | [c], e => exact e | _ :: _ :: _, e => exact e)
    by_cases z : (flatD dx && ys.all flatD) = true
    · rw [if_pos z] at e'
      simp only [Bool.and_eq_true] at z
      cases e'
      obtain ⟨p, vs, rfl, n, r, t⟩ := h2.of_tup
      refine .inr ⟨p, vs, rfl, .inr (.of r), flat_of h1 z.1, flats_of t z.2, ?_⟩
      rw [inV_of h1 z.1 t z.2]
      exact q H _ Keep.refl I.at_ (.bl _)
    · rw [if_neg z] at e'; cases e'
  | lst ys =>
    have e' : (if flatD dx && ys.all flatD then some (D.bl (if neg then !ys.any (fun y => eqD y dx) else ys.any fun y => eqD y dx)) else none) = some d := by
      cases dx <;> first | exact e | (rename_i l; match l, e with | [], e => exact e | [c], e => exact e | _ :: _ :: _, e => exact e)
    by_cases z : (flatD dx && ys.all flatD) = true
    · rw [if_pos z] at e'
      simp only [Bool.and_eq_true] at z
      cases e'
      obtain ⟨p, vs, rfl, n, r, t⟩ := h2.of_lst
      refine .inr ⟨p, vs, rfl, .inl (.of r), flat_of h1 z.1, flats_of t z.2, ?_⟩
      rw [inV_of h1 z.1 t z.2]
      exact q H _ Keep.refl I.at_ (.bl _)
    · rw [if_neg z] at e'; cases e'
  | non => cases dx <;> first | cases e | (rename_i l; match l, e with | [], e => cases e | [c], e => cases e | _ :: _ :: _, e => cases e)
  | bl _ => cases dx <;> first | cases e | (rename_i l; match l, e with | [], e => cases e | [c], e => cases e | _ :: _ :: _, e => cases e)
  | int _ => cases dx <;> first | cases e | (rename_i l; match l, e with | [], e => cases e | [c], e => cases e | _ :: _ :: _, e => cases e)
  | dic _ _ => cases dx <;> first | cases e | (rename_i l; match l, e with | [], e => cases e | [c], e => cases e | _ :: _ :: _, e => cases e)
  | deck => cases dx <;> first | cases e | (rename_i l; match l, e with | [], e => cases e | [c], e => cases e | _ :: _ :: _, e => cases e)
  | ext _ => cases dx <;> first | cases e | (rename_i l; match l, e with | [], e => cases e | [c], e => cases e | _ :: _ :: _, e => cases e)
theorem k_in : CmpOk X C .In (fun x y H Q => rInS false x y H Q ∨ rIn X.K false x y H Q) (inF false) := ⟨op_inS.or op_in_seq, oc_in false⟩
theorem k_notin : CmpOk X C .NotIn (fun x y H Q => rInS true x y H Q ∨ rIn X.K true x y H Q) (inF true) := ⟨op_notInS.or op_notIn_seq, oc_in true⟩

/-! ### calls with keywords -/
def pick {α : Type} (is : List Nat) (l : List α) : List α := is.filterMap fun i => l[i]?
theorem Vals.append' {xs ys : List V} {us ws : List Value} (r : Vals xs us) (q : Vals ys ws) : Vals (xs ++ ys) (us ++ ws) := r.append q
theorem pick_vals {xs : List V} {us : List Value} (r : Vals xs us) : ∀ is : List Nat, Vals (pick is xs) (pick is us)
  | [] => .nil
  | i :: is => by
    unfold pick
    rw [List.filterMap_cons, List.filterMap_cons]
    cases h : xs[i]? with
    | none => rw [r.none_of h]; exact pick_vals r is
    | some x =>
      obtain ⟨u, hu, ru⟩ := r.get h
      rw [hu]
      exact .cons ru (pick_vals r is)
theorem pick_dats {xs : List V} {es : List D} (t : Dats C H A xs es) : ∀ is : List Nat, Dats C H A (pick is xs) (pick is es)
  | [] => .nil
  | i :: is => by
    unfold pick
    rw [List.filterMap_cons, List.filterMap_cons]
    cases h : es[i]? with
    | none =>
      have : xs[i]? = none := by rw [List.getElem?_eq_none_iff] at h ⊢; rw [t.len]; exact h
      rw [this]; exact pick_dats t is
    | some d =>
      obtain ⟨x, hx, hd⟩ := t.get h
      rw [hx]
      exact .cons hd (pick_dats t is)
theorem pick_len {α : Type} {l : List α} : ∀ {is : List Nat}, (∀ i ∈ is, i < l.length) → (pick is l).length = is.length
  | [], _ => rfl
  | i :: is, h => by
    unfold pick
    rw [List.filterMap_cons, List.getElem?_eq_getElem (h i (by simp))]
    simp only [List.length_cons]
    have := pick_len (l := l) (is := is) fun j hj => h j (List.mem_cons_of_mem _ hj)
    unfold pick at this
    rw [this]
variable {PC : Deck S → Prop}
/-- a def that is called with a values by place and the keywords ks; is: where the parameters' values stand among them -/
structure Fk (P : Program) (w : World) (K : PySem.W.Frag) (mg : Str → Option Value) (base : Heap) (PC : Deck S → Prop) (x : Str) (k n : Nat) (m : List D → S → R S D) (a : Nat) (ks : List Str) (is : List Nat) : Prop where
  ex : ∃ (f : Addr) (fd : FuncData) (ps : List Str), FnOk P w K mg base (L2.CX P w) k f fd ps (spOf mg PC n m) ∧ mg x = some (.ref f) ∧ PySem.W.keepIn K (.ref f) = true ∧
    KBn K fd ps a ks (fun us ws => pick is (us ++ ws)) (fun vs zs => pick is (vs ++ zs))
def PKd (X : Cx) (C : Deck S) (W : WX) (kws : List Keyword) (sc : List Nat) (da : DA S) : Prop := PK X kws (cta C X.mg W sc da)
theorem pk_imp {kws : List Keyword} {t t' : TA} (h : PK X kws t) (i : ∀ σ H Q, t' σ H Q → t σ H Q) : PK X kws t' := ⟨fun pos pins s σ H Q I q => h.run pos pins s σ H Q I (i σ H Q q)⟩
theorem pkd_nil : PKd X C W [] [] (dNil : DA S) := pk_imp pk_nil fun σ H Q ⟨A0, H0, A, ρ, st, I, g⟩ => g.done I.at_ [] Dats.nil
theorem pkd_cons {nm : Option Str} {kpos : Pos} {kws : List Keyword} (h : PD X C W e sa de) (t : PKd X C W kws sb dl) : PKd X C W (⟨nm, e, kpos⟩ :: kws) (sa ++ sb) (dCons de dl) :=
  pk_imp (pk_cons h t) fun σ H Q ⟨A0, H0, A, ρ, st, I, g⟩ =>
    ⟨A0, H0, A, ρ, st, I, g.bind.imp fun d s1 H1 k1 t1 g1 v dv => by
      have I1 := I.next k1 t1
      refine ⟨A0, H0, A, ρ, s1, I1, g1.bind.imp fun ds s2 H2 k2 t2 g2 vs dvs => ?_⟩
      exact g2.done t2 (v :: vs) (.cons ((dv.keep k2 (I1.dom0 sa)).less fun _ => Amin.more fun i hi => List.mem_append_left _ hi) (dvs.less fun _ => Amin.more fun i hi => List.mem_append_right _ hi))⟩
def dCallK (m : List D → S → R S D) (is : List Nat) (dl dk : DA S) : DE S := fun ρ s => (dl ρ s).bind fun ds s1 => (dk ρ s1).bind fun es s2 => m (pick is (ds ++ es)) s2
def tCallKS (n m : Nat) (sp : Sp) (gV : List V → List V → List V) (E : St → XK) (t tk : TA) : TE := fun σ H Q => t σ H fun vs H1 => tk σ H1 fun zs H2 => vs.length = n ∧ zs.length = m ∧ sp (gV vs zs) H2 Q (E σ)
theorem run_fnKS {CX : CXT} {k n : Nat} {f : Addr} {fd : FuncData} {ps ks : List Str} {sp : Sp} {E : St → XK} {g : List Value → List Value → List Value} {gV : List V → List V → List V} {pins : List (Addr × Obj)} {s : Shared} {Q : VK} {us ws : List Value} {vs zs : List V} (F : FnOk X.prog X.w X.K X.mg X.base CX k f fd ps sp) (hr : Room k X.A) (hb : KBn X.K fd ps n ks g gV) (hx : PassesAt CX X σ (E σ))
    (I : Inv X pins σ H s) (r : Vals vs us) (rz : Vals zs ws) (l1 : vs.length = n) (l2 : zs.length = ks.length) (h : sp (gV vs zs) H Q (E σ)) : wpAny (model X.prog X.w) X.A (call (.ref f) us (ks.zip ws)) (EP X pins σ Q) X.xe s := by
  have r2 := hb.rel r rz
  refine wpAny_call (codeAny_mono (F.run X.A X.stack s H ⟨us, ks.zip ws⟩ (g us ws) (gV vs zs) Q (E σ) hr I.env0 (hb.to s us ws I.kIn (r.length.symm.trans l1) (rz.length.symm.trans l2)) r2 h) fun r s' hq => ?_)
  cases r with
  | error e => exact hx pins H s e s' I hq
  | ok fl =>
    cases fl with
    | ret u => exact I.after hq
    | next => exact False.elim hq
    | brk => exact False.elim hq
    | cont => exact False.elim hq
theorem callK_fin {a n : Nat} {ks : List Str} {is : List Nat} {m : List D → S → R S D} (I : SAt C A0 H0 A H σ ρ st) (pc : PC C) {Q : VK} {vs zs : List V} {ds es : List D} (l1 : ds.length = a) (l2 : es.length = ks.length) (hn : is.length = n) (hi : ∀ i ∈ is, i < a + ks.length)
    (dvs : Dats C H (Amin A σ ρ sc) vs ds) (dzs : Dats C H (Amin A σ ρ sc) zs es) (g : RG C X.mg W σ H (m (pick is (ds ++ es)) st) fun d _ H' => ∀ v, Dat C H' (Amin A σ ρ sc) v d → Q v H') :
    vs.length = a ∧ zs.length = ks.length ∧ spOf X.mg PC n m (pick is (vs ++ zs)) H Q (WE W σ) :=
  ⟨by rw [dvs.len, l1], by rw [dzs.len, l2], call_d I pc (by rw [pick_len fun i h => by rw [List.length_append, l1, l2]; exact hi i h, hn]) (pick_dats (dvs.append dzs) is) g⟩
/-- f(e, .., k = v, ..) -/
theorem pd_callk {x : Str} {k j n a0 : Nat} {m : List D → S → R S D} {ks : List Str} {is : List Nat} {kws : List Keyword} (F : Fk X.prog X.w X.K X.mg X.base PC x k n m a0 ks is) (pc : PC C) (hr : Room j X.A) (hk : k ≤ j) (tk : Takes X W) (ha : PAd X C W (e :: es) sa dl) (hkw : PKd X C W kws sb dk) (ld : dLen a0 dl) (lk : dLen ks.length dk) (hn : is.length = n := by rfl) (hi : ∀ i ∈ is, i < a0 + ks.length := by decide) (hg : Gl X x := by rfl) (hdb : (x == ("__debug__" : Str)) = false := by decide)
    (hall : (backToKw pos (keywordEach kws X.env)).all (·.1.isSome) = true := by rfl) (hks : (backToKw pos (keywordEach kws X.env)).filterMap (·.1) = ks := by rfl)
    (he : starEach (e :: es) X.env = (false, eval e X.env) :: starEach es X.env := by rfl)
    (hpl : ((backTo pos (starEach (e :: es) X.env)).any (·.1) || (backToKw pos (keywordEach kws X.env)).any (·.1.isNone)) = false := by rfl) : PD X C W (.Call (.Name x p) (e :: es) kws pos) (sa ++ sb) (dCallK m is dl dk) := by
  obtain ⟨f, fd, ps, F, hm, hkp, hb⟩ := F.ex
  refine ⟨fun pins s σ H Q I ⟨A0, H0, A, ρ, st, J, g⟩ => ?_⟩
  refine wpAny_Call_Name_kw (ld_glob I hg hm ?_ hdb)
  have ld' := ld ρ st
  have key : cta C X.mg W sa dl σ H fun vs H1 => cta C X.mg W sb dk σ H1 fun zs H2 => vs.length = a0 ∧ zs.length = ks.length ∧ spOf X.mg PC n m (pick is (vs ++ zs)) H2 Q (WE W σ) := by
    refine ⟨A0, H0, A, ρ, st, J, ?_⟩
    unfold dCallK at g
    cases e1 : dl ρ st with
    | bad => rw [e1] at g; exact g
    | ex c s1 => rw [e1] at g; exact g
    | ok ds s1 =>
      rw [e1] at g
      simp only [R.bind_ok] at g
      intro H1 k1 t1 vs dvs
      have J1 := J.next k1 t1
      have g1 := g.move k1
      refine ⟨A0, H0, A, ρ, s1, J1, ?_⟩
      have lk' := lk ρ s1
      cases e2 : dk ρ s1 with
      | bad => rw [e2] at g1; exact g1
      | ex c s1 => rw [e2] at g1; exact g1
      | ok es2 s2 =>
        rw [e2] at g1
        simp only [R.bind_ok] at g1
        intro H2 k2 t2 zs dzs
        exact callK_fin (J1.next k2 t2) pc (ld' _ _ e1) (lk' _ _ e2) hn hi ((dvs.keep k2 (J1.dom0 sa)).less fun _ => Amin.more fun i hi => List.mem_append_left _ hi) (dzs.less fun _ => Amin.more fun i hi => List.mem_append_right _ hi) (g1.move k2)
  refine PySem.W.callWith_KW (h₀ := X.base) I.ok.mod.kin hkp hall (thn (ha.run pos pins s σ H _ I key) fun us s1 ⟨vs, H1, I1, r, q⟩ => ?_) hpl he
  refine thn (hkw.run pos pins s1 σ H1 _ I1 q) fun ws s2 ⟨zs, H2, I2, rz, l1, l2, q2⟩ => ⟨I2.kIn, ?_⟩
  rw [hks]
  exact run_fnKS (E := WE W) F (hr.mono hk) hb (passAt tk σ) I2 r rz l1 l2 q2
/-- f(k = v, ..) -/
theorem pd_callk0 {x : Str} {k j n : Nat} {m : List D → S → R S D} {ks : List Str} {is : List Nat} {kws : List Keyword} (F : Fk X.prog X.w X.K X.mg X.base PC x k n m 0 ks is) (pc : PC C) (hr : Room j X.A) (hk : k ≤ j) (tk : Takes X W) (hkw : PKd X C W kws sb dk) (lk : dLen ks.length dk) (hn : is.length = n := by rfl) (hi : ∀ i ∈ is, i < 0 + ks.length := by decide) (hg : Gl X x := by rfl) (hdb : (x == ("__debug__" : Str)) = false := by decide)
    (hall : (backToKw pos (keywordEach kws X.env)).all (·.1.isSome) = true := by rfl) (hks : (backToKw pos (keywordEach kws X.env)).filterMap (·.1) = ks := by rfl)
    (hpl : ((backTo pos (starEach [] X.env)).any (·.1) || (backToKw pos (keywordEach kws X.env)).any (·.1.isNone)) = false := by rfl) : PD X C W (.Call (.Name x p) [] kws pos) sb (dCallK m is dNil dk) := by
  obtain ⟨f, fd, ps, F, hm, hkp, hb⟩ := F.ex
  refine ⟨fun pins s σ H Q I ⟨A0, H0, A, ρ, st, J, g⟩ => ?_⟩
  refine wpAny_Call_Name_kw (ld_glob I hg hm ?_ hdb)
  have key : cta C X.mg W sb dk σ H fun zs H2 => ([] : List V).length = 0 ∧ zs.length = ks.length ∧ spOf X.mg PC n m (pick is ([] ++ zs)) H2 Q (WE W σ) := by
    refine ⟨A0, H0, A, ρ, st, J, ?_⟩
    have g1 : RG C X.mg W σ H ((dk ρ st).bind fun es s2 => m (pick is ([] ++ es)) s2) _ := g
    have lk' := lk ρ st
    cases e2 : dk ρ st with
    | bad => rw [e2] at g1; exact g1
    | ex c s1 => rw [e2] at g1; exact g1
    | ok es2 s2 =>
      rw [e2] at g1
      simp only [R.bind_ok] at g1
      intro H2 k2 t2 zs dzs
      exact callK_fin (J.next k2 t2) pc rfl (lk' _ _ e2) hn hi Dats.nil dzs (g1.move k2)
  refine PySem.W.callWith_KW0 (h₀ := X.base) I.ok.mod.kin hkp hall (thn (hkw.run pos pins s σ H _ I key) fun ws s2 ⟨zs, H2, I2, rz, l1, l2, q2⟩ => ⟨I2.kIn, ?_⟩) hpl
  rw [hks]
  exact run_fnKS (E := WE W) (us := []) (vs := []) F (hr.mono hk) hb (passAt tk σ) I2 .nil rz l1 l2 q2
end
end Mir

set_option Elab.async false
set_option linter.all false
set_option maxRecDepth 100000
set_option maxHeartbeats 2000000
namespace Mir
open PySem PySem.Spec L2
open PyProof.Rows hiding St

/-! ### the deck: [cells, digits, mixed] -/
structure DeckSt where
  cells : List Int
  dig : Int
  mix : Int
structure DeckSt.Ok (d : DeckSt) : Prop where
  len : d.cells.length ≤ 63
  cl : ∀ x ∈ d.cells, 0 ≤ x ∧ x < 10 ^ 60
  d0 : 0 ≤ d.dig
  d1 : d.dig < 10 ^ 60
  m0 : 0 ≤ d.mix
  m1 : d.mix < 2147483647
def pull (d : DeckSt) : DeckSt := if d.dig < 10 ^ 6 then (match d.cells with
    | [] => d
    | c :: r => if 10 ^ 18 ≤ c then { d with cells := r, dig := c } else { d with cells := r, mix := (d.mix * 69621 + c % 2147483563 * 40014 + 3) % 2147483563 }) else d
def pickF (d : DeckSt) (n : Int) : Int × DeckSt :=
  if 10 ^ 6 ≤ (pull d).dig then ((pull d).dig % n, { pull d with dig := (pull d).dig / n })
  else (((pull d).mix * 48271 + 11) % 2147483647 / 53 % n, { pull d with mix := ((pull d).mix * 48271 + 11) % 2147483647 })
theorem pickF_range (d : DeckSt) {n : Int} (h : 0 < n) : 0 ≤ (pickF d n).1 ∧ (pickF d n).1 < n := by
  unfold pickF
  split
  · exact ⟨Int.emod_nonneg _ (by omega), Int.emod_lt_of_pos _ h⟩
  · exact ⟨Int.emod_nonneg _ (by omega), Int.emod_lt_of_pos _ h⟩
theorem pull_ok {d : DeckSt} (h : d.Ok) : (pull d).Ok := by
  unfold pull
  split
  · split
    · exact h
    · rename_i c r e
      have hl : r.length ≤ 63 := by have := h.len; rw [e] at this; simp at this; omega
      have hc : ∀ x ∈ r, 0 ≤ x ∧ x < 10 ^ 60 := fun x hx => h.cl x (by rw [e]; exact List.mem_cons_of_mem _ hx)
      have h0 := h.cl c (by rw [e]; exact List.mem_cons_self)
      split
      · exact ⟨hl, hc, h0.1, h0.2, h.m0, h.m1⟩
      · refine ⟨hl, hc, h.d0, h.d1, Int.emod_nonneg _ (by omega), ?_⟩
        have := Int.emod_lt_of_pos (d.mix * 69621 + c % 2147483563 * 40014 + 3) (b := 2147483563) (by omega)
        show _ % 2147483563 < 2147483647
        omega
  · exact h
theorem pickF_ok {d : DeckSt} (h : d.Ok) {n : Int} (hn : 0 < n) : (pickF d n).2.Ok := by
  have p := pull_ok h
  unfold pickF
  split
  · refine ⟨p.len, p.cl, ?_, ?_, p.m0, p.m1⟩
    · exact Int.ediv_nonneg p.d0 (by omega)
    · exact Int.lt_of_le_of_lt (Int.ediv_le_self _ p.d0) p.d1
  · refine ⟨p.len, p.cl, p.d0, p.d1, Int.emod_nonneg _ (by omega), ?_⟩
    exact Int.emod_lt_of_pos _ (by omega)
/-- where the deck stands; the script: a list of n items -/
def mkDeck (K : PySem.W.Frag) (a0 c0 as : Addr) (ns : List Int) (fl : Bool) : Deck DeckSt where
  val := .ref a0
  dom := fun a => a = a0 ∨ a = c0
  At := fun d H => d.Ok ∧ a0 ≠ c0 ∧ H a0 = some (.lst [.ref c0, .int d.dig, .int d.mix]) ∧ H c0 = some (.lst (d.cells.map V.int))
  stab := fun d H H' h k => ⟨h.1, h.2.1, by rw [k a0 (.inl rfl)]; exact h.2.2.1, by rw [k c0 (.inr rfl)]; exact h.2.2.2⟩
  there := fun d H a h ha => by
    rcases ha with rfl | rfl
    · rw [h.2.2.1]; exact fun z => nomatch z
    · rw [h.2.2.2]; exact fun z => nomatch z
  sa := fun a => fl = true ∧ a = as
  ext := fun H v n => v = .ref as ∧ n = ns.length ∧ if fl = true then Rd H as (.lst (ns.map V.int)) else
    ∃ (o : Obj) (its : Array Value) (n : Nat), K.lookup as = some o ∧ o.cls = .type "list" ∧ o.dict = none ∧ o.data = .seq its n ∧ its.size ≤ sizeLine ∧ Vals (ns.map V.int) its.toList
  ext_st := fun H H' v n h k => by
    obtain ⟨h1, h2, h3⟩ := h
    refine ⟨h1, h2, ?_⟩
    by_cases z : fl = true
    · rw [if_pos z] at h3 ⊢
      unfold Rd
      rw [k as ⟨z, rfl⟩]
      exact h3
    · rw [if_neg z] at h3 ⊢
      exact h3
def PCk (K : PySem.W.Frag) (C : Deck DeckSt) : Prop := ∃ a0 c0 as ns fl, C = mkDeck K a0 c0 as ns fl
theorem ext_sq {K : PySem.W.Frag} {C : Deck DeckSt} (pc : PCk K C) {H : Hp} {v : V} {n : Nat} (h : C.ext H v n) : ∃ a xs, v = .ref a ∧ SqL K H a xs ∧ xs.length = n := by
  obtain ⟨a0, c0, as, ns, fl, rfl⟩ := pc
  obtain ⟨h1, h2, h3⟩ := h
  refine ⟨as, ns.map V.int, h1, ?_, by rw [List.length_map, h2]⟩
  by_cases z : fl = true
  · rw [if_pos z] at h3; exact .inl h3
  · rw [if_neg z] at h3; exact .inr h3
section
variable {C : Deck DeckSt} {X : Cx} {W : WX} {A0 A A' : Addr → Prop} {H0 H H' B : Hp} {σ : St} {ρ : En}
/-- len(script) -/
def lenX : List D → Option D
  | [.ext n] => some (.int n)
  | _ => none
theorem cd_lenX {K : PySem.W.Frag} (pc : PCk K C) : CallD C (fun xs H Q => ∃ x n, xs = [x] ∧ LenV K x H n ∧ Q (.int n) H) lenX := by
  intro A s H xs ds d Q I h e q
  match ds, e with
  | [.ext n], e =>
    cases e
    obtain ⟨x, rfl, hx⟩ := h.one
    cases hx with
    | ext h1 h2 =>
      obtain ⟨a, xs, rfl, h3, h4⟩ := ext_sq pc h2
      exact ⟨_, n, rfl, .inl ⟨xs, h3, h4.symm⟩, q H _ Keep.refl I.at_ (.int _)⟩
theorem pd_lenX {e : Expr} {sc : List Nat} {dl : DA DeckSt} {p pos : Pos} (pc : PCk X.K C) (hm : X.mg "len" = none) (ha : PAd X C W [e] sc dl) (hg : Gl X "len" := by rfl) (he : starEach [e] X.env = (false, eval e X.env) :: starEach [] X.env := by rfl) (hpl : (backTo pos (starEach [] X.env)).any (·.1) = false := by rfl) : PD X C W (.Call (.Name "len" p) [e] [] pos) sc (dCallB lenX dl) :=
  pd_callB call_len (cd_lenX pc) hm ha PySem.boot_len hg (by decide) (by decide) he hpl
/-- the deck's draw, as a def's function -/
def mPick : List D → DeckSt → R DeckSt D
  | [.deck, .int n], s => if 0 < n ∧ n < 1073741824 then .ok (.int (pickF s n).1) (pickF s n).2 else .bad
  | _, _ => .bad
/-- what the draw is asked: the deck at a0, its cells at c0 -/
def spPick : Sp := fun vs H Q _ => ∃ (a0 c0 : Addr) (d : DeckSt) (n : Int), vs = [.ref a0, .int n] ∧ d.Ok ∧ a0 ≠ c0 ∧ H a0 = some (.lst [.ref c0, .int d.dig, .int d.mix]) ∧ H c0 = some (.lst (d.cells.map V.int)) ∧ 0 < n ∧ n < 1073741824 ∧
  ∀ H', (∀ a, a ≠ a0 → a ≠ c0 → ∀ o, H a = some o → H' a = some o) → H' a0 = some (.lst [.ref c0, .int (pickF d n).2.dig, .int (pickF d n).2.mix]) → H' c0 = some (.lst ((pickF d n).2.cells.map V.int)) → Q (.int (pickF d n).1) H'
theorem pick_sp {K : PySem.W.Frag} {mg : Str → Option Value} {vs : List V} {H : Hp} {Q : VK} {E : XK} (h : spOf mg (PCk K) 2 mPick vs H Q E) : spPick vs H Q E := by
  obtain ⟨C, A, s, ds, pc, V0, t, hl, g⟩ := h
  obtain ⟨a0, c0, as, ns, fl, rfl⟩ := pc
  match ds, g with
  | [.deck, .int n], g =>
    simp only [mPick] at g
    by_cases z : 0 < n ∧ n < 1073741824
    · rw [if_pos z] at g
      obtain ⟨x, y, rfl, hx, hy⟩ := t.two
      cases hx
      cases hy
      obtain ⟨o1, o2, o3, o4⟩ := V0.at_
      exact ⟨a0, c0, s, n, rfl, o1, o2, o3, o4, z.1, z.2, fun H' k h1 h2 => g H' _ (fun a o n e => k a (fun z => n (.inl z)) (fun z => n (.inr z)) o e) ⟨pickF_ok o1 z.1, o2, h1, h2⟩ (.int _)⟩
    · rw [if_neg z] at g; exact g.elim
def spDeck (K : PySem.W.Frag) : Sp := fun vs H Q _ => ∃ (a : Addr) (ns : List Int), vs = [.ref a] ∧ SqL K H a (ns.map V.int) ∧ ns.length ≤ 63 ∧
  ∀ H' c0 a0 d, (∀ a o, H a = some o → H' a = some o) → H c0 = none → H a0 = none → a0 ≠ c0 → DeckSt.Ok d → H' a0 = some (.lst [.ref c0, .int d.dig, .int d.mix]) → H' c0 = some (.lst (d.cells.map V.int)) → Q (.ref a0) H'

theorem if_true_of {c : Bool} {A B : Prop} (hc : c = true) (h : A) : if c = true then A else B := by
  rw [if_pos hc]
  exact h
theorem if_false_of {c : Bool} {A B : Prop} (hc : c = false) (h : B) : if c = true then A else B := by
  rw [hc, if_neg Bool.false_ne_true]
  exact h
/-- the draw as a def on data -/
theorem fn_pick {P : Program} {w : World} {K : PySem.W.Frag} {mg : Str → Option Value} {base : Heap} {f : Addr} {fd : FuncData} {x : Str} {ps : List Str} (F : FnOk P w K mg base (L2.CX P w) 1 f fd ps spPick) (hg : mg x = some (.ref f)) (hk : PySem.W.keepIn K (.ref f) = true) (hb : Binds K fd ps []) : Fn P w K mg base (PCk K) x 1 2 mPick :=
  ⟨f, fd, ps, F.imp fun vs H Q E h => pick_sp h, hg, hk, hb⟩
def spLaw (K : PySem.W.Frag) : Sp := fun vs H Q _ => ∃ (a : Addr) (ns : List Int), vs = [.ref a] ∧ SqL K H a (ns.map V.int) ∧ ns.length ≤ 63 ∧ ∀ H', Q (.bl true) H'
def rho0 (N n : Nat) : En := some (.val (.ext n)) :: some (.val .deck) :: List.replicate (N - 2) none
theorem law_mk {P : Program} {w : World} {K : PySem.W.Frag} {mg : Str → Option Value} {base : Heap} {stm : Stmt} {f fD : Addr} {fd fdD : FuncData} {N : List Str} {k : Nat} {rest : List Stmt} {p1 p2 p3 p4 p5 : Pos} {ds : DS DeckSt}
    (F : Fun K "law" "law" stm f fd) (sc : FnScope N ["script"] (defScope stm)) (G : FnOk P w K mg base (L2.CX P w) 1 fD fdD ["script"] (spDeck K)) (mD : mg "_law_deck" = some (.ref fD)) (kD : PySem.W.keepIn K (.ref fD) = true) (bD : Binds K fdD ["script"] [])
    (hb : defBody stm = .Assign [.Name "deck" p1] (.Call (.Name "_law_deck" p2) [.Name "script" p3] [] p4) p5 :: rest) (hN : 2 ≤ N.length) (hk : 1 ≤ k)
    (first : ∀ (cdv : Value) (A : Around) (outer : List PySem.Env) (s : Shared) (H : Hp) (E : XK), Room k (A.deeper (envOfC "law" (defScope stm) s.heap.objs.size f cdv)) → ∃ t1, PS (cxOf (L2.CX P w) P w K mg base N "law" (defScope stm) f cdv A outer s H E) (.Assign [.Name "deck" p1] (.Call (.Name "_law_deck" p2) [.Name "script" p3] [] p4) p5) t1 ∧
      ∀ σ H' D, tAsg (tCallS (spDeck K) (WE fun _ _ _ _ => False) (tCons (tVar 0) tNil)) (gName 1) D σ H' → t1 D σ H')
    (hrest : ∀ (cdv : Value) (A : Around) (outer : List PySem.Env) (s : Shared) (H : Hp) (E : XK) (C : Deck DeckSt), PCk K C → Room k (A.deeper (envOfC "law" (defScope stm) s.heap.objs.size f cdv)) → PBd (cxOf (L2.CX P w) P w K mg base N "law" (defScope stm) f cdv A outer s H E) C (fun cls d _ H => E cls d H) rest ds)
    (pure : ∀ (st : DeckSt) (n : Nat), st.Ok → n ≤ 63 → ∃ s', ds (rho0 N.length n) st = .rt (.bl true) s') : FnOk P w K mg base (L2.CX P w) (k + 1) f fd ["script"] (spLaw K) := by
  refine F.okX sc (fun vs H Q E h => ?_) (fun cdv A outer s H vs Q E hr h => ?_)
  · obtain ⟨a, ns, rfl, _⟩ := h
    rfl
  · obtain ⟨a, ns, rfl, hS, hl, q⟩ := h
    obtain ⟨t1, h1, i1⟩ := first cdv A outer s H E hr
    rw [hb]
    have hR : PSs (cxOf (L2.CX P w) P w K mg base N "law" (defScope stm) f cdv A outer s H E) rest (fun D σ H' => ∃ C, PCk K C ∧ cts C mg (fun cls d _ H => E cls d H) ds D σ H') :=
      ⟨fun pins s1 σ H' D I ⟨C, pc, z⟩ => (hrest cdv A outer s H E C pc hr).run pins s1 σ H' D I z⟩
    refine ⟨_, pss_cons h1 hR, i1 _ _ _ ⟨_, rfl, a, ns, rfl, hS, hl, fun H1 c0 a0 d kp nc na ne ok g0 gc => ?_⟩⟩
    -- the script is read as before
    obtain ⟨fl, hfl⟩ : ∃ fl : Bool, if fl = true then Rd H a (.lst (ns.map V.int)) else ∃ (o : Obj) (its : Array Value) (n : Nat), K.lookup a = some o ∧ o.cls = .type "list" ∧ o.dict = none ∧ o.data = .seq its n ∧ its.size ≤ sizeLine ∧ Vals (ns.map V.int) its.toList := by
      rcases hS with z | z
      · exact ⟨true, z⟩
      · exact ⟨false, by rw [if_neg (by decide)]; exact z⟩
    have rdH : fl = true → H a ≠ none := fun z => by
      rw [if_pos z] at hfl
      rcases hfl with r | ⟨o, r⟩ <;> rw [r] <;> exact fun z => nomatch z
    refine ⟨mkDeck K a0 c0 a ns fl, ⟨a0, c0, a, ns, fl, rfl⟩, fun b => b = a0 ∨ b = c0, H1, fun b => b = a0 ∨ b = c0, rho0 N.length ns.length, d, ?_, ?_⟩
    · have es : (L2.start N [V.ref a]).set 1 (some (V.ref a0)) = some (V.ref a) :: some (V.ref a0) :: List.replicate (N.length - 2) none := by
        unfold L2.start
        have : N.length - [V.ref a].length = (N.length - 2) + 1 := by simp; omega
        rw [this, List.replicate_succ]
        rfl
      rw [es]
      refine ⟨by simp [rho0], fun i x e => ?_, fun i j ds es n e1 => ?_, fun b hb => ?_, fun _ z => z, fun _ z => .inl z, fun _ z => z, Keep.refl, ok, (Ne.symm fun z => ne z.symm), g0, gc⟩
      · match i, e with
        | 0, e =>
          cases e
          refine ⟨_, rfl, Dat.ext (fun b hb => ?_) ⟨rfl, rfl, ?_⟩⟩
          · obtain ⟨hf, rfl⟩ := hb
            have hn := rdH hf
            refine ⟨fun z => ?_, fun z => ?_⟩
            · rcases z with z | z
              · exact hn (z ▸ na)
              · exact hn (z ▸ nc)
            · cases e : H b with
              | none => exact hn e
              | some o => rw [kp b o e] at z; cases z
          · by_cases z : fl = true
            · rw [if_pos z] at hfl ⊢
              rcases hfl with r | ⟨o, r⟩
              · exact .inl (kp _ _ r)
              · exact .inr ⟨o, kp _ _ r⟩
            · rw [if_neg z] at hfl ⊢
              exact hfl
        | 1, e => cases e; exact ⟨_, rfl, Dat.deck⟩
        | i + 2, e =>
          exfalso
          have e : (List.replicate (N.length - 2) (none : Option Sl))[i]? = some (some x) := e
          rw [List.getElem?_replicate] at e
          split at e <;> cases e
      · exfalso
        match i, e1 with
        | 0, e => cases e
        | 1, e => cases e
        | i + 2, e =>
          have e : (List.replicate (N.length - 2) (none : Option Sl))[i]? = some (some (Sl.own ds)) := e
          rw [List.getElem?_replicate] at e
          split at e <;> cases e
      · rcases hb with rfl | rfl
        · rw [g0]; exact fun z => nomatch z
        · rw [gc]; exact fun z => nomatch z
    · obtain ⟨s', e⟩ := pure d ns.length ok hl
      rw [e]
      intro H2 v _ _ dv
      cases dv
      exact q H2
theorem walk_law {l : PySem.W.OpenLaw} {q : Program} {loose : List Str} {XP : (Str → Option Value) → Heap → Prop} {YP : World → Heap → Prop} {d : DefRec} {K : Params → PySem.W.Frag} (k : Nat) (hn : l.most = some 63) (hdf : d.params.defaults = []) (hr : Room k callerA)
    (hY : ∀ (w : World) (h : Heap), YP w h → (K w.params).In h)
    (F : ∀ (w : World) (mg : Str → Option Value) (fa : Addr) (h : Heap), (K w.params).In h → h.Ns mainGlobals mg → mg d.name = some (.ref fa) →
      ∃ fd : FuncData, (∀ (s : Shared) (u : Value), BindsTo s fd ⟨[u], []⟩ [("script", u)]) ∧ ∀ base : Heap, (K w.params).In base → base.Ns mainGlobals mg → FnOk l.prog w (K w.params) mg base (L2.CX l.prog w) k fa fd ["script"] (spLaw (K w.params))) :
    PySem.W.WalkO q loose XP YP l.row.toRowW d [] (fun f vs => PySem.call f vs) :=
  L2.walk_of (n := 63) (k := k) (x := "script") (CX := fun w => L2.CX l.prog w) (sp := fun w => spLaw (K w.params)) hn (by decide) hdf hr hY F (fun _ _ a ns hl _ hS => ⟨a, ns, rfl, hS, hl, fun _ => rfl⟩) fun w H s e s' z => by
    obtain ⟨_, _, _, _, _, _, _, _, _, _, _, _, z⟩ := z
    exact z.elim
end
end Mir

set_option Elab.async false
set_option linter.all false
set_option maxRecDepth 100000
set_option maxHeartbeats 2000000
namespace Mir
open PySem PySem.Spec L2
open PyProof.Rows hiding St

theorem no_gN (i : Nat) : NoOwn (gN i) := fun d ρ ρ' e j ds h => by
  cases e
  by_cases hj : j = i
  · subst hj
    have hl : j < ρ.length := by have := (List.getElem?_eq_some_iff.mp h).1; rwa [List.length_set] at this
    rw [List.getElem?_set_self hl] at h; cases h
  · rwa [List.getElem?_set_ne (Ne.symm hj)] at h
def NoOwns (g : DGs) : Prop := ∀ ds ρ ρ', g ds ρ = some ρ' → ∀ (i : Nat) es, ρ'[i]? = some (some (.own es)) → ρ[i]? = some (some (.own es))
theorem no_gsNil : NoOwns gsNil := fun ds ρ ρ' e i es h => by cases ds <;> simp only [gsNil] at e <;> cases e; exact h
theorem no_gsCons {g : DG} {gs : DGs} (h : NoOwn g) (h' : NoOwns gs) : NoOwns (gsCons g gs) := fun ds ρ ρ' e i es q => by
  cases ds with
  | nil => cases e
  | cons d r =>
    obtain ⟨ρ1, e1, e2⟩ := Option.bind_eq_some_iff.mp e
    exact h d ρ ρ1 e1 i es (h' r ρ1 ρ' e2 i es q)
theorem no_gT {gs : DGs} {n : Nat} (h : NoOwns gs) : NoOwn (gT n gs) := fun d ρ ρ' e i es q => by
  cases d <;> simp only [gT] at e <;> try cases e
  split at e
  · exact h _ _ _ e i es q
  · cases e

/-! ### errors' classes -/
theorem exm_pair {K : PySem.W.Frag} {mg : Str → Option Value} {x : Str} {a b : Addr} {r : Bool} (E : ErrOk K mg x b) (s : PySem.W.subIn K (.ref a) (.ref b) = some r) : PySem.W.exmOne K (.ref a) (.ref b) = some r := by
  have e1 : (PySem.W.subIn K (.ref b) (.type "BaseException") == some true) = true := by rw [E.b] <;> rfl
  have e2 : ((PySem.W.clsIn K b).isSome && PySem.W.typeIn K (.ref b) == some (.type "type")) = true := by
    have h2' : (PySem.W.clsIn K b).isSome = true := E.i
    rw [h2', E.t] <;> rfl
  show (if (PySem.W.subIn K (.ref b) (.type "BaseException") == some true) = true then (if ((PySem.W.clsIn K b).isSome && PySem.W.typeIn K (.ref b) == some (.type "type")) = true then PySem.W.subIn K (.ref a) (.ref b) else none) else none) = some r
  rw [if_pos e1, if_pos e2]
  exact s
/-- a table of which error is one of which class -/
def subT (tab : List (Str × Str × Bool)) (c x : Str) : Option Bool := (tab.find? fun e => e.1 == c && e.2.1 == x).map (·.2.2)
theorem subT_ok {K : PySem.W.Frag} {mg : Str → Option Value} {tab : List (Str × Str × Bool)} (h : ∀ e ∈ tab, ∃ a a', mg e.1 = some (.ref a) ∧ mg e.2.1 = some (.ref a') ∧ PySem.W.exmOne K (.ref a) (.ref a') = some e.2.2) : SubOk K mg (subT tab) := fun c x b e => by
  unfold subT at e
  obtain ⟨t, h1, h2⟩ := Option.map_eq_some_iff.mp e
  have hm := List.mem_of_find?_eq_some h1
  have hp := List.find?_some h1
  simp only [Bool.and_eq_true, beq_iff_eq] at hp
  obtain ⟨a, a', q1, q2, q3⟩ := h t hm
  rw [hp.1] at q1
  rw [hp.2] at q2
  rw [h2] at q3
  exact ⟨a, a', q1, q2, q3⟩
theorem all_cons {α : Type} {P : α → Prop} {x : α} {l : List α} (h : P x) (t : ∀ e ∈ l, P e) : ∀ e ∈ x :: l, P e := List.forall_mem_cons.mpr ⟨h, t⟩
theorem all_nil {α : Type} {P : α → Prop} : ∀ e ∈ ([] : List α), P e := List.forall_mem_nil _

section
variable {S : Type} {C : Deck S} {X : Cx} {W : WX} {A0 A A' : Addr → Prop} {H0 H H' B : Hp} {σ : St} {ρ : En} {st st' : S}
variable {e a b c tg iter elt : Expr} {es rest ifs : List Expr} {pos p p2 : Pos} {sc sc' sa sb vs : List Nat} {de da db dc : DE S} {dt dt' du : DT S} {dl di dj dk : DA S} {ds ds' : DS S} {mg : Str → Option Value} {DD : Ends} {xs ys : List Stmt} {dv dw : E1 S Sl}
/-- a ** b -/
def powD : D → D → Option D := fI fun i j => if decide (0 ≤ j) && decide (j ≤ 1000000) && decide (i.natAbs < 2 ^ 64) then some (i ^ j.toNat) else none
theorem pd_pow (ha : PD X C W a sa da) (hb : PD X C W b sb db) : PD X C W (.BinOp a .Pow b pos) (sa ++ sb) (dBin powD da db) := pd_bin op_pow (od_int (fun i j => decide (0 ≤ j) && decide (j ≤ 1000000) && decide (i.natAbs < 2 ^ 64)) fun i j h => by
  simp only [Bool.and_eq_true, decide_eq_true_eq] at h; exact ⟨h.1.1, h.1.2, h.2⟩) ha hb
/-! ### zip, reversed -/
def zipD (ds es : List D) : List D := List.zipWith (fun d e => .tup [d, e]) ds es
theorem Dat.laid {v : V} {d : D} {T : Addr} {o : HO} (h : Dat C H A v d) (hT : H T = none) : Dat C (upd H T o) A v d := by
  induction h with
  | non => exact .non
  | bl b => exact .bl b
  | int i => exact .int i
  | str s => exact .str s
  | tup n r l _ ih => exact .tup n (by rw [upd_ne (ne_of_none r hT)]; exact r) l ih
  | lst n r l _ ih => exact .lst n (by rw [upd_ne (ne_of_none r hT)]; exact r) l ih
  | deck => exact .deck
  | ext h e =>
    have ne : ∀ a, C.sa a → a ≠ T := fun a ha z => (h a ha).2 (z ▸ hT)
    exact .ext (fun a ha => ⟨(h a ha).1, by rw [upd_ne (ne a ha)]; exact (h a ha).2⟩) (C.ext_st _ _ _ _ e fun a ha => upd_ne (ne a ha))
theorem pair_dat {x y : V} {d e : D} {T : Addr} (f : ∀ a, A a → H a ≠ none) (hT : H T = none) (hx : Dat C H A x d) (hy : Dat C H A y e) : Dat C (upd H T (.tup [x, y])) A (.ref T) (.tup [d, e]) :=
  Dat.tup_mk (fun z => f T z hT) upd_same (.cons (hx.laid hT) (.cons (hy.laid hT) .nil))
theorem y_zipL {K : PySem.W.Frag} {p q : Addr} {vs ws : List V} {ds es : List D} (n : ¬ A p) (r : B p = some (.lst vs)) (t : Dats C B A vs ds) (n' : ¬ A q) (r' : B q = some (.lst ws)) (t' : Dats C B A ws es) : Yields C A B (Itz K p q) (zipD ds es) where
  stop := fun H k => ⟨vs, ws, .of (k p _ n r), .of (k q _ n' r'), by simp only [zipD, List.length_zipWith, t.len, t'.len]; omega⟩
  go := fun i H hi k => by
    simp only [zipD, List.length_zipWith] at hi
    exact ⟨vs, ws, vs[i]'(by rw [t.len]; omega), ws[i]'(by rw [t'.len]; omega), .of (k p _ n r), .of (k q _ n' r'), List.getElem?_eq_getElem _, List.getElem?_eq_getElem _⟩
  yld := fun i H x H' hi k y => by
    obtain ⟨T, u, v, rfl, hT, rfl, h1, h2⟩ := y
    have e1 := h1 vs (.of (k p _ n r))
    have e2 := h2 ws (.of (k q _ n' r'))
    simp only [zipD, List.length_zipWith] at hi
    have i1 : i < ds.length := by omega
    have i2 : i < es.length := by omega
    refine ⟨.tup [ds[i], es[i]], by simp [zipD, List.getElem?_zipWith, List.getElem?_eq_getElem i1, List.getElem?_eq_getElem i2], Keep.upd hT, fun s h => at_upd h hT, fun A' f hA => ?_⟩
    have dx := (t.at_ i u _ e1 (List.getElem?_eq_getElem i1)).later k hA
    have dy := (t'.at_ i v _ e2 (List.getElem?_eq_getElem i2)).later k hA
    exact pair_dat f hT dx dy
theorem y_zipT {K : PySem.W.Frag} {p q : Addr} {vs ws : List V} {ds es : List D} (n : ¬ A p) (r : B p = some (.tup vs)) (t : Dats C B A vs ds) (n' : ¬ A q) (r' : B q = some (.tup ws)) (t' : Dats C B A ws es) : Yields C A B (RZ.ItzT K p q) (zipD ds es) where
  stop := fun H k => ⟨vs, ws, .of (k p _ n r), .of (k q _ n' r'), by simp only [zipD, List.length_zipWith, t.len, t'.len]; omega⟩
  go := fun i H hi k => by
    simp only [zipD, List.length_zipWith] at hi
    exact ⟨vs, ws, vs[i]'(by rw [t.len]; omega), ws[i]'(by rw [t'.len]; omega), .of (k p _ n r), .of (k q _ n' r'), List.getElem?_eq_getElem _, List.getElem?_eq_getElem _⟩
  yld := fun i H x H' hi k y => by
    obtain ⟨T, u, v, rfl, hT, rfl, h1, h2⟩ := y
    have e1 := h1 vs (.of (k p _ n r))
    have e2 := h2 ws (.of (k q _ n' r'))
    simp only [zipD, List.length_zipWith] at hi
    have i1 : i < ds.length := by omega
    have i2 : i < es.length := by omega
    refine ⟨.tup [ds[i], es[i]], by simp [zipD, List.getElem?_zipWith, List.getElem?_eq_getElem i1, List.getElem?_eq_getElem i2], Keep.upd hT, fun s h => at_upd h hT, fun A' f hA => ?_⟩
    exact pair_dat f hT ((t.at_ i u _ e1 (List.getElem?_eq_getElem i1)).later k hA) ((t'.at_ i v _ e2 (List.getElem?_eq_getElem i2)).later k hA)
/-- zip of two lists, of two tuples -/
def zip2 : List D → Option (List D)
  | [.lst ds, .lst es] => some (zipD ds es)
  | [.tup ds, .tup es] => some (zipD ds es)
  | _ => none
theorem pid_zip {elts : List Expr} {kk : Nat} {tpos : Pos} (hm : X.mg "zip" = none) (ha : PAd X C W [a, b] sc dl) (hg : Gl X "zip" := by rfl) (hs : starEach [a, b] X.env = (false, eval a X.env) :: starEach [b] X.env := by rfl) (hpl : (backTo pos (starEach [b] X.env)).any (·.1) = false := by rfl) :
    PId X C W (.Tuple elts kk tpos) (.Call (.Name "zip" p) [a, b] [] pos) sc (dRng zip2 dl) :=
  pid_of (RZ.pi_zipA hg hm ha hs hpl) fun A0 H0 A ρ st σ H R I g => ⟨A0, H0, A, ρ, st, I, g.bind.imp fun ds s1 H1 k1 t1 g1 vs dvs => by
    obtain ⟨l, e, q⟩ := g1.ofO
    match ds, e with
    | [.lst ds, .lst es], e =>
      cases e
      obtain ⟨x, y, rfl, hx, hy⟩ := dvs.two
      obtain ⟨p, xs, rfl, n, r, t⟩ := hx.of_lst
      obtain ⟨p', xs', rfl, n', r', t'⟩ := hy.of_lst
      exact ⟨p, p', xs, xs', rfl, .inl ⟨.of r, .of r', q H1 Keep.refl t1 _ (y_zipL n r t n' r' t')⟩⟩
    | [.tup ds, .tup es], e =>
      cases e
      obtain ⟨x, y, rfl, hx, hy⟩ := dvs.two
      obtain ⟨p, xs, rfl, n, r, t⟩ := hx.of_tup
      obtain ⟨p', xs', rfl, n', r', t'⟩ := hy.of_tup
      exact ⟨p, p', xs, xs', rfl, .inr ⟨.of r, .of r', q H1 Keep.refl t1 _ (y_zipT n r t n' r' t')⟩⟩⟩
end
end Mir

set_option Elab.async false
set_option linter.all false
set_option maxRecDepth 100000
set_option maxHeartbeats 2000000
namespace Mir
open PySem PySem.Spec L2
open PyProof.Rows hiding St

/-! ### what the deck will tell, read ahead: a tape -/
structure TS where
  t : List (Int × Int)
  u : List Int
def adv (st : DeckSt) (u : List Int) : DeckSt := u.foldl (fun s n => (pickF s n).2) st
def tapeOk : DeckSt → List (Int × Int) → Prop
  | _, [] => True
  | s, (n, c) :: t => 0 < n ∧ (pickF s n).1 = c ∧ tapeOk (pickF s n).2 t
theorem adv_snoc {st : DeckSt} {u : List Int} {n : Int} : adv st (u ++ [n]) = (pickF (adv st u) n).2 := by
  unfold adv
  rw [List.foldl_append]
  rfl
theorem adv_ok {u : List Int} : ∀ {st : DeckSt}, st.Ok → (∀ n ∈ u, 0 < n) → (adv st u).Ok := by
  induction u with
  | nil => exact fun h _ => h
  | cons n u ih => exact fun h k => ih (st := (pickF _ n).2) (pickF_ok h (k n (.head _))) fun m hm => k m (.tail _ hm)
def Deck.tp (C : Deck DeckSt) (st : DeckSt) : Deck TS where
  val := C.val
  dom := C.dom
  At := fun x H => C.At (adv st x.u) H ∧ tapeOk (adv st x.u) x.t
  stab := fun x H H' h k => ⟨C.stab _ _ _ h.1 k, h.2⟩
  there := fun x H a h ha => C.there _ _ _ h.1 ha
  sa := C.sa
  ext := C.ext
  ext_st := C.ext_st
section
variable {C : Deck DeckSt} {X : Cx} {W : WX} {A0 A A' : Addr → Prop} {H0 H H' B : Hp} {σ : St} {ρ : En} {st : DeckSt}
theorem Dat.tp {v : V} {d : D} (h : Dat C H A v d) : Dat (C.tp st) H A v d := by
  induction h with
  | non => exact .non
  | bl b => exact .bl b
  | int i => exact .int i
  | str s => exact .str s
  | tup n r l _ ih => exact .tup n r l ih
  | lst n r l _ ih => exact .lst n r l ih
  | deck => exact .deck
  | ext h e => exact .ext h e
theorem Dat.un {v : V} {d : D} (h : Dat (C.tp st) H A v d) : Dat C H A v d := by
  induction h with
  | non => exact .non
  | bl b => exact .bl b
  | int i => exact .int i
  | str s => exact .str s
  | tup n r l _ ih => exact .tup n r l ih
  | lst n r l _ ih => exact .lst n r l ih
  | deck => exact .deck
  | ext h e => exact .ext h e
theorem Dats.un {vs : List V} {ds : List D} (h : Dats (C.tp st) H A vs ds) : Dats C H A vs ds := ⟨h.len, fun i x d e1 e2 => (h.at_ i x d e1 e2).un⟩
theorem Dats.tp {vs : List V} {ds : List D} (h : Dats C H A vs ds) : Dats (C.tp st) H A vs ds := ⟨h.len, fun i x d e1 e2 => (h.at_ i x d e1 e2).tp⟩
theorem SAt.tp {x : TS} {s : DeckSt} (I : SAt C A0 H0 A H σ ρ s) (e : adv st x.u = s) (k : tapeOk s x.t) : SAt (C.tp st) A0 H0 A H σ ρ x where
  len := I.len
  sl := fun i y ey => by
    obtain ⟨v, e1, q⟩ := I.sl i y ey
    refine ⟨v, e1, ?_⟩
    cases y with
    | val d => exact Dat.tp q
    | own ds =>
      obtain ⟨a, xs, h1, h2, h3, h4, h5, h6⟩ := q
      exact ⟨a, xs, h1, h2, h3, h4, h5, h6.tp⟩
  apart := I.apart
  fresh := I.fresh
  sub := I.sub
  lim := I.lim
  dom := I.dom
  keep := I.keep
  at_ := ⟨e ▸ I.at_, e ▸ k⟩
theorem SAt.un {x : TS} (I : SAt (C.tp st) A0 H0 A H σ ρ x) : SAt C A0 H0 A H σ ρ (adv st x.u) where
  len := I.len
  sl := fun i y ey => by
    obtain ⟨v, e1, q⟩ := I.sl i y ey
    refine ⟨v, e1, ?_⟩
    cases y with
    | val d => exact Dat.un q
    | own ds =>
      obtain ⟨a, xs, h1, h2, h3, h4, h5, h6⟩ := q
      exact ⟨a, xs, h1, h2, h3, h4, h5, h6.un⟩
  apart := I.apart
  fresh := I.fresh
  sub := I.sub
  lim := I.lim
  dom := I.dom
  keep := I.keep
  at_ := I.at_.1
def mPickT : List D → TS → R TS D
  | [.deck, .int n], ⟨(m, c) :: t, u⟩ => if n = m ∧ n < 1073741824 then .ok (.int c) ⟨t, u ++ [n]⟩ else .bad
  | _, _ => .bad
def PCT (K : PySem.W.Frag) (C' : Deck TS) : Prop := ∃ C st, PCk K C ∧ C' = C.tp st
theorem pick_tp {K : PySem.W.Frag} {mg : Str → Option Value} {vs : List V} {H : Hp} {Q : VK} {E : XK} (h : spOf mg (PCT K) 2 mPickT vs H Q E) : spOf mg (PCk K) 2 mPick vs H Q E := by
  obtain ⟨C', A, x, ds, ⟨C, st, pc, rfl⟩, V0, t, hl, g⟩ := h
  refine ⟨C, A, adv st x.u, ds, pc, ⟨V0.fresh, V0.dom, V0.at_.1⟩, t.un, hl, ?_⟩
  match ds, x, g, V0 with
  | [.deck, .int n], ⟨(m, c) :: t', u⟩, g, V0 =>
    simp only [mPickT] at g
    by_cases z : n = m ∧ n < 1073741824
    · rw [if_pos z] at g
      obtain ⟨rfl, z1⟩ := z
      obtain ⟨k1, k2, k3⟩ := V0.at_.2
      have em : mPick [.deck, .int n] (adv st u) = .ok (.int (pickF (adv st u) n).1) (pickF (adv st u) n).2 := if_pos ⟨k1, z1⟩
      dsimp only
      rw [em]
      show ∀ H' v, Keep C.dom H H' → C.At (pickF (adv st u) n).2 H' → Dat C H' A v (.int (pickF (adv st u) n).1) → Q v H'
      intro H' v k a dv
      refine g H' v k ⟨?_, ?_⟩ ?_
      · rw [adv_snoc]; exact a
      · rw [adv_snoc]; exact k3
      · rw [← k2]; exact dv.tp
    · rw [if_neg z] at g; exact g.elim
theorem Fn.tp {P : Program} {w : World} {K : PySem.W.Frag} {mg : Str → Option Value} {base : Heap} {x : Str} {k : Nat} (F : Fn P w K mg base (PCk K) x k 2 mPick) : Fn P w K mg base (PCT K) x k 2 mPickT := by
  obtain ⟨f, fd, ps, F, r⟩ := F.ex
  exact ⟨f, fd, ps, F.imp fun vs H Q E g => pick_tp g, r⟩
theorem pd_lenXT {C' : Deck TS} {e : Expr} {sc : List Nat} {dl : DA TS} {p pos : Pos} (pc : PCT X.K C') (hm : X.mg "len" = none) (ha : PAd X C' W [e] sc dl) (hg : Gl X "len" := by rfl) (he : starEach [e] X.env = (false, eval e X.env) :: starEach [] X.env := by rfl) (hpl : (backTo pos (starEach [] X.env)).any (·.1) = false := by rfl) : PD X C' W (.Call (.Name "len" p) [e] [] pos) sc (dCallB lenX dl) :=
  pd_callB call_len (fun A s H xs ds d Q I h e q => by
    obtain ⟨C, st, pc, rfl⟩ := pc
    exact cd_lenX pc A (adv st s.u) H xs ds d Q ⟨I.fresh, I.dom, I.at_.1⟩ h.un e fun H' v k a dv => q H' v k ⟨a, by
      cases ds with
      | nil => cases e
      | cons d1 r => cases r with
        | cons _ _ => cases d1 <;> cases e
        | nil => exact I.at_.2⟩ dv.tp) hm ha PySem.boot_len hg (by decide) (by decide) he hpl

/-! ### a piece of the text by a tape -/
def dTape (ch : DeckSt → List (Int × Int)) (d : DS TS) : DS DeckSt := fun ρ st => match d ρ ⟨ch st, []⟩ with
  | .nx ρ' x => .nx ρ' (adv st x.u)
  | .rt v x => .rt v (adv st x.u)
  | .bk ρ' x => .bk ρ' (adv st x.u)
  | .ct ρ' x => .ct ρ' (adv st x.u)
  | .ex c ρ' x => .ex c ρ' (adv st x.u)
  | .bad => .bad
theorem pbd_tape {b : List Stmt} {ch : DeckSt → List (Int × Int)} {d : DS TS} (hch : ∀ st, tapeOk st (ch st)) (h : ∀ st, PBd X (C.tp st) W b d) : PBd X C W b (dTape ch d) :=
  ⟨fun pins s σ H D I ⟨A0, H0, A, ρ, st, J, g⟩ => (h st).run pins s σ H D I ⟨A0, H0, A, ρ, ⟨ch st, []⟩, J.tp rfl (hch st), by
    unfold dTape at g
    generalize ho : d ρ ⟨ch st, []⟩ = o at g
    cases o with
    | nx ρ' x => exact fun A H σ J => g A H σ J.un
    | rt v x => exact fun H v k a dv => g H v k a.1 dv.un
    | bk ρ' x => exact fun A H σ J => g A H σ J.un
    | ct ρ' x => exact fun A H σ J => g A H σ J.un
    | ex c ρ' x => exact fun a A H σ m J => g a A H σ m J.un
    | bad => exact g⟩⟩
end
noncomputable def chT (ts : List (List (Int × Int))) (st : DeckSt) : List (Int × Int) := by
  classical
  exact if h : ∃ t ∈ ts, tapeOk st t then h.choose else []
theorem chT_ok {ts : List (List (Int × Int))} {st : DeckSt} : tapeOk st (chT ts st) := by
  unfold chT
  split
  · rename_i h; exact h.choose_spec.2
  · exact trivial
def cov : Nat → List (List (Int × Int)) → Bool
  | 0, _ => false
  | k + 1, ts => ts.any (·.isEmpty) || (match ts with
    | ((n, _) :: _) :: _ => decide (0 < n) && (List.range n.toNat).all fun c => cov k (ts.filterMap fun t => match t with
      | (m, d) :: r => if m = n ∧ d = (c : Int) then some r else none
      | [] => none)
    | _ => false)
theorem cov_ok : ∀ {k : Nat} {ts : List (List (Int × Int))}, cov k ts = true → ∀ st, ∃ t ∈ ts, tapeOk st t
  | 0, _, h => by cases h
  | k + 1, ts, h => fun st => by
    unfold cov at h
    rw [Bool.or_eq_true] at h
    rcases h with h | h
    · obtain ⟨t, ht, e⟩ := List.any_eq_true.mp h
      cases t with
      | nil => exact ⟨[], ht, trivial⟩
      | cons _ _ => cases e
    · match ts, h with
      | ((n, x) :: r0) :: rs, h =>
        rw [Bool.and_eq_true] at h
        have hn : 0 < n := of_decide_eq_true h.1
        obtain ⟨p0, p1⟩ := pickF_range st hn
        have hc : (pickF st n).1 = (((pickF st n).1.toNat : Nat) : Int) := (Int.toNat_of_nonneg p0).symm
        have hm := List.all_eq_true.mp h.2 (pickF st n).1.toNat (List.mem_range.mpr (by omega))
        obtain ⟨t, ht, q⟩ := cov_ok hm (pickF st n).2
        obtain ⟨t1, h1, h2⟩ := List.mem_filterMap.mp ht
        cases t1 with
        | nil => cases h2
        | cons y r =>
          obtain ⟨m, d⟩ := y
          dsimp only at h2
          by_cases z : m = n ∧ d = (((pickF st n).1.toNat : Nat) : Int)
          · rw [if_pos z] at h2
            cases h2
            exact ⟨_, h1, by rw [z.1]; exact hn, by rw [z.1, z.2, ← hc], by rw [z.1]; exact q⟩
          · rw [if_neg z] at h2; cases h2
theorem chT_mem {k : Nat} {ts : List (List (Int × Int))} (h : cov k ts = true) (st : DeckSt) : chT ts st ∈ ts := by
  unfold chT
  rw [dif_pos (cov_ok h st)]
  exact (cov_ok h st).choose_spec.1

/-! ### slots that are not read any more -/
def fgt (keep : List Nat) (ρ : En) : En := ρ.mapIdx fun i x => if i ∈ keep then x else none
def dForget {S : Type} (keep : List Nat) (d : DS S) : DS S := fun ρ s => d (fgt keep ρ) s
section
variable {S : Type} {C : Deck S} {X : Cx} {W : WX} {A0 A A' : Addr → Prop} {H0 H H' B : Hp} {σ : St} {ρ : En} {st : S}
theorem fgt_get {keep : List Nat} {i : Nat} {x : Sl} (e : (fgt keep ρ)[i]? = some (some x)) : ρ[i]? = some (some x) := by
  unfold fgt at e
  rw [List.getElem?_mapIdx] at e
  cases h : ρ[i]? with
  | none => rw [h] at e; cases e
  | some y =>
    rw [h] at e
    by_cases z : i ∈ keep
    · simpa [z] using e
    · simp [z] at e
theorem SAt.forget (I : SAt C A0 H0 A H σ ρ st) (keep : List Nat) : SAt C A0 H0 A H σ (fgt keep ρ) st where
  len := by unfold fgt; rw [List.length_mapIdx]; exact I.len
  sl := fun i x e => I.sl i x (fgt_get e)
  apart := fun i j ds es n e1 e2 => I.apart i j ds es n (fgt_get e1) (fgt_get e2)
  fresh := I.fresh
  sub := I.sub
  lim := I.lim
  dom := I.dom
  keep := I.keep
  at_ := I.at_
theorem pbd_forget {b : List Stmt} {d : DS S} (keep : List Nat) (h : PBd X C W b d) : PBd X C W b (dForget keep d) :=
  ⟨fun pins s σ H D I ⟨A0, H0, A, ρ, st, J, g⟩ => h.run pins s σ H D I ⟨A0, H0, A, _, st, J.forget keep, g⟩⟩
theorem fgt_one {N : Nat} {x : Option Sl} (hl : ρ.length = N + 2) (h1 : ρ[1]? = some x) : fgt [1] ρ = none :: x :: List.replicate N none := by
  refine List.ext_getElem? fun i => ?_
  unfold fgt
  rw [List.getElem?_mapIdx]
  match i with
  | 0 => 
    rw [List.getElem?_eq_getElem (by omega)]
    simp
  | 1 => rw [h1]; simp
  | i + 2 =>
    by_cases z : i < N
    · rw [List.getElem?_eq_getElem (by omega)]
      simp [z]
    · rw [List.getElem?_eq_none (by omega)]
      simp [z]
/-- a loop by an invariant -/
theorem forL_inv {g : DG} {ds : DS S} (Inv : En → S → Prop) : ∀ {l : List D} {ρ : En} {s : S}, (∀ d ∈ l, ∀ ρ s, Inv ρ s → ∃ ρ1 ρ' s', g d ρ = some ρ1 ∧ ds ρ1 s = .nx ρ' s' ∧ Inv ρ' s') → Inv ρ s → ∃ ρ' s', forL g ds l ρ s = .nx ρ' s' ∧ Inv ρ' s'
  | [], ρ, s, _, h => ⟨ρ, s, rfl, h⟩
  | d :: l, ρ, s, hs, h => by
    obtain ⟨ρ1, ρ', s', e1, e2, h'⟩ := hs d (.head _) ρ s h
    obtain ⟨ρ2, s2, e3, h2⟩ := forL_inv Inv (fun d hd => hs d (.tail _ hd)) h'
    exact ⟨ρ2, s2, by unfold forL; rw [e1]; dsimp only; rw [e2]; exact e3, h2⟩
end
/-- what holds of each stretch holds of all -/
theorem all_chunks {α : Type} {P : α → Bool} {l : List α} {n k : Nat} (hn : 0 < n) (h : ∀ i < k, ((l.drop (n * i)).take n).all P = true) (hl : l.length ≤ n * k) : ∀ t ∈ l, P t = true := fun t ht => by
  obtain ⟨j, hj, rfl⟩ := List.mem_iff_getElem.mp ht
  have hd := Nat.div_add_mod j n
  have hm := Nat.mod_lt j hn
  have hi : j / n < k := Nat.div_lt_of_lt_mul (by omega)
  refine List.all_eq_true.mp (h (j / n) hi) _ (List.mem_of_getElem? (i := j % n) ?_)
  rw [List.getElem?_take_of_lt hm, List.getElem?_drop, hd, List.getElem?_eq_getElem hj]
/-- the outcome of one turn, with the deck where it was -/
def turnOk (N : Nat) : Out TS → Bool
  | .nx ρ x => ρ.length == N && (match ρ[1]? with
    | some (some (Sl.val D.deck)) => true
    | _ => false) && x.u.all fun n => decide (0 < n)
  | _ => false
def InvL (N : Nat) (ρ : En) (st : DeckSt) : Prop := ρ.length = N ∧ ρ[1]? = some (some (.val .deck)) ∧ st.Ok
theorem turn_inv {N : Nat} {ts : List (List (Int × Int))} {d : DS TS} {k : Nat} (hc : cov k ts = true) (hd : ∀ t ∈ ts, turnOk (N + 2) (d (none :: some (.val .deck) :: List.replicate N none) ⟨t, []⟩) = true) {ρ : En} {st : DeckSt} (h : InvL (N + 2) ρ st) :
    ∃ ρ' s', dForget [1] (dTape (chT ts) d) ρ st = .nx ρ' s' ∧ InvL (N + 2) ρ' s' := by
  unfold dForget dTape
  rw [fgt_one h.1 h.2.1]
  have q := hd _ (chT_mem hc st)
  cases e : d (none :: some (.val .deck) :: List.replicate N none) ⟨chT ts st, []⟩ with
  | nx ρ' x =>
    rw [e] at q
    unfold turnOk at q
    dsimp only at q
    rw [Bool.and_eq_true, Bool.and_eq_true] at q
    refine ⟨ρ', _, rfl, by simpa using q.1.1, ?_, adv_ok h.2.2 fun n hn => of_decide_eq_true (List.all_eq_true.mp q.2 n hn)⟩
    have q2 := q.1.2
    split at q2
    · rename_i e; exact e
    · cases q2
  | rt _ _ => rw [e] at q; cases q
  | bk _ _ => rw [e] at q; cases q
  | ct _ _ => rw [e] at q; cases q
  | ex _ _ _ => rw [e] at q; cases q
  | bad => rw [e] at q; cases q
/-- the law's body: one loop of turns, then True -/
theorem turns_pure {N : Nat} {di : DA DeckSt} {b : DS DeckSt} {st : DeckSt} {n : Nat} {l : List D} (ok : st.Ok) (hl : di (rho0 (N + 2) n) st = .ok l st) (hN : 1 ≤ N)
    (hb : ∀ ρ st, InvL (N + 2) ρ st → ∃ ρ' s', b ρ st = .nx ρ' s' ∧ InvL (N + 2) ρ' s') : ∃ s', dSeq (dFor (gN 2) [] di b) (dRet (dC (.bl true))) (rho0 (N + 2) n) st = .rt (.bl true) s' := by
  unfold dSeq dFor
  rw [hl, frz_nil, R.out_ok]
  obtain ⟨ρ', s', e, h⟩ := forL_inv (g := gN 2) (ds := b) (l := l) (ρ := rho0 (N + 2) n) (s := st) (InvL (N + 2)) (fun d _ ρ s I => by
    obtain ⟨ρ', s', e, h⟩ := hb (ρ.set 2 (some (.val d))) s ⟨by rw [List.length_set]; exact I.1, by rw [List.getElem?_set_ne (by decide)]; exact I.2.1, I.2.2⟩
    exact ⟨_, ρ', s', rfl, e, h⟩) ⟨by simp [rho0], rfl, ok⟩
  refine ⟨s', ?_⟩
  rw [e]
  rfl
end Mir

set_option Elab.async false
set_option linter.all false
set_option maxRecDepth 100000
set_option maxHeartbeats 2000000
namespace Mir
open PySem PySem.Spec L2
open PyProof.Rows hiding St
section
variable {S : Type} {PC : Deck S → Prop}
theorem fnok_mk0 {P : Program} {w : World} {K : PySem.W.Frag} {mg : Str → Option Value} {base : Heap} {x : Str} {stm : Stmt} {f : Addr} {fd : FuncData} {N ps : List Str} {k : Nat} {ds : DS S} (F : Fun K x x stm f fd) (sc : FnScope N ps (defScope stm))
    (body : ∀ (cdv : Value) (A : Around) (outer : List PySem.Env) (s : Shared) (H : Hp) (E : XK) (C : Deck S), PC C → Room k (A.deeper (envOfC x (defScope stm) s.heap.objs.size f cdv)) → PBd (cxOf (L2.CX P w) P w K mg base N x (defScope stm) f cdv A outer s H E) C (fun cls d _ H => E cls d H) (defBody stm) ds) :
    FnOk P w K mg base (L2.CX P w) (k + 1) f fd ps (spOf mg PC ps.length (mOf N.length ds)) := by
  refine F.okX sc (fun vs H Q E h => ?_) (fun cdv A outer s H vs Q E hr h => ?_)
  · obtain ⟨C, A, s, args, pc, V0, t, hl, g⟩ := h
    rw [t.len, hl]
  · obtain ⟨C, A1, s1, args, pc, V0, t, hl, g⟩ := h
    refine ⟨_, body cdv A outer s H E C pc hr, A1, H, A1, _, s1, start_sat V0 t, ?_⟩
    unfold mOf at g
    generalize ho : ds (args.map (fun d => some (.val d)) ++ List.replicate (N.length - args.length) none) s1 = o at g
    cases o with
    | rt d s' => exact fun H' v k a h => g H' v k a h
    | nx ρ s' => exact fun A' H' σ J => g H' .non J.keep J.at_ .non
    | ex c ρ s' => exact fun q A' H' σ m J => g q H' m J.keep J.at_
    | bk ρ s' => exact g.elim
    | ct ρ s' => exact g.elim
    | bad => exact g.elim
theorem fn_ofok {P : Program} {w : World} {K : PySem.W.Frag} {mg : Str → Option Value} {base : Heap} {x : Str} {k n : Nat} {m : List D → S → R S D} {f : Addr} {fd : FuncData} {ps : List Str} (o : FnOk P w K mg base (L2.CX P w) k f fd ps (spOf mg PC n m)) (hg : mg x = some (.ref f)) (hk : PySem.W.keepIn K (.ref f) = true) (hb : Binds K fd ps []) : Fn P w K mg base PC x k n m := ⟨f, fd, ps, o, hg, hk, hb⟩
theorem fk_ofok {P : Program} {w : World} {K : PySem.W.Frag} {mg : Str → Option Value} {base : Heap} {x : Str} {k n a : Nat} {ks : List Str} {is : List Nat} {m : List D → S → R S D} {f : Addr} {fd : FuncData} {ps : List Str} (o : FnOk P w K mg base (L2.CX P w) k f fd ps (spOf mg PC n m)) (hg : mg x = some (.ref f)) (hk : PySem.W.keepIn K (.ref f) = true)
    (hb : KBn K fd ps a ks (fun us ws => pick is (us ++ ws)) (fun vs zs => pick is (vs ++ zs))) : Fk P w K mg base PC x k n m a ks is := ⟨f, fd, ps, o, hg, hk, hb⟩
end
theorem kbn_mk {K : PySem.W.Frag} {x : Str} {st : Stmt} {f : Addr} {fd : FuncData} (F : Fun K x x st f fd) {ps ks : List Str} {a : Nat} {is : List Nat}
    (h : ∀ (kV doc pm : Value) (an : Option Addr) (cdv ct : Value) (us ws : List Value), us.length = a → ws.length = ks.length → bindArgs (PySem.W.fnOf x x (defArgs st) (defBody st) (defScope st) .none kV doc pm an cdv ct) ⟨us, ks.zip ws⟩ = pure (ps.zip (pick is (us ++ ws)))) :
    KBn K fd ps a ks (fun us ws => pick is (us ++ ws)) (fun vs zs => pick is (vs ++ zs)) := by
  obtain ⟨oc, od, kV, doc, pm, an, cdv, ct, osl, rfl, lk, hcd⟩ := F.ex
  exact ⟨fun s us ws _ h1 h2 => .of_eq (h kV doc pm an cdv ct us ws h1 h2), fun r q => pick_vals (r.append q) is⟩
end Mir

set_option Elab.async false
set_option linter.all false
set_option maxRecDepth 100000
set_option maxHeartbeats 2000000
namespace Mir
open PySem PySem.Spec L2
open PyProof.Rows hiding St

/-! ### s.find(c), s.find(c, i) for one sign c -/
/-- the first place at or behind k where c stands -/
def fnd (l : List Nat) (c : Nat) (k : Nat) : Int := match (List.range' k (l.length + 1 - k)).find? (fun i => l[i]? == some c) with
  | some i => (i : Int)
  | none => -1
theorem sub_one {l : List Nat} {c i : Nat} : (decide (i + 1 ≤ l.length) && Builtin.Str.subAt (mkS l) (mkS [c]) i) = (l[i]? == some c) := by
  by_cases h : i < l.length
  · have e : Builtin.Str.subAt (mkS l) (mkS [c]) i = (l[i] == c) := by
      unfold Builtin.Str.subAt
      show (l.toArray.extract i (i + 1) == #[c]) = _
      have : l.toArray.extract i (i + 1) = #[l[i]] := by
        apply Array.ext'
        simp only [List.extract_toArray, List.extract_eq_take_drop, Nat.add_sub_cancel_left]
        rw [List.drop_eq_getElem_cons h]
        rfl
      rw [this]
      simp
    rw [e, List.getElem?_eq_getElem h, decide_eq_true (by omega : i + 1 ≤ l.length), Bool.true_and]
    rfl
  · rw [List.getElem?_eq_none (by omega), decide_eq_false (by omega : ¬ i + 1 ≤ l.length), Bool.false_and]
    rfl
theorem occ_stay {l : List Nat} {c k n : Nat} : ∀ is : List Nat, ((forIn is ((#[k] : Array Nat), n) (StrLaws.occBody (mkS l) (mkS [c]) l.length 1)).run.fst.toList) = [k]
  | [] => rfl
  | i :: is => by
    rw [List.forIn_cons]
    unfold StrLaws.occBody
    rw [if_neg (fun z => absurd z.1.1.1 (by simp))]
    exact occ_stay is
theorem occ_one (l : List Nat) (c : Nat) : ∀ (is : List Nat) (n : Nat), (∀ i ∈ is, n ≤ i) → ((forIn is ((#[] : Array Nat), n) (StrLaws.occBody (mkS l) (mkS [c]) l.length 1)).run.fst.toList) = (is.find? fun i => l[i]? == some c).toList
  | [], _, _ => rfl
  | i :: is, n, h => by
    rw [List.forIn_cons, List.find?_cons, ← sub_one]
    unfold StrLaws.occBody
    have hn : n ≤ i := h i (.head _)
    have e1 : (mkS [c]).length = 1 := rfl
    cases z : (decide (i + 1 ≤ l.length) && Builtin.Str.subAt (mkS l) (mkS [c]) i) with
    | true =>
      rw [Bool.and_eq_true, decide_eq_true_eq] at z
      rw [if_pos ⟨⟨⟨by simp, hn⟩, by rw [e1]; exact z.1⟩, z.2⟩]
      exact occ_stay is
    | false =>
      rw [if_neg (fun q => by
        have : (decide (i + 1 ≤ l.length) && Builtin.Str.subAt (mkS l) (mkS [c]) i) = true := by
          rw [Bool.and_eq_true, decide_eq_true_eq]
          exact ⟨q.1.2, q.2⟩
        rw [z] at this
        cases this)]
      have ih := occ_one l c is n fun j hj => h j (.tail _ hj)
      simp only [sub_one] at ih ⊢
      exact ih
theorem occ_fnd {l : List Nat} {c k : Nat} : (match Builtin.Str.occurrences (mkS l) (mkS [c]) k (mkS l).length 1 with
    | i :: _ => (i : Int)
    | [] => -1) = fnd l c k := by
  have e0 : (mkS l).length = l.length := rfl
  rw [StrLaws.occ_eq, e0, occ_one _ _ _ k (fun i hi => (List.mem_range'_1.mp hi).1)]
  unfold fnd
  cases (List.range' k (l.length + 1 - k)).find? fun i => l[i]? == some c <;> rfl
def fromI (n : Nat) (i : Int) : Nat := (max 0 (if i < 0 then i + n else i)).toNat
def findD : D → List D → Option D
  | .str l, [.str [c]] => some (.int (fnd l c 0))
  | .str l, [.str [c], .int i] => some (.int (fnd l c (fromI l.length i)))
  | _, _ => none
/-- ''.join and the like -/
def strsOf : List D → Option (List (List Nat))
  | [] => some []
  | .str l :: r => (strsOf r).map (l :: ·)
  | _ => none
def joinL (sep : List Nat) : List (List Nat) → List Nat
  | [] => []
  | [x] => x
  | x :: r => x ++ sep ++ joinL sep r
def okJoin (sep : List Nat) (ls : List (List Nat)) : Bool := decide ((ls.map (·.length)).sum + ls.length * sep.length ≤ 1048576)
def joinD : D → List D → Option D
  | .str sep, [.lst ds] => (strsOf ds).bind fun ls => if okJoin sep ls then some (.str (joinL sep ls)) else none
  | .str sep, [.tup ds] => (strsOf ds).bind fun ls => if okJoin sep ls then some (.str (joinL sep ls)) else none
  | _, _ => none
theorem joinL_cons {sep x y : List Nat} {r : List (List Nat)} : joinL sep (x :: y :: r) = x ++ sep ++ joinL sep (y :: r) := rfl
theorem fold_join {sep : List Nat} : ∀ (r : List (List Nat)) (a : Array Nat), ((r.map mkS).foldl (fun acc p => acc ++ (mkS sep).cps ++ p.cps) a) = (a.toList ++ (r.map fun x => sep ++ x).flatten).toArray
  | [], a => by simp
  | x :: r, a => by
    rw [List.map_cons, List.foldl_cons, fold_join r]
    simp
theorem joinL_eq {sep : List Nat} : ∀ (r : List (List Nat)) (x : List Nat), joinL sep (x :: r) = x ++ (r.map fun x => sep ++ x).flatten
  | [], x => by simp [joinL]
  | y :: r, x => by rw [joinL_cons, joinL_eq r y]; simp
theorem join_mk {sep : List Nat} {ls : List (List Nat)} : Txt.join (mkS sep) (ls.map mkS) = mkS (joinL sep ls) := by
  show Builtin.Str.glued (mkS sep) (ls.map mkS) = _
  unfold Builtin.Str.glued
  cases ls with
  | nil => rfl
  | cons x r =>
    show Str.mk (((r.map mkS)).foldl (fun acc p => acc ++ (mkS sep).cps ++ p.cps) (mkS x).cps) = _
    rw [fold_join, joinL_eq]
theorem joinL_len {sep : List Nat} : ∀ ls : List (List Nat), (joinL sep ls).length ≤ (ls.map (·.length)).sum + ls.length * sep.length
  | [] => by simp [joinL]
  | [x] => by simp [joinL]
  | x :: y :: r => by
    have := joinL_len (sep := sep) (y :: r)
    rw [joinL_cons]
    simp only [List.length_append, List.map_cons, List.sum_cons, List.length_cons] at this ⊢
    have e : (r.length + 1 + 1) * sep.length = (r.length + 1) * sep.length + sep.length := by rw [Nat.add_mul (r.length + 1), Nat.one_mul]
    omega
theorem joinL_mem {sep : List Nat} {c : Nat} : ∀ ls : List (List Nat), c ∈ joinL sep ls → c ∈ sep ∨ ∃ l ∈ ls, c ∈ l
  | [], h => by cases h
  | [x], h => .inr ⟨x, .head _, h⟩
  | x :: y :: r, h => by
    rw [joinL_cons, List.append_assoc, List.mem_append, List.mem_append] at h
    rcases h with h | h | h
    · exact .inr ⟨x, .head _, h⟩
    · exact .inl h
    · rcases joinL_mem (y :: r) h with z | ⟨l, hl, z⟩
      · exact .inl z
      · exact .inr ⟨l, .tail _ hl, z⟩
section
variable {S : Type} {C : Deck S} {X : Cx} {W : WX} {A0 A A' : Addr → Prop} {H0 H H' B : Hp} {σ : St} {ρ : En} {st st' : S}
variable {e a b c o tg iter elt : Expr} {es rest ifs : List Expr} {pos p p2 : Pos} {sc sc' sa sb vs : List Nat} {de da db dc : DE S} {dt dt' du : DT S} {dl di dj dk : DA S} {ds ds' : DS S} {mg : Str → Option Value} {DD : Ends} {xs ys : List Stmt} {dv dw : E1 S Sl}
theorem strs_of {vs : List V} {ds : List D} {ls : List (List Nat)} (t : Dats C H A vs ds) (e : strsOf ds = some ls) : vs = (ls.map mkS).map V.str ∧ ∀ l ∈ ls, SOk l := by
  induction ds generalizing vs ls with
  | nil => cases e; rw [t.unnil]; exact ⟨rfl, fun _ h => by cases h⟩
  | cons d ds ih =>
    obtain ⟨x, r, rfl, h1, h2⟩ := t.uncons
    cases d <;> simp only [strsOf] at e <;> try cases e
    obtain ⟨l2, e2, rfl⟩ := Option.map_eq_some_iff.mp e
    obtain ⟨q1, q2⟩ := ih h2 e2
    cases h1 with
    | str o =>
      refine ⟨by rw [q1]; rfl, fun l hl => ?_⟩
      cases hl with
      | head => exact o
      | tail _ h => exact q2 l h
def isS : D → Bool
  | .str _ => true
  | _ => false
def MbD (C : Deck S) (K : PySem.W.Frag) (r : V → List V → Hp → VK → Prop) (f : D → List D → Option D) : Prop :=
  ∀ (A : Addr → Prop) (s : S) (H : Hp) (x : V) (xs : List V) (dx : D) (ds : List D) (d : D) (Q : VK), VAt C A H s → Dat C H A x dx → Dats C H A xs ds → f dx ds = some d → (∀ H' v, Keep C.dom H H' → C.At s H' → Dat C H' A v d → Q v H') → r x xs H Q
/-- o.m(..): a method of a text -/
def dMb (f : D → List D → Option D) (de : DE S) (dl : DA S) : DE S := fun ρ s => (de ρ s).bind fun d s1 => if isS d then (dl ρ s1).bind fun ds s2 => ofO s2 (f d ds) else .bad
theorem pd_mb {id : String} {name : Str} {apos cpos : Pos} {r : V → List V → Hp → VK → Prop} {f : D → List D → Option D} (slot : Slot "str" name id) (hty : typeOf (.builtin id) = pure (.type "method_descriptor")) (hm : MtR X id r) (hr : MbD C X.K r f) (ho : PD X C W o sa de) (ha : PAd X C W (e :: es) sb dl)
    (hbase : attributeBase o name X.env (eval o X.env) = eval o X.env := by rfl)
    (hfew : ((backTo cpos (starEach (e :: es) X.env)).all (fun x => !x.1) && (backToKw cpos (keywordEach [] X.env)).all (fun x => x.1.isSome) && decide ((e :: es).length + ([] : List Keyword).length + (if ([] : List Keyword).isEmpty then 0 else 1) < 30)) = true := by rfl)
    (hline : (apos.endLine == cpos.line) = true := by rfl) (hs : starEach (e :: es) X.env = (false, eval e X.env) :: starEach es X.env := by rfl) (hplain : (backTo cpos (starEach es X.env)).any (·.1) = false := by rfl) :
    PD X C W (.Call (.Attribute o name apos) (e :: es) [] cpos) (sa ++ sb) (dMb f de dl) :=
  pd_of (pe_bm PySem.F.plainAttrs_str slot hty hm ho ha hbase hfew hline hs hplain) fun A0 H0 A ρ st σ H Q I g => ⟨A0, H0, A, ρ, st, I, g.bind.imp fun d s1 H1 k1 t1 g1 v dv => by
    by_cases z : isS d = true
    · rw [if_pos z] at g1
      have I1 := I.next k1 t1
      refine ⟨?_, A0, H0, A, ρ, s1, I1, g1.bind.imp fun ds s2 H2 k2 t2 g2 xs dxs => ?_⟩
      · cases d <;> simp only [isS, Bool.false_eq_true] at z
        cases dv
        rfl
      · obtain ⟨d', e', q⟩ := g2.ofO
        have I2 := I1.next k2 t2
        exact hr (Amin A σ ρ (sa ++ sb)) s2 H2 v xs d ds d' Q (I2.vat _) ((dv.keep k2 (I1.dom0 sa)).less fun _ => Amin.more fun i hi => List.mem_append_left _ hi) (dxs.less fun _ => Amin.more fun i hi => List.mem_append_right _ hi) e' fun H3 w k3 t3 dw => q H3 k3 t3 w dw
    · rw [if_neg z] at g1; exact g1.elim⟩
theorem md_find1 {K : PySem.W.Frag} : MbD C K (fun x xs H Q => ∃ a b, x = .str a ∧ xs = [.str b] ∧ Q (.int (Txt.find a b)) H) (fun d ds => if ds.length = 1 then findD d ds else none) := by
  intro A s H x xs dx ds d Q I hx t e q
  dsimp only at e
  by_cases z : ds.length = 1
  · rw [if_pos z] at e
    unfold findD at e
    split at e
    · rename_i l c
      cases e
      cases hx with
      | str o =>
        obtain ⟨y, rfl, hy⟩ := t.one
        cases hy
        refine ⟨_, _, rfl, rfl, ?_⟩
        have : Txt.find (mkS l) (mkS [c]) = fnd l c 0 := occ_fnd
        rw [this]
        exact q H _ Keep.refl I.at_ (.int _)
    · cases z
    · cases e
  · rw [if_neg z] at e; cases e
theorem md_find2 {K : PySem.W.Frag} : MbD C K (fun x xs H Q => ∃ (a b : Str) (i : Int), x = .str a ∧ xs = [.str b, .int i] ∧ Q (.int (Txt.find3 a b i)) H) (fun d ds => if ds.length = 2 then findD d ds else none) := by
  intro A s H x xs dx ds d Q I hx t e q
  dsimp only at e
  by_cases z : ds.length = 2
  · rw [if_pos z] at e
    unfold findD at e
    split at e
    · cases z
    · rename_i l c i
      cases e
      cases hx with
      | str o =>
        obtain ⟨y, z, rfl, hy, hz⟩ := t.two
        cases hy
        cases hz
        refine ⟨_, _, _, rfl, rfl, ?_⟩
        have : Txt.find3 (mkS l) (mkS [c]) i = fnd l c (fromI l.length i) := occ_fnd
        rw [this]
        exact q H _ Keep.refl I.at_ (.int _)
    · cases e
  · rw [if_neg z] at e; cases e
def find1 (d : D) (ds : List D) : Option D := if ds.length = 1 then findD d ds else none
def find2 (d : D) (ds : List D) : Option D := if ds.length = 2 then findD d ds else none
theorem pd_find1 {apos cpos : Pos} (ho : PD X C W o sa de) (ha : PAd X C W [e] sb dl)
    (hbase : attributeBase o "find" X.env (eval o X.env) = eval o X.env := by rfl)
    (hfew : ((backTo cpos (starEach [e] X.env)).all (fun x => !x.1) && (backToKw cpos (keywordEach [] X.env)).all (fun x => x.1.isSome) && decide ([e].length + ([] : List Keyword).length + (if ([] : List Keyword).isEmpty then 0 else 1) < 30)) = true := by rfl)
    (hline : (apos.endLine == cpos.line) = true := by rfl) (hs : starEach [e] X.env = (false, eval e X.env) :: starEach [] X.env := by rfl) (hplain : (backTo cpos (starEach [] X.env)).any (·.1) = false := by rfl) :
    PD X C W (.Call (.Attribute o "find" apos) [e] [] cpos) (sa ++ sb) (dMb find1 de dl) := pd_mb PySem.F.slot_str_find PySem.F.type_str_find mt_find md_find1 ho ha hbase hfew hline hs hplain
theorem pd_find2 {apos cpos : Pos} (ho : PD X C W o sa de) (ha : PAd X C W [e, a] sb dl)
    (hbase : attributeBase o "find" X.env (eval o X.env) = eval o X.env := by rfl)
    (hfew : ((backTo cpos (starEach [e, a] X.env)).all (fun x => !x.1) && (backToKw cpos (keywordEach [] X.env)).all (fun x => x.1.isSome) && decide ([e, a].length + ([] : List Keyword).length + (if ([] : List Keyword).isEmpty then 0 else 1) < 30)) = true := by rfl)
    (hline : (apos.endLine == cpos.line) = true := by rfl) (hs : starEach [e, a] X.env = (false, eval e X.env) :: starEach [a] X.env := by rfl) (hplain : (backTo cpos (starEach [a] X.env)).any (·.1) = false := by rfl) :
    PD X C W (.Call (.Attribute o "find" apos) [e, a] [] cpos) (sa ++ sb) (dMb find2 de dl) := pd_mb PySem.F.slot_str_find PySem.F.type_str_find mt_find3 md_find2 ho ha hbase hfew hline hs hplain
theorem md_join {K : PySem.W.Frag} : MbD C K (fun x xs H Q => ∃ a p, ∃ ys : List Str, x = .str a ∧ xs = [.ref p] ∧ (SqL K H p (ys.map V.str) ∨ SqT K H p (ys.map V.str)) ∧ (ys.map (·.length)).sum + ys.length * a.length ≤ 16777216 ∧ Q (.str (Txt.join a ys)) H) joinD := by
  intro A s H x xs dx ds d Q I hx t e q
  have fin : ∀ {sep : List Nat} {p : Addr} {vs : List V} {es : List D}, SOk sep → (SqL K H p vs ∨ SqT K H p vs) → Dats C H A vs es → ((strsOf es).bind fun ls => if okJoin sep ls then some (D.str (joinL sep ls)) else none) = some d →
      ∃ a q, ∃ ys : List Str, V.str (mkS sep) = .str a ∧ [V.ref p] = [.ref q] ∧ (SqL K H q (ys.map V.str) ∨ SqT K H q (ys.map V.str)) ∧ (ys.map (·.length)).sum + ys.length * a.length ≤ 16777216 ∧ Q (.str (Txt.join a ys)) H := fun {sep p vs es} o hp tv e => by
    obtain ⟨ls, e1, e2⟩ := Option.bind_eq_some_iff.mp e
    by_cases z : okJoin sep ls = true
    · rw [if_pos z] at e2
      cases e2
      obtain ⟨rfl, hl⟩ := strs_of tv e1
      have z' : (ls.map (·.length)).sum + ls.length * sep.length ≤ 1048576 := of_decide_eq_true z
      refine ⟨_, p, ls.map mkS, rfl, rfl, hp, ?_, ?_⟩
      · have e3 : ((ls.map mkS).map (·.length)) = ls.map (·.length) := by rw [List.map_map]; rfl
        rw [e3, List.length_map]
        exact Nat.le_trans z' (by decide)
      · rw [join_mk]
        refine q H _ Keep.refl I.at_ (.str ⟨Nat.le_trans (joinL_len ls) z', fun c hc => ?_⟩)
        rcases joinL_mem ls hc with h | ⟨l, h1, h2⟩
        · exact o.2 c h
        · exact (hl l h1).2 c h2
    · rw [if_neg z] at e2; cases e2
  match dx, ds, e with
  | .str sep, [.lst es], e =>
    cases hx with
    | str o =>
      obtain ⟨y, rfl, hy⟩ := t.one
      obtain ⟨p, vs, rfl, n, r, tv⟩ := hy.of_lst
      exact fin o (.inl (.of r)) tv e
  | .str sep, [.tup es], e =>
    cases hx with
    | str o =>
      obtain ⟨y, rfl, hy⟩ := t.one
      obtain ⟨p, vs, rfl, n, r, tv⟩ := hy.of_tup
      exact fin o (.inr (.of r)) tv e
theorem pd_join {apos cpos : Pos} (ho : PD X C W o sa de) (ha : PAd X C W [e] sb dl)
    (hbase : attributeBase o "join" X.env (eval o X.env) = eval o X.env := by rfl)
    (hfew : ((backTo cpos (starEach [e] X.env)).all (fun x => !x.1) && (backToKw cpos (keywordEach [] X.env)).all (fun x => x.1.isSome) && decide ([e].length + ([] : List Keyword).length + (if ([] : List Keyword).isEmpty then 0 else 1) < 30)) = true := by rfl)
    (hline : (apos.endLine == cpos.line) = true := by rfl) (hs : starEach [e] X.env = (false, eval e X.env) :: starEach [] X.env := by rfl) (hplain : (backTo cpos (starEach [] X.env)).any (·.1) = false := by rfl) :
    PD X C W (.Call (.Attribute o "join" apos) [e] [] cpos) (sa ++ sb) (dMb joinD de dl) := pd_mb PySem.F.slot_str_join PySem.F.type_str_join mt_join md_join ho ha hbase hfew hline hs hplain
end
end Mir

set_option Elab.async false
set_option linter.all false
set_option maxRecDepth 100000
set_option maxHeartbeats 2000000
namespace Mir
open PySem PySem.Spec L2
open PyProof.Rows hiding St

/-! ### x[::-1] of a list, a tuple, a text -/
section
variable {prog : Program} {w : World} {A : Around} {E : Value → Shared → Prop} {s : Shared}
theorem back_at (n : Nat) : Builtin.Slice.sliceAdjust none none (-1) (n : Int) = ((n : Int) - 1, -1) := by
  simp [Builtin.Slice.sliceAdjust]
theorem back_many (n : Nat) : Builtin.Slice.slicePlaces ((n : Int) - 1) (-1) (-1) = n := by
  unfold Builtin.Slice.slicePlaces
  rw [if_neg (by decide)]
  split
  · rw [show (- (-1) : Int) = 1 from rfl, Int.ediv_one]; omega
  · omega
theorem fm_congr {α β : Type} {f g : α → Option β} {l : List α} (h : ∀ a ∈ l, f a = g a) : l.filterMap f = l.filterMap g := by
  induction l with
  | nil => rfl
  | cons a r ih => rw [List.filterMap_cons, List.filterMap_cons, h a (.head _), ih fun b hb => h b (.tail _ hb)]
theorem back_all (xs : Array Value) : ((List.range xs.size).filterMap fun (k : Nat) => xs[((xs.size : Int) - 1 + (k : Int) * -1).toNat]?) = xs.toList.reverse := by
  have e : ((List.range xs.size).filterMap fun (k : Nat) => xs[((xs.size : Int) - 1 + (k : Int) * -1).toNat]?) = ((List.range xs.size).map fun k => xs.size - 1 - k).filterMap (xs[·]?) := by
    rw [List.filterMap_map]
    refine fm_congr fun k hk => ?_
    have := List.mem_range.mp hk
    have e : ((xs.size : Int) - 1 + (k : Int) * -1).toNat = xs.size - 1 - k := by omega
    rw [e]
    rfl
  rw [e, PySem.W.krv_range, List.filterMap_reverse, PySem.W.krv_all]
theorem getItem_back {t sl : Addr} {items : Array Value} {u : Tok} {Q : Value → Shared → Prop} (ht : IsTup s.heap t items) (hs : s.heap.IsSliceOf sl .none .none (.int (-1) u)) (hz : items.size ≤ sizeLine)
    (h : Q (.ref s.heap.objs.size) { s with heap := s.heap.push { cls := .type "tuple", data := .seq items.toList.reverse.toArray } }) : wpAny (model prog w) A (getItem (.ref t) (.ref sl)) Q E s := by
  have ok : sizeOk (.seq items.toList.reverse.toArray) := by
    show items.toList.reverse.toArray.size ≤ sizeLine
    simpa using hz
  obtain ⟨o, e1, e2, e3⟩ := id hs
  have ts : s.TypeIs (.ref sl) "slice" := ⟨o, e1, e2⟩
  unfold getItem
  try with_reducible refine wpAny_holding ?_
  first | refine wpAny_bind (wpAny_pure ?_) | skip
  refine wpAny_bind (wpAny_sequenceKey ht.typeIs (by decide) ?_)
  refine wpAny_bind ?_
  refine wpAny_callSpecial?_slot (name := Str.ofString "__getitem__") ht.typeIs slot_tuple_getitem ?_
  refine wpAny_call_entry slot_tuple_getitem ht.typeIs entry_tuple_getitem ?_ (args_tuple_getitem _ _)
  show wpAny _ _ (Builtin.Tuple.tupleItemsOf (.ref t) >>= _) _ _ s
  refine wpAny_bind (tupleItemsOf_ ht (wpAny_bind (wpAny_typeOf ts ?_)))
  rw [if_pos (by decide)]
  refine wpAny_bind ?_
  unfold Builtin.Slice.sliceApplied Builtin.Slice.sliceFields
  refine wpAny_bind (wpAny_bind (wpAny_field e1 e3 (x := .none) rfl ?_))
  refine wpAny_bind (wpAny_field e1 e3 (x := .none) rfl ?_)
  refine wpAny_bind (wpAny_field e1 e3 (x := .int (-1) u) rfl (wpAny_pure ?_))
  refine wpAny_bind (HT.slicePart_ (.int (-1) u) ?_)
  show wpAny _ _ (if ((-1 : Int) == 0) = true then _ else _) _ _ s
  rw [if_neg (by decide)]
  refine wpAny_bind (HT.slicePart_ .none (wpAny_bind (HT.slicePart_ .none (wpAny_bind (wpAny_pure ?_)))))
  show wpAny _ _ (match Builtin.Slice.sliceAdjust none none (-1) (items.size : Int) with | (lo, hi) => pure (lo, (-1 : Int), Builtin.Slice.slicePlaces lo hi (-1))) _ _ s
  rw [back_at]
  show wpAny _ _ (pure (((items.size : Int) - 1), (-1 : Int), Builtin.Slice.slicePlaces ((items.size : Int) - 1) (-1) (-1))) _ _ s
  rw [back_many]
  refine wpAny_pure ?_
  have no : ¬ ((((items.size : Int) - 1) == 0 && (-1 : Int) == 1 && items.size == items.size) = true) := by simp
  show wpAny _ _ (if (((items.size : Int) - 1) == 0 && (-1 : Int) == 1 && items.size == items.size) = true then _ else _) _ _ s
  rw [if_neg no, back_all]
  first
    | exact wpAny_bind (m := Builtin.Tuple.tupleExact _) (wpAny_newObj_type (wpAny_pure ⟨_, rfl, wpAny_pure h⟩) ok)
    | exact wpAny_bind (m := Builtin.Tuple.tupleExact _) (wpAny_newObj_type (wpAny_bind (wpAny_pure (wpAny_pure ⟨_, rfl, wpAny_pure h⟩))) ok)
    | exact wpAny_bind (wpAny_bind (m := Builtin.Tuple.tupleExact _) (wpAny_newObj_type (wpAny_pure (wpAny_pure ⟨_, rfl, wpAny_pure h⟩)) ok))
    | exact wpAny_bind (wpAny_bind (m := Builtin.Tuple.tupleExact _) (wpAny_newObj_type (wpAny_pure ⟨_, rfl, wpAny_pure h⟩) ok))
end
theorem back_str (l : List Nat) : ((Builtin.Str.strSliceIndices none none (-1) l.length).filterMap (l.toArray[·]?)) = l.reverse := by
  have e : Builtin.Str.strSliceIndices none none (-1) l.length = ((List.range l.length).map fun k => l.length - 1 - k) := PySem.W.krv_sliceRange l.length
  have := PySem.W.krv_all l.toArray
  rw [List.size_toArray] at this
  rw [e, PySem.W.krv_range, List.filterMap_reverse, this]
def tBack (K : PySem.W.Frag) (te : TE) : TE := fun σ H Q => te σ H fun x H1 => (∃ a xs, x = .ref a ∧ SqL K H1 a xs ∧ ∀ p, H1 p = none → Q (.ref p) (upd H1 p (.lst xs.reverse))) ∨
  (∃ a xs, x = .ref a ∧ SqT K H1 a xs ∧ ∀ p, H1 p = none → Q (.ref p) (upd H1 p (.tup xs.reverse))) ∨ ∃ l : List Nat, x = .str (mkS l) ∧ l.length ≤ sizeLine ∧ Q (.str (mkS l.reverse)) H1
theorem pe_back {X : Cx} {e : Expr} {te : TE} {k : Nat} {p1 p2 p3 pos : Pos} (he : PE X e te) : PE X (.Subscript e (.Slice none none (some (.UnaryOp .USub (.Constant (.int 1) k p1) p2)) p3) pos) (tBack X.K te) := by
  refine ⟨fun pins s σ H Q I h => Subscript_ (thn (he.run pins s σ H _ I h) fun v s1 ⟨x, H1, I1, r1, q1⟩ => ?_)⟩
  have st : PO X (some (.UnaryOp .USub (.Constant (.int 1) k p1) p2)) (tPart (tUn (rU fun i => .int (-i)) (tC (.int 1)))) := po_some (pe_un un_neg pe_int)
  refine wpAny_Slice (thn (po_none.run pins s1 σ H1 (fun o H2 => o = none ∧ H2 = H1) I1 ⟨rfl, rfl⟩) fun vl s2 ⟨l, H2, I2, pl, el, e2⟩ => ?_)
  cases el
  cases e2
  refine thn (po_none.run pins s2 σ H1 (fun o H3 => o = none ∧ H3 = H1) I2 ⟨rfl, rfl⟩) fun vu s3 ⟨u, H3, I3, pu, eu, e3⟩ => ?_
  cases eu
  cases e3
  refine thn (st.run pins s3 σ H1 (fun o H4 => o = some (-1) ∧ H4 = H1) I3 ⟨1, rfl, -1, rfl, rfl, rfl⟩) fun vs s4 ⟨o, H4, I4, ps, eo, e4⟩ => ?_
  cases eo
  cases e4
  have I5 : Inv X pins σ H1 { s4 with heap := s4.heap.push { cls := .type "slice", data := .fields #[vl, vu, vs] } } := I4.kept (t' := s4.toks) fun b ob q => Heap.get?_push_of_some _ q
  cases pl
  cases pu
  obtain ⟨tk, rfl⟩ : ∃ tk, vs = .int (-1) tk := by cases ps with | int _ tk => exact ⟨tk, rfl⟩
  show wpAny (model X.prog X.w) X.A (subscriptTail e (.Slice none none (some (.UnaryOp .USub (.Constant (.int 1) k p1) p2)) p3) v (.ref s4.heap.objs.size)) (EP X pins σ Q) X.xe { s4 with heap := s4.heap.push { cls := .type "slice", data := .fields #[.none, .none, .int (-1) tk] } }
  rcases q1 with ⟨a, xs, rfl, hx, q⟩ | ⟨a, xs, rfl, hx, q⟩ | ⟨l, rfl, hz, q⟩
  · cases r1
    obtain ⟨its, r, ht, hz⟩ := I5.list hx
    have hlen := r.length
    refine tail_any (ops := [.ref a, .ref s4.heap.objs.size]) ht.isList.typeIs (PySem.slot_list_getitem.lookup) ?_ (by with_unfolding_all rfl)
    refine wpAny_getItem_list_slice ht.isList (Heap.IsSliceOf.new _ _ _ _) .none .none (.int (-1) tk) (by decide) ?_ (by rw [List.size_toArray]; omega)
    rw [PySem.W.krv_pick]
    refine ⟨.ref _, _, I5.laid (t' := s4.toks) (o := .lst xs.reverse) (fun b ob q => Heap.get?_push_of_some _ q) (Nat.le_refl _) ?_, rfl, q _ (I5.hok.fresh (Nat.le_refl _))⟩
    exact ⟨by rw [List.length_reverse]; exact hz, _, 0, r.reverse, Heap.get?_push_size _ rfl⟩
  · cases r1
    obtain ⟨its, r, ht, hz⟩ := I5.tuple hx
    have hlen := r.length
    refine tail_any (ops := [.ref a, .ref s4.heap.objs.size]) ht.typeIs (slot_tuple_getitem.lookup) ?_ (by with_unfolding_all rfl)
    refine getItem_back ht (Heap.IsSliceOf.new _ _ _ _) (by rw [List.size_toArray]; omega) ?_
    refine ⟨.ref _, _, I5.laid (t' := s4.toks) (o := .tup xs.reverse) (fun b ob q => Heap.get?_push_of_some _ q) (Nat.le_refl _) ?_, rfl, q _ (I5.hok.fresh (Nat.le_refl _))⟩
    exact ⟨by rw [List.length_reverse]; exact hz, _, r.reverse, ⟨_, Heap.get?_push_size _ rfl, rfl, _, rfl⟩⟩
  · obtain ⟨t, rfl⟩ := r1
    refine tail_any (ops := [.str (mkS l) t, .ref s4.heap.objs.size]) (typeIs_str _ _ _) (PySem.F.slot_str_getitem.lookup) ?_ (by with_unfolding_all rfl)
    refine wpAny_getItem_str_slice (l := none) (u := none) (st := some (-1, tk)) ⟨_, Heap.get?_push_size _ rfl, rfl, rfl⟩ rfl ?_
    have e : sliceMade (mkS l) t none none (some (-1, tk)) = .str (mkS l.reverse) := by
      unfold sliceMade slicePicked
      have h1 : ¬ ((((some ((-1 : Int), tk)).map (·.1)).getD 1 == 1 && (Builtin.Str.strSliceIndices ((none : Option (Int × Tok)).map (·.1)) ((none : Option (Int × Tok)).map (·.1)) (((some ((-1 : Int), tk)).map (·.1)).getD 1) (mkS l).length).length == (mkS l).length) = true) := by
        show ¬ (((-1 : Int) == 1 && _) = true)
        simp
      rw [if_neg h1]
      show Made.str ⟨((Builtin.Str.strSliceIndices none none (-1) l.length).filterMap (l.toArray[·]?)).toArray⟩ = _
      rw [back_str]
    rw [e]
    refine ⟨by show l.reverse.toArray.size ≤ sizeLine; simpa using hz, ?_⟩
    exact ⟨.str _, H1, I5.tok _, ⟨_, rfl⟩, q⟩
end Mir

set_option Elab.async false
set_option linter.all false
set_option maxRecDepth 100000
set_option maxHeartbeats 2000000
namespace Mir
open PySem PySem.Spec L2
open PyProof.Rows hiding St

/-! ### text * int, tuple * int, list * int -/
/-- the tuple as it stands on the heap -/
abbrev tupAt (s : Shared) (l : Addr) (its : Array Value) (n : Nat) (dd : Option Addr) (sl : Array (Option Value)) : Prop := s.heap.get? l = some { cls := .type "tuple", dict := dd, data := .seq its n, slots := sl }
theorem tup_once (l : Addr) (its : Array Value) (n : Nat) (dd : Option Addr) (sl : Array (Option Value)) (u : Tok) : Meets (Builtin.«tuple.__mul__» ⟨[.ref l, .int 1 u], []⟩) (fun _ R s => tupAt s l its n dd sl ∧ R (.ok (.ret (Value.ref l))) s) :=
  .of_wp fun prog w A R st hs => by
    obtain ⟨p1, p2, p3, p4, p5⟩ := st
    obtain ⟨at_, fin⟩ := hs
    have index := AutoSeq1.idx_int
    have w1 : (its.isEmpty || (1 : Int) == 1) = true := by simp
    wp_walk using wpAny_loadPart' at_
    repeat (first
      | (refine wpAny_ite_true (decide_eq_true w1) ?_; wp_walk using wpAny_loadPart' at_)
      | (refine wpAny_ite_true (by simp) ?_; wp_walk using wpAny_loadPart' at_)
      | (refine wpAny_ite_false (by simp) ?_; wp_walk using wpAny_loadPart' at_))
    exact ⟨_, rfl, fin⟩
theorem tup_never (l : Addr) (its : Array Value) (n : Nat) (dd : Option Addr) (sl : Array (Option Value)) (k : Int) (u : Tok) (w0 : (decide (k < -(2 ^ 63)) || decide (k ≥ 2 ^ 63)) = false) (w1 : (its.isEmpty || k == 1) = false) (w2 : (decide (k ≤ 0) || its.isEmpty) = true) :
    Meets (Builtin.«tuple.__mul__» ⟨[.ref l, .int k u], []⟩) (fun _ R s => tupAt s l its n dd sl ∧ R (.ok (.ret (Value.ref s.heap.objs.size))) { s with heap := s.heap.push { cls := Value.type "tuple", data := Data.seq #[] }, toks := s.toks }) :=
  .of_wp fun prog w A R st hs => by
    obtain ⟨p1, p2, p3, p4, p5⟩ := st
    obtain ⟨at_, fin⟩ := hs
    have index := AutoSeq1.idx_int
    have n0 : ¬ ((decide (k < -(2 ^ 63)) || decide (k ≥ 2 ^ 63)) = true) := by rw [w0]; exact Bool.false_ne_true
    have n1 : ¬ ((its.isEmpty || k == 1) = true) := by rw [w1]; exact Bool.false_ne_true
    wp_walk using wpAny_loadPart' at_
    repeat (first
      | (refine wpAny_ite_false (decide_eq_false n0) ?_; wp_walk using wpAny_loadPart' at_)
      | (refine wpAny_ite_false (decide_eq_false n1) ?_; wp_walk using wpAny_loadPart' at_)
      | (refine wpAny_ite_true (decide_eq_true w2) ?_; wp_walk using wpAny_loadPart' at_))
    exact ⟨_, rfl, fin⟩
def rTimes (K : PySem.W.Frag) : R2 := fun x y H Q => ∃ l k xs, x = .ref l ∧ y = .int k ∧ SqT K H l xs ∧ xs ≠ [] ∧ -1000 ≤ k ∧ k ≤ 1000 ∧ xs.length ≤ 1000 ∧ (k = 1 → Q (.ref l) H) ∧ (k ≠ 1 → ∀ p, H p = none → Q (.ref p) (upd H p (.tup (List.replicate k.toNat xs).flatten)))
theorem op_times {X : Cx} : OpR X (binaryOp .Mult) (rTimes X.K) := by
  intro pins s σ H x y v u Q I rx ry h
  obtain ⟨l, k, xs, ex, ey, hT, hne, k0, k1, hz, q1, q2⟩ := h
  by_cases two : 2 ≤ k
  · exact op_repT pins s σ H x y v u Q I rx ry ⟨l, k, xs, ex, ey, hT, hne, two, k1, hz, q2 (by omega)⟩
  · subst ex ey
    cases rx
    obtain ⟨t, rfl⟩ := ry
    obtain ⟨its, r, ⟨⟨c, dd, dt, sl⟩, ho, hc, n, hd⟩, hs⟩ := I.tuple hT
    dsimp only at hc hd
    subst hc hd
    have hi : its.toArray.isEmpty = false := by
      cases its with
      | nil => exact absurd (List.eq_nil_of_length_eq_zero r.length) hne
      | cons a b => rfl
    have w0 : (decide (k < -(2 ^ 63)) || decide (k ≥ 2 ^ 63)) = false := by rw [decide_eq_false (by omega), decide_eq_false (by omega)]; rfl
    refine wpAny_binaryOp_repeat_ref (T := "tuple") (U := "int") (by decide) ⟨_, ho, rfl⟩ (fun s' => typeIs_int s' k t) noFill_tuple_mul PySem.F.fills_int_mul PySem.F.slot_int_rmul repeat_tuple PySem.F.slot_int_index.lookup ?_
    refine call_meets PySem.F.slot_int_rmul (typeIs_int s k t) PySem.F.entry_int_rmul (PySem.F.args_int_rmul_2 _ _) (int_rmul_tuple k t l its.toArray n dd sl) ⟨ho, rfl, ⟨_, ho, rfl⟩, ?_⟩
    by_cases one : k = 1
    · subst one
      exact call_meets PySem.F.slot_tuple_mul ⟨_, ho, rfl⟩ PySem.F.entry_tuple_mul (PySem.F.args_tuple_mul_2 _ _) (tup_once l its.toArray n dd sl t) ⟨ho, ⟨.ref l, H, I, rfl, q1 rfl⟩⟩
    · refine call_meets PySem.F.slot_tuple_mul ⟨_, ho, rfl⟩ PySem.F.entry_tuple_mul (PySem.F.args_tuple_mul_2 _ _) (tup_never l its.toArray n dd sl k t w0 (by rw [hi, Bool.false_or]; exact beq_eq_false_iff_ne.mpr one) (by rw [decide_eq_true (by omega), Bool.true_or])) ⟨ho, ?_⟩
      have e : (List.replicate k.toNat xs).flatten = [] := by rw [show k.toNat = 0 by omega]; rfl
      have q2 := q2 one
      rw [e] at q2
      refine ⟨.ref s.heap.objs.size, _, I.laid (t' := s.toks) (o := .tup []) (fun b ob q => Heap.get?_push_of_some _ q) (Nat.le_refl _) ?_, rfl, q2 _ (I.hok.fresh (Nat.le_refl _))⟩
      exact ⟨Nat.zero_le _, [], .nil, IsTup.new _ _⟩
theorem fold_rep {l : List Nat} : ∀ (m : Nat) (a : Array Nat), (List.replicate m l.toArray).foldl (· ++ ·) a = (a.toList ++ (List.replicate m l).flatten).toArray
  | 0, a => by simp
  | m + 1, a => by
    rw [List.replicate_succ, List.foldl_cons, fold_rep m, List.replicate_succ, List.flatten_cons]
    simp
theorem text_mul {l : List Nat} {k : Int} : Txt.mul (mkS l) k = mkS (List.replicate k.toNat l).flatten := by
  unfold Txt.mul
  by_cases h1 : k < 1
  · rw [if_pos h1, show k.toNat = 0 by omega]; rfl
  · rw [if_neg h1]
    by_cases h2 : (k == 1 || (mkS l).length == 0) = true
    · rw [if_pos h2]
      rw [Bool.or_eq_true, beq_iff_eq, beq_iff_eq] at h2
      rcases h2 with h2 | h2
      · subst h2; simp
      · have e : l = [] := List.eq_nil_of_length_eq_zero h2
        subst e
        simp
    · rw [if_neg h2]
      show Str.mk ((List.replicate k.toNat l.toArray).foldl (· ++ ·) #[]) = _
      rw [fold_rep]
      rfl
theorem op_textTimes {X : Cx} : OpR X (binaryOp .Mult) (fun x y H Q => ∃ (l : List Nat) (k : Int), x = .str (mkS l) ∧ y = .int k ∧ -1000 ≤ k ∧ k ≤ 1000 ∧ l.length ≤ 1000 ∧ Q (.str (mkS (List.replicate k.toNat l).flatten)) H) := by
  intro pins s σ H x y v u Q I rx ry h
  obtain ⟨l, k, rfl, rfl, k0, k1, hl, q⟩ := h
  obtain ⟨t, rfl⟩ := rx
  obtain ⟨t', rfl⟩ := ry
  have hlen : (mkS l).length = l.length := rfl
  refine PySem.SB.mul (x := mkS l) ⟨?_, fun h1 h2 => ?_, fun h1 h2 => ?_⟩ fun t2 k2 => ?_
  · rw [decide_eq_false (by omega), decide_eq_false (by omega)]; rfl
  · rw [hlen]
    have : (1000 : Int) ≤ (2 ^ 63 - 1) / k := Int.le_ediv_of_mul_le (by omega) (by omega)
    omega
  · rw [hlen]
    have a1 : l.length * k.toNat ≤ 1000 * 1000 := Nat.mul_le_mul hl (by omega)
    unfold Builtin.Str.tooLong
    rw [sizeLine_eq]
    exact decide_eq_false (by omega)
  · rw [text_mul]
    exact ⟨.str _, H, I.tok _, ⟨_, rfl⟩, q⟩
end Mir

set_option Elab.async false
set_option linter.all false
set_option maxRecDepth 100000
set_option maxHeartbeats 2000000
namespace Mir
open PySem PySem.Spec L2
open PyProof.Rows hiding St
section
variable {S : Type} {C : Deck S} {X : Cx} {W : WX} {A0 A A' : Addr → Prop} {H0 H H' B : Hp} {σ : St} {ρ : En} {st st' : S}
variable {e a b c o tg iter elt : Expr} {es rest ifs : List Expr} {pos p p1 p2 p3 : Pos} {sc sc' sa sb vs : List Nat} {de da db dc : DE S} {dt dt' du : DT S} {dl di dj dk : DA S} {ds ds' : DS S} {mg : Str → Option Value} {DD : Ends} {xs ys : List Stmt} {dv dw : E1 S Sl}
/-! ### backwards -/
def revD : D → Option D
  | .lst ds => some (.lst ds.reverse)
  | .tup ds => some (.tup ds.reverse)
  | .str l => some (.str l.reverse)
  | _ => none
theorem Dats.back {vs : List V} {ds : List D} (t : Dats C H A vs ds) : Dats C H A vs.reverse ds.reverse where
  len := by simp [t.len]
  at_ := fun i x d e1 e2 => by
    have h1 : i < vs.reverse.length := (List.getElem?_eq_some_iff.mp e1).1
    have h2 : i < ds.reverse.length := (List.getElem?_eq_some_iff.mp e2).1
    rw [List.length_reverse] at h1 h2
    rw [List.getElem?_reverse h1] at e1
    rw [List.getElem?_reverse h2] at e2
    rw [t.len] at e1
    exact t.at_ _ x d e1 e2
theorem pd_rev {k : Nat} (h : PD X C W e sc de) : PD X C W (.Subscript e (.Slice none none (some (.UnaryOp .USub (.Constant (.int 1) k p1) p2)) p3) pos) sc (dUn revD de) :=
  pd_of (pe_back h) fun A0 H0 A ρ st σ H Q I g => ⟨A0, H0, A, ρ, st, I, g.bind.imp fun d s1 H1 k1 t1 g1 v dv => by
    obtain ⟨d', e', q⟩ := g1.ofO
    have V1 := (I.next k1 t1).vat sc
    cases d <;> simp only [revD] at e' <;> cases e'
    case str l =>
      cases dv with
      | str o => exact .inr (.inr ⟨l, rfl, by rw [line_eq]; have := o.1; omega, q H1 Keep.refl t1 _ (.str ⟨by rw [List.length_reverse]; exact o.1, fun c hc => o.2 c (List.mem_reverse.mp hc)⟩)⟩)
    case tup ds =>
      obtain ⟨p, xs, rfl, n, r, t⟩ := dv.of_tup
      refine .inr (.inl ⟨p, xs, rfl, .of r, fun p' hp => ?_⟩)
      obtain ⟨k, t', n'⟩ := V1.new (o := .tup xs.reverse) hp
      exact q _ k t' _ (Dat.tup_mk n' upd_same (t.back.keep k V1.dom))
    case lst ds =>
      obtain ⟨p, xs, rfl, n, r, t⟩ := dv.of_lst
      refine .inl ⟨p, xs, rfl, .of r, fun p' hp => ?_⟩
      obtain ⟨k, t', n'⟩ := V1.new (o := .lst xs.reverse) hp
      exact q _ k t' _ (Dat.lst_mk n' upd_same (t.back.keep k V1.dom))⟩
/-! ### times -/
def okT (k : Int) (n : Nat) : Bool := decide (-1000 ≤ k) && decide (k ≤ 1000) && decide (n ≤ 1000) && decide (n * k.toNat ≤ 65536)
theorem okT_of {k : Int} {n : Nat} (h : okT k n = true) : -1000 ≤ k ∧ k ≤ 1000 ∧ n ≤ 1000 ∧ n * k.toNat ≤ 65536 := by
  unfold okT at h
  simpa [Bool.and_eq_true, and_assoc] using h
def many {α : Type} (k : Int) (l : List α) : List α := (List.replicate k.toNat l).flatten
theorem many_len {α : Type} {k : Int} {l : List α} : (many k l).length = l.length * k.toNat := by
  unfold many
  simp [Nat.mul_comm]
theorem many_mem {α : Type} {k : Int} {l : List α} {x : α} (h : x ∈ many k l) : x ∈ l := by
  obtain ⟨y, h1, h2⟩ := List.mem_flatten.mp h
  rw [(List.mem_replicate.mp h1).2] at h2
  exact h2
theorem Dats.many {vs : List V} {ds : List D} (t : Dats C H A vs ds) : ∀ n : Nat, Dats C H A (List.replicate n vs).flatten (List.replicate n ds).flatten
  | 0 => .nil
  | n + 1 => by
    rw [List.replicate_succ, List.replicate_succ, List.flatten_cons, List.flatten_cons]
    exact t.append (Dats.many t n)
def repD : D → D → Option D
  | .str l, .int k => if okT k l.length then some (.str (many k l)) else none
  | .tup ds, .int k => if okT k ds.length && !ds.isEmpty then some (.tup (many k ds)) else none
  | .lst ds, .int k => if okT k ds.length then some (.lst (many k ds)) else none
  | _, _ => none
def rRepD (K : PySem.W.Frag) : R2 := fun x y H Q => (∃ (l : List Nat) (k : Int), x = .str (mkS l) ∧ y = .int k ∧ -1000 ≤ k ∧ k ≤ 1000 ∧ l.length ≤ 1000 ∧ Q (.str (mkS (List.replicate k.toNat l).flatten)) H) ∨ rTimes K x y H Q ∨ rRep x y H Q
theorem opr_rep : OpR X (binaryOp .Mult) (rRepD X.K) := op_textTimes.or (op_times.or op_rep)
theorem od_rep {K : PySem.W.Frag} : OpD C (rRepD K) repD := by
  intro A s H x y dx dy d Q I h1 h2 e q
  cases dy with
  | int k =>
    cases h2
    cases dx <;> simp only [repD] at e <;> try cases e
    case str l =>
      by_cases z : okT k l.length = true
      · rw [if_pos z] at e
        cases e
        obtain ⟨z1, z2, z3, z4⟩ := okT_of z
        cases h1 with
        | str o => exact .inl ⟨l, k, rfl, rfl, z1, z2, z3, q H _ Keep.refl I.at_ (.str ⟨by have := many_len (k := k) (l := l); unfold many at this; rw [this]; omega, fun c hc => o.2 c (many_mem (k := k) hc)⟩)⟩
      · rw [if_neg z] at e; cases e
    case tup ds =>
      by_cases z : (okT k ds.length && !ds.isEmpty) = true
      · rw [if_pos z] at e
        cases e
        rw [Bool.and_eq_true] at z
        obtain ⟨z1, z2, z3, z4⟩ := okT_of z.1
        obtain ⟨p, xs, rfl, n, r, t⟩ := h1.of_tup
        refine .inr (.inl ⟨p, k, xs, rfl, rfl, .of r, fun ex => ?_, z1, z2, by rw [t.len]; exact z3, fun one => ?_, fun _ p' hp => ?_⟩)
        · have : ds = [] := List.length_eq_zero_iff.mp (by rw [← t.len, ex]; rfl)
          rw [this] at z
          exact absurd z.2 (by simp)
        · subst one
          have e1 : many 1 ds = ds := by unfold many; simp
          rw [e1] at q
          exact q H _ Keep.refl I.at_ h1
        · obtain ⟨k', t', n'⟩ := I.new (o := .tup (List.replicate k.toNat xs).flatten) hp
          exact q _ _ k' t' (Dat.tup_mk n' upd_same ((t.many _).keep k' I.dom))
      · rw [if_neg z] at e; cases e
    case lst ds =>
      by_cases z : okT k ds.length = true
      · rw [if_pos z] at e
        cases e
        obtain ⟨z1, z2, z3, z4⟩ := okT_of z
        obtain ⟨p, xs, rfl, n, r, t⟩ := h1.of_lst
        refine .inr (.inr ⟨p, k, xs, rfl, rfl, r, by omega, by omega, by rw [t.len, line_eq]; omega, fun p' hp => ?_⟩)
        obtain ⟨k', t', n'⟩ := I.new (o := .lst (List.replicate k.toNat xs).flatten) hp
        exact q _ _ k' t' (Dat.lst_mk n' upd_same ((t.many _).keep k' I.dom))
      · rw [if_neg z] at e; cases e
  | _ => cases dx <;> cases e
theorem pd_rep (ha : PD X C W a sa da) (hb : PD X C W b sb db) : PD X C W (.BinOp a .Mult b pos) (sa ++ sb) (dBin repD da db) := pd_bin opr_rep od_rep ha hb
/-- x * y, ints or a text, a tuple, a list by an int -/
def timesD (x y : D) : Option D := (mulI x y).or (repD x y)
theorem pd_times (ha : PD X C W a sa da) (hb : PD X C W b sb db) : PD X C W (.BinOp a .Mult b pos) (sa ++ sb) (dBin timesD da db) := pd_bin (f := timesD) (op_mul.or opr_rep) (OpD.or (od_int _ mulOk_c) od_rep) ha hb
/-! ### fresh lists of two -/
def dBinL (f : D → D → Option (List D)) (da db : DE S) : DA S := fun ρ s => (da ρ s).bind fun x s1 => (db ρ s1).bind fun y s2 => ofO s2 (f x y)
def catL : D → D → Option (List D)
  | .lst x, .lst y => if x.length + y.length ≤ 65536 then some (x ++ y) else none
  | _, _ => none
def repL : D → D → Option (List D)
  | .lst ds, .int k => if okT k ds.length then some (many k ds) else none
  | _, _ => none
theorem tOp_l {f : D → D → Option (List D)} {r : R2} (I : SAt C A0 H0 A H σ ρ st) {Q : VK} (hr : ∀ (A : Addr → Prop) (H : Hp) (x y : V) (dx dy : D) (ds : List D) (Q : VK), Dat C H A x dx → Dat C H A y dy → f dx dy = some ds → (∀ p xs, H p = none → Dats C H A xs ds → xs.length ≤ sizeLine → Q (.ref p) (upd H p (.lst xs))) → r x y H Q)
    (g : RG C X.mg W σ H (dBinL f da db ρ st) fun ds _ H1 => ∀ p xs, H1 p = none → Dats C H1 (Amin A σ ρ (sa ++ sb)) xs ds → xs.length ≤ sizeLine → Q (.ref p) (upd H1 p (.lst xs))) : tOp r (cte C X.mg W sa da) (cte C X.mg W sb db) σ H Q :=
  ⟨A0, H0, A, ρ, st, I, g.bind.imp fun d s1 H1 k1 t1 g1 v dv => by
    have I1 := I.next k1 t1
    refine ⟨A0, H0, A, ρ, s1, I1, g1.bind.imp fun d2 s2 H2 k2 t2 g2 v2 dv2 => ?_⟩
    obtain ⟨d3, e3, q⟩ := g2.ofO
    exact hr (Amin A σ ρ (sa ++ sb)) H2 v v2 d d2 d3 Q ((dv.keep k2 (I1.dom0 sa)).less fun _ => Amin.more fun i hi => List.mem_append_left _ hi) (dv2.less fun _ => Amin.more fun i hi => List.mem_append_right _ hi) e3
      (q H2 Keep.refl t2)⟩
theorem pf_cat (ha : PD X C W a sa da) (hb : PD X C W b sb db) : PF X C W (.BinOp a .Add b pos) (sa ++ sb) (dBinL catL da db) :=
  pf_of (pe_op op_cat ha hb) fun A0 H0 A ρ st σ H Q I g => tOp_l I (fun A H x y dx dy ds Q h1 h2 e q => by
    cases dx <;> cases dy <;> simp only [catL] at e <;> try cases e
    rename_i l1 l2
    by_cases z : l1.length + l2.length ≤ 65536
    · rw [if_pos z] at e
      cases e
      obtain ⟨p1, xs, rfl, n1, r1, t1⟩ := h1.of_lst
      obtain ⟨p2, ys, rfl, n2, r2, t2⟩ := h2.of_lst
      have hl : xs.length + ys.length ≤ sizeLine := by rw [t1.len, t2.len, line_eq]; omega
      exact ⟨p1, p2, xs, ys, rfl, rfl, r1, r2, hl, fun p hp => q p _ hp (t1.append t2) (by rw [List.length_append]; exact hl)⟩
    · rw [if_neg z] at e; cases e) g
theorem pf_rep (ha : PD X C W a sa da) (hb : PD X C W b sb db) : PF X C W (.BinOp a .Mult b pos) (sa ++ sb) (dBinL repL da db) :=
  pf_of (pe_op op_rep ha hb) fun A0 H0 A ρ st σ H Q I g => tOp_l I (fun A H x y dx dy ds Q h1 h2 e q => by
    cases dx <;> cases dy <;> simp only [repL] at e <;> try cases e
    rename_i l1 k
    by_cases z : okT k l1.length = true
    · rw [if_pos z] at e
      cases e
      obtain ⟨z1, z2, z3, z4⟩ := okT_of z
      obtain ⟨p, xs, rfl, n, r, t⟩ := h1.of_lst
      cases h2
      have hl : xs.length * k.toNat ≤ sizeLine := by rw [t.len, line_eq]; omega
      exact ⟨p, k, xs, rfl, rfl, r, by omega, by omega, hl, fun p hp => q p _ hp (t.many _) (by have := many_len (k := k) (l := xs); unfold many at this; rw [this]; exact hl)⟩
    · rw [if_neg z] at e; cases e) g
/-! ### sum -/
def intsOf : List D → Option (List Int)
  | [] => some []
  | .int i :: r => (intsOf r).map (i :: ·)
  | _ => none
def sumD : List D → Option D
  | [.lst ds] => (intsOf ds).map fun ns => .int ns.sum
  | _ => none
theorem ints_of {vs : List V} {ds : List D} {ns : List Int} (t : Dats C H A vs ds) (e : intsOf ds = some ns) : vs = ns.map V.int := by
  induction ds generalizing vs ns with
  | nil => cases e; rw [t.unnil]; rfl
  | cons d ds ih =>
    obtain ⟨x, r, rfl, h1, h2⟩ := t.uncons
    cases d <;> simp only [intsOf] at e <;> try cases e
    obtain ⟨l2, e2, rfl⟩ := Option.map_eq_some_iff.mp e
    cases h1
    rw [ih h2 e2]
    rfl
theorem cd_sum {K : PySem.W.Frag} : CallD C (rSum K) sumD := by
  intro A s H xs ds d Q I t e q
  match ds, e with
  | [.lst es], e =>
    obtain ⟨ns, e1, rfl⟩ := Option.map_eq_some_iff.mp e
    obtain ⟨x, rfl, hx⟩ := t.one
    obtain ⟨p, vs, rfl, n, r, tv⟩ := hx.of_lst
    have := ints_of tv e1
    subst this
    exact ⟨p, ns, rfl, .of r, q H _ Keep.refl I.at_ (.int _)⟩
theorem pd_sum (hc : X.calm = true) (hm : X.mg "sum" = none) (ha : PAd X C W [e] sc dl) (hg : Gl X "sum" := by rfl) (he : starEach [e] X.env = (false, eval e X.env) :: starEach [] X.env := by rfl) (hpl : (backTo pos (starEach [] X.env)).any (·.1) = false := by rfl) : PD X C W (.Call (.Name "sum" p) [e] [] pos) sc (dCallB sumD dl) :=
  pd_callB (cr_sum hc) cd_sum hm ha (by decide +kernel) hg (by decide) (by decide) he hpl
end
end Mir

set_option Elab.async false
set_option linter.all false
set_option maxRecDepth 100000
set_option maxHeartbeats 2000000
namespace Mir
open PySem PySem.Spec L2
open PyProof.Rows hiding St
section
variable {S : Type} {C : Deck S} {X : Cx} {W : WX} {A0 A A' : Addr → Prop} {H0 H H' B : Hp} {σ : St} {ρ : En} {st st' : S} {PC : Deck S → Prop}
variable {e a b c o tg iter elt : Expr} {es rest ifs : List Expr} {pos p p1 p2 p3 : Pos} {sc sc' sa sb vs : List Nat} {de da db dc : DE S} {dt dt' du : DT S} {dl di dj dk : DA S} {ds ds' : DS S} {mg : Str → Option Value} {DD : Ends} {xs ys : List Stmt} {dv dw : E1 S Sl}
/-! ### calls that leave defaults out -/
structure Fdf (P : Program) (w : World) (K : PySem.W.Frag) (mg : Str → Option Value) (base : Heap) (PC : Deck S → Prop) (x : Str) (k n : Nat) (m : List D → S → R S D) (a : Nat) (dd : List D) : Prop where
  ex : ∃ (f : Addr) (fd : FuncData) (ps : List Str) (dvs : List V) (ds : List Value), FnOk P w K mg base (L2.CX P w) k f fd ps (spOf mg PC n m) ∧ mg x = some (.ref f) ∧ PySem.W.keepIn K (.ref f) = true ∧ Binds K fd ps ds ∧ Vals dvs ds ∧ a + dd.length = n ∧
    ∀ (C : Deck S) (H : Hp) (A : Addr → Prop), Dats C H A dvs dd
def dCallD (m : List D → S → R S D) (dd : List D) (dl : DA S) : DE S := fun ρ s => (dl ρ s).bind fun ds s1 => m (ds ++ dd) s1
theorem pd_calld {x : Str} {k j n q : Nat} {m : List D → S → R S D} {dd : List D} (F : Fdf X.prog X.w X.K X.mg X.base PC x k n m q dd) (pc : PC C) (hr : Room j X.A) (hk : k ≤ j) (tk : Takes X W) (ha : PAd X C W (e :: es) sc dl) (hn : dLen q dl) (hg : Gl X x := by rfl) (hdb : (x == ("__debug__" : Str)) = false := by decide)
    (he : starEach (e :: es) X.env = (false, eval e X.env) :: starEach es X.env := by rfl) (hpl : (backTo pos (starEach es X.env)).any (·.1) = false := by rfl) : PD X C W (.Call (.Name x p) (e :: es) [] pos) sc (dCallD m dd dl) := by
  obtain ⟨f, fd, ps, dvs, dsv, F, hm, hkp, hb, hv, hq, hd⟩ := F.ex
  refine pd_of (pe_callSD F (hr.mono hk) hg hm hkp hb hv (fun σ => passAt tk σ) ha hdb he hpl) fun A0 H0 A ρ st σ H Q I g => ?_
  unfold dCallD at g
  have hn' := hn ρ st
  refine ⟨A0, H0, A, ρ, st, I, ?_⟩
  cases e1 : dl ρ st with
  | bad => rw [e1] at g; exact g
  | ex c s1 => rw [e1] at g; exact g
  | ok ds s1 =>
    rw [e1] at g
    simp only [R.bind_ok] at g
    exact fun H' k t vs dvs' => call_d (I.next k t) pc (by rw [List.length_append, hn' _ _ e1, hq]) (dvs'.append (hd C H' _)) (g.move k)
theorem fnokD_mk {P : Program} {w : World} {K : PySem.W.Frag} {mg : Str → Option Value} {base : Heap} {x : Str} {stm : Stmt} {f : Addr} {fd : FuncData} {N ps : List Str} {k : Nat} {ds : DS S} {dvs : List V} (F : FunD K x x (defArgs stm) (defBody stm) (defScope stm) dvs [] f fd) (sc : FnScope N ps (defScope stm))
    (body : ∀ (cdv : Value) (A : Around) (outer : List PySem.Env) (s : Shared) (H : Hp) (E : XK) (C : Deck S), PC C → Room k (A.deeper (envOfC x (defScope stm) s.heap.objs.size f cdv)) → PBd (cxOf (L2.CX P w) P w K mg base N x (defScope stm) f cdv A outer s H E) C (fun cls d _ H => E cls d H) (defBody stm) ds) :
    FnOk P w K mg base (L2.CX P w) (k + 1) f fd ps (spOf mg PC ps.length (mOf N.length ds)) := by
  refine F.ok sc (fun vs H Q E h => ?_) (fun cdv A outer s H vs Q E hr h => ?_)
  · obtain ⟨C, A, s, args, pc, V0, t, hl, g⟩ := h
    rw [t.len, hl]
  · obtain ⟨C, A1, s1, args, pc, V0, t, hl, g⟩ := h
    refine ⟨_, body cdv A outer s H E C pc hr, A1, H, A1, _, s1, start_sat V0 t, ?_⟩
    unfold mOf at g
    generalize ho : ds (args.map (fun d => some (.val d)) ++ List.replicate (N.length - args.length) none) s1 = o at g
    cases o with
    | rt d s' => exact fun H' v k a h => g H' v k a h
    | nx ρ s' => exact fun A' H' σ J => g H' .non J.keep J.at_ .non
    | ex c ρ s' => exact fun q A' H' σ m J => g q H' m J.keep J.at_
    | bk ρ s' => exact g.elim
    | ct ρ s' => exact g.elim
    | bad => exact g.elim
theorem fdf_ofok {P : Program} {w : World} {K : PySem.W.Frag} {mg : Str → Option Value} {base : Heap} {x : Str} {k n a : Nat} {m : List D → S → R S D} {f : Addr} {fd : FuncData} {ps : List Str} {dd : List D} {dvs : List V} (o : FnOk P w K mg base (L2.CX P w) k f fd ps (spOf mg PC n m)) (hg : mg x = some (.ref f)) (hk : PySem.W.keepIn K (.ref f) = true)
    (hb : ∃ ds, Vals dvs ds ∧ Binds K fd ps ds) (hq : a + dd.length = n) (hd : ∀ (C : Deck S) (H : Hp) (A : Addr → Prop), Dats C H A dvs dd) : Fdf P w K mg base PC x k n m a dd :=
  let ⟨ds, h1, h2⟩ := hb
  ⟨f, fd, ps, dvs, ds, o, hg, hk, h2, h1, hq, hd⟩
end
theorem funD_mk {K : PySem.W.Frag} {x qual : Str} {st : Stmt} {f T : Addr} {oc ocT : Value} {od an odT : Option Addr} {osl oslT : Array (Option Value)} {kV doc pm cdv ct : Value} {its : List Value} {n : Nat} {dvs : List V} (l : K.lookup f = some ⟨oc, od, .func (PySem.W.fnOf x qual (defArgs st) (defBody st) (defScope st) (.ref T) kV doc pm an cdv ct), osl⟩)
    (lT : K.lookup T = some ⟨ocT, odT, .seq its.toArray n, oslT⟩) (hv : Vals dvs its) (hn : dvs ≠ []) (c : PySem.W.codeIn K cdv qual = true) (k : PySem.W.keepIn K (.ref f) = true) : FunD K x qual (defArgs st) (defBody st) (defScope st) dvs [] f (PySem.W.fnOf x qual (defArgs st) (defBody st) (defScope st) (.ref T) kV doc pm an cdv ct) :=
  ⟨⟨oc, od, .ref T, kV, doc, pm, an, cdv, ct, osl, rfl, l, c, .inr ⟨hn, T, _, its, n, rfl, lT, rfl, hv⟩, .inl rfl⟩, k⟩
end Mir

set_option Elab.async false
set_option linter.all false
set_option maxRecDepth 100000
set_option maxHeartbeats 2000000
namespace Mir
open PySem PySem.Spec L2
open PyProof.Rows hiding St
/-! ### reckoning with what a def does -/
theorem isi_int_non : isiD "int" (.non) = some (.bl false) := congrArg (Option.map D.bl) (show kitB "NoneType" "int" = some false by decide +kernel)
theorem isi_int_bl {b : Bool} : isiD "int" (.bl b) = some (.bl true) := congrArg (Option.map D.bl) (show kitB "bool" "int" = some true by decide +kernel)
theorem isi_int_int {i : Int} : isiD "int" (.int i) = some (.bl true) := congrArg (Option.map D.bl) (show kitB "int" "int" = some true by decide +kernel)
theorem isi_int_str {l : List Nat} : isiD "int" (.str l) = some (.bl false) := congrArg (Option.map D.bl) (show kitB "str" "int" = some false by decide +kernel)
theorem isi_int_tup {ds : List D} : isiD "int" (.tup ds) = some (.bl false) := congrArg (Option.map D.bl) (show kitB "tuple" "int" = some false by decide +kernel)
theorem isi_int_lst {ds : List D} : isiD "int" (.lst ds) = some (.bl false) := congrArg (Option.map D.bl) (show kitB "list" "int" = some false by decide +kernel)
theorem isi_bool_non : isiD "bool" (.non) = some (.bl false) := congrArg (Option.map D.bl) (show kitB "NoneType" "bool" = some false by decide +kernel)
theorem isi_bool_bl {b : Bool} : isiD "bool" (.bl b) = some (.bl true) := congrArg (Option.map D.bl) (show kitB "bool" "bool" = some true by decide +kernel)
theorem isi_bool_int {i : Int} : isiD "bool" (.int i) = some (.bl false) := congrArg (Option.map D.bl) (show kitB "int" "bool" = some false by decide +kernel)
theorem isi_bool_str {l : List Nat} : isiD "bool" (.str l) = some (.bl false) := congrArg (Option.map D.bl) (show kitB "str" "bool" = some false by decide +kernel)
theorem isi_bool_tup {ds : List D} : isiD "bool" (.tup ds) = some (.bl false) := congrArg (Option.map D.bl) (show kitB "tuple" "bool" = some false by decide +kernel)
theorem isi_bool_lst {ds : List D} : isiD "bool" (.lst ds) = some (.bl false) := congrArg (Option.map D.bl) (show kitB "list" "bool" = some false by decide +kernel)
theorem isi_str_non : isiD "str" (.non) = some (.bl false) := congrArg (Option.map D.bl) (show kitB "NoneType" "str" = some false by decide +kernel)
theorem isi_str_bl {b : Bool} : isiD "str" (.bl b) = some (.bl false) := congrArg (Option.map D.bl) (show kitB "bool" "str" = some false by decide +kernel)
theorem isi_str_int {i : Int} : isiD "str" (.int i) = some (.bl false) := congrArg (Option.map D.bl) (show kitB "int" "str" = some false by decide +kernel)
theorem isi_str_str {l : List Nat} : isiD "str" (.str l) = some (.bl true) := congrArg (Option.map D.bl) (show kitB "str" "str" = some true by decide +kernel)
theorem isi_str_tup {ds : List D} : isiD "str" (.tup ds) = some (.bl false) := congrArg (Option.map D.bl) (show kitB "tuple" "str" = some false by decide +kernel)
theorem isi_str_lst {ds : List D} : isiD "str" (.lst ds) = some (.bl false) := congrArg (Option.map D.bl) (show kitB "list" "str" = some false by decide +kernel)
theorem isi_tuple_non : isiD "tuple" (.non) = some (.bl false) := congrArg (Option.map D.bl) (show kitB "NoneType" "tuple" = some false by decide +kernel)
theorem isi_tuple_bl {b : Bool} : isiD "tuple" (.bl b) = some (.bl false) := congrArg (Option.map D.bl) (show kitB "bool" "tuple" = some false by decide +kernel)
theorem isi_tuple_int {i : Int} : isiD "tuple" (.int i) = some (.bl false) := congrArg (Option.map D.bl) (show kitB "int" "tuple" = some false by decide +kernel)
theorem isi_tuple_str {l : List Nat} : isiD "tuple" (.str l) = some (.bl false) := congrArg (Option.map D.bl) (show kitB "str" "tuple" = some false by decide +kernel)
theorem isi_tuple_tup {ds : List D} : isiD "tuple" (.tup ds) = some (.bl true) := congrArg (Option.map D.bl) (show kitB "tuple" "tuple" = some true by decide +kernel)
theorem isi_tuple_lst {ds : List D} : isiD "tuple" (.lst ds) = some (.bl false) := congrArg (Option.map D.bl) (show kitB "list" "tuple" = some false by decide +kernel)
theorem isi_list_non : isiD "list" (.non) = some (.bl false) := congrArg (Option.map D.bl) (show kitB "NoneType" "list" = some false by decide +kernel)
theorem isi_list_bl {b : Bool} : isiD "list" (.bl b) = some (.bl false) := congrArg (Option.map D.bl) (show kitB "bool" "list" = some false by decide +kernel)
theorem isi_list_int {i : Int} : isiD "list" (.int i) = some (.bl false) := congrArg (Option.map D.bl) (show kitB "int" "list" = some false by decide +kernel)
theorem isi_list_str {l : List Nat} : isiD "list" (.str l) = some (.bl false) := congrArg (Option.map D.bl) (show kitB "str" "list" = some false by decide +kernel)
theorem isi_list_tup {ds : List D} : isiD "list" (.tup ds) = some (.bl false) := congrArg (Option.map D.bl) (show kitB "tuple" "list" = some false by decide +kernel)
theorem isi_list_lst {ds : List D} : isiD "list" (.lst ds) = some (.bl true) := congrArg (Option.map D.bl) (show kitB "list" "list" = some true by decide +kernel)
section
variable {S : Type} {ρ ρ' : En} {s s' : S}
theorem lcL_ev {α : Type} {g : DG} {dt : DT S} {de : DE S} {ρ : En} {s : S} (j : α → D) (p : α → Bool) (f : α → D) : ∀ {l : List α}, (∀ d ∈ l, ∃ ρ1, g (j d) ρ = some ρ1 ∧ dt ρ1 s = .ok (p d) s ∧ (p d = true → de ρ1 s = .ok (f d) s)) → lcL g dt de (l.map j) ρ s = .ok ((l.filter p).map f) s
  | [], _ => rfl
  | d :: l, h => by
    obtain ⟨ρ1, e1, e2, e3⟩ := h d (.head _)
    have ih := lcL_ev (l := l) j p f fun d hd => h d (.tail _ hd)
    rw [List.map_cons]
    unfold lcL
    rw [e1]
    dsimp only
    rw [e2, R.bind_ok]
    cases z : p d with
    | true => rw [if_pos rfl, e3 z, R.bind_ok, ih, R.bind_ok, List.filter_cons, if_pos z]; rfl
    | false => rw [if_neg Bool.false_ne_true, ih, List.filter_cons, if_neg (by rw [z]; exact Bool.false_ne_true)]
/-- a comprehension with a test, over what α tells -/
theorem dLc_if {α : Type} {g : DG} {vs sc : List Nat} {di : DA S} {dt : DT S} {de : DE S} (l : List α) (j : α → D) (p : α → Bool) (f : α → D) (hd : di ρ s = .ok (l.map j) s') (hl : l.length ≤ 65536)
    (h : ∀ d ∈ l, ∃ ρ1, g (j d) (wipeE (frz sc ρ) vs) = some ρ1 ∧ dt ρ1 s' = .ok (p d) s' ∧ (p d = true → de ρ1 s' = .ok (f d) s')) : dLc g vs sc di dt de ρ s = .ok ((l.filter p).map f) s' := by
  unfold dLc
  rw [hd, R.bind_ok, if_pos (by rw [List.length_map]; exact hl), lcL_ev j p f h]
  rfl
theorem dLc_ev {α : Type} {g : DG} {vs sc : List Nat} {di : DA S} {de : DE S} (l : List α) (j : α → D) (f : α → D) (hd : di ρ s = .ok (l.map j) s') (hl : l.length ≤ 65536)
    (h : ∀ d ∈ l, ∃ ρ1, g (j d) (wipeE (frz sc ρ) vs) = some ρ1 ∧ de ρ1 s' = .ok (f d) s') : dLc g vs sc di dYes de ρ s = .ok (l.map f) s' := by
  have := dLc_if (dt := dYes) l j (fun _ => true) f hd hl fun d hd => by
    obtain ⟨ρ1, e1, e2⟩ := h d hd
    exact ⟨ρ1, e1, rfl, fun _ => e2⟩
  rw [this, List.filter_eq_self.mpr (by simp)]
theorem allBl_of {α : Type} {l : List α} {q : α → Bool} : allBl (l.map fun d => D.bl (q d)) = some (l.map q) := by
  induction l with
  | nil => rfl
  | cons a l ih => simp only [List.map_cons, allBl, ih]; rfl
theorem allD_ev {α : Type} {l : List α} {q : α → Bool} : allD [.lst (l.map fun d => D.bl (q d))] = some (.bl (l.all q)) := by
  unfold allD
  dsimp only
  rw [allBl_of]
  simp [List.all_map, Function.comp_def]
theorem intsOf_map {α : Type} {l : List α} {q : α → Int} : intsOf (l.map fun d => D.int (q d)) = some (l.map q) := by
  induction l with
  | nil => rfl
  | cons a l ih => simp only [List.map_cons, intsOf, ih]; rfl
theorem strsOf_map {α : Type} {l : List α} {q : α → List Nat} : strsOf (l.map fun d => D.str (q d)) = some (l.map q) := by
  induction l with
  | nil => rfl
  | cons a l ih => simp only [List.map_cons, strsOf, ih]; rfl
theorem joinL_nil {ls : List (List Nat)} : joinL [] ls = ls.flatten := by
  cases ls with
  | nil => rfl
  | cons x r => rw [joinL_eq]; simp
theorem atI_nat {α : Type} {l : List α} {k : Nat} : atI l (k : Int) = l[k]? := by
  unfold atI ixN
  rw [if_pos (by omega)]
  by_cases h : k < l.length
  · rw [if_pos (by omega)]
    simp
  · rw [if_neg (by omega), List.getElem?_eq_none (by omega)]
    rfl
theorem ixD_tup {l : List D} {k : Nat} : ixD (.tup l) (.int (k : Int)) = l[k]? := atI_nat
theorem ixD_lst {l : List D} {k : Nat} : ixD (.lst l) (.int (k : Int)) = l[k]? := atI_nat
theorem ixD_t0 {a : D} {r : List D} : ixD (.tup (a :: r)) (.int 0) = some a := ixD_tup (k := 0)
theorem ixD_t1 {a b : D} {r : List D} : ixD (.tup (a :: b :: r)) (.int 1) = some b := ixD_tup (k := 1)
theorem ixD_t2 {a b c : D} {r : List D} : ixD (.tup (a :: b :: c :: r)) (.int 2) = some c := ixD_tup (k := 2)
theorem ixD_l0 {a : D} {r : List D} : ixD (.lst (a :: r)) (.int 0) = some a := ixD_lst (k := 0)
theorem ixD_l1 {a b : D} {r : List D} : ixD (.lst (a :: b :: r)) (.int 1) = some b := ixD_lst (k := 1)
theorem ixD_l2 {a b c : D} {r : List D} : ixD (.lst (a :: b :: c :: r)) (.int 2) = some c := ixD_lst (k := 2)
theorem ite_ok {S α : Type} {c : Prop} [Decidable c] {a b : α} {s : S} : (if c then R.ok a s else R.ok b s) = R.ok (if c then a else b) s := by split <;> rfl
theorem ite_bl {c : Prop} [Decidable c] {a b : Bool} : (if c then D.bl a else D.bl b) = D.bl (if c then a else b) := by split <;> rfl
theorem ite_rt {S : Type} {c : Prop} [Decidable c] {a b : D} {s : S} : (if c then Out.rt a s else Out.rt b s) = Out.rt (if c then a else b) s := by split <;> rfl
theorem forL_nx {S : Type} {g : DG} {ds : DS S} {d : D} {r : List D} {ρ ρ1 ρ' : En} {s s' : S} (e1 : g d ρ = some ρ1) (e : ds ρ1 s = .nx ρ' s') : forL g ds (d :: r) ρ s = forL g ds r ρ' s' := by
  rw [forL, e1]
  dsimp only
  rw [e]
theorem forL_rt {S : Type} {g : DG} {ds : DS S} {d v : D} {r : List D} {ρ ρ1 : En} {s s' : S} (e1 : g d ρ = some ρ1) (e : ds ρ1 s = .rt v s') : forL g ds (d :: r) ρ s = .rt v s' := by
  rw [forL, e1]
  dsimp only
  rw [e]
theorem whileN_step {S : Type} {dt : DT S} {ds : DS S} {n : Nat} {ρ ρ' : En} {s s1 s2 : S} (h : dt ρ s = .ok true s1) (h' : ds ρ s1 = .nx ρ' s2) : whileN dt ds (n + 1) ρ s = whileN dt ds n ρ' s2 := by
  rw [whileN, h, R.out_ok, if_pos rfl, h']
theorem whileN_end {S : Type} {dt : DT S} {ds : DS S} {n : Nat} {ρ : En} {s s1 : S} (h : dt ρ s = .ok false s1) : whileN dt ds (n + 1) ρ s = .nx ρ s1 := by
  rw [whileN, h, R.out_ok, if_neg Bool.false_ne_true]
theorem ne_int {i j : Int} : neO (.int i) (.int j) = some (.bl (!(i == j))) := rfl
theorem eq_int {i j : Int} : eqO (.int i) (.int j) = some (.bl (i == j)) := rfl
theorem ne_bl {i j : Bool} : neO (.bl i) (.bl j) = some (.bl (!(i == j))) := rfl
theorem eq_bl {i j : Bool} : eqO (.bl i) (.bl j) = some (.bl (i == j)) := rfl
theorem ne_str {i j : List Nat} : neO (.str i) (.str j) = some (.bl (!(i == j))) := rfl
theorem eq_str {i j : List Nat} : eqO (.str i) (.str j) = some (.bl (i == j)) := rfl
/-- what holds of an outcome -/
def Ok1 {α : Type} (r : R DeckSt α) (P : α → Prop) : Prop := ∃ a s, r = .ok a s ∧ s.Ok ∧ P a
theorem Ok1.bind {α β : Type} {r : R DeckSt α} {f : α → DeckSt → R DeckSt β} {P : α → Prop} {Q : β → Prop} (h : Ok1 r P) (k : ∀ a s, s.Ok → P a → Ok1 (f a s) Q) : Ok1 (r.bind f) Q := by
  obtain ⟨a, s, e, ok, p⟩ := h
  rw [e, R.bind_ok]
  exact k a s ok p
theorem Ok1.mk {α : Type} {a : α} {s : DeckSt} {P : α → Prop} (ok : s.Ok) (p : P a) : Ok1 (.ok a s) P := ⟨a, s, rfl, ok, p⟩
theorem Ok1.imp {α : Type} {r : R DeckSt α} {P Q : α → Prop} (h : Ok1 r P) (k : ∀ a, P a → Q a) : Ok1 r Q := by
  obtain ⟨a, s, e, ok, p⟩ := h
  exact ⟨a, s, e, ok, k a p⟩
theorem pick1 {st : DeckSt} (h : st.Ok) {n : Int} (h0 : 0 < n) (h1 : n < 1073741824) : Ok1 (mPick [.deck, .int n] st) fun d => ∃ a : Int, d = .int a ∧ 0 ≤ a ∧ a < n :=
  ⟨_, _, if_pos ⟨h0, h1⟩, pickF_ok h h0, _, rfl, (pickF_range st h0).1, (pickF_range st h0).2⟩
/-- a comprehension whose clause draws -/
theorem lcL_ok {g : DG} {dt : DT DeckSt} {de : DE DeckSt} {ρ : En} (P : D → Prop) : ∀ {l : List D} {s : DeckSt}, s.Ok → (∀ d ∈ l, ∀ s : DeckSt, s.Ok → ∃ ρ1, g d ρ = some ρ1 ∧ Ok1 (dt ρ1 s) fun k => ∀ s1 : DeckSt, s1.Ok → k = true → Ok1 (de ρ1 s1) P) →
    Ok1 (lcL g dt de l ρ s) fun ds => (∀ d ∈ ds, P d) ∧ ds.length ≤ l.length
  | [], s, ok, _ => ⟨[], s, rfl, ok, ⟨fun _ h => absurd h (by simp), Nat.le_refl _⟩⟩
  | d :: l, s, ok, h => by
    obtain ⟨ρ1, e1, h1⟩ := h d (.head _) s ok
    unfold lcL
    rw [e1]
    refine h1.bind fun k s1 ok1 hk => ?_
    by_cases z : k = true
    · rw [if_pos z]
      refine (hk s1 ok1 z).bind fun x s2 ok2 px => ?_
      refine (lcL_ok P ok2 fun d hd => h d (.tail _ hd)).bind fun xs s3 ok3 ⟨q1, q2⟩ => ?_
      exact .mk ok3 ⟨fun y hy => by
        cases hy with
        | head => exact px
        | tail _ hy => exact q1 y hy, by rw [List.length_cons, List.length_cons]; omega⟩
    · rw [if_neg z]
      exact (lcL_ok P ok1 fun d hd => h d (.tail _ hd)).imp fun ds ⟨q1, q2⟩ => ⟨q1, by rw [List.length_cons]; omega⟩
theorem lcL_all {g : DG} {de : DE DeckSt} {ρ : En} (P : D → Prop) : ∀ {l : List D} {s : DeckSt}, s.Ok → (∀ d ∈ l, ∀ s : DeckSt, s.Ok → ∃ ρ1, g d ρ = some ρ1 ∧ Ok1 (de ρ1 s) P) → Ok1 (lcL g dYes de l ρ s) fun ds => (∀ d ∈ ds, P d) ∧ ds.length = l.length
  | [], s, ok, _ => ⟨[], s, rfl, ok, ⟨fun _ h => absurd h (by simp), rfl⟩⟩
  | d :: l, s, ok, h => by
    obtain ⟨ρ1, e1, h1⟩ := h d (.head _) s ok
    unfold lcL
    rw [e1]
    show Ok1 ((de ρ1 s).bind _) _
    refine h1.bind fun x s2 ok2 px => ?_
    refine (lcL_all P ok2 fun d hd => h d (.tail _ hd)).bind fun xs s3 ok3 ⟨q1, q2⟩ => ?_
    exact .mk ok3 ⟨fun y hy => by
      cases hy with
      | head => exact px
      | tail _ hy => exact q1 y hy, by rw [List.length_cons, List.length_cons, q2]⟩
theorem nox_ok {α : Type} {r : R DeckSt α} {P : α → Prop} (h : Ok1 r P) : Ok1 (nox r) P := by
  obtain ⟨a, s, e, ok, p⟩ := h
  rw [e]
  exact ⟨a, s, rfl, ok, p⟩
end
end Mir

set_option Elab.async false
set_option linter.all false
set_option maxRecDepth 100000
set_option maxHeartbeats 2000000
namespace Mir
open PySem PySem.Spec L2
open PyProof.Rows hiding St
section
variable {S : Type} {C : Deck S} {X : Cx} {W : WX} {A0 A A' : Addr → Prop} {H0 H H' B : Hp} {σ : St} {ρ : En} {st st' : S}
variable {e a b c tg iter elt : Expr} {es rest ifs : List Expr} {pos p p2 : Pos} {sc sc' sa sb vs : List Nat} {de da db dc : DE S} {dt dt' du : DT S} {dl di dj dk : DA S} {ds ds' : DS S} {mg : Str → Option Value} {DD : Ends} {xs ys : List Stmt} {dv dw : E1 S Sl}
/-! ### range(i, j, -1) -/
def downD (i : Int) (n : Nat) : List D := (List.range n).map fun (k : Nat) => .int (i - (k : Int))
theorem y_down {i : Int} {n : Nat} : Yields C A B (Itc i (-1) n) (downD i n) where
  stop := fun H k => by show n ≤ _; simp [downD]
  go := fun k H hi _ => by show _ < n; simpa [downD] using hi
  yld := fun k H x H' hi kk y => by
    obtain ⟨rfl, rfl⟩ := y
    have hi : k < n := by simpa [downD] using hi
    refine ⟨.int (i - k), by simp [downD, List.getElem?_range hi], Keep.refl, fun _ z => z, fun A' _ hA => ?_⟩
    have : i + (k : Int) * -1 = i - k := by omega
    rw [this]
    exact .int _
def rng3 : List D → Option (List D)
  | [.int i, .int j, .int c] => if c = -1 ∧ i ≤ 65536 ∧ -65536 ≤ i ∧ j ≤ 65536 ∧ -65536 ≤ j then some (downD i (i - j).toNat) else none
  | _ => none
theorem pid_rng3 (hm : X.mg "range" = none) (ha : PAd X C W [a, b, c] sc dl) (hg : Gl X "range" := by rfl) (hs : starEach [a, b, c] X.env = (false, eval a X.env) :: starEach [b, c] X.env := by rfl) (hpl : (backTo pos (starEach [b, c] X.env)).any (·.1) = false := by rfl) : PId X C W tg (.Call (.Name "range" p) [a, b, c] [] pos) [] (dRng rng3 dl) :=
  pid_of (pi_range3 hg hm ha hs hpl) fun A0 H0 A ρ st σ H R I g => ⟨A0, H0, A, ρ, st, I, g.bind.imp fun ds s1 H1 k1 t1 g1 vs dvs => by
    obtain ⟨l, e, q⟩ := g1.ofO
    match ds, e with
    | [.int i, .int j, .int c], e =>
      simp only [rng3] at e
      by_cases z : c = -1 ∧ i ≤ 65536 ∧ -65536 ≤ i ∧ j ≤ 65536 ∧ -65536 ≤ j
      · rw [if_pos z] at e
        cases e
        obtain ⟨rfl, z1, z2, z3, z4⟩ := z
        obtain ⟨x, r, rfl, hx, h2⟩ := dvs.uncons
        obtain ⟨y, w, rfl, hy, hw⟩ := h2.two
        cases hx
        cases hy
        cases hw
        refine ⟨i, j, -1, (i - j).toNat, rfl, ⟨by decide, by decide, ?_, ?_⟩, q H1 Keep.refl t1 _ y_down⟩
        · have e2 : Builtin.Range.rangeSize i j (-1) = ((i - j).toNat : Int) := by
            unfold Builtin.Range.rangeSize
            rw [if_neg (by decide)]
            split
            · rw [show (- (-1) : Int) = 1 from rfl, Int.ediv_one]; omega
            · omega
          have fl : ∀ x : Int, -70000 ≤ x → x ≤ 140000 → Builtin.Range.rangeFitsLong x = true := fun x h1 h2 => by
            unfold Builtin.Range.rangeFitsLong
            simp
            omega
          unfold Builtin.Range.small
          rw [e2, fl i (by omega) (by omega), fl j (by omega) (by omega), fl (-1) (by omega) (by omega), fl _ (by omega) (by omega), if_neg (by decide), fl _ (by omega) (by omega)]
          simp
        · unfold Builtin.Range.rangeSize
          rw [if_neg (by decide)]
          split
          · rw [show (- (-1) : Int) = 1 from rfl, Int.ediv_one]; omega
          · omega
      · rw [if_neg z] at e; cases e⟩
end
end Mir

set_option Elab.async false
set_option linter.all false
set_option maxRecDepth 100000
set_option maxHeartbeats 2000000
/-! enumerate and zip of lists, tuples and texts -/
namespace Mir
open PySem PySem.Spec L2
open PyProof.Rows hiding St
/-- what is walked beside something else -/
inductive Kd where
  | lst (a : Addr)
  | tup (a : Addr)
  | str (l : List Nat)
def Kd.v : Kd → V
  | .lst a => .ref a
  | .tup a => .ref a
  | .str l => .str (mkS l)
def Kd.adr : Kd → List Addr
  | .lst a => [a]
  | .tup a => [a]
  | .str _ => []
def Kd.has (K : PySem.W.Frag) (H : Hp) (k : Kd) (xs : List V) : Prop := match k with
  | .lst a => SqL K H a xs
  | .tup a => SqT K H a xs
  | .str l => xs = l.map fun c => .str (mkS [c])
def Kd.at_ (it : Addr) (i : Nat) (h : Heap) : Kd → Prop
  | .lst a => h.IsListIter it a i
  | .tup a => h.IsTupleIter it a i
  | .str l => ∃ t, h.IsStrIter it (strIterType (mkS l)) (mkS l) t i
section
variable {X : Cx} {pins : List (Addr × Obj)} {σ : St} {H : Hp} {s : Shared}
theorem Kd.same (I : Inv X pins σ H s) {k : Kd} {xs ys : List V} (h : k.has X.K H xs) (h' : k.has X.K H ys) : xs = ys := by
  cases k with
  | lst a => exact I.list_inj h h'
  | tup a => exact I.tuple_inj h h'
  | str l => exact h.trans h'.symm
theorem Kd.live {k : Kd} {it : Addr} {i : Nat} {h : Heap} (e : k.at_ it i h) : ∃ o, h.get? it = some o ∧ ∀ v, o.data ≠ .cell v := by
  cases k with
  | lst a => obtain ⟨o, h1, _, h3⟩ := e; exact ⟨o, h1, fun v q => by rw [h3] at q; cases q⟩
  | tup a => obtain ⟨o, h1, _, h3⟩ := e; exact ⟨o, h1, fun v q => by rw [h3] at q; cases q⟩
  | str l => obtain ⟨t, o, h1, _, h3⟩ := e; exact ⟨o, h1, fun v q => by rw [h3] at q; cases q⟩
theorem Kd.move {k : Kd} {it : Addr} {i : Nat} {h h' : Heap} (e : k.at_ it i h) (m : ∀ o, h.get? it = some o → h'.get? it = some o) : k.at_ it i h' := by
  cases k with
  | lst a => exact e.at m
  | tup a => obtain ⟨o, h1, r⟩ := e; exact ⟨o, m o h1, r⟩
  | str l => obtain ⟨t, o, h1, r⟩ := e; exact ⟨t, o, m o h1, r⟩
/-- the source as an iterator draws it -/
theorem Kd.draws (I : Inv X pins σ H s) {A : Around} (hh : A.handled = none) {k : Kd} {xs : List V} {it : Addr} {i : Nat} (h : k.has X.K H xs) (st : k.at_ it i s.heap) (hn : it ∉ k.adr) :
    ∃ (P : Nat → Value → Prop) (T : Nat → Heap → Prop), Draws X.prog X.w A it (it :: k.adr) xs.length P T ∧ T i s.heap ∧ (∀ j h', T j h' → k.at_ it j h') ∧ ∀ j u, P j u → ∃ x, xs[j]? = some x ∧ RelV x u := by
  cases k with
  | lst a =>
    obtain ⟨its, rv, p, hz⟩ := I.list h
    have hne : a ≠ it := fun z => hn (by simp [Kd.adr, z])
    have D := Draws.list (prog := X.prog) (w := X.w) hh it a hne its.toArray
    have e : its.toArray.size = xs.length := by simp [rv.length]
    rw [e] at D
    refine ⟨_, _, D, ⟨st, p.isList⟩, fun j h' t => t.1, fun j u hu => ?_⟩
    have hj : j < xs.length := by
      have := (Array.getElem?_eq_some_iff.mp hu).1
      rw [e] at this; exact this
    obtain ⟨u', h1, h2⟩ := rv.get (List.getElem?_eq_getElem hj)
    have : u' = u := by
      have hu' : its[j]? = some u := by simpa using hu
      rw [h1] at hu'; cases hu'; rfl
    subst this
    exact ⟨_, List.getElem?_eq_getElem hj, h2⟩
  | tup a =>
    obtain ⟨its, rv, p, hz⟩ := I.tuple h
    have hne : a ≠ it := fun z => hn (by simp [Kd.adr, z])
    have D := Draws.tuple (prog := X.prog) (w := X.w) hh it a hne its.toArray
    have e : its.toArray.size = xs.length := by simp [rv.length]
    rw [e] at D
    refine ⟨_, _, D, ⟨st, p⟩, fun j h' t => t.1, fun j u hu => ?_⟩
    have hj : j < xs.length := by
      have := (Array.getElem?_eq_some_iff.mp hu).1
      rw [e] at this; exact this
    obtain ⟨u', h1, h2⟩ := rv.get (List.getElem?_eq_getElem hj)
    have : u' = u := by
      have hu' : its[j]? = some u := by simpa using hu
      rw [h1] at hu'; cases hu'; rfl
    subst this
    exact ⟨_, List.getElem?_eq_getElem hj, h2⟩
  | str l =>
    obtain ⟨t, st⟩ := st
    have h : xs = l.map fun c => V.str (mkS [c]) := h
    subst h
    have D := Draws.text (prog := X.prog) (w := X.w) hh it (mkS l) t
    have e : (mkS l).cps.size = (l.map fun c => V.str (mkS [c])).length := by simp
    rw [e] at D
    refine ⟨_, _, D, st, fun j h' q => ⟨t, q⟩, fun j u hu => ?_⟩
    obtain ⟨c, tk, h1, rfl⟩ := hu
    have h1 : l[j]? = some c := by simpa using h1
    exact ⟨.str (mkS [c]), by simp [h1], tk, rfl⟩
/-- how it begins -/
theorem Kd.begin (I : Inv X pins σ H s) {k : Kd} {xs : List V} {u : Value} (h : k.has X.K H xs) (r : RelV k.v u) : ∃ (o : Obj) (B : Heap → Prop), Begins u o B ∧ B s.heap ∧ (∀ h' it, h'.get? it = some o → k.at_ it 0 h') ∧ ∀ b ∈ k.adr, b < s.heap.objs.size := by
  cases k with
  | lst a =>
    obtain ⟨its, rv, p, hz⟩ := I.list h
    cases r
    exact ⟨_, _, begins_list a its.toArray, p.isList, fun h' it e => ⟨_, e, rfl, rfl⟩, fun b hb => by
      have : b = a := by simpa [Kd.adr] using hb
      rw [this]; exact p.lt⟩
  | tup a =>
    obtain ⟨its, rv, p, hz⟩ := I.tuple h
    cases r
    exact ⟨_, _, begins_tuple a its.toArray, p, fun h' it e => ⟨_, e, rfl, rfl⟩, fun b hb => by
      have : b = a := by simpa [Kd.adr] using hb
      rw [this]; exact p.lt⟩
  | str l =>
    obtain ⟨t, rfl⟩ := r
    exact ⟨_, _, begins_text (mkS l) t, trivial, fun h' it e => ⟨t, _, e, rfl, rfl⟩, fun b hb => by simp [Kd.adr] at hb⟩
end
/-! ### enumerate -/
/-- each item in a new pair with its index -/
def ItE (K : PySem.W.Frag) (k : Kd) : It where
  go := fun i H => ∃ (xs : List V) (x : V), k.has K H xs ∧ xs[i]? = some x
  yld := fun i H v H' => ∃ T x, v = .ref T ∧ H T = none ∧ H' = upd H T (.tup [.int (i : Nat), x]) ∧ ∀ xs, k.has K H xs → xs[i]? = some x
  stop := fun i H => ∃ xs : List V, k.has K H xs ∧ xs.length = i
theorem turn_enumK {P : Program} {w : World} {K : PySem.W.Frag} {elts : List Expr} {kk : Nat} {tpos : Pos} (k : Kd) (e it : Addr) (h1 : e ∉ k.adr) (h2 : it ∉ k.adr) :
    Turn P w K (.Tuple elts kk tpos) (ItE K k) [e, it] e (fun i h => (∃ old, IsEnum h e it ((i : Nat) : Int) old) ∧ k.at_ it i h ∧ e ≠ it) where
  mem := List.mem_cons_self
  obj := fun i h st b hb => by
    obtain ⟨⟨old, q⟩, r, _⟩ := st
    rcases List.mem_cons.mp hb with z | z
    · subst z; exact ⟨_, q, fun v y => nomatch y⟩
    · rw [List.mem_singleton.mp z]; exact Kd.live r
  keep := fun i h h' st m => by
    obtain ⟨⟨old, q⟩, r, n⟩ := st
    exact ⟨⟨old, m e List.mem_cons_self _ q⟩, Kd.move r fun o y => m it (by simp) o y, n⟩
  item := by
    intro X hP hw hK hc i pins s σ H E I hf st hg
    subst hP hw hK
    obtain ⟨⟨old, he⟩, hi, hne⟩ := st
    obtain ⟨xs, x, hx, hxi⟩ := hg
    obtain ⟨Pv, T, D, t0, tn, hP⟩ := Kd.draws (A := X.A.in1) I (I.ok.hd hc) hx hi h2
    have hlt : i < xs.length := (List.getElem?_eq_some_iff.mp hxi).1
    have hel : e < s.heap.objs.size := Heap.lt_size he
    have hil : it < s.heap.objs.size := by obtain ⟨o, q, _⟩ := Kd.live hi; exact Heap.lt_size q
    have hef : e ∉ it :: k.adr := fun z => by
      rcases List.mem_cons.mp z with z | z
      · exact hne z
      · exact h1 z
    refine wpAny_pyNext_enum_itemD D he t0 hlt hne hef fun u h' tk hu ho hs hT hsz hk => ⟨_, rfl, ?_⟩
    obtain ⟨x', e1, ru⟩ := hP i u hu
    rw [hxi] at e1
    cases e1
    refine wpAny_letOwnedTupleGo_enum (s := { s with heap := h', toks := tk + 1 }) ho fun h3 he3 sb => ?_
    have hT3 : h3.get? s.heap.objs.size = some { cls := .type "tuple", data := .seq #[.int i tk, u] } := by rw [← hT]; exact sb.2 _ (Nat.ne_of_gt hel)
    have hnew : ObjOk X.prog X.w (upd H s.heap.objs.size (.tup [.int (i : Nat), x])) h3 s.heap.objs.size (.tup [.int (i : Nat), x]) := by
      refine ⟨by show 2 ≤ sizeLine; decide, [.int i tk, u], ?_, _, hT3, rfl, _, rfl⟩
      exact .cons ⟨_, rfl⟩ (.cons ru .nil)
    have I1 : Inv X pins σ (upd H s.heap.objs.size (.tup [.int (i : Nat), x])) { s with heap := h3, toks := tk + 1 } := by
      refine I.turnedNew (ch := [e, it]) (fun b ob hb q => ?_) hf (Nat.le_refl _) hnew
      have n1 : b ≠ e := fun z => hb (by simp [z])
      have n2 : b ≠ it := fun z => hb (by simp [z])
      rw [sb.2 b n1]
      exact hk b ob n1 n2 q
    refine ⟨.ref s.heap.objs.size, _, I1, rfl, ⟨_, x, rfl, I.hok.fresh (Nat.le_refl _), rfl, fun ys hy => ?_⟩, ⟨⟨u, ?_⟩, ?_, hne⟩, fun b hb => ?_⟩
    · rw [Kd.same I hy hx]; exact hxi
    · have e1 : ((i + 1 : Nat) : Int) = (i : Int) + 1 := by omega
      rw [e1]; exact he3
    · exact Kd.move (tn _ _ hs) fun o q => by rw [sb.2 it (Ne.symm hne)]; exact q
    · have hb' : b < s.heap.objs.size := by
        rcases List.mem_cons.mp hb with z | z
        · rw [z]; exact hel
        · rw [List.mem_singleton.mp z]; exact hil
      rw [upd_ne (Nat.ne_of_lt hb')]
      exact (hf b hb).1
  done := by
    intro X hP hw hK hc i pins s σ H E I hf st hg
    subst hP hw hK
    obtain ⟨⟨old, he⟩, hi, hne⟩ := st
    obtain ⟨xs, hx, hl⟩ := hg
    obtain ⟨Pv, T, D, t0, tn, hP⟩ := Kd.draws (A := X.A.in1) I (I.ok.hd hc) hx hi h2
    rw [← hl] at t0
    obtain ⟨f0, f1, f2, f3, f4, f5⟩ := hf it (by simp)
    exact wpAny_pyNext_enum_endD D he t0 fun h' eb => ⟨rfl, I.turned (t' := s.toks) (fun b o hb q => eb b o hb q) f0 f1 f3 f4 f5⟩
  self := fun A i s Q E st h => by
    obtain ⟨⟨old, q⟩, _⟩ := st
    exact wpAny_pyIter_enum q h
/-- enumerate(v) of whatever begins -/
theorem meets_enum1 {v : Value} {o : Obj} {B : Heap → Prop} (b : Begins v o B) :
    Meets (Builtin.«enumerate.__new__» ⟨[.type "enumerate", v], []⟩) (fun _ R s => B s.heap ∧
      R (.ok (.ret (.ref (s.heap.push o).objs.size))) { s with heap := (s.heap.push o).push { cls := .type "enumerate", data := .fields #[.none, .bool false, .ref s.heap.objs.size, rawInt 0, .none, .none] } }) :=
  .of_wp fun prog w A R s h => by
    obtain ⟨hp, g, d, tk, os⟩ := s; obtain ⟨hB, h⟩ := h
    have hsub := sub_enumerate
    have q1 : ∀ {A' : Around} {E : Value → Shared → Prop} {Q : Value → Shared → Prop}, Q (.ref hp.objs.size) ⟨(hp.push o), g, d, tk, os⟩ → wpAny (model prog w) A' (pyIter v) Q E ⟨hp, g, d, tk, os⟩ := fun q =>
      b.iter prog w _ _ ⟨hp, g, d, tk, os⟩ _ hB q
    wp_walk
    refine wpAny_stack_any fun st => wpAny_pure ?_
    split
    · rename_i c _ _ _ _ _
      cases (c == Value.type "enumerate") <;> (wp_walk using q1; exact ⟨_, rfl, h⟩)
    · wp_walk using q1
      exact ⟨_, rfl, h⟩
theorem call_enum1 {prog : Program} {w : World} {A : Around} {E : Value → Shared → Prop} {s : Shared} {v : Value} {o : Obj} {B : Heap → Prop} {Q : Value → Shared → Prop} (b : Begins v o B) (hB : B s.heap)
    (h : ∀ h', IsEnum h' (s.heap.objs.size + 1) s.heap.objs.size 0 .none → h'.get? s.heap.objs.size = some o → (∀ b o, s.heap.get? b = some o → h'.get? b = some o) → Q (.ref (s.heap.objs.size + 1)) { s with heap := h' }) :
    wpAny (model prog w) A (call (.type "enumerate") [v]) Q E s := by
  refine callType_new F.called_enumerate (by decide) (F.typeCall_enumerate_1 _) (F.newCall_enumerate_1 _) (fun obj => F.args_object_init_2 obj _) F.entry_enumerate_new (meets_enum1 b) ⟨hB, ?_⟩
  have z1 : (s.heap.push o).objs.size = s.heap.objs.size + 1 := Heap.size_push ..
  show _ ∧ _
  rw [z1]
  have g := Heap.get?_push_size (s.heap.push o) (o := { cls := .type "enumerate", data := .fields #[.none, .bool false, .ref s.heap.objs.size, rawInt 0, .none, .none] }) rfl
  rw [z1] at g
  exact ⟨⟨_, g, rfl⟩, h _ g (Heap.get?_push_of_some _ (Heap.get?_push_size _ b.free)) fun b o x => Heap.get?_push_of_some _ (Heap.get?_push_of_some _ x)⟩
def iEnumK (K : PySem.W.Frag) (ta : TA) : TI := fun σ H R => ta σ H fun vs H1 => ∃ (k : Kd) (xs : List V), vs = [k.v] ∧ k.has K H1 xs ∧ R (ItE K k) H1
theorem pi_enumK {X : Cx} {e : Expr} {ta : TA} {p pos tpos : Pos} {elts : List Expr} {kk : Nat} (hg : Gl X "enumerate") (hm : X.mg "enumerate" = none) (ha : PA X [e] ta) (hs : starEach [e] X.env = [(false, eval e X.env)] := by rfl) :
    PI X (.Tuple elts kk tpos) (.Call (.Name "enumerate" p) [e] [] pos) (iEnumK X.K ta) := ⟨fun pins s σ H R I h => by
  refine Call_ (ld_blt I hg hm boot_enumerate (PyProof.Rows.callWith_type1 (thn (ha.run pos pins s σ H _ I h) fun us s1 ⟨vs, H1, I1, r1, k, xs, ex, hx, q⟩ => ?_) hs rfl))
  subst ex
  cases r1 with
  | cons r rr =>
    cases rr
    obtain ⟨o, B, b, hB, hat, hlt⟩ := Kd.begin I1 hx r
    refine call_enum1 b hB fun h' he hit hk => wpAny_pyIter_enum he ?_
    have I2 : Inv X pins σ H1 { s1 with heap := h' } := I1.kept (t' := s1.toks) hk
    have n1 : s1.heap.objs.size + 1 ∉ k.adr := fun z => absurd (hlt _ z) (Nat.not_lt.mpr (Nat.le_succ _))
    have n2 : s1.heap.objs.size ∉ k.adr := fun z => absurd (hlt _ z) (Nat.lt_irrefl _)
    refine ⟨s1.heap.objs.size + 1, [s1.heap.objs.size + 1, s1.heap.objs.size], _, _, H1, rfl, I2, turn_enumK k _ _ n1 n2, ⟨⟨.none, he⟩, hat _ _ hit, Nat.succ_ne_self _⟩, fun b hb => ?_, q⟩
    have hle : s1.heap.objs.size ≤ b := by
      rcases List.mem_cons.mp hb with z | z
      · rw [z]; exact Nat.le_succ _
      · rw [List.mem_singleton.mp z]; exact Nat.le_refl _
    exact I1.fpOk hle (I1.hok.fresh hle)⟩
end Mir

set_option Elab.async false
set_option linter.all false
set_option maxRecDepth 100000
set_option maxHeartbeats 2000000
namespace Mir
open PySem PySem.Spec L2
open PyProof.Rows hiding St
/-! ### zip -/
def ItZ (K : PySem.W.Frag) (k k' : Kd) : It where
  go := fun i H => ∃ (xs ys : List V) (x y : V), k.has K H xs ∧ k'.has K H ys ∧ xs[i]? = some x ∧ ys[i]? = some y
  yld := fun i H v H' => ∃ T x y, v = .ref T ∧ H T = none ∧ H' = upd H T (.tup [x, y]) ∧ (∀ xs, k.has K H xs → xs[i]? = some x) ∧ ∀ ys, k'.has K H ys → ys[i]? = some y
  stop := fun i H => ∃ xs ys : List V, k.has K H xs ∧ k'.has K H ys ∧ i ≤ xs.length ∧ i ≤ ys.length ∧ (i = xs.length ∨ i = ys.length)
theorem turn_zipK {P : Program} {w : World} {K : PySem.W.Frag} {elts : List Expr} {kk : Nat} {tpos : Pos} (k k' : Kd) (z TI TO i1 i2 : Addr) (hs : ZipSep2 z TI TO i1 i2 (i1 :: k.adr) (i2 :: k'.adr)) (h1 : i1 ∉ k.adr) (h2 : i2 ∉ k'.adr) :
    Turn P w K (.Tuple elts kk tpos) (ItZ K k k') [z, TI, TO, i1, i2] z (fun i h => IsZip h z TI TO .none ∧ IsTupOf2 h TI (.ref i1) (.ref i2) ∧ (∃ x y, IsTupOf2 h TO x y) ∧ k.at_ i1 i h ∧ k'.at_ i2 i h) where
  mem := List.mem_cons_self
  obj := fun i h st c hc => by
    obtain ⟨q1, q2, ⟨x, y, q3⟩, q4, q5⟩ := st
    simp only [List.mem_cons, List.not_mem_nil, or_false] at hc
    rcases hc with e | e | e | e | e <;> subst e
    · exact ⟨_, q1, fun v y => nomatch y⟩
    · exact ⟨_, q2, fun v y => nomatch y⟩
    · exact ⟨_, q3, fun v y => nomatch y⟩
    · exact Kd.live q4
    · exact Kd.live q5
  keep := fun i h h' st m => by
    obtain ⟨q1, q2, ⟨x, y, q3⟩, q4, q5⟩ := st
    exact ⟨m z (by simp) _ q1, m TI (by simp) _ q2, ⟨x, y, m TO (by simp) _ q3⟩, Kd.move q4 fun o e => m i1 (by simp) o e, Kd.move q5 fun o e => m i2 (by simp) o e⟩
  item := by
    intro X hP hw hK hc i pins s σ H E I hf st hg
    subst hP hw hK
    obtain ⟨q1, q2, ⟨x0, y0, q3⟩, q4, q5⟩ := st
    obtain ⟨xs, ys, x, y, hx, hy, ex, ey⟩ := hg
    obtain ⟨P1, T1, D1, t1, tn1, r1⟩ := Kd.draws (A := X.A.in1) I (I.ok.hd hc) hx q4 h1
    obtain ⟨P2, T2, D2, t2, tn2, r2⟩ := Kd.draws (A := X.A.in1) I (I.ok.hd hc) hy q5 h2
    have l1 : i < xs.length := (List.getElem?_eq_some_iff.mp ex).1
    have l2 : i < ys.length := (List.getElem?_eq_some_iff.mp ey).1
    have hzl : z < s.heap.objs.size := Heap.lt_size q1
    have zi1 : i1 ≠ z := fun e => hs.zf1 (by simp [e])
    have zi2 : i2 ≠ z := fun e => hs.zf2 (by simp [e])
    refine wpAny_pyNext_zipD2_item hs D1 D2 q1 q2 q3 t1 t2 l1 l2 fun u1 u2 h' tk hu1 hu2 z' TO' s1 s2 hT hsz hk => ⟨_, rfl, ?_⟩
    obtain ⟨x', e1, ru1⟩ := r1 i u1 hu1
    rw [ex] at e1; cases e1
    obtain ⟨y', e2, ru2⟩ := r2 i u2 hu2
    rw [ey] at e2; cases e2
    refine wpAny_letOwnedTupleGo_zip (s := { s with heap := h', toks := tk }) z' fun h3 z3 sb => ?_
    have hT3 : IsTupOf2 h3 s.heap.objs.size u1 u2 := by
      unfold IsTupOf2 at hT ⊢
      rw [← hT]; exact sb.2 _ (Nat.ne_of_gt hzl)
    have hnew : ObjOk X.prog X.w (upd H s.heap.objs.size (.tup [x, y])) h3 s.heap.objs.size (.tup [x, y]) := by
      refine ⟨by show 2 ≤ sizeLine; decide, [u1, u2], .cons ru1 (.cons ru2 .nil), _, hT3, rfl, _, rfl⟩
    have I1 : Inv X pins σ (upd H s.heap.objs.size (.tup [x, y])) { s with heap := h3, toks := tk } := by
      refine I.turnedNew (ch := [z, TI, TO, i1, i2]) (fun b ob hb q => ?_) hf (Nat.le_refl _) hnew
      have n1 : b ≠ z := fun e => hb (by simp [e])
      have n2 : b ≠ TO := fun e => hb (by simp [e])
      have n3 : b ≠ i1 := fun e => hb (by simp [e])
      have n4 : b ≠ i2 := fun e => hb (by simp [e])
      rw [sb.2 b n1]
      exact hk b ob n1 n2 n3 n4 q
    refine ⟨.ref s.heap.objs.size, _, I1, rfl, ⟨_, x, y, rfl, I.hok.fresh (Nat.le_refl _), rfl, fun l hl => ?_, fun l hl => ?_⟩, ⟨z3, ?_, ⟨u1, u2, ?_⟩, ?_, ?_⟩, fun b hb => ?_⟩
    · rw [Kd.same I hl hx]; exact ex
    · rw [Kd.same I hl hy]; exact ey
    · unfold IsTupOf2 at q2 ⊢
      rw [sb.2 TI hs.TIz]
      exact hk _ _ hs.TIz hs.TITO hs.TIi1 hs.TIi2 q2
    · unfold IsTupOf2 at TO' ⊢
      rw [sb.2 TO hs.TOz]; exact TO'
    · exact Kd.move (tn1 _ _ s1) fun o q => by rw [sb.2 i1 zi1]; exact q
    · exact Kd.move (tn2 _ _ s2) fun o q => by rw [sb.2 i2 zi2]; exact q
    · have hlt : b < s.heap.objs.size := by
        have hb' := hb
        simp only [List.mem_cons, List.not_mem_nil, or_false] at hb'
        rcases hb' with e | e | e | e | e <;> subst e
        · exact hzl
        · exact Heap.lt_size q2
        · exact Heap.lt_size q3
        · obtain ⟨o, q, _⟩ := Kd.live q4; exact Heap.lt_size q
        · obtain ⟨o, q, _⟩ := Kd.live q5; exact Heap.lt_size q
      rw [upd_ne (Nat.ne_of_lt hlt)]
      exact (hf b hb).1
  done := by
    intro X hP hw hK hc i pins s σ H E I hf st hg
    subst hP hw hK
    obtain ⟨q1, q2, ⟨x0, y0, q3⟩, q4, q5⟩ := st
    obtain ⟨xs, ys, hx, hy, l1, l2, hend⟩ := hg
    obtain ⟨P1, T1, D1, t1, tn1, r1⟩ := Kd.draws (A := X.A.in1) I (I.ok.hd hc) hx q4 h1
    obtain ⟨P2, T2, D2, t2, tn2, r2⟩ := Kd.draws (A := X.A.in1) I (I.ok.hd hc) hy q5 h2
    refine wpAny_pyNext_zipD2_end hs D1 D2 q1 q2 q3 t1 t2 l1 l2 hend fun h' tk hk => ⟨rfl, I.turnedL (t' := tk) (ch := [z, TI, TO, i1, i2]) (fun c o hb q => ?_) hf⟩
    have n1 : c ≠ z := fun e => hb (by simp [e])
    have n2 : c ≠ TO := fun e => hb (by simp [e])
    have n3 : c ≠ i1 := fun e => hb (by simp [e])
    have n4 : c ≠ i2 := fun e => hb (by simp [e])
    exact hk c o n1 n2 n3 n4 q
  self := fun A i s Q E st h => wpAny_pyIter_zip st.1 h
def iZipK (K : PySem.W.Frag) (ta : TA) : TI := fun σ H R => ta σ H fun vs H1 => ∃ (k k' : Kd) (xs ys : List V), vs = [k.v, k'.v] ∧ k.has K H1 xs ∧ k'.has K H1 ys ∧ R (ItZ K k k') H1
theorem pi_zipK {X : Cx} {e e2 : Expr} {ta : TA} {p pos tpos : Pos} {elts : List Expr} {kk : Nat} (hg : Gl X "zip") (hm : X.mg "zip" = none) (ha : PA X [e, e2] ta)
    (hs : starEach [e, e2] X.env = (false, eval e X.env) :: starEach [e2] X.env := by rfl) (hpl : (backTo pos (starEach [e2] X.env)).any (·.1) = false := by rfl) :
    PI X (.Tuple elts kk tpos) (.Call (.Name "zip" p) [e, e2] [] pos) (iZipK X.K ta) := ⟨fun pins s σ H R I h => by
  refine Call_ (ld_blt I hg hm PyProof.Rows.boot_zip (PyProof.Rows.callWith_type1 (thn (ha.run pos pins s σ H _ I h) fun us s1 ⟨vs, H1, I1, r1, k, k', xs, ys, ex, hx, hy, q⟩ => ?_) hs hpl))
  subst ex
  cases r1 with
  | cons r rr =>
    cases rr with
    | cons r' rr =>
      cases rr
      obtain ⟨o, B, b, hB, hat, hlt⟩ := Kd.begin I1 hx r
      obtain ⟨o', B', b', hB', hat', hlt'⟩ := Kd.begin I1 hy r'
      refine zip_begins2 b b' hB hB' fun h' hz hTI hTO g1 g2 hsz hk => wpAny_pyIter_zip hz ?_
      have I2 : Inv X pins σ H1 { s1 with heap := h' } := I1.kept (t' := s1.toks) hk
      have hn : ∀ (k : Kd), (∀ b ∈ k.adr, b < s1.heap.objs.size) → ∀ j, s1.heap.objs.size + j ∉ k.adr := fun k h j z => absurd (h _ z) (Nat.not_lt.mpr (Nat.le_add_right _ _))
      have n1 := hn k hlt
      have n2 := hn k' hlt'
      have ne : ∀ i j : Nat, i ≠ j → s1.heap.objs.size + i ≠ s1.heap.objs.size + j := fun i j h e => h (Nat.add_left_cancel e)
      have sep : ZipSep2 (s1.heap.objs.size + 4) (s1.heap.objs.size + 2) (s1.heap.objs.size + 3) s1.heap.objs.size (s1.heap.objs.size + 1) (s1.heap.objs.size :: k.adr) ((s1.heap.objs.size + 1) :: k'.adr) := zip_sep2 hlt hlt'
      refine ⟨s1.heap.objs.size + 4, [s1.heap.objs.size + 4, s1.heap.objs.size + 2, s1.heap.objs.size + 3, s1.heap.objs.size, s1.heap.objs.size + 1], _, _, H1, rfl, I2, turn_zipK k k' _ _ _ _ _ sep (n1 0) (n2 1), ⟨hz, hTI, ⟨_, _, hTO⟩, hat _ _ g1, hat' _ _ g2⟩, fun c hc => ?_, q⟩
      have hle : s1.heap.objs.size ≤ c := by
        simp only [List.mem_cons, List.not_mem_nil, or_false] at hc
        rcases hc with e | e | e | e | e <;> rw [e] <;> first | exact Nat.le_refl _ | exact Nat.le_add_right _ _
      exact I1.fpOk hle (I1.hok.fresh hle)⟩
/-! ### what is walked, as data -/
section
variable {S : Type} {C : Deck S} {X : Cx} {W : WX} {A0 A A' : Addr → Prop} {H0 H H' B : Hp} {σ : St} {ρ : En} {st st' : S}
variable {e a b c tg iter elt : Expr} {es rest ifs : List Expr} {pos p p2 tpos : Pos} {sc sc' sa sb vs : List Nat} {de da db dc : DE S} {dt dt' du : DT S} {dl di dj dk : DA S} {ds ds' : DS S} {mg : Str → Option Value} {elts : List Expr} {kk : Nat}
/-- a thing that can be walked, and its items -/
def itD : D → Option (List D)
  | .lst ds => some ds
  | .tup ds => some ds
  | .str l => some (l.map fun c => .str [c])
  | _ => none
theorem kd_of {K : PySem.W.Frag} {v : V} {d : D} {ds : List D} (h : Dat C H A v d) (e : itD d = some ds) : ∃ (k : Kd) (xs : List V), v = k.v ∧ k.has K H xs ∧ Dats C H A xs ds ∧ ∀ H', Keep A H H' → k.has K H' xs := by
  cases d <;> simp only [itD] at e <;> cases e
  case str l =>
    cases h with
    | str o =>
      refine ⟨.str l, _, rfl, rfl, ⟨by simp, fun i x d e1 e2 => ?_⟩, fun _ _ => rfl⟩
      rw [List.getElem?_map] at e1 e2
      cases q : l[i]? with
      | none => rw [q] at e1; cases e1
      | some c =>
        rw [q] at e1 e2
        cases e1; cases e2
        exact .str ⟨by simp, fun z hz => by rw [List.mem_singleton.mp hz]; exact o.2 _ (List.mem_of_getElem? q)⟩
  case tup =>
    obtain ⟨p, xs, rfl, n, r, t⟩ := h.of_tup
    exact ⟨.tup p, xs, rfl, .of r, t, fun H' k => .of (k p _ n r)⟩
  case lst =>
    obtain ⟨p, xs, rfl, n, r, t⟩ := h.of_lst
    exact ⟨.lst p, xs, rfl, .of r, t, fun H' k => .of (k p _ n r)⟩
def enumL (ds : List D) : List D := ds.mapIdx fun i d => .tup [.int (i : Int), d]
def enumD : List D → Option (List D)
  | [d] => (itD d).map enumL
  | _ => none
theorem y_enum {K : PySem.W.Frag} {k : Kd} {xs : List V} {ds : List D} (h : ∀ H', Keep A B H' → k.has K H' xs) (t : Dats C B A xs ds) : Yields C A B (ItE K k) (enumL ds) where
  stop := fun H q => ⟨xs, h H q, by rw [t.len]; simp [enumL]⟩
  go := fun i H hi q => by
    have hi : i < xs.length := by rw [t.len]; simpa [enumL] using hi
    exact ⟨xs, xs[i], h H q, List.getElem?_eq_getElem hi⟩
  yld := fun i H x H' hi q y => by
    obtain ⟨T, u, rfl, hT, rfl, h1⟩ := y
    have hi : i < ds.length := by simpa [enumL] using hi
    refine ⟨.tup [.int (i : Int), ds[i]], by simp [enumL, List.getElem?_eq_getElem hi], Keep.upd hT, fun s z => at_upd z hT, fun A' f hA => ?_⟩
    exact pair_dat f hT (.int _) ((t.at_ i u _ (h1 xs (h H q)) (List.getElem?_eq_getElem hi)).later q hA)
theorem pid_enum (hm : X.mg "enumerate" = none) (ha : PAd X C W [e] sc dl) (hg : Gl X "enumerate" := by rfl) (hs : starEach [e] X.env = [(false, eval e X.env)] := by rfl) : PId X C W (.Tuple elts kk tpos) (.Call (.Name "enumerate" p) [e] [] pos) sc (dRng enumD dl) :=
  pid_of (pi_enumK hg hm ha hs) fun A0 H0 A ρ st σ H R I g => ⟨A0, H0, A, ρ, st, I, g.bind.imp fun ds s1 H1 k1 t1 g1 vs dvs => by
    obtain ⟨l, e, q⟩ := g1.ofO
    match ds, e with
    | [d], e =>
      obtain ⟨ds, e1, rfl⟩ := Option.map_eq_some_iff.mp e
      obtain ⟨x, rfl, hx⟩ := dvs.one
      obtain ⟨k, xs, rfl, hh, t, hk⟩ := kd_of hx e1
      exact ⟨k, xs, rfl, hh, q H1 Keep.refl t1 _ (y_enum hk t)⟩⟩
/-- zip of two things that can be walked -/
def zipA : List D → Option (List D)
  | [a, b] => (itD a).bind fun ds => (itD b).map fun es => zipD ds es
  | _ => none
theorem y_zip {K : PySem.W.Frag} {k k' : Kd} {xs ys : List V} {ds es : List D} (h : ∀ H', Keep A B H' → k.has K H' xs) (t : Dats C B A xs ds) (h' : ∀ H', Keep A B H' → k'.has K H' ys) (t' : Dats C B A ys es) : Yields C A B (ItZ K k k') (zipD ds es) where
  stop := fun H q => ⟨xs, ys, h H q, h' H q, by rw [t.len]; simp [zipD]; omega, by rw [t'.len]; simp [zipD]; omega, by rw [t.len, t'.len]; simp [zipD]; omega⟩
  go := fun i H hi q => by
    simp only [zipD, List.length_zipWith] at hi
    have l1 := t.len
    have l2 := t'.len
    have i1 : i < xs.length := by omega
    have i2 : i < ys.length := by omega
    exact ⟨xs, ys, xs[i], ys[i], h H q, h' H q, List.getElem?_eq_getElem i1, List.getElem?_eq_getElem i2⟩
  yld := fun i H x H' hi q y => by
    obtain ⟨T, u, v, rfl, hT, rfl, h1, h2⟩ := y
    simp only [zipD, List.length_zipWith] at hi
    have i1 : i < ds.length := by omega
    have i2 : i < es.length := by omega
    refine ⟨.tup [ds[i], es[i]], by simp [zipD, List.getElem?_zipWith, List.getElem?_eq_getElem i1, List.getElem?_eq_getElem i2], Keep.upd hT, fun s z => at_upd z hT, fun A' f hA => ?_⟩
    exact pair_dat f hT ((t.at_ i u _ (h1 xs (h H q)) (List.getElem?_eq_getElem i1)).later q hA) ((t'.at_ i v _ (h2 ys (h' H q)) (List.getElem?_eq_getElem i2)).later q hA)
theorem pid_zipA (hm : X.mg "zip" = none) (ha : PAd X C W [a, b] sc dl) (hg : Gl X "zip" := by rfl) (hs : starEach [a, b] X.env = (false, eval a X.env) :: starEach [b] X.env := by rfl) (hpl : (backTo pos (starEach [b] X.env)).any (·.1) = false := by rfl) :
    PId X C W (.Tuple elts kk tpos) (.Call (.Name "zip" p) [a, b] [] pos) sc (dRng zipA dl) :=
  pid_of (pi_zipK hg hm ha hs hpl) fun A0 H0 A ρ st σ H R I g => ⟨A0, H0, A, ρ, st, I, g.bind.imp fun ds s1 H1 k1 t1 g1 vs dvs => by
    obtain ⟨l, e, q⟩ := g1.ofO
    match ds, e with
    | [d, d'], e =>
      obtain ⟨ds, e1, e⟩ := Option.bind_eq_some_iff.mp e
      obtain ⟨es, e2, rfl⟩ := Option.map_eq_some_iff.mp e
      obtain ⟨x, y, rfl, hx, hy⟩ := dvs.two
      obtain ⟨k, xs, rfl, hh, t, hk⟩ := kd_of hx e1
      obtain ⟨k', ys, rfl, hh', t', hk'⟩ := kd_of hy e2
      exact ⟨k, k', xs, ys, rfl, hh, hh', q H1 Keep.refl t1 _ (y_zip hk t hk' t')⟩⟩
/-- reversed(x) -/
def revW : D → Option (List D)
  | .lst ds => some ds.reverse
  | .tup ds => some ds.reverse
  | _ => none
end
end Mir

set_option Elab.async false
set_option linter.all false
set_option maxRecDepth 100000
set_option maxHeartbeats 2000000
namespace Mir
open PySem PySem.Spec L2
open PyProof.Rows hiding St
open PySem.W (alike dataLt minD maxD AlikeAll reads_keeps lt_data min_list_data min_tuple_data max_list_data max_tuple_data)
section
variable {S : Type} {C : Deck S} {X : Cx} {W : WX} {A0 A A' : Addr → Prop} {H0 H H' B : Hp} {σ : St} {ρ : En} {st st' : S}
variable {e a b c tg iter elt k : Expr} {es rest ifs : List Expr} {pos p p2 tpos : Pos} {sc sc' sa sb vs : List Nat} {de da db dc dk : DE S} {dt dt' du : DT S} {dl di dj : DA S} {ds ds' : DS S} {mg : Str → Option Value}
theorem u66 {k : Nat} {A : Around} (r : Room k A) : A.units + 66 < cLine := by have := r.un; omega
/-! ### reversed -/
theorem y_revL {K : PySem.W.Frag} {p : Addr} {vs : List V} {ds : List D} (n : ¬ A p) (r : B p = some (.lst vs)) (t : Dats C B A vs ds) : Yields C A B (Itv K p vs.length) ds.reverse where
  stop := fun H q => by show vs.length ≤ _; rw [t.len]; simp
  go := fun i H hi q => by
    have l := t.len
    have hi : i < vs.length := by rw [l]; simpa using hi
    have h2 : vs.length - 1 - i < vs.length := by omega
    exact ⟨hi, vs, vs[vs.length - 1 - i], .of (q p _ n r), List.getElem?_eq_getElem h2⟩
  yld := fun i H x H' hi q y => by
    obtain ⟨rfl, y⟩ := y
    have l := t.len
    have hi : i < ds.length := by simpa using hi
    have e := y vs (.of (q p _ n r))
    have h2 : ds.length - 1 - i < ds.length := by omega
    refine ⟨ds[ds.length - 1 - i], by rw [List.getElem?_reverse (by simpa using hi)]; exact List.getElem?_eq_getElem h2, Keep.refl, fun _ z => z, fun A' _ hA => (t.at_ _ x _ e ?_).later q hA⟩
    rw [l]; exact List.getElem?_eq_getElem h2
theorem y_revT {K : PySem.W.Frag} {p : Addr} {vs : List V} {ds : List D} (n : ¬ A p) (r : B p = some (.tup vs)) (t : Dats C B A vs ds) : Yields C A B (RT.ItvT K p vs.length) ds.reverse where
  stop := fun H q => by show vs.length ≤ _; rw [t.len]; simp
  go := fun i H hi q => by
    have l := t.len
    have hi : i < vs.length := by rw [l]; simpa using hi
    have h2 : vs.length - 1 - i < vs.length := by omega
    exact ⟨hi, vs, vs[vs.length - 1 - i], .of (q p _ n r), List.getElem?_eq_getElem h2⟩
  yld := fun i H x H' hi q y => by
    obtain ⟨rfl, y⟩ := y
    have l := t.len
    have hi : i < ds.length := by simpa using hi
    have e := y vs (.of (q p _ n r))
    have h2 : ds.length - 1 - i < ds.length := by omega
    refine ⟨ds[ds.length - 1 - i], by rw [List.getElem?_reverse (by simpa using hi)]; exact List.getElem?_eq_getElem h2, Keep.refl, fun _ z => z, fun A' _ hA => (t.at_ _ x _ e ?_).later q hA⟩
    rw [l]; exact List.getElem?_eq_getElem h2
theorem pid_rev (hm : X.mg "reversed" = none) (h : PD X C W e sc de) (hg : Gl X "reversed" := by rfl) (hs : starEach [e] X.env = (false, eval e X.env) :: starEach [] X.env := by rfl) : PId X C W tg (.Call (.Name "reversed" p) [e] [] pos) sc (dWalk de revW) :=
  pid_of (RT.pi_revA hg hm h hs) fun A0 H0 A ρ st σ H R I g => ⟨A0, H0, A, ρ, st, I, g.bind.imp fun d s1 H1 k1 t1 g1 v dv => by
    obtain ⟨ds, e, q⟩ := g1.ofO
    cases d <;> simp only [revW] at e <;> cases e
    · obtain ⟨p, xs, rfl, n, r, t⟩ := dv.of_tup
      exact ⟨p, xs, rfl, .inr ⟨.of r, q H1 Keep.refl t1 _ (y_revT n r t)⟩⟩
    · obtain ⟨p, xs, rfl, n, r, t⟩ := dv.of_lst
      exact ⟨p, xs, rfl, .inl ⟨.of r, q H1 Keep.refl t1 _ (y_revL n r t)⟩⟩⟩
/-! ### data in order -/
def rLtG (K : PySem.W.Frag) : R2 := fun x y H Q => ∃ d e, Dp K H x d ∧ Dp K H y e ∧ alike d e = true ∧ d ≠ .none ∧ d.depth ≤ 64 ∧ Q (.bl (dataLt d e)) H
theorem op_ltG (hu : X.A.units + 64 < cLine) : OpR X (compareOp .Lt) (rLtG X.K) := by
  intro pins s σ H x y v u Q I rx ry h
  obtain ⟨d, e, hd, he, al, hn, hp, q⟩ := h
  obtain ⟨as, r1⟩ := Dp.reads I d x v hd rx
  obtain ⟨bs, r2⟩ := Dp.reads I e y u he ry
  exact lt_data r1 r2 al hn (by omega) ⟨.bl _, H, I, rfl, q⟩
def seqD : D → Bool
  | .tup _ => true
  | .lst _ => true
  | _ => false
def ltG (x y : D) : Option D := if fit 60 x && fit 60 y && seqD x && alike (toPy x) (toPy y) then some (.bl (dataLt (toPy x) (toPy y))) else none
theorem od_ltG {K : PySem.W.Frag} : OpD C (rLtG K) ltG := by
  intro A s H x y dx dy d Q I h1 h2 e q
  unfold ltG at e
  by_cases z : (fit 60 dx && fit 60 dy && seqD dx && alike (toPy dx) (toPy dy)) = true
  · rw [if_pos z] at e
    cases e
    simp only [Bool.and_eq_true] at z
    obtain ⟨⟨⟨z1, z2⟩, z3⟩, z4⟩ := z
    obtain ⟨p1, p2, p3⟩ := dp_of (K := K) 60 dx x h1 z1
    obtain ⟨q1, q2, q3⟩ := dp_of (K := K) 60 dy y h2 z2
    exact ⟨_, _, p1, q1, z4, fun z => by cases dx <;> simp [seqD] at z3 <;> simp [toPy] at z, by omega, q H _ Keep.refl I.at_ (.bl _)⟩
  · rw [if_neg z] at e; cases e
def ltA (x y : D) : Option D := (ltD x y).or (ltG x y)
theorem k_ltA (hu : X.A.units + 64 < cLine) : CmpOk X C .Lt (fun x y H Q => rLtD x y H Q ∨ rLtG X.K x y H Q) ltA := ⟨opr_lt.or (op_ltG hu), OpD.or od_lt od_ltG⟩
/-! ### min, max of a list, of a tuple -/
def itS : D → Option (List D)
  | .lst ds => some ds
  | .tup ds => some ds
  | _ => none
def okAll (ds : List D) : Bool := ds.all (fun d => fit 60 d && (match d with
  | .non => false
  | _ => true)) && ds.all fun d => ds.all fun e => alike (toPy d) (toPy e)
def ltDD (x y : D) : Bool := dataLt (toPy x) (toPy y)
def minL (x : D) (xs : List D) : D := xs.foldl (fun a y => if ltDD y a then y else a) x
def maxL (x : D) (xs : List D) : D := xs.foldl (fun a y => if ltDD a y then y else a) x
theorem minL_py : ∀ (xs : List D) (x : D), toPy (minL x xs) = minD (toPy x) (xs.map toPy)
  | [], x => rfl
  | y :: xs, x => by
    show toPy (minL (if ltDD y x then y else x) xs) = _
    rw [minL_py xs]
    show _ = minD (if dataLt (toPy y) (toPy x) then toPy y else toPy x) (xs.map toPy)
    unfold ltDD
    by_cases z : dataLt (toPy y) (toPy x) = true
    · rw [if_pos z, if_pos z]
    · rw [if_neg z, if_neg z]
theorem maxL_py : ∀ (xs : List D) (x : D), toPy (maxL x xs) = maxD (toPy x) (xs.map toPy)
  | [], x => rfl
  | y :: xs, x => by
    show toPy (maxL (if ltDD x y then y else x) xs) = _
    rw [maxL_py xs]
    show _ = maxD (if dataLt (toPy x) (toPy y) then toPy y else toPy x) (xs.map toPy)
    unfold ltDD
    by_cases z : dataLt (toPy x) (toPy y) = true
    · rw [if_pos z, if_pos z]
    · rw [if_neg z, if_neg z]
theorem minL_mem : ∀ (xs : List D) (x : D), minL x xs ∈ x :: xs
  | [], x => by simp [minL]
  | y :: xs, x => by
    show minL (if ltDD y x then y else x) xs ∈ _
    have := minL_mem xs (if ltDD y x then y else x)
    rcases List.mem_cons.mp this with h | h
    · rw [h]; split <;> simp
    · exact List.mem_cons_of_mem _ (List.mem_cons_of_mem _ h)
theorem maxL_mem : ∀ (xs : List D) (x : D), maxL x xs ∈ x :: xs
  | [], x => by simp [maxL]
  | y :: xs, x => by
    show maxL (if ltDD x y then y else x) xs ∈ _
    have := maxL_mem xs (if ltDD x y then y else x)
    rcases List.mem_cons.mp this with h | h
    · rw [h]; split <;> simp
    · exact List.mem_cons_of_mem _ (List.mem_cons_of_mem _ h)
theorem toPys_map : ∀ ds : List D, toPys ds = ds.map toPy
  | [] => by simp [toPys]
  | d :: ds => by simp [toPys, toPys_map ds]
mutual
theorem toPy_inj : ∀ (n m : Nat) (a b : D), fit n a = true → fit m b = true → toPy a = toPy b → a = b
  | n, m, .non, b, ha, hb, h => by cases b <;> first | rfl | (have := fit_plain hb; simp [plainD] at this; done) | (simp [toPy] at h)
  | n, m, .bl x, b, ha, hb, h => by cases b <;> first | (have := fit_plain hb; simp [plainD] at this; done) | (simp [toPy] at h; try subst h; try rfl)
  | n, m, .int x, b, ha, hb, h => by cases b <;> first | (have := fit_plain hb; simp [plainD] at this; done) | (simp [toPy] at h; try subst h; try rfl)
  | n, m, .str x, b, ha, hb, h => by
    cases b <;> first | (have := fit_plain hb; simp [plainD] at this; done) | (simp [toPy] at h; done) | skip
    rename_i y
    simp only [toPy, PyData.str.injEq] at h
    have := congrArg (fun s : Str => s.cps.toList) h
    simp at this
    rw [this]
  | 0, m, .tup x, b, ha, hb, h => by simp [fit] at ha
  | 0, m, .lst x, b, ha, hb, h => by simp [fit] at ha
  | n + 1, m, .tup x, b, ha, hb, h => by
    cases b <;> first | (have := fit_plain hb; simp [plainD] at this; done) | (simp [toPy] at h; done) | skip
    rename_i y
    cases m with
    | zero => simp [fit] at hb
    | succ m =>
      simp only [toPy, PyData.tuple.injEq] at h
      simp only [fit] at ha hb
      rw [toPys_inj n m x y ha hb h]
  | n + 1, m, .lst x, b, ha, hb, h => by
    cases b <;> first | (have := fit_plain hb; simp [plainD] at this; done) | (simp [toPy] at h; done) | skip
    rename_i y
    cases m with
    | zero => simp [fit] at hb
    | succ m =>
      simp only [toPy, PyData.list.injEq] at h
      simp only [fit] at ha hb
      rw [toPys_inj n m x y ha hb h]
  | 0, m, .dic _ _, b, ha, hb, h => by simp [fit] at ha
  | n + 1, m, .dic _ _, b, ha, hb, h => by simp [fit] at ha
  | 0, m, .deck, b, ha, hb, h => by simp [fit] at ha
  | n + 1, m, .deck, b, ha, hb, h => by simp [fit] at ha
  | 0, m, .ext _, b, ha, hb, h => by simp [fit] at ha
  | n + 1, m, .ext _, b, ha, hb, h => by simp [fit] at ha
theorem toPys_inj : ∀ (n m : Nat) (a b : List D), a.all (fit n) = true → b.all (fit m) = true → toPys a = toPys b → a = b
  | n, m, [], [], _, _, _ => rfl
  | n, m, [], _ :: _, _, _, h => by simp [toPys] at h
  | n, m, _ :: _, [], _, _, h => by simp [toPys] at h
  | n, m, x :: xs, y :: ys, ha, hb, h => by
    simp only [List.all_cons, Bool.and_eq_true] at ha hb
    simp only [toPys, List.cons.injEq] at h
    rw [toPy_inj n m x y ha.1 hb.1 h.1, toPys_inj n m xs ys ha.2 hb.2 h.2]
end
/-- one of a list's things by what it reads as -/
def rBest (K : PySem.W.Frag) (f : PyData → List PyData → PyData) : List V → Hp → VK → Prop := fun us H Q => ∃ (a : Addr) (xs : List V) (d : PyData) (ds : List PyData), us = [.ref a] ∧ (SqL K H a xs ∨ SqT K H a xs) ∧ DpAll K H xs (d :: ds) ∧ AlikeAll (d :: ds) ∧
  PyData.canLayAll0 (d :: ds) = true ∧ PyData.depthAll (d :: ds) ≤ 63 ∧ ∀ (i : Nat) (x : V) e, xs[i]? = some x → (d :: ds)[i]? = some e → e = f d ds → Q x H
theorem DpAll.get_ {K : PySem.W.Frag} {H : Hp} : ∀ {xs : List V} {ds : List PyData}, DpAll K H xs ds → ∀ (i : Nat) x, xs[i]? = some x → ∃ d, ds[i]? = some d ∧ Dp K H x d
  | _, _, .nil, i, x, e => by simp at e
  | _, _, .cons h t, 0, x, e => by simp at e; subst e; exact ⟨_, rfl, h⟩
  | _, _, .cons h t, i + 1, x, e => by simpa using DpAll.get_ t i x (by simpa using e)
theorem canLay_get {ds : List PyData} (h : PyData.canLayAll0 ds = true) {i : Nat} {d : PyData} (e : ds[i]? = some d) : d.canLay0 = true := by
  induction ds generalizing i with
  | nil => simp at e
  | cons x ds ih =>
    simp only [PyData.canLayAll0, Bool.and_eq_true] at h
    cases i with
    | zero => simp at e; subst e; exact h.1
    | succ i => exact ih h.2 (by simpa using e)
theorem best_end {pins : List (Addr × Obj)} {s : Shared} {xs : List V} {us : List Value} {d0 : PyData} {ds : List PyData} {f : PyData → List PyData → PyData} {Q : VK} (I : Inv X pins σ H s) (rv : Vals xs us) (hp : DpAll X.K H xs (d0 :: ds)) (hc : PyData.canLayAll0 (d0 :: ds) = true)
    (q : ∀ (i : Nat) (x : V) e, xs[i]? = some x → (d0 :: ds)[i]? = some e → e = f d0 ds → Q x H) {i : Nat} {v : Value} {h' : Heap} {tk : Nat} {bs : List Addr} (hv : us.toArray[i]? = some v) (r : Reads h' v (f d0 ds) bs) (k : ∀ b o, s.heap.get? b = some o → h'.get? b = some o) :
    EP X pins σ Q v { s with heap := h', toks := tk } := by
  have hv : us[i]? = some v := by simpa using hv
  have hi : i < xs.length := by rw [rv.length]; exact (List.getElem?_eq_some_iff.mp hv).1
  obtain ⟨u, h1, h2⟩ := rv.get (List.getElem?_eq_getElem hi)
  rw [hv] at h1
  cases h1
  obtain ⟨d, e1, e2⟩ := DpAll.get_ hp i _ (List.getElem?_eq_getElem hi)
  obtain ⟨as, r1⟩ := Dp.reads I d _ _ e2 h2
  have r2 := reads_keeps k r1
  have hd : d = f d0 ds := (Reads.unique r2 _ _ r).1
  exact ⟨_, H, I.kept (t' := tk) k, h2, q i _ d (List.getElem?_eq_getElem hi) e1 hd⟩
theorem cr_minG (hc : X.calm = true) (hu : X.A.units + 66 < cLine) : CallR X (.builtin "min") (rBest X.K minD) := by
  intro pins s σ H vs us Q I r h
  obtain ⟨a, xs, d, ds, rfl, hs, hp, hal, hcl, hdp, q⟩ := h
  rw [Vals.ref1 r]
  have hh := I.ok.hd hc
  rcases hs with hs | hs
  · obtain ⟨its, rv, hl, hz⟩ := I.list hs
    obtain ⟨as, rr⟩ := Dp.readsAll I _ _ _ hp rv
    exact min_list_data hh hl.isList (by simpa using rr) hal (by omega) fun i v h' tk bs hv r k => best_end I rv hp hcl q hv r k
  · obtain ⟨its, rv, hl, hz⟩ := I.tuple hs
    obtain ⟨as, rr⟩ := Dp.readsAll I _ _ _ hp rv
    exact min_tuple_data hh hl (by simpa using rr) hal (by omega) fun i v h' tk bs hv r k => best_end I rv hp hcl q hv r k
theorem cr_maxG (hc : X.calm = true) (hu : X.A.units + 66 < cLine) : CallR X (.builtin "max") (rBest X.K maxD) := by
  intro pins s σ H vs us Q I r h
  obtain ⟨a, xs, d, ds, rfl, hs, hp, hal, hcl, hdp, q⟩ := h
  rw [Vals.ref1 r]
  have hh := I.ok.hd hc
  rcases hs with hs | hs
  · obtain ⟨its, rv, hl, hz⟩ := I.list hs
    obtain ⟨as, rr⟩ := Dp.readsAll I _ _ _ hp rv
    exact max_list_data hh hl.isList (by simpa using rr) hal (by omega) fun i v h' tk bs hv r k => best_end I rv hp hcl q hv r k
  · obtain ⟨its, rv, hl, hz⟩ := I.tuple hs
    obtain ⟨as, rr⟩ := Dp.readsAll I _ _ _ hp rv
    exact max_tuple_data hh hl (by simpa using rr) hal (by omega) fun i v h' tk bs hv r k => best_end I rv hp hcl q hv r k
def bestD (g : D → List D → D) : List D → Option D
  | [x] => (itS x).bind fun ds => match ds with
    | [] => none
    | d :: ds => if okAll (d :: ds) then some (g d ds) else none
  | _ => none
def minD1 : List D → Option D := bestD minL
def maxD1 : List D → Option D := bestD maxL
theorem alikeAll_of {ds : List D} (h : okAll ds = true) : AlikeAll (toPys ds) ∧ ds.all (fit 60) = true := by
  simp only [okAll, Bool.and_eq_true, List.all_eq_true] at h
  obtain ⟨h1, h2⟩ := h
  refine ⟨⟨fun x hx y hy => ?_, fun x hx z => ?_⟩, List.all_eq_true.mpr fun d hd => (h1 d hd).1⟩
  · rw [toPys_map] at hx hy
    obtain ⟨d, hd, rfl⟩ := List.mem_map.mp hx
    obtain ⟨e, he, rfl⟩ := List.mem_map.mp hy
    exact h2 d hd e he
  · rw [toPys_map] at hx
    obtain ⟨d, hd, rfl⟩ := List.mem_map.mp hx
    have := h1 d hd
    cases d <;> simp [toPy] at z <;> simp [fit] at this
theorem cd_best {K : PySem.W.Frag} {f : PyData → List PyData → PyData} {g : D → List D → D} (hg : ∀ xs x, toPy (g x xs) = f (toPy x) (xs.map toPy)) (hm : ∀ xs x, g x xs ∈ x :: xs) : CallD C (rBest K f) (bestD g) := by
  intro A s H xs ds d Q I h e q
  match ds, e with
  | [x], e =>
    obtain ⟨ds, e1, e2⟩ := Option.bind_eq_some_iff.mp e
    obtain ⟨v, rfl, hx⟩ := h.one
    match ds, e1, e2 with
    | d0 :: ds, e1, e2 =>
      dsimp only at e2
      by_cases z : okAll (d0 :: ds) = true
      · rw [if_pos z] at e2
        cases e2
        obtain ⟨z1, z2⟩ := alikeAll_of z
        have key : ∀ (p : Addr) (ys : List V), Dats C H A ys (d0 :: ds) → DpAll K H ys (toPy d0 :: toPys ds) ∧ PyData.canLayAll0 (toPy d0 :: toPys ds) = true ∧ PyData.depthAll (toPy d0 :: toPys ds) ≤ 63 ∧ ∀ (i : Nat) (x : V) e, ys[i]? = some x → (toPy d0 :: toPys ds)[i]? = some e → e = f (toPy d0) (toPys ds) → Q x H := by
          intro p ys t
          obtain ⟨p1, p2, p3⟩ := dps_of (K := K) 60 (d0 :: ds) ys t z2
          simp only [toPys] at p1 p2 p3
          refine ⟨p1, p2, by omega, fun i x e ex ee ef => q H x Keep.refl I.at_ ?_⟩
          have hi : i < (d0 :: ds).length := by rw [← t.len]; exact (List.getElem?_eq_some_iff.mp ex).1
          have hd := t.at_ i x _ ex (List.getElem?_eq_getElem hi)
          have e3 : e = toPy (d0 :: ds)[i] := by
            have : (toPy d0 :: toPys ds) = (d0 :: ds).map toPy := by rw [toPys_map]; rfl
            rw [this, List.getElem?_map, List.getElem?_eq_getElem hi] at ee
            cases ee; rfl
          have e4 : toPy (d0 :: ds)[i] = toPy (g d0 ds) := by rw [← e3, ef, hg, toPys_map]
          have f1 : fit 60 (d0 :: ds)[i] = true := List.all_eq_true.mp z2 _ (List.getElem_mem hi)
          have f2 : fit 60 (g d0 ds) = true := List.all_eq_true.mp z2 _ (hm ds d0)
          rw [← toPy_inj 60 60 _ _ f1 f2 e4]
          exact hd
        simp only [toPys] at z1
        cases x <;> simp only [itS] at e1 <;> cases e1
        · obtain ⟨p, ys, rfl, n, r, t⟩ := hx.of_tup
          obtain ⟨k1, k2, k3, k4⟩ := key p ys t
          exact ⟨p, ys, _, _, rfl, .inr (.of r), k1, z1, k2, k3, k4⟩
        · obtain ⟨p, ys, rfl, n, r, t⟩ := hx.of_lst
          obtain ⟨k1, k2, k3, k4⟩ := key p ys t
          exact ⟨p, ys, _, _, rfl, .inl (.of r), k1, z1, k2, k3, k4⟩
      · rw [if_neg z] at e2; cases e2
theorem pd_min1 (hc : X.calm = true) (hu : X.A.units + 66 < cLine) (hm : X.mg "min" = none) (ha : PAd X C W [a] sc dl) (hg : Gl X "min" := by rfl) (he : starEach [a] X.env = (false, eval a X.env) :: starEach [] X.env := by rfl) (hpl : (backTo pos (starEach [] X.env)).any (·.1) = false := by rfl) : PD X C W (.Call (.Name "min" p) [a] [] pos) sc (dCallB minD1 dl) :=
  pd_callB (cr_minG hc hu) (cd_best minL_py minL_mem) hm ha (by decide +kernel) hg (by decide) (by decide) he hpl
theorem pd_max1 (hc : X.calm = true) (hu : X.A.units + 66 < cLine) (hm : X.mg "max" = none) (ha : PAd X C W [a] sc dl) (hg : Gl X "max" := by rfl) (he : starEach [a] X.env = (false, eval a X.env) :: starEach [] X.env := by rfl) (hpl : (backTo pos (starEach [] X.env)).any (·.1) = false := by rfl) : PD X C W (.Call (.Name "max" p) [a] [] pos) sc (dCallB maxD1 dl) :=
  pd_callB (cr_maxG hc hu) (cd_best maxL_py maxL_mem) hm ha (by decide +kernel) hg (by decide) (by decide) he hpl
end
end Mir

set_option Elab.async false
set_option linter.all false
set_option maxRecDepth 100000
set_option maxHeartbeats 2000000
namespace Mir
open PySem PySem.Spec L2
open PyProof.Rows hiding St
open PySem.W (alike dataLt dataLe EachIs AllAlike Sortable sorted_data sort_maps)
section
variable {S : Type} {C : Deck S} {X : Cx} {W : WX} {A0 A A' : Addr → Prop} {H0 H H' B : Hp} {σ : St} {ρ : En} {st st' : S}
variable {e a b c tg iter elt k : Expr} {es rest ifs : List Expr} {pos p p2 tpos q1 q2 : Pos} {sc sc' sa sb vs : List Nat} {de da db dc dk : DE S} {dt dt' du : DT S} {dl di dj : DA S} {ds ds' : DS S} {mg : Str → Option Value}
/-! ### an item of an own list is stored -/
def rGetL (K : PySem.W.Frag) : V → V → Hp → VK → Prop := fun o i H Q => ∃ (p : Addr) (xs : List V) (k : Int) (x : V), o = .ref p ∧ i = .int k ∧ SqL K H p xs ∧ 0 ≤ k ∧ xs[k.toNat]? = some x ∧ Q x H
theorem get_list : PGet X (rGetL X.K) := by
  intro pins s σ H o i ov iv Q I ro ri h
  obtain ⟨p, xs, k, x, rfl, rfl, hq, h0, hx, q⟩ := h
  cases ro
  obtain ⟨t, rfl⟩ := ri
  obtain ⟨its, rv, pl, hz⟩ := I.list hq
  obtain ⟨u, hu, ru⟩ := rv.get hx
  have hl : k.toNat < xs.length := (List.getElem?_eq_some_iff.mp hx).1
  have hn := line63
  exact wpAny_getItem_list pl.isList h0 (by omega) (by simpa using hu) ⟨x, H, I, ru, q⟩
/-- x[k] += e, a list of ints -/
def dAugO (i : Nat) (dk de : DE S) : DS S := fun ρ s => match ρ[i]? with
  | some (some (.own es)) => (dk ρ s).out ρ fun k s1 => match k with
    | .int n => if 0 ≤ n then (match es[n.toNat]? with
      | some (.int old) => (de ρ s1).out ρ fun y s2 => match y with
        | .int z => .nx (ρ.set i (some (.own (es.set n.toNat (.int (old + z)))))) s2
        | _ => .bad
      | _ => .bad) else .bad
    | _ => .bad
  | _ => .bad
theorem Dats.put {xs : List V} {ds : List D} (t : Dats C H A xs ds) {j : Nat} {v : V} {d : D} (h : Dat C H A v d) : Dats C H A (xs.set j v) (ds.set j d) where
  len := by rw [List.length_set, List.length_set]; exact t.len
  at_ := fun i x e e1 e2 => by
    by_cases hj : i = j
    · subst hj
      have l1 : i < xs.length := by have := (List.getElem?_eq_some_iff.mp e1).1; rwa [List.length_set] at this
      have l2 : i < ds.length := by rw [← t.len]; exact l1
      rw [List.getElem?_set_self l1] at e1
      rw [List.getElem?_set_self l2] at e2
      cases e1; cases e2; exact h
    · rw [List.getElem?_set_ne (Ne.symm hj)] at e1 e2
      exact t.at_ i x e e1 e2
theorem ixN_nat {n : Nat} {k : Int} (h0 : 0 ≤ k) (h : k.toNat < n) : ixN n k = some k.toNat := by
  unfold ixN
  rw [if_pos h0, if_pos (by omega)]
theorem psd_augo (i : Nat) {x : Str} (hk : PD X C W k [] dk) (h : PD X C W e [] de) (hN : X.N[i]? = some x := by rfl) (hv : Vis X.env.scope x := by first | exact Or.inl rfl | exact Or.inr (Or.inl rfl) | exact Or.inr (Or.inr rfl)) (hd : (x == ("__debug__" : Str)) = false := by decide) (hcd : (x == ("__classdict__" : Str)) = false := by decide)
    (ha : ∀ ov iv new, augStore k ov iv new = (do holding [new, ov, iv] (setItem ov iv new); release [new, ov, iv] []; pure .next) := by intros; rfl) :
    PSd X C W (.AugAssign (.Subscript (.Name x q1) k tpos) .Add e pos) (dAugO i dk de) :=
  psd_of (ps_augS (pe_var hN hv hd hcd) hk get_list h ip_add set_list ha) fun A0 H0 A ρ st σ H DD I g => by
    unfold dAugO at g
    split at g
    rotate_left
    · exact g.elim
    rename_i es q
    obtain ⟨p, ws, g1, g2, g3, g4⟩ := I.ownAt q
    refine ⟨_, g1, A0, H0, A, ρ, st, I, (g.out I).imp fun d s1 H1 k1 t1 ⟨I1, g1'⟩ iv div => ?_⟩
    obtain ⟨n, rfl⟩ : ∃ n, d = .int n := by cases d <;> first | exact ⟨_, rfl⟩ | exact g1'.elim
    cases div
    dsimp only at g1'
    by_cases h0 : 0 ≤ n
    · rw [if_pos h0] at g1'
      cases hes : es[n.toNat]? with
      | none => rw [hes] at g1'; exact g1'.elim
      | some old =>
        rw [hes] at g1'
        obtain ⟨o, rfl⟩ : ∃ o, old = .int o := by cases old <;> first | exact ⟨_, rfl⟩ | exact g1'.elim
        dsimp only at g1'
        obtain ⟨p', ws', e1, e2, e3, e4⟩ := I1.ownAt q
        rw [g1] at e1
        cases e1
        obtain ⟨xo, hxo, dxo⟩ := e3.get hes
        cases dxo
        refine ⟨p, ws', n, _, rfl, rfl, .of e2, h0, hxo, A0, H0, A, ρ, s1, I1, (g1'.out I1).imp fun y s2 H2 k2 t2 ⟨I2, g2'⟩ v dv => ?_⟩
        obtain ⟨z, rfl⟩ : ∃ z, y = .int z := by cases y <;> first | exact ⟨_, rfl⟩ | exact g2'.elim
        cases dv
        obtain ⟨p'', ws'', e1, e2', e3', e4'⟩ := I2.ownAt q
        rw [g1] at e1
        cases e1
        refine ⟨o, z, rfl, rfl, p, ws'', n, n.toNat, rfl, rfl, e2', ?_, ?_⟩
        · have : n.toNat < ws''.length := by rw [e3'.len]; exact (List.getElem?_eq_some_iff.mp hes).1
          exact ixN_nat h0 this
        · exact g2' A _ σ (I2.writeOwn q g1 (e3'.put (.int _)))
    · rw [if_neg h0] at g1'; exact g1'.elim
/-- x[k] = e, flat -/
def dSetO (i : Nat) (dk de : DE S) : DS S := fun ρ s => match ρ[i]? with
  | some (some (.own _)) => (de ρ s).out ρ fun y s1 => (dk ρ s1).out ρ fun k s2 => match k, ρ[i]? with
    | .int n, some (some (.own es)) => if 0 ≤ n ∧ n.toNat < es.length then .nx (ρ.set i (some (.own (es.set n.toNat y)))) s2 else .bad
    | _, _ => .bad
  | _ => .bad
theorem psd_seto (i : Nat) {x : Str} (hk : PD X C W k [] dk) (h : PD X C W e [] de) (hN : X.N[i]? = some x := by rfl) (hv : Vis X.env.scope x := by first | exact Or.inl rfl | exact Or.inr (Or.inl rfl) | exact Or.inr (Or.inr rfl)) (hd : (x == ("__debug__" : Str)) = false := by decide) (hcd : (x == ("__classdict__" : Str)) = false := by decide)
    (ha : ∀ v, assign (.Subscript (.Name x q1) k tpos) X.env v = (do
      let ov ← holding [v] (eval (.Name x q1) X.env)
      let iv ← holding [v, ov] (eval k X.env)
      standAt tpos
      holding [v, ov, iv] (setItem ov iv v)
      release [v, ov, iv] []) := by intro _; rfl)
    (hs : swapsWithSole [.Subscript (.Name x q1) k tpos] e pos.line X.env = pure false := by rfl) (hw : swappedStores [.Subscript (.Name x q1) k tpos] e X.env = pure none := by rfl) (h1 : (assignEach [.Subscript (.Name x q1) k tpos] X.env).map (·.2) = [assign (.Subscript (.Name x q1) k tpos) X.env] := by rfl) :
    PSd X C W (.Assign [.Subscript (.Name x q1) k tpos] e pos) (dSetO i dk de) :=
  psd_of (ps_asg h (pg_sub (pe_var hN hv hd hcd) hk set_list ha) hs hw h1) fun A0 H0 A ρ st σ H DD I g => by
    unfold dSetO at g
    split at g
    rotate_left
    · exact g.elim
    rename_i es q
    refine ⟨A0, H0, A, ρ, st, I, (g.out I).imp fun d s1 H1 k1 t1 ⟨I1, g1'⟩ v dv => ?_⟩
    obtain ⟨p, ws, g1, g2, g3, g4⟩ := I1.ownAt q
    refine ⟨_, g1, A0, H0, A, ρ, s1, I1, (g1'.out I1).imp fun kk s2 H2 k2 t2 ⟨I2, g2'⟩ iv div => ?_⟩
    rw [q] at g2'
    obtain ⟨n, rfl⟩ : ∃ n, kk = .int n := by cases kk <;> first | exact ⟨_, rfl⟩ | exact g2'.elim
    cases div
    dsimp only at g2'
    by_cases z : 0 ≤ n ∧ n.toNat < es.length
    · rw [if_pos z] at g2'
      obtain ⟨p'', ws'', e1, e2', e3', e4'⟩ := I2.ownAt q
      rw [g1] at e1
      cases e1
      rw [Amin.nil] at dv
      refine ⟨p, ws'', n, n.toNat, rfl, rfl, e2', ixN_nat z.1 (by rw [e3'.len]; exact z.2), ?_⟩
      exact g2' A _ σ (I2.writeOwn q g1 (e3'.put (dv.keep k2 I1.domA)))
    · rw [if_neg z] at g2'; exact g2'.elim
/-! ### sorted of a list -/
def rSortG (K : PySem.W.Frag) : List V → Hp → VK → Prop := fun us H Q => ∃ (a : Addr) (zs : List (V × PyData)), us = [.ref a] ∧ SqL K H a (zs.map (·.1)) ∧ (∀ z ∈ zs, Dp K H z.1 z.2 ∧ z.2.depth ≤ 63) ∧ AllAlike (zs.map (·.2)) ∧ Sortable (zs.map (·.2)) ∧
  ∀ p, H p = none → Q (.ref p) (upd H p (.lst ((zs.mergeSort (dataLe false fun z : V × PyData => z.2)).map (·.1))))
theorem each_vals {R : Value → (V × PyData) → Prop} (hR : ∀ v z, R v z → RelV z.1 v) : ∀ {us : List Value} {zs : List (V × PyData)}, EachIs R us zs → Vals (zs.map (·.1)) us
  | _, _, .nil => .nil
  | _, _, .cons h t => .cons (hR _ _ h) (each_vals hR t)
theorem vals_each : ∀ {zs : List (V × PyData)} {us : List Value}, Vals (zs.map (·.1)) us → EachIs (fun v z => RelV z.1 v) us zs
  | [], us, h => by cases h; exact .nil
  | z :: zs, us, h => by
    cases h with
    | cons h t => exact .cons h (vals_each t)
theorem each_and {α β : Type} {R R' : α → β → Prop} : ∀ {us : List α} {zs : List β}, EachIs R us zs → (∀ z ∈ zs, ∀ u, R u z → R' u z) → EachIs R' us zs
  | _, _, .nil, _ => .nil
  | _, _, .cons h t, k => .cons (k _ List.mem_cons_self _ h) (each_and t fun z hz => k z (List.mem_cons_of_mem _ hz))
theorem cr_sortG (hu : X.A.units + 66 < cLine) : CallR X (.builtin "sorted") (rSortG X.K) := by
  intro pins s σ H vs us Q I r h
  obtain ⟨a, zs, rfl, hs, hd, hal, hso, q⟩ := h
  rw [Vals.ref1 r]
  obtain ⟨its, rv, hl, hz⟩ := I.list hs
  have e0 := vals_each rv
  have er : EachIs (fun v (z : V × PyData) => ∃ as, Reads s.heap v z.2 as) its zs := each_and e0 fun z hz u ru => Dp.reads I z.2 z.1 u (hd z hz).1 ru
  refine sorted_data (R := fun v (z : V × PyData) => RelV z.1 v) (enc := fun z : V × PyData => z.2) (bs := zs) hl.isList e0 er hal hso (by rw [← List.length_map (f := fun z : V × PyData => z.1)]; exact hz) (fun z hz => by have := (hd z hz).2; omega) fun out h1 h2 => ?_
  obtain ⟨ep, he⟩ := PyProof.Rows.sortedAll_at s.heap its out.toArray
  have hv := each_vals (fun _ _ h => h) h2
  have hlen : ((zs.mergeSort (dataLe false fun z : V × PyData => z.2)).map (·.1)).length ≤ sizeLine := by
    rw [List.length_map, List.length_mergeSort, ← List.length_map (f := fun z : V × PyData => z.1)]; exact hz
  have new : ObjOk X.prog X.w (upd H (s.heap.objs.size + 1) (.lst ((zs.mergeSort (dataLe false fun z : V × PyData => z.2)).map (·.1)))) (PyProof.Rows.sortedAll s.heap its out.toArray) (s.heap.objs.size + 1) (.lst ((zs.mergeSort (dataLe false fun z : V × PyData => z.2)).map (·.1))) := ⟨hlen, out, ep, hv, he⟩
  exact ⟨.ref _, _, I.laid (t' := s.toks) (fun _ _ => PyProof.Rows.sortedAll_old) (Nat.le_succ _) new, rfl, q _ (I.hok.fresh (Nat.le_succ _))⟩
def srtOk (ds : List D) : Bool := okAll ds && (ds.all (fun d => match d with
  | .tup (_ :: _) => true
  | _ => false) || ds.all fun d => match d with
  | .tup _ => false
  | _ => true)
def srtL (ds : List D) : List D := ds.mergeSort (dataLe false toPy)
def sortD : List D → Option D
  | [.lst ds] => if srtOk ds then some (.lst (srtL ds)) else none
  | _ => none
theorem cd_sort {K : PySem.W.Frag} : CallD C (rSortG K) sortD := by
  intro A s H xs ds d Q I h e q
  match ds, e with
  | [.lst ds], e =>
    simp only [sortD] at e
    by_cases z : srtOk ds = true
    · rw [if_pos z] at e
      cases e
      obtain ⟨v, rfl, hx⟩ := h.one
      obtain ⟨p, ys, rfl, n, r, t⟩ := hx.of_lst
      simp only [srtOk, Bool.and_eq_true] at z
      obtain ⟨z1, z2⟩ := z
      obtain ⟨a1, a2⟩ := alikeAll_of z1
      have hl := t.len
      have m1 : (ys.zip (ds.map toPy)).map (·.1) = ys := List.map_fst_zip (by rw [List.length_map]; omega)
      have m2 : (ys.zip (ds.map toPy)).map (·.2) = ds.map toPy := List.map_snd_zip (by rw [List.length_map]; omega)
      refine ⟨p, ys.zip (ds.map toPy), rfl, by rw [m1]; exact .of r, fun z hz => ?_, ?_, ?_, fun l hl' => ?_⟩
      · obtain ⟨i, hi, e⟩ := List.getElem_of_mem hz
        have hi1 : i < ys.length := by simp at hi; omega
        have hi2 : i < ds.length := by omega
        have e' : z = (ys[i], toPy ds[i]) := by rw [← e]; simp
        subst e'
        obtain ⟨p1, p2, p3⟩ := dp_of (K := K) 60 ds[i] ys[i] (t.at_ i _ _ (List.getElem?_eq_getElem hi1) (List.getElem?_eq_getElem hi2)) (List.all_eq_true.mp a2 _ (List.getElem_mem hi2))
        exact ⟨p1, by show (toPy ds[i]).depth ≤ 63; omega⟩
      · rw [m2]
        rw [toPys_map] at a1
        exact fun d hd d' hd' => a1.1 d hd d' hd'
      · rw [m2]
        simp only [Bool.or_eq_true, List.all_eq_true] at z2
        rcases z2 with z2 | z2
        · refine .inl fun d hd => ?_
          obtain ⟨e, he, rfl⟩ := List.mem_map.mp hd
          have := z2 e he
          match e, this with
          | .tup (x :: l), _ => exact ⟨toPy x, toPys l, by simp [toPy, toPys]⟩
        · refine .inr fun d hd => ?_
          obtain ⟨e, he, rfl⟩ := List.mem_map.mp hd
          have h1 := z2 e he
          refine ⟨fun z => a1.2 _ (by rw [toPys_map]; exact hd) z, fun xs z => ?_⟩
          cases e <;> simp [toPy] at z <;> simp at h1
      · obtain ⟨k, t', n'⟩ := I.new (o := .lst (((ys.zip (ds.map toPy)).mergeSort (dataLe false fun z : V × PyData => z.2)).map (·.1))) hl'
        refine q _ _ k t' (Dat.lst_mk n' upd_same (Dats.keep ?_ k I.dom))
        -- the pairs of both
        have hz : ∀ (xs : List (V × D)), xs.mergeSort (dataLe false fun z : V × D => toPy z.2) = xs.mergeSort (dataLe false fun z : V × D => toPy z.2) := fun _ => rfl
        have e1 : ys.zip (ds.map toPy) = (ys.zip ds).map fun z : V × D => (z.1, toPy z.2) := by rw [List.zip_map_right]; rfl
        have s1 : ((ys.zip ds).mergeSort (dataLe false fun z : V × D => toPy z.2)).map (fun z : V × D => (z.1, toPy z.2)) = ((ys.zip ds).map fun z : V × D => (z.1, toPy z.2)).mergeSort (dataLe false fun z : V × PyData => z.2) := sort_maps _ fun a _ b _ => rfl
        have s2 : ((ys.zip ds).mergeSort (dataLe false fun z : V × D => toPy z.2)).map (·.2) = ((ys.zip ds).map (·.2)).mergeSort (dataLe false toPy) := sort_maps _ fun a _ b _ => rfl
        have m3 : (ys.zip ds).map (·.2) = ds := List.map_snd_zip (by omega)
        rw [m3] at s2
        rw [e1, ← s1, List.map_map]
        show Dats C H A _ (srtL ds)
        unfold srtL
        rw [← s2]
        generalize hg : (ys.zip ds).mergeSort (dataLe false fun z : V × D => toPy z.2) = zs
        have hm : ∀ z ∈ zs, Dat C H A z.1 z.2 := fun z hz => by
          rw [← hg] at hz
          have hz := (List.mergeSort_perm _ _).mem_iff.mp hz
          obtain ⟨i, hi, e⟩ := List.getElem_of_mem hz
          have hi1 : i < ys.length := by simp at hi; omega
          have hi2 : i < ds.length := by omega
          have e' : z = (ys[i], ds[i]) := by rw [← e]; simp
          subst e'
          exact t.at_ i _ _ (List.getElem?_eq_getElem hi1) (List.getElem?_eq_getElem hi2)
        refine ⟨by simp, fun i x d e1 e2 => ?_⟩
        rw [List.getElem?_map] at e1 e2
        cases q : zs[i]? with
        | none => rw [q] at e1; cases e1
        | some z =>
          rw [q] at e1 e2
          cases e1; cases e2
          exact hm z (List.mem_of_getElem? q)
    · rw [if_neg z] at e; cases e
theorem pd_sorted (hu : X.A.units + 66 < cLine) (hm : X.mg "sorted" = none) (ha : PAd X C W [a] sc dl) (hg : Gl X "sorted" := by rfl) (he : starEach [a] X.env = (false, eval a X.env) :: starEach [] X.env := by rfl) (hpl : (backTo pos (starEach [] X.env)).any (·.1) = false := by rfl) : PD X C W (.Call (.Name "sorted" p) [a] [] pos) sc (dCallB sortD dl) :=
  pd_callB (cr_sortG hu) cd_sort hm ha (by decide +kernel) hg (by decide) (by decide) he hpl
end
end Mir

set_option Elab.async false
set_option linter.all false
set_option maxRecDepth 100000
set_option maxHeartbeats 2000000
/-! typed functions beside what a def does on trees -/
namespace Mir
open PySem PySem.Spec L2
open PyProof.Rows hiding St

abbrev M (α : Type) := DeckSt → R DeckSt α
abbrev Wd := List Nat
def ret {α : Type} (a : α) : M α := fun s => .ok a s
def bnd {α β : Type} (m : M α) (k : α → M β) : M β := fun s => (m s).bind k
def bad {α : Type} : M α := fun _ => .bad
def exc {α : Type} (c : Str) : M α := fun s => .ex c s
def lft {α : Type} (o : Option α) : M α := fun s => ofO s o
def mp {α β : Type} (f : α → β) (m : M α) : M β := bnd m fun a => ret (f a)
def prd {α β : Type} (m : M α) (n : M β) : M (α × β) := bnd m fun a => bnd n fun b => ret (a, b)
section
variable {α β γ : Type}
@[simp] theorem bnd_ret {a : α} {k : α → M β} : bnd (ret a) k = k a := rfl
@[simp] theorem bnd_bad {k : α → M β} : bnd bad k = bad := rfl
@[simp] theorem bnd_exc {c : Str} {k : α → M β} : bnd (exc c) k = exc c := rfl
theorem R.bind_bind {S : Type} {r : R S α} {f : α → S → R S β} {g : β → S → R S γ} : (r.bind f).bind g = r.bind fun a s => (f a s).bind g := by cases r <;> rfl
@[simp] theorem bnd_bnd {m : M α} {k : α → M β} {l : β → M γ} : bnd (bnd m k) l = bnd m fun a => bnd (k a) l := by
  funext s; exact R.bind_bind
@[simp] theorem lft_some {a : α} : lft (some a) = ret a := rfl
@[simp] theorem lft_none : lft (none : Option α) = bad := rfl
@[simp] theorem mp_ret {f : α → β} {a : α} : mp f (ret a) = ret (f a) := rfl
@[simp] theorem mp_bad {f : α → β} : mp f bad = bad := rfl
@[simp] theorem mp_exc {f : α → β} {c : Str} : mp f (exc c) = exc c := rfl
@[simp] theorem bnd_mp {f : α → β} {m : M α} {k : β → M γ} : bnd (mp f m) k = bnd m fun a => k (f a) := by
  unfold mp; rw [bnd_bnd]; rfl
@[simp] theorem prd_ret {a : α} {b : β} : prd (ret a) (ret b) = ret (a, b) := rfl
@[simp] theorem prd_bnd {m : M α} {k : α → M β} {n : M γ} : prd (bnd m k) n = bnd m fun a => prd (k a) n := by
  unfold prd; rw [bnd_bnd]
@[simp] theorem prd_mp {f : α → β} {m : M α} {n : M γ} : prd (mp f m) n = bnd m fun a => prd (ret (f a)) n := by
  unfold mp; rw [prd_bnd]
theorem prd_ret1 {a : α} {n : M β} : prd (ret a) n = mp (fun b => (a, b)) n := rfl
@[simp] theorem bnd_prd {a : α} {n : M β} {k : α × β → M γ} : bnd (prd (ret a) n) k = bnd n fun b => k (a, b) := by
  rw [prd_ret1, bnd_mp]
@[simp] theorem bnd_ite {c : Prop} [Decidable c] {m n : M α} {k : α → M β} : bnd (if c then m else n) k = if c then bnd m k else bnd n k := by split <;> rfl

/-- t, where it is told, is what r is -/
def RE (e : α → β) (r : R DeckSt β) (t : R DeckSt α) : Prop := t ≠ .bad → r = t.map e
def TE (de : DE DeckSt) (ρ : En) (t : M α) (e : α → D) : Prop := ∀ s, RE e (de ρ s) (t s)
def TA (da : DA DeckSt) (ρ : En) (t : M α) (e : α → List D) : Prop := ∀ s, RE e (da ρ s) (t s)
def TT (dt : DT DeckSt) (ρ : En) (t : M Bool) : Prop := ∀ s, RE id (dt ρ s) (t s)
def TP (dp : E1 DeckSt (Option Int)) (ρ : En) (t : M (Option Int)) : Prop := ∀ s, RE id (dp ρ s) (t s)
variable {β' γ' δ : Type}
theorem RE.bind {e : α → β'} {e' : γ → γ'} {r : R DeckSt β'} {t : R DeckSt α} {f : β' → DeckSt → R DeckSt γ'} {g : α → DeckSt → R DeckSt γ} (h : RE e r t) (k : ∀ a s, t = .ok a s → RE e' (f (e a) s) (g a s)) : RE e' (r.bind f) (t.bind g) := fun n => by
  cases t with
  | bad => exact absurd rfl n
  | ex c s => rw [h (fun z => nomatch z)]; rfl
  | ok a s => rw [h (fun z => nomatch z)]; exact k a s rfl n
theorem RE.ok {e : α → β} {a : α} {s : DeckSt} {b : β} (h : b = e a) : RE e (.ok b s) (.ok a s) := fun _ => by rw [h]; rfl
theorem RE.ofO {e : α → β} {s : DeckSt} {o : Option β} {o' : Option α} (h : ∀ a, o' = some a → o = some (e a)) : RE e (ofO s o) (Mir.ofO s o') := fun n => by
  cases o' with
  | none => exact absurd rfl n
  | some a => rw [h a rfl]; rfl
/-- an operation with two arguments, with one -/
def bin {α β γ : Type} (op : α → β → Option γ) (ta : M α) (tb : M β) : M γ := bnd ta fun a => bnd tb fun b => lft (op a b)
def un {α β : Type} (op : α → Option β) (ta : M α) : M β := bnd ta fun a => lft (op a)
@[simp] theorem bin_ret {op : α → β → Option γ} {a : α} {b : β} : bin op (ret a) (ret b) = lft (op a b) := rfl
@[simp] theorem un_ret {op : α → Option β} {a : α} : un op (ret a) = lft (op a) := rfl
@[simp] theorem bin_bnd {op : β → γ → Option δ} {m : M α} {k : α → M β} {n : M γ} : bin op (bnd m k) n = bnd m fun a => bin op (k a) n := by
  unfold bin; rw [bnd_bnd]
@[simp] theorem bin_bnd2 {op : β → γ → Option δ} {b : β} {m : M α} {k : α → M γ} : bin op (ret b) (bnd m k) = bnd m fun a => bin op (ret b) (k a) := by
  unfold bin; rw [bnd_ret, bnd_bnd]; rfl
@[simp] theorem un_bnd {op : β → Option γ} {m : M α} {k : α → M β} : un op (bnd m k) = bnd m fun a => un op (k a) := by
  unfold un; rw [bnd_bnd]
@[simp] theorem mp_bnd {f : β → γ} {m : M α} {k : α → M β} : mp f (bnd m k) = bnd m fun a => mp f (k a) := by
  unfold mp; rw [bnd_bnd]
def O2 {α β γ : Type} (f : D → D → Option D) (op : α → β → Option γ) (ea : α → D) (eb : β → D) (ec : γ → D) : Prop := ∀ a b c, op a b = some c → f (ea a) (eb b) = some (ec c)
def O1 {α β : Type} (f : D → Option D) (op : α → Option β) (ea : α → D) (eb : β → D) : Prop := ∀ a c, op a = some c → f (ea a) = some (eb c)
variable {ρ ρ' : En} {de da db dc : DE DeckSt} {dl dk di dj : DA DeckSt} {dt du : DT DeckSt} {ea e : α → D} {eb : β → D} {ec : γ → D} {el : α → List D} {ek : β → List D} {t ta : M α} {tb : M β} {tc : M γ}
theorem te_c {a : α} {d : D} (h : d = e a) : TE (dC d) ρ (ret a) e := fun s => .ok h
theorem te_var {a : α} (i : Nat) (h : ρ[i]? = some (some (.val (e a)))) : TE (dVar i) ρ (ret a) e := fun s => by
  show RE e (dVar i ρ s) _
  unfold dVar
  rw [h]
  exact .ok rfl
theorem te_own {l : List α} (i : Nat) (h : ρ[i]? = some (some (.own (l.map e)))) : TE (dOwn i) ρ (ret l) (fun l => .lst (l.map e)) := fun s => by
  show RE _ (dOwn i ρ s) _
  unfold dOwn
  rw [h]
  exact .ok rfl
theorem te_bin {f : D → D → Option D} {op : α → β → Option γ} (o : O2 f op ea eb ec) (ha : TE da ρ ta ea) (hb : TE db ρ tb eb) : TE (dBin f da db) ρ (bin op ta tb) ec := fun s =>
  (ha s).bind fun a s1 _ => (hb s1).bind fun b s2 _ => .ofO fun c h => o a b c h
theorem te_un {f : D → Option D} {op : α → Option β} (o : O1 f op ea eb) (ha : TE da ρ ta ea) : TE (dUn f da) ρ (un op ta) eb := fun s =>
  (ha s).bind fun a s1 _ => .ofO fun c h => o a c h
/-- a fixed index, a fixed slice: f is what it comes to -/
theorem te_at {f : α → β} {d : D} (h : ∀ a, ixD (ea a) d = some (eb (f a))) (ha : TE da ρ ta ea) : TE (dBin ixD da (dC d)) ρ (mp f ta) eb := fun s =>
  (ha s).bind fun a s1 _ => by
    show RE eb (Mir.ofO s1 (ixD (ea a) d)) (.ok (f a) s1)
    rw [h a]; exact .ok rfl
theorem te_at' {f : α → β} {dn : DE DeckSt} {d : D} (hn : ∀ s, dn ρ s = .ok d s) (h : ∀ a, ixD (ea a) d = some (eb (f a))) (ha : TE da ρ ta ea) : TE (dBin ixD da dn) ρ (mp f ta) eb := fun s =>
  (ha s).bind fun a s1 _ => by
    show RE eb ((dn ρ s1).bind fun y s2 => Mir.ofO s2 (ixD (ea a) y)) (.ok (f a) s1)
    rw [hn s1]
    show RE eb (Mir.ofO s1 (ixD (ea a) d)) (.ok (f a) s1)
    rw [h a]; exact .ok rfl
theorem te_slc {f : α → β} {dp dq : E1 DeckSt (Option Int)} {lo hi : Option Int} (hp : ∀ s, dp ρ s = .ok lo s) (hq : ∀ s, dq ρ s = .ok hi s) (h : ∀ a, slD (ea a) lo hi = some (eb (f a))) (ha : TE da ρ ta ea) : TE (dSl da dp dq) ρ (mp f ta) eb := fun s =>
  (ha s).bind fun a s1 _ => by
    show RE eb ((dp ρ s1).bind fun lo s2 => (dq ρ s2).bind fun hi s3 => Mir.ofO s3 (slD (ea a) lo hi)) (.ok (f a) s1)
    rw [hp s1, R.bind_ok, hq s1, R.bind_ok, h a]
    exact .ok rfl
def sli {α β : Type} (op : α → Option Int → Option Int → Option β) (ta : M α) (tl th : M (Option Int)) : M β := bnd ta fun a => bnd tl fun lo => bnd th fun hi => lft (op a lo hi)
@[simp] theorem sli_ret {op : α → Option Int → Option Int → Option β} {a : α} {lo hi : Option Int} : sli op (ret a) (ret lo) (ret hi) = lft (op a lo hi) := rfl
@[simp] theorem sli_bnd {op : β → Option Int → Option Int → Option γ} {m : M α} {k : α → M β} {tl th : M (Option Int)} : sli op (bnd m k) tl th = bnd m fun a => sli op (k a) tl th := by
  unfold sli; rw [bnd_bnd]
@[simp] theorem sli_bnd1 {op : β → Option Int → Option Int → Option γ} {b : β} {m : M α} {k : α → M (Option Int)} {th : M (Option Int)} : sli op (ret b) (bnd m k) th = bnd m fun a => sli op (ret b) (k a) th := by
  unfold sli; rw [bnd_ret, bnd_bnd]; rfl
@[simp] theorem sli_bnd2 {op : β → Option Int → Option Int → Option γ} {b : β} {lo : Option Int} {m : M α} {k : α → M (Option Int)} : sli op (ret b) (ret lo) (bnd m k) = bnd m fun a => sli op (ret b) (ret lo) (k a) := by
  unfold sli; rw [bnd_ret, bnd_ret, bnd_bnd]; rfl
theorem te_sl {op : α → Option Int → Option Int → Option β} {dp dq : E1 DeckSt (Option Int)} {tl th : M (Option Int)} (o : ∀ a lo hi c, op a lo hi = some c → slD (ea a) lo hi = some (eb c)) (ha : TE da ρ ta ea) (hl : TP dp ρ tl) (hh : TP dq ρ th) : TE (dSl da dp dq) ρ (sli op ta tl th) eb := fun s =>
  (ha s).bind fun a s1 _ => (hl s1).bind fun lo s2 _ => (hh s2).bind fun hi s3 _ => .ofO fun c h => o a lo hi c h
theorem tp_no : TP dNoPart ρ (ret none) := fun s => .ok rfl
theorem tp_some {t : M Int} (h : TE de ρ t .int) : TP (dPart de) ρ (mp some t) := fun s => (h s).bind fun a s1 _ => by
  show RE id ((Mir.ofO s1 (some a)).map some) (.ok (some a) s1)
  exact .ok rfl
/-! ### another type of the same value -/
theorem te_up (h : TE de ρ t e) : TE de ρ (mp e t) id := fun s => fun n => by
  have := h s
  unfold mp bnd at n ⊢
  cases q : t s with
  | bad => rw [q] at n; exact absurd rfl n
  | ex c s1 => rw [q] at this; rw [this (fun z => nomatch z)]; rfl
  | ok a s1 => rw [q] at this; rw [this (fun z => nomatch z)]; rfl
theorem te_mp {f : α → β} (h : TE de ρ t e) (k : ∀ a, e a = eb (f a)) : TE de ρ (mp f t) eb := fun s => fun n => by
  have := h s
  unfold mp bnd at n ⊢
  cases q : t s with
  | bad => rw [q] at n; exact absurd rfl n
  | ex c s1 => rw [q] at this; rw [this (fun z => nomatch z)]; rfl
  | ok a s1 => rw [q] at this; rw [this (fun z => nomatch z)]; show R.ok (e a) s1 = R.ok (eb (f a)) s1; rw [k a]
theorem te_down {f : α → Option β} (h : TE de ρ t e) (k : ∀ a b, f a = some b → e a = eb b) : TE de ρ (bnd t fun a => lft (f a)) eb := fun s => fun n => by
  have := h s
  unfold bnd at n ⊢
  cases q : t s with
  | bad => rw [q] at n; exact absurd rfl n
  | ex c s1 => rw [q] at this; rw [this (fun z => nomatch z)]; rfl
  | ok a s1 =>
    rw [q] at this n
    rw [this (fun z => nomatch z)]
    show R.ok (e a) s1 = R.map (Mir.ofO s1 (f a)) eb
    cases z : f a with
    | none => exact absurd (by show Mir.ofO s1 (f a) = _; rw [z]; rfl) n
    | some b => rw [k a b z]; rfl
/-! ### arguments, tuples, lists, calls -/
theorem ta_nil : TA dNil ρ (ret ()) (fun _ => []) := fun s => .ok rfl
theorem ta_cons (ha : TE da ρ ta ea) (hl : TA dl ρ tb ek) : TA (dCons da dl) ρ (prd ta tb) (fun p => ea p.1 :: ek p.2) := fun s =>
  (ha s).bind fun a s1 _ => (hl s1).bind fun b s2 _ => .ok rfl
theorem RE.le {e : α → List D} {r : R DeckSt (List D)} {x : R DeckSt α} (h : RE e r x) (n : ∀ a, (e a).length ≤ 65536) {f : List D → D} : RE (fun a => f (e a)) (r.bind fun ds s1 => if ds.length ≤ 65536 then .ok (f ds) s1 else .bad) x := fun z => by
  rw [h z]
  cases x with
  | bad => exact absurd rfl z
  | ex c s => rfl
  | ok a s => show (if (e a).length ≤ 65536 then R.ok (f (e a)) s else .bad) = _; rw [if_pos (n a)]; rfl
theorem te_tup {c : α → β} (h : TA dl ρ t el) (n : ∀ a, (el a).length ≤ 65536) (k : ∀ a, D.tup (el a) = eb (c a)) : TE (dTup dl) ρ (mp c t) eb :=
  te_mp (e := fun a => .tup (el a)) (fun s => RE.le (f := D.tup) (h s) n) k
theorem RE.le' {e : α → List D} {r : R DeckSt (List D)} {x : R DeckSt α} (h : RE e r x) (n : ∀ a, (e a).length ≤ 65536) : RE e (r.bind fun ds s1 => if ds.length ≤ 65536 then .ok ds s1 else .bad) x := fun z => by
  rw [h z]
  cases x with
  | bad => exact absurd rfl z
  | ex c s => rfl
  | ok a s => show (if (e a).length ≤ 65536 then R.ok (e a) s else .bad) = _; rw [if_pos (n a)]; rfl
theorem ta_mp {f : α → β} (h : TA dl ρ t el) (k : ∀ a, el a = ek (f a)) : TA dl ρ (mp f t) ek := fun s => fun n => by
  have := h s
  unfold mp bnd at n ⊢
  cases q : t s with
  | bad => rw [q] at n; exact absurd rfl n
  | ex c s1 => rw [q] at this; rw [this (fun z => nomatch z)]; rfl
  | ok a s1 => rw [q] at this; rw [this (fun z => nomatch z)]; show R.ok (el a) s1 = R.ok (ek (f a)) s1; rw [k a]
theorem ta_lst {c : α → β} (h : TA dl ρ t el) (n : ∀ a, (el a).length ≤ 65536) (k : ∀ a, el a = ek (c a)) : TA (dLst dl) ρ (mp c t) ek :=
  ta_mp (fun s => RE.le' (h s) n) k
theorem te_f (h : TA dl ρ t el) : TE (dF dl) ρ t (fun a => .lst (el a)) := fun s => fun n => by
  show (dl ρ s).map _ = _
  rw [h s n]
  cases q : t s <;> rfl
theorem te_call {m : List D → DeckSt → R DeckSt D} {f : α → M β} (h : TA dl ρ t el) (k : ∀ a s, RE eb (m (el a) s) (f a s)) : TE (dCall m dl) ρ (bnd t f) eb := fun s => (h s).bind fun a s1 _ => k a s1
theorem te_callD {m : List D → DeckSt → R DeckSt D} {dd : List D} {f : α → M β} (h : TA dl ρ t el) (k : ∀ a s, RE eb (m (el a ++ dd) s) (f a s)) : TE (dCallD m dd dl) ρ (bnd t f) eb := fun s => (h s).bind fun a s1 _ => k a s1
theorem te_callK {m : List D → DeckSt → R DeckSt D} {is : List Nat} {f : α → β → M γ} (h : TA dl ρ t el) (h' : TA dk ρ tb ek) (k : ∀ a b s, RE ec (m (pick is (el a ++ ek b)) s) (f a b s)) : TE (dCallK m is dl dk) ρ (bnd t fun a => bnd tb fun b => f a b) ec := fun s =>
  (h s).bind fun a s1 _ => (h' s1).bind fun b s2 _ => k a b s2
theorem te_cb1 {f : List D → Option D} {op : α → Option β} (o : ∀ a c, op a = some c → f [ea a] = some (eb c)) (ha : TE da ρ ta ea) : TE (dCallB f (dCons da dNil)) ρ (un op ta) eb := fun s => by
  show RE eb (((da ρ s).bind fun d s1 => .ok [d] s1).bind fun ds s1 => Mir.ofO s1 (f ds)) _
  rw [R.bind_bind]
  exact (ha s).bind fun a s1 _ => .ofO fun c h => o a c h
theorem te_cb2 {f : List D → Option D} {op : α → β → Option γ} (o : ∀ a b c, op a b = some c → f [ea a, eb b] = some (ec c)) (ha : TE da ρ ta ea) (hb : TE db ρ tb eb) : TE (dCallB f (dCons da (dCons db dNil))) ρ (bin op ta tb) ec := fun s => by
  show RE ec (((da ρ s).bind fun d s1 => ((db ρ s1).bind fun d2 s2 => .ok [d2] s2).bind fun ds s3 => .ok (d :: ds) s3).bind fun ds s1 => Mir.ofO s1 (f ds)) _
  rw [R.bind_bind]
  refine (ha s).bind fun a s1 _ => ?_
  rw [R.bind_bind, R.bind_bind]
  exact (hb s1).bind fun b s2 _ => .ofO fun c h => o a b c h
/-- a built-in by its arguments as they are -/
theorem te_cbA {f : List D → Option D} {op : α → Option β} (o : ∀ a c, op a = some c → f (el a) = some (eb c)) (h : TA dl ρ t el) : TE (dCallB f dl) ρ (un op t) eb := fun s =>
  (h s).bind fun a s1 _ => .ofO fun c h => o a c h
theorem te_isi {T : String} {op : α → Option Bool} (o : ∀ a c, op a = some c → isiD T (ea a) = some (.bl c)) (ha : TE da ρ ta ea) : TE (dIsi T da) ρ (un op ta) .bl := fun s =>
  (ha s).bind fun a s1 _ => .ofO fun c h => o a c h
theorem te_mb {f : D → List D → Option D} {op : Wd → β → Option γ} {tw : M Wd} (o : ∀ a b c, op a b = some c → f (.str a) (ek b) = some (ec c)) (ha : TE da ρ tw .str) (hl : TA dl ρ tb ek) : TE (dMb f da dl) ρ (bin op tw tb) ec := fun s =>
  (ha s).bind fun a s1 _ => by
    show RE ec ((dl ρ s1).bind fun ds s2 => Mir.ofO s2 (f (.str a) ds)) _
    exact (hl s1).bind fun b s2 _ => .ofO fun c h => o a b c h
/-! ### tests -/
theorem tt_b {t : M Bool} (h : TE de ρ t .bl) : TT (dB de) ρ t := fun s => fun n => by
  show (de ρ s).bind _ = _
  rw [h s n]
  cases q : t s <;> rfl
theorem tt_tr {t : M Bool} (h : TE de ρ t .bl) : TT (dTr de) ρ t := fun s => fun n => by
  show (de ρ s).bind _ = _
  rw [h s n]
  cases q : t s <;> rfl
theorem tt_trD {op : α → Option Bool} (o : ∀ a c, op a = some c → truD (ea a) = some c) (h : TE de ρ ta ea) : TT (dTr de) ρ (un op ta) := fun s =>
  (h s).bind fun a s1 _ => .ofO fun c z => o a c z
def notT (t : M Bool) : M Bool := mp (!·) t
def andT (t u : M Bool) : M Bool := bnd t fun k => if k = true then u else ret false
def orT (t u : M Bool) : M Bool := bnd t fun k => if k = true then ret true else u
def ifT {α : Type} (t : M Bool) (u v : M α) : M α := bnd t fun k => if k = true then u else v
@[simp] theorem notT_ret {b : Bool} : notT (ret b) = ret (!b) := rfl
@[simp] theorem notT_bnd {m : M α} {k : α → M Bool} : notT (bnd m k) = bnd m fun a => notT (k a) := mp_bnd
@[simp] theorem andT_t {u : M Bool} : andT (ret true) u = u := rfl
@[simp] theorem andT_f {u : M Bool} : andT (ret false) u = ret false := rfl
@[simp] theorem orT_t {u : M Bool} : orT (ret true) u = ret true := rfl
@[simp] theorem orT_f {u : M Bool} : orT (ret false) u = u := rfl
@[simp] theorem ifT_t {u v : M α} : ifT (ret true) u v = u := rfl
@[simp] theorem ifT_f {u v : M α} : ifT (ret false) u v = v := rfl
theorem andT_ret {a b : Bool} : andT (ret a) (ret b) = ret (a && b) := by cases a <;> rfl
theorem orT_ret {a b : Bool} : orT (ret a) (ret b) = ret (a || b) := by cases a <;> rfl
theorem ifT_ret {b : Bool} {u v : M α} : ifT (ret b) u v = if b = true then u else v := rfl
@[simp] theorem andT_bnd {m : M α} {k : α → M Bool} {u : M Bool} : andT (bnd m k) u = bnd m fun a => andT (k a) u := by unfold andT; rw [bnd_bnd]
@[simp] theorem orT_bnd {m : M α} {k : α → M Bool} {u : M Bool} : orT (bnd m k) u = bnd m fun a => orT (k a) u := by unfold orT; rw [bnd_bnd]
@[simp] theorem ifT_bnd {m : M α} {k : α → M Bool} {u v : M β} : ifT (bnd m k) u v = bnd m fun a => ifT (k a) u v := by unfold ifT; rw [bnd_bnd]
theorem tt_not {t : M Bool} (h : TT dt ρ t) : TT (dNot dt) ρ (notT t) := fun s => fun n => by
  show (dt ρ s).map _ = _
  have := h s
  unfold notT mp bnd at n ⊢
  cases q : t s with
  | bad => rw [q] at n; exact absurd rfl n
  | ex c s1 => rw [q] at this; rw [this (fun z => nomatch z)]; rfl
  | ok a s1 => rw [q] at this; rw [this (fun z => nomatch z)]; rfl
theorem tt_and {t u : M Bool} (h : TT dt ρ t) (k : TT du ρ u) : TT (dAnd dt du) ρ (andT t u) := fun s => (h s).bind fun a s1 _ => by
  cases a
  · exact .ok rfl
  · exact k s1
theorem tt_or {t u : M Bool} (h : TT dt ρ t) (k : TT du ρ u) : TT (dOr dt du) ρ (orT t u) := fun s => (h s).bind fun a s1 _ => by
  cases a
  · exact k s1
  · exact .ok rfl
theorem te_and {t u : M Bool} (h : TE da ρ t .bl) (k : TE db ρ u .bl) : TE (dAndV da db) ρ (andT t u) .bl := fun s => (h s).bind fun a s1 _ => by
  cases a
  · exact .ok rfl
  · exact k s1
theorem te_or {t u : M Bool} (h : TE da ρ t .bl) (k : TE db ρ u .bl) : TE (dOrV da db) ρ (orT t u) .bl := fun s => (h s).bind fun a s1 _ => by
  cases a
  · exact k s1
  · exact .ok rfl
theorem te_not {t : M Bool} (h : TE de ρ t .bl) : TE (dNotV de) ρ (notT t) .bl := fun s => (h s).bind fun a s1 _ => by
  show RE D.bl ((Mir.ofO s1 (some a)).map fun k => .bl (!k)) (.ok (!a) s1)
  exact .ok rfl
theorem te_notD {op : α → Option Bool} (o : ∀ a c, op a = some c → truD (ea a) = some c) (h : TE de ρ ta ea) : TE (dNotV de) ρ (notT (un op ta)) .bl := fun s => fun n => by
  show (de ρ s).bind _ = _
  have := h s
  unfold notT mp un bnd at n ⊢
  cases q : ta s with
  | bad => rw [q] at n; exact absurd rfl n
  | ex c s1 => rw [q] at this; rw [this (fun z => nomatch z)]; rfl
  | ok a s1 =>
    rw [q] at this n
    rw [this (fun z => nomatch z)]
    cases z : op a with
    | none => exact absurd (by show R.bind (Mir.ofO s1 (op a)) _ = _; rw [z]; rfl) n
    | some b =>
      show (Mir.ofO s1 (truD (ea a))).map _ = R.map (R.bind (Mir.ofO s1 (op a)) _) _
      rw [o a b z, z]; rfl
theorem te_if {t : M Bool} {u v : M α} (h : TT dt ρ t) (hu : TE da ρ u e) (hv : TE db ρ v e) : TE (dIf dt da db) ρ (ifT t u v) e := fun s => (h s).bind fun a s1 _ => by
  cases a
  · exact hv s1
  · exact hu s1
def chn {α β γ : Type} (op : α → β → Option Bool) (op' : β → γ → Option Bool) (ta : M α) (tb : M β) (tc : M γ) : M Bool := bnd ta fun a => bnd tb fun b => bnd (lft (op a b)) fun k => if k = true then bnd tc fun c => lft (op' b c) else ret false
@[simp] theorem chn_ret {op : α → β → Option Bool} {op' : β → γ → Option Bool} {a : α} {b : β} {tc : M γ} : chn op op' (ret a) (ret b) tc = bnd (lft (op a b)) fun k => if k = true then bnd tc fun c => lft (op' b c) else ret false := rfl
@[simp] theorem chn_bnd {op : β → γ → Option Bool} {op' : γ → δ → Option Bool} {m : M α} {k : α → M β} {n : M γ} {l : M δ} : chn op op' (bnd m k) n l = bnd m fun a => chn op op' (k a) n l := by unfold chn; rw [bnd_bnd]
@[simp] theorem chn_bnd2 {op : β → γ → Option Bool} {op' : γ → δ → Option Bool} {b : β} {m : M α} {k : α → M γ} {l : M δ} : chn op op' (ret b) (bnd m k) l = bnd m fun a => chn op op' (ret b) (k a) l := by unfold chn; rw [bnd_ret, bnd_bnd]; rfl
theorem te_chain {f f' : D → D → Option D} {op : α → β → Option Bool} {op' : β → γ → Option Bool} (o : O2 f op ea eb .bl) (o' : O2 f' op' eb ec .bl) (ha : TE da ρ ta ea) (hb : TE db ρ tb eb) (hc : TE dc ρ tc ec) : TE (dChain f f' da db dc) ρ (chn op op' ta tb tc) .bl := fun s =>
  (ha s).bind fun a s1 _ => (hb s1).bind fun b s2 _ => by
    refine RE.bind (e := id) (.ofO fun c h => by rw [o a b c h]; rfl) fun k s3 _ => ?_
    cases k
    · exact .ok rfl
    · exact (hc s3).bind fun c s4 _ => .ofO fun z h => o' b c z h
/-! ### comprehensions -/
def noxT {α : Type} (m : M α) : M α := fun s => nox (m s)
def lcT {α β : Type} (p : α → M Bool) (f : α → M β) : List α → M (List β)
  | [] => ret []
  | a :: l => bnd (p a) fun k => if k = true then bnd (f a) fun b => bnd (lcT p f l) fun bs => ret (b :: bs) else lcT p f l
def lc {α β : Type} (tl : M (List α)) (p : α → M Bool) (f : α → M β) : M (List β) := bnd tl fun l => if l.length ≤ 65536 then noxT (lcT p f l) else bad
theorem lcT_re {g : DG} {dt : DT DeckSt} {de : DE DeckSt} {ρ : En} {e : α → D} {eb : β → D} {p : α → M Bool} {f : α → M β} {G : α → En} (hg : ∀ a, g (e a) ρ = some (G a)) (hp : ∀ a, TT dt (G a) (p a)) (hf : ∀ a, TE de (G a) (f a) eb) :
    ∀ (l : List α) (s : DeckSt), RE (List.map eb) (lcL g dt de (l.map e) ρ s) (lcT p f l s)
  | [], s => .ok rfl
  | a :: l, s => by
    rw [List.map_cons, lcL, hg a]
    refine (hp a s).bind fun k s1 _ => ?_
    cases k
    · exact lcT_re hg hp hf l s1
    · exact (hf a s1).bind fun b s2 _ => (lcT_re hg hp hf l s2).bind fun bs s3 _ => .ok rfl
theorem RE.nox {e : α → β} {r : R DeckSt β} {t : R DeckSt α} (h : RE e r t) : RE e (nox r) (Mir.nox t) := fun n => by
  cases t with
  | bad => exact absurd rfl n
  | ex c s => exact absurd rfl n
  | ok a s => rw [h (fun z => nomatch z)]; rfl
theorem ta_lc {g : DG} {vs sc : List Nat} {tl : M (List α)} {p : α → M Bool} {f : α → M β} {G : α → En} (hl : TA di ρ tl (List.map e)) (hg : ∀ a, g (e a) (wipeE (frz sc ρ) vs) = some (G a)) (hp : ∀ a, TT dt (G a) (p a)) (hf : ∀ a, TE de (G a) (f a) eb) :
    TA (dLc g vs sc di dt de) ρ (lc tl p f) (List.map eb) := fun s => (hl s).bind fun l s1 _ => by
  show RE _ (if (l.map e).length ≤ 65536 then _ else _) ((if l.length ≤ 65536 then noxT (lcT p f l) else bad) s1)
  rw [List.length_map]
  by_cases z : l.length ≤ 65536
  · rw [if_pos z, if_pos z]
    exact (lcT_re hg hp hf l s1).nox
  · rw [if_neg z, if_neg z]
    exact fun n => absurd rfl n
theorem tt_yes : TT dYes ρ (ret true) := fun s => .ok rfl
def lc2T {α β γ : Type} (p : α → M Bool) (q : α → M (List β)) (p1 : α → β → M Bool) (f : α → β → M γ) : List α → M (List γ)
  | [] => ret []
  | a :: l => bnd (p a) fun k => if k = true then bnd (q a) fun m => bnd (lcT (p1 a) (f a) m) fun xs => bnd (lc2T p q p1 f l) fun ys => ret (xs ++ ys) else lc2T p q p1 f l
def lc2 {α β γ : Type} (tl : M (List α)) (p : α → M Bool) (q : α → M (List β)) (p1 : α → β → M Bool) (f : α → β → M γ) : M (List γ) := bnd tl fun l => if l.length ≤ 65536 then bnd (noxT (lc2T p q p1 f l)) fun xs => if xs.length ≤ 65536 then ret xs else bad else bad
theorem lc2T_re {g g1 : DG} {dt dt1 : DT DeckSt} {dj : DA DeckSt} {v1 : List Nat} {de : DE DeckSt} {ρ : En} {e : α → D} {eb : β → D} {ec : γ → D} {p : α → M Bool} {q : α → M (List β)} {p1 : α → β → M Bool} {f : α → β → M γ} {G : α → En} {G1 : α → β → En}
    (hg : ∀ a, g (e a) ρ = some (G a)) (hp : ∀ a, TT dt (G a) (p a)) (hq : ∀ a, TA dj (G a) (q a) (List.map eb)) (hg1 : ∀ a b, g1 (eb b) (wipeE (G a) v1) = some (G1 a b)) (hp1 : ∀ a b, TT dt1 (G1 a b) (p1 a b)) (hf : ∀ a b, TE de (G1 a b) (f a b) ec) :
    ∀ (l : List α) (s : DeckSt), RE (List.map ec) (lc2L g dt dj v1 g1 dt1 de (l.map e) ρ s) (lc2T p q p1 f l s)
  | [], s => .ok rfl
  | a :: l, s => by
    rw [List.map_cons, lc2L, hg a]
    refine (hp a s).bind fun k s1 _ => ?_
    cases k
    · exact lc2T_re hg hp hq hg1 hp1 hf l s1
    · exact (hq a s1).bind fun m s2 _ => (lcT_re (hg1 a) (hp1 a) (hf a) m s2).bind fun xs s3 _ => (lc2T_re hg hp hq hg1 hp1 hf l s3).bind fun ys s4 _ => .ok List.map_append.symm
theorem ta_lc2 {g g1 : DG} {vs sc v1 : List Nat} {dt1 : DT DeckSt} {tl : M (List α)} {p : α → M Bool} {q : α → M (List β)} {p1 : α → β → M Bool} {f : α → β → M γ} {G : α → En} {G1 : α → β → En} (hl : TA di ρ tl (List.map e)) (hg : ∀ a, g (e a) (wipeE (frz sc ρ) vs) = some (G a))
    (hp : ∀ a, TT dt (G a) (p a)) (hq : ∀ a, TA dj (G a) (q a) (List.map eb)) (hg1 : ∀ a b, g1 (eb b) (wipeE (G a) v1) = some (G1 a b)) (hp1 : ∀ a b, TT dt1 (G1 a b) (p1 a b)) (hf : ∀ a b, TE de (G1 a b) (f a b) ec) :
    TA (dLc2 g dj v1 g1 vs sc di dt dt1 de) ρ (lc2 tl p q p1 f) (List.map ec) := fun s => (hl s).bind fun l s1 _ => by
  show RE _ (if (l.map e).length ≤ 65536 then _ else _) ((if l.length ≤ 65536 then _ else bad) s1)
  rw [List.length_map]
  by_cases z : l.length ≤ 65536
  · rw [if_pos z, if_pos z]
    intro n
    have h := lc2T_re hg hp hq hg1 hp1 hf l s1
    unfold bnd noxT at n ⊢
    cases w : lc2T p q p1 f l s1 with
    | bad => rw [w] at n; exact absurd rfl n
    | ex c s => rw [w] at n; exact absurd rfl n
    | ok xs s2 =>
      rw [w] at h n
      rw [h (fun z => nomatch z)]
      show (if (xs.map ec).length ≤ 65536 then R.ok (xs.map ec) s2 else .bad) = R.map ((if xs.length ≤ 65536 then ret xs else bad) s2) _
      rw [List.length_map]
      by_cases y : xs.length ≤ 65536
      · rw [if_pos y, if_pos y]; rfl
      · exact absurd (by show (if xs.length ≤ 65536 then ret xs else bad) s2 = .bad; rw [if_neg y]; rfl) n
  · rw [if_neg z, if_neg z]
    exact fun n => absurd rfl n
/-! ### what is walked -/
theorem ta_walk {w : D → Option (List D)} {op : α → Option (List β)} (o : ∀ a c, op a = some c → w (ea a) = some (c.map eb)) (h : TE da ρ ta ea) : TA (dWalk da w) ρ (un op ta) (List.map eb) := fun s =>
  (h s).bind fun a s1 _ => .ofO fun c z => o a c z
theorem ta_rng {f : List D → Option (List D)} {op : α → Option (List β)} (o : ∀ a c, op a = some c → f (el a) = some (c.map eb)) (h : TA dl ρ t el) : TA (dRng f dl) ρ (un op t) (List.map eb) := fun s =>
  (h s).bind fun a s1 _ => .ofO fun c z => o a c z
theorem ta_listOf {op : α → Option (List β)} (o : ∀ a c, op a = some c → (itemsD (ea a)).filter (fun ds => ds.length ≤ 65536) = some (c.map eb)) (h : TE da ρ ta ea) : TA (dListOf da) ρ (un op ta) (List.map eb) := fun s =>
  (h s).bind fun a s1 _ => .ofO fun c z => o a c z
theorem ta_binL {f : D → D → Option (List D)} {op : α → β → Option (List γ)} (o : ∀ a b c, op a b = some c → f (ea a) (eb b) = some (c.map ec)) (ha : TE da ρ ta ea) (hb : TE db ρ tb eb) : TA (dBinL f da db) ρ (bin op ta tb) (List.map ec) := fun s =>
  (ha s).bind fun a s1 _ => (hb s1).bind fun b s2 _ => .ofO fun c h => o a b c h
end
end Mir

set_option Elab.async false
set_option linter.all false
set_option maxRecDepth 100000
set_option maxHeartbeats 2000000
namespace Mir
open PySem PySem.Spec L2
open PyProof.Rows hiding St
/-! ### statements -/
inductive Fl (σ β : Type) where
  | nx (st : σ)
  | rt (v : β)
  | bk (st : σ)
  | ct (st : σ)
section
variable {α β γ δ σ σ' : Type}
def BL (F : σ → En) (eb : β → D) (X : En → Prop) (o : Out DeckSt) (r : R DeckSt (Fl σ β)) : Prop :=
  match r with
  | .bad => True
  | .ex c s => ∃ ρ', o = .ex c ρ' s ∧ X ρ'
  | .ok (.nx st) s => o = .nx (F st) s
  | .ok (.rt v) s => o = .rt (eb v) s
  | .ok (.bk st) s => o = .bk (F st) s
  | .ok (.ct st) s => o = .ct (F st) s
def TB (F : σ → En) (eb : β → D) (X : En → Prop) (ds : DS DeckSt) (ρ : En) (t : M (Fl σ β)) : Prop := ∀ s, BL F eb X (ds ρ s) (t s)
/-- what comes behind -/
def thn (m : M (Fl σ β)) (k : σ → M (Fl σ' β)) : M (Fl σ' β) := bnd m fun x => match x with
  | .nx st => k st
  | .rt v => ret (.rt v)
  | _ => bad
def fin (d : Option β) (m : M (Fl Unit β)) : M β := bnd m fun x => match x with
  | .rt v => ret v
  | .nx _ => lft d
  | _ => bad
def forT (body : α → σ → M (Fl σ β)) : List α → σ → M (Fl σ β)
  | [], st => ret (.nx st)
  | a :: l, st => bnd (body a st) fun x => match x with
    | .nx st' => forT body l st'
    | .ct st' => forT body l st'
    | .bk st' => ret (.nx st')
    | .rt v => ret (.rt v)
def whT (tc : σ → M Bool) (body : σ → M (Fl σ β)) : Nat → σ → M (Fl σ β)
  | 0, _ => bad
  | n + 1, st => bnd (tc st) fun k => if k = true then bnd (body st) fun x => match x with
      | .nx st' => whT tc body n st'
      | .ct st' => whT tc body n st'
      | .bk st' => ret (.nx st')
      | .rt v => ret (.rt v)
    else ret (.nx st)
def hndT (sub : Str → Str → Option Bool) (c : Str) : List (Str × M (Fl σ β)) → M (Fl σ β)
  | [] => exc c
  | (x, m) :: r => match sub c x with
    | some true => fun s => match m s with
      | .ex _ _ => .bad
      | o => o
    | some false => hndT sub c r
    | none => bad
def tryT (sub : Str → Str → Option Bool) (m : M (Fl σ β)) (hs : List (Str × M (Fl σ β))) : M (Fl σ β) := fun s => match m s with
  | .ex c s' => hndT sub c hs s'
  | o => o
@[simp] theorem thn_nx {st : σ} {k : σ → M (Fl σ' β)} : thn (ret (.nx st)) k = k st := rfl
@[simp] theorem thn_rt {v : β} {k : σ → M (Fl σ' β)} : thn (ret (.rt v)) k = ret (.rt v) := rfl
@[simp] theorem thn_bad {k : σ → M (Fl σ' β)} : thn bad k = bad := rfl
@[simp] theorem thn_exc {c : Str} {k : σ → M (Fl σ' β)} : thn (exc c) k = exc c := rfl
@[simp] theorem thn_bnd {m : M α} {l : α → M (Fl σ β)} {k : σ → M (Fl σ' β)} : thn (bnd m l) k = bnd m fun a => thn (l a) k := by unfold thn; rw [bnd_bnd]
@[simp] theorem thn_ite {c : Prop} [Decidable c] {m n : M (Fl σ β)} {k : σ → M (Fl σ' β)} : thn (if c then m else n) k = if c then thn m k else thn n k := by split <;> rfl
@[simp] theorem fin_rt {d : Option β} {v : β} : fin d (ret (.rt v)) = ret v := rfl
@[simp] theorem fin_nx {d : Option β} {u : Unit} : fin d (ret (.nx u)) = lft d := rfl
@[simp] theorem fin_bad {d : Option β} : fin d bad = bad := rfl
@[simp] theorem fin_exc {d : Option β} {c : Str} : fin d (exc c) = exc c := rfl
@[simp] theorem fin_bnd {d : Option β} {m : M α} {l : α → M (Fl Unit β)} : fin d (bnd m l) = bnd m fun a => fin d (l a) := by unfold fin; rw [bnd_bnd]
@[simp] theorem fin_ite {d : Option β} {c : Prop} [Decidable c] {m n : M (Fl Unit β)} : fin d (if c then m else n) = if c then fin d m else fin d n := by split <;> rfl
@[simp] theorem fin_mp {d : Option β} {m : M α} {f : α → Fl Unit β} : fin d (mp f m) = bnd m fun a => fin d (ret (f a)) := by unfold fin; rw [bnd_mp]; rfl
@[simp] theorem thn_mp {m : M α} {f : α → Fl σ β} {k : σ → M (Fl σ' β)} : thn (mp f m) k = bnd m fun a => thn (ret (f a)) k := by unfold thn; rw [bnd_mp]; rfl
@[simp] theorem forT_nil {body : α → σ → M (Fl σ β)} {st : σ} : forT body [] st = ret (.nx st) := rfl
theorem forT_nx {body : α → σ → M (Fl σ β)} {a : α} {l : List α} {st st' : σ} (h : body a st = ret (.nx st')) : forT body (a :: l) st = forT body l st' := by rw [forT, h]; rfl
theorem forT_ct {body : α → σ → M (Fl σ β)} {a : α} {l : List α} {st st' : σ} (h : body a st = ret (.ct st')) : forT body (a :: l) st = forT body l st' := by rw [forT, h]; rfl
theorem forT_bk {body : α → σ → M (Fl σ β)} {a : α} {l : List α} {st st' : σ} (h : body a st = ret (.bk st')) : forT body (a :: l) st = ret (.nx st') := by rw [forT, h]; rfl
theorem forT_rt {body : α → σ → M (Fl σ β)} {a : α} {l : List α} {st : σ} {v : β} (h : body a st = ret (.rt v)) : forT body (a :: l) st = ret (.rt v) := by rw [forT, h]; rfl
theorem whT_nx {tc : σ → M Bool} {body : σ → M (Fl σ β)} {n : Nat} {st st' : σ} (h : tc st = ret true) (h' : body st = ret (.nx st')) : whT tc body (n + 1) st = whT tc body n st' := by rw [whT, h, bnd_ret, if_pos rfl, h']; rfl
theorem whT_ct {tc : σ → M Bool} {body : σ → M (Fl σ β)} {n : Nat} {st st' : σ} (h : tc st = ret true) (h' : body st = ret (.ct st')) : whT tc body (n + 1) st = whT tc body n st' := by rw [whT, h, bnd_ret, if_pos rfl, h']; rfl
theorem whT_bk {tc : σ → M Bool} {body : σ → M (Fl σ β)} {n : Nat} {st st' : σ} (h : tc st = ret true) (h' : body st = ret (.bk st')) : whT tc body (n + 1) st = ret (.nx st') := by rw [whT, h, bnd_ret, if_pos rfl, h']; rfl
theorem whT_rt {tc : σ → M Bool} {body : σ → M (Fl σ β)} {n : Nat} {st : σ} {v : β} (h : tc st = ret true) (h' : body st = ret (.rt v)) : whT tc body (n + 1) st = ret (.rt v) := by rw [whT, h, bnd_ret, if_pos rfl, h']; rfl
theorem whT_end {tc : σ → M Bool} {body : σ → M (Fl σ β)} {n : Nat} {st : σ} (h : tc st = ret false) : whT tc body (n + 1) st = ret (.nx st) := by rw [whT, h, bnd_ret, if_neg Bool.false_ne_true]

variable {F : σ → En} {F' : σ' → En} {eb : β → D} {X : En → Prop} {ρ ρ' : En} {de da db : DE DeckSt} {dl di : DA DeckSt} {dt : DT DeckSt} {A B rest L : DS DeckSt} {e ea : α → D} {el : α → List D} {t : M α} {tr : M β}
theorem BL.out {β' : Type} {e : α → β'} {r : R DeckSt β'} {t : R DeckSt α} {f : β' → DeckSt → Out DeckSt} {g : α → DeckSt → R DeckSt (Fl σ β)} (h : RE e r t) (hx : X ρ) (k : ∀ a s, BL F eb X (f (e a) s) (g a s)) : BL F eb X (r.out ρ f) (t.bind g) := by
  cases t with
  | bad => exact trivial
  | ex c s => rw [h (fun z => nomatch z)]; exact ⟨ρ, rfl, hx⟩
  | ok a s => rw [h (fun z => nomatch z)]; exact k a s
def sq (o : Out DeckSt) (rest : DS DeckSt) : Out DeckSt := match o with
  | .nx ρ' s' => rest ρ' s'
  | o => o
theorem seq_eq {s : DeckSt} : dSeq A rest ρ s = sq (A ρ s) rest := by unfold dSeq sq; cases A ρ s <;> rfl
theorem seq_out {α' : Type} {r : R DeckSt α'} {f : α' → DeckSt → Out DeckSt} : sq (r.out ρ f) rest = r.out ρ fun a s => sq (f a s) rest := by cases r <;> rfl
theorem tb_assoc {t : M (Fl σ β)} (h : TB F eb X (dSeq A (dSeq B rest)) ρ t) : TB F eb X (dSeq (dSeq A B) rest) ρ t := fun s => by
  have := h s
  unfold dSeq at this ⊢
  cases q : A ρ s <;> rw [q] at this <;> exact this
theorem tb_last {t : M (Fl σ β)} (h : TB F eb X (dSeq A dNext) ρ t) : TB F eb X A ρ t := fun s => by
  have := h s
  unfold dSeq at this
  cases q : A ρ s <;> rw [q] at this <;> exact this
theorem tb_next {t : M (Fl σ β)} (h : TB F eb X rest ρ t) : TB F eb X (dSeq dNext rest) ρ t := h
theorem tb_end (st : σ) (h : ρ = F st) : TB F eb X dNext ρ (ret (.nx st)) := fun s => by subst h; exact rfl
theorem tb_bk (st : σ) (h : ρ = F st) : TB F eb X (dSeq dBreak rest) ρ (ret (.bk st)) := fun s => by subst h; exact rfl
theorem tb_ct (st : σ) (h : ρ = F st) : TB F eb X (dSeq dCont rest) ρ (ret (.ct st)) := fun s => by subst h; exact rfl
theorem tb_forget {t : M (Fl σ β)} {keep : List Nat} (h : TB F eb X rest (fgt keep ρ) t) : TB F eb X (dForget keep rest) ρ t := h
/-- forgetting a part of a block, behind which nothing is read -/
theorem tb_forgetS {t : M (Fl σ β)} {keep : List Nat} (h : TB F eb X (dSeq A rest) (fgt keep ρ) t) : TB F eb X (dSeq (dForget keep A) rest) ρ t := h
theorem tb_to {t : M (Fl σ β)} (e : ρ = ρ') (h : TB F eb X rest ρ' t) : TB F eb X rest ρ t := by subst e; exact h
theorem tb_ret (h : TE de ρ tr eb) (hx : X ρ) : TB F eb X (dSeq (dRet de) rest) ρ (mp .rt tr) := fun s => by
  rw [seq_eq]
  unfold dRet
  rw [seq_out]
  exact BL.out (h s) hx fun a s1 => rfl
theorem tb_retN {v : β} (h : .non = eb v) : TB F eb X (dSeq dRetN rest) ρ (ret (.rt v)) := fun s => by
  show Out.rt .non s = .rt (eb v) s
  rw [h]
theorem tb_raise {c : Str} (hx : X ρ) : TB F eb X (dSeq (dRaise c) rest) ρ (exc c) := fun s => ⟨ρ, rfl, hx⟩
theorem tb_if {tc : M Bool} {u v : M (Fl σ β)} (h : TT dt ρ tc) (hx : X ρ) (hu : TB F eb X (dSeq A rest) ρ u) (hv : TB F eb X (dSeq B rest) ρ v) : TB F eb X (dSeq (dIfS dt A B) rest) ρ (ifT tc u v) := fun s => by
  rw [seq_eq]
  unfold dIfS
  rw [seq_out]
  refine BL.out (h s) hx fun a s1 => ?_
  cases a
  · have := hv s1; rw [seq_eq] at this; exact this
  · have := hu s1; rw [seq_eq] at this; exact this
theorem tb_drop {k : α → M (Fl σ β)} (h : TE de ρ t e) (hx : X ρ) (hk : ∀ a, TB F eb X rest ρ (k a)) : TB F eb X (dSeq (dDrop de) rest) ρ (bnd t k) := fun s => by
  rw [seq_eq]
  unfold dDrop
  rw [seq_out]
  exact BL.out (h s) hx fun a s1 => hk a s1
theorem tb_asg {i : Nat} {k : α → M (Fl σ β)} (h : TE de ρ t e) (hx : X ρ) (hk : ∀ a, TB F eb X rest (ρ.set i (some (.val (e a)))) (k a)) : TB F eb X (dSeq (dAsg i [] (dV de)) rest) ρ (bnd t k) := fun s => by
  have : dSeq (dAsg i [] (dV de)) rest ρ s = (de ρ s).out ρ fun d s1 => rest (ρ.set i (some (.val d))) s1 := by
    rw [seq_eq]
    unfold dAsg dV
    cases de ρ s with
    | bad => rfl
    | ex c s => rfl
    | ok a s => show rest ((frzs _ [] ρ).set i _) s = _; rw [frzs_nil]; rfl
  rw [this]
  exact BL.out (h s) hx fun a s1 => hk a s1
theorem tb_asgF {i : Nat} {sc : List Nat} {ρ1 : En} {k : α → M (Fl σ β)} (h : TE de ρ t e) (hx : X ρ) (hf : ∀ a, frzs (.val (e a)) sc ρ = ρ1) (hk : ∀ a, TB F eb X rest (ρ1.set i (some (.val (e a)))) (k a)) : TB F eb X (dSeq (dAsg i sc (dV de)) rest) ρ (bnd t k) := fun s => by
  have : dSeq (dAsg i sc (dV de)) rest ρ s = (de ρ s).out ρ fun d s1 => rest ((frzs (.val d) sc ρ).set i (some (.val d))) s1 := by
    rw [seq_eq]; unfold dAsg dV
    cases de ρ s <;> rfl
  rw [this]
  exact BL.out (h s) hx fun a s1 => by rw [hf a]; exact hk a s1
theorem tb_asgO {i : Nat} {sc : List Nat} {ρ1 : En} {k : α → M (Fl σ β)} (h : TA dl ρ t el) (hx : X ρ) (hf : frz sc ρ = ρ1) (hk : ∀ a, TB F eb X rest (ρ1.set i (some (.own (el a)))) (k a)) : TB F eb X (dSeq (dAsg i sc (dO dl)) rest) ρ (bnd t k) := fun s => by
  have : dSeq (dAsg i sc (dO dl)) rest ρ s = (dl ρ s).out ρ fun d s1 => rest ((frz sc ρ).set i (some (.own d))) s1 := by
    rw [seq_eq]; unfold dAsg dO
    cases dl ρ s <;> rfl
  rw [this]
  exact BL.out (h s) hx fun a s1 => by rw [hf]; exact hk a s1
theorem tb_asgT {g : DG} {sc : List Nat} {G : α → En} {k : α → M (Fl σ β)} (h : TE de ρ t e) (hx : X ρ) (hg : ∀ a, g (e a) (frz sc ρ) = some (G a)) (hk : ∀ a, TB F eb X rest (G a) (k a)) : TB F eb X (dSeq (dAsgT g sc de) rest) ρ (bnd t k) := fun s => by
  have : dSeq (dAsgT g sc de) rest ρ s = (de ρ s).out ρ fun d s1 => match g d (frz sc ρ) with
      | some ρ' => rest ρ' s1
      | none => .bad := by
    rw [seq_eq]; unfold dAsgT
    cases de ρ s with
    | ok d s1 => simp only [R.out_ok]; cases g d (frz sc ρ) <;> rfl
    | _ => rfl
  rw [this]
  exact BL.out (h s) hx fun a s1 => by rw [hg a]; exact hk a s1
/-- two at once: values of which none is an own list -/
theorem tb_par {i j : Nat} {e' : γ → D} {u : M γ} {k : α → γ → M (Fl σ β)} (h : TE da ρ t e) (h' : TE db ρ u e') (hx : X ρ) (hk : ∀ a b, TB F eb X rest ((ρ.set i (some (.val (e a)))).set j (some (.val (e' b)))) (k a b)) : TB F eb X (dSeq (dPar i j [] [] (dV da) (dV db)) rest) ρ (bnd t fun a => bnd u fun b => k a b) := fun s => by
  have : dSeq (dPar i j [] [] (dV da) (dV db)) rest ρ s = (da ρ s).out ρ fun d s1 => (db ρ s1).out ρ fun d2 s2 => rest ((ρ.set i (some (.val d))).set j (some (.val d2))) s2 := by
    rw [seq_eq]; unfold dPar dV
    cases da ρ s with
    | ok d s1 =>
      simp only [R.map_ok, R.out_ok, frzs_nil]
      cases db ρ s1 <;> rfl
    | _ => rfl
  rw [this]
  exact BL.out (h s) hx fun a s1 => BL.out (h' s1) hx fun b s2 => hk a b s2
/-- two at once, own lists among them: the slots' new things are told -/
theorem tb_parG {i j : Nat} {sa sb : List Nat} {dv dw : E1 DeckSt Sl} {ev : α → Sl} {ew : γ → Sl} {u : M γ} {ρ1 ρ2 : En} {k : α → γ → M (Fl σ β)} (h : ∀ s, RE ev (dv ρ s) (t s)) (hf : ∀ a, frzs (ev a) sa ρ = ρ1) (h' : ∀ s, RE ew (dw ρ1 s) (u s)) (hf' : ∀ a, frzs (ew a) sb ρ1 = ρ2) (hx : X ρ) (hx1 : X ρ1)
    (hk : ∀ a b, TB F eb X rest ((ρ2.set i (some (ev a))).set j (some (ew b))) (k a b)) : TB F eb X (dSeq (dPar i j sa sb dv dw) rest) ρ (bnd t fun a => bnd u fun b => k a b) := fun s => by
  have : dSeq (dPar i j sa sb dv dw) rest ρ s = (dv ρ s).out ρ fun x s1 => (dw (frzs x sa ρ) s1).out (frzs x sa ρ) fun y s2 => rest (((frzs y sb (frzs x sa ρ)).set i (some x)).set j (some y)) s2 := by
    rw [seq_eq]; unfold dPar
    cases dv ρ s with
    | ok d s1 => simp only [R.out_ok]; cases dw (frzs d sa ρ) s1 <;> rfl
    | _ => rfl
  rw [this]
  refine BL.out (h s) hx fun a s1 => ?_
  rw [hf a]
  exact BL.out (h' s1) hx1 fun b s2 => by rw [hf' b]; exact hk a b s2
theorem re_v (h : TE de ρ t e) : ∀ s, RE (fun a => Sl.val (e a)) (dV de ρ s) (t s) := fun s n => by
  show (de ρ s).map _ = _
  rw [h s n]; cases t s <;> rfl
theorem re_o (h : TA dl ρ t el) : ∀ s, RE (fun a => Sl.own (el a)) (dO dl ρ s) (t s) := fun s n => by
  show (dl ρ s).map _ = _
  rw [h s n]; cases t s <;> rfl
theorem tb_aug {i : Nat} {f : D → D → Option D} {e0 : γ → D} {c : γ} {e1 : δ → D} {op : γ → α → Option δ} {k : δ → M (Fl σ β)} (hi : ρ[i]? = some (some (.val (e0 c)))) (o : O2 f op e0 e e1) (h : TE de ρ t e) (hx : X ρ) (hk : ∀ z, TB F eb X rest (ρ.set i (some (.val (e1 z)))) (k z)) :
    TB F eb X (dSeq (dAug i f de) rest) ρ (bnd (bin op (ret c) t) k) := fun s => by
  have : dSeq (dAug i f de) rest ρ s = (de ρ s).out ρ fun y s1 => match f (e0 c) y with
      | some z => rest (ρ.set i (some (.val z))) s1
      | none => .bad := by
    rw [seq_eq]; unfold dAug
    rw [hi]
    cases de ρ s with
    | ok d s1 => simp only [R.out_ok]; cases f (e0 c) d <;> rfl
    | _ => rfl
  rw [this]
  show BL F eb X _ (((t s).bind fun b => lft (op c b)).bind k)
  rw [R.bind_bind]
  refine BL.out (h s) hx fun a s1 => ?_
  show BL F eb X _ ((Mir.ofO s1 (op c a)).bind k)
  cases z : op c a with
  | none => exact trivial
  | some y => rw [o c a y z]; exact hk y s1
/-- a method of an own list -/
theorem tb_meth {i : Nat} {sc : List Nat} {ρ1 : En} {e0 e1 : γ → D} {l : List γ} {f : List D → List D → Option (List D × D)} {kk : D → En → Option En} {ed : δ → D} {op : List γ → α → Option (List γ × δ)} {G : List γ → δ → En} {k : List γ × δ → M (Fl σ β)}
    (hi : ρ[i]? = some (some (.own (l.map e0)))) (hf : ∀ a, frzl (el a) sc ρ = ρ1) (hi1 : ρ1[i]? = some (some (.own (l.map e0)))) (o : ∀ a l' d, op l a = some (l', d) → f (l.map e0) (el a) = some (l'.map e0, ed d)) (hg : ∀ l' d, kk (ed d) (ρ1.set i (some (.own (l'.map e0)))) = some (G l' d))
    (h : TA dl ρ t el) (hx : X ρ) (hk : ∀ p, TB F eb X rest (G p.1 p.2) (k p)) : TB F eb X (dSeq (dMeth i sc dl f kk) rest) ρ (bnd (un (op l) t) k) := fun s => by
  have : dSeq (dMeth i sc dl f kk) rest ρ s = (dl ρ s).out ρ fun ds s1 => match (frzl ds sc ρ)[i]? with
    | some (some (.own es)) => match f es ds with
      | some (es', d) => match kk d ((frzl ds sc ρ).set i (some (.own es'))) with
        | some ρ' => rest ρ' s1
        | none => .bad
      | none => .bad
    | _ => .bad := by
    rw [seq_eq]; unfold dMeth
    rw [hi]
    cases dl ρ s with
    | ok ds s1 =>
      simp only [R.out_ok]
      cases (frzl ds sc ρ)[i]? with
      | none => rfl
      | some x => cases x with
        | none => rfl
        | some y => cases y with
          | val d => rfl
          | own es =>
            dsimp only
            cases f es ds with
            | none => rfl
            | some p =>
              dsimp only
              cases kk p.2 ((frzl ds sc ρ).set i (some (.own p.1))) <;> rfl
    | _ => rfl
  rw [this]
  show BL F eb X _ (((t s).bind fun b => lft (op l b)).bind k)
  rw [R.bind_bind]
  refine BL.out (h s) hx fun a s1 => ?_
  rw [hf a, hi1]
  show BL F eb X _ ((Mir.ofO s1 (op l a)).bind k)
  cases z : op l a with
  | none => exact trivial
  | some p =>
    obtain ⟨l', d⟩ := p
    show BL F eb X (match f (l.map e0) (el a) with
      | some (es', d) => match kk d (ρ1.set i (some (.own es'))) with
        | some ρ' => rest ρ' s1
        | none => .bad
      | none => .bad) (k (l', d) s1)
    rw [o a l' d z]
    dsimp only
    rw [hg l' d]
    exact hk (l', d) s1
theorem forT_bl {g : DG} {L : DS DeckSt} {F0 : σ → En} {e : α → D} {G : α → σ → En} {body : α → σ → M (Fl σ β)} (hg : ∀ a st, g (e a) (F0 st) = some (G a st)) (hb : ∀ a st, TB F0 eb X L (G a st) (body a st)) : ∀ (l : List α) (st : σ) (s : DeckSt), BL F0 eb X (forL g L (l.map e) (F0 st) s) (forT body l st s)
  | [], st, s => rfl
  | a :: l, st, s => by
    rw [List.map_cons, forL, hg a st]
    have h := hb a st s
    show BL F0 eb X _ ((body a st s).bind _)
    dsimp only
    cases q : body a st s with
    | bad => exact trivial
    | ex c s1 =>
      rw [q] at h
      obtain ⟨ρ', e1, e2⟩ := h
      rw [e1]
      exact ⟨ρ', rfl, e2⟩
    | ok x s1 =>
      rw [q] at h
      cases x with
      | nx st' => rw [show L (G a st) s = _ from h]; exact forT_bl hg hb l st' s1
      | ct st' => rw [show L (G a st) s = _ from h]; exact forT_bl hg hb l st' s1
      | bk st' => rw [show L (G a st) s = _ from h]; exact rfl
      | rt v => rw [show L (G a st) s = _ from h]; exact rfl
theorem BL.thn {o : Out DeckSt} {m : M (Fl σ' β)} {s : DeckSt} {k : σ' → M (Fl σ β)} (h : BL F' eb X o (m s)) (hk : ∀ st, TB F eb X rest (F' st) (k st)) : BL F eb X (sq o rest) (Mir.thn m k s) := by
  unfold Mir.thn bnd
  cases q : m s with
  | bad => exact trivial
  | ex c s1 =>
    rw [q] at h
    obtain ⟨ρ', e1, e2⟩ := h
    subst e1
    exact ⟨ρ', rfl, e2⟩
  | ok x s1 =>
    rw [q] at h
    cases x with
    | nx st => rw [show o = _ from h]; exact hk st s1
    | rt v => rw [show o = _ from h]; exact rfl
    | bk st => exact trivial
    | ct st => exact trivial
theorem tb_for {g : DG} {sc : List Nat} {F0 : σ' → En} {G : α → σ' → En} {tl : M (List α)} {body : α → σ' → M (Fl σ' β)} {k : σ' → M (Fl σ β)} (st0 : σ') (hl : TA di ρ tl (List.map e)) (hF : frz sc ρ = F0 st0) (hg : ∀ a st, g (e a) (F0 st) = some (G a st))
    (hb : ∀ a st, TB F0 eb X L (G a st) (body a st)) (hx : X ρ) (hk : ∀ st, TB F eb X rest (F0 st) (k st)) : TB F eb X (dSeq (dFor g sc di L) rest) ρ (bnd tl fun l => thn (forT body l st0) k) := fun s => by
  have : dSeq (dFor g sc di L) rest ρ s = (di ρ s).out ρ fun l s1 => sq (forL g L l (frz sc ρ) s1) rest := by
    rw [seq_eq]; unfold dFor
    cases di ρ s <;> rfl
  rw [this]
  refine BL.out (hl s) hx fun l s1 => ?_
  rw [hF]
  exact (forT_bl hg hb l st0 s1).thn hk
theorem whT_bl {dt : DT DeckSt} {L : DS DeckSt} {F0 : σ → En} {tc : σ → M Bool} {body : σ → M (Fl σ β)} (hx : ∀ st, X (F0 st)) (ht : ∀ st, TT dt (F0 st) (tc st)) (hb : ∀ st, TB F0 eb X L (F0 st) (body st)) : ∀ (n : Nat) (st : σ) (s : DeckSt), BL F0 eb X (whileN dt L n (F0 st) s) (whT tc body n st s)
  | 0, st, s => trivial
  | n + 1, st, s => by
    rw [whileN]
    show BL F0 eb X _ ((tc st s).bind _)
    refine BL.out (ht st s) (hx st) fun k s1 => ?_
    cases k with
    | false => exact rfl
    | true =>
      have h := hb st s1
      show BL F0 eb X _ ((body st s1).bind _)
      dsimp only [id]
      rw [if_pos rfl]
      cases q : body st s1 with
      | bad => exact trivial
      | ex c s2 =>
        rw [q] at h
        obtain ⟨ρ', e1, e2⟩ := h
        rw [e1]
        exact ⟨ρ', rfl, e2⟩
      | ok x s2 =>
        rw [q] at h
        cases x with
        | nx st' => rw [show L (F0 st) s1 = _ from h]; exact whT_bl hx ht hb n st' s2
        | ct st' => rw [show L (F0 st) s1 = _ from h]; exact whT_bl hx ht hb n st' s2
        | bk st' => rw [show L (F0 st) s1 = _ from h]; exact rfl
        | rt v => rw [show L (F0 st) s1 = _ from h]; exact rfl
theorem tb_while {n : Nat} {F0 : σ' → En} {tc : σ' → M Bool} {body : σ' → M (Fl σ' β)} {k : σ' → M (Fl σ β)} (st0 : σ') (hF : ρ = F0 st0) (hx : ∀ st, X (F0 st)) (ht : ∀ st, TT dt (F0 st) (tc st)) (hb : ∀ st, TB F0 eb X L (F0 st) (body st)) (hk : ∀ st, TB F eb X rest (F0 st) (k st)) :
    TB F eb X (dSeq (dWhile n dt L) rest) ρ (thn (whT tc body n st0) k) := fun s => by
  subst hF
  rw [seq_eq]
  exact (whT_bl hx ht hb n st0 s).thn hk
theorem hndT_bl {F' : σ' → En} {sub : Str → Str → Option Bool} {c : Str} {ρ' : En} {s : DeckSt} (hx : X ρ') : ∀ {hs : List (Str × DS DeckSt)} {ts : List (Str × M (Fl σ' β))}, hs.length = ts.length → (∀ (i : Nat) h t, hs[i]? = some h → ts[i]? = some t → h.1 = t.1 ∧ TB F' eb (fun _ => True) h.2 ρ' t.2) → BL F' eb X (handle sub c ρ' s hs) (hndT sub c ts s)
  | [], [], _, _ => ⟨ρ', rfl, hx⟩
  | (x, d) :: hs, (y, t) :: ts, hl, h => by
    obtain ⟨h1, h2⟩ := h 0 _ _ rfl rfl
    have ih := hndT_bl (hs := hs) (ts := ts) (sub := sub) (c := c) (s := s) (F' := F') hx (by simpa using hl) fun i a b e1 e2 => h (i + 1) a b (by simpa using e1) (by simpa using e2)
    dsimp only at h1 h2
    subst h1
    unfold handle hndT
    cases q : sub c x with
    | none => exact trivial
    | some b =>
      cases b with
      | false => exact ih
      | true =>
        have g := h2 s
        dsimp only
        cases w : t s with
        | bad => exact trivial
        | ex c2 s2 => exact trivial
        | ok z s2 =>
          rw [w] at g
          cases z with
          | nx st => rw [show d ρ' s = _ from g]; exact rfl
          | rt v => rw [show d ρ' s = _ from g]; exact rfl
          | bk st => rw [show d ρ' s = _ from g]; exact rfl
          | ct st => rw [show d ρ' s = _ from g]; exact rfl
inductive HsT (F' : σ' → En) (eb : β → D) (X' : En → Prop) : List (Str × DS DeckSt) → List (Str × M (Fl σ' β)) → Prop
  | nil : HsT F' eb X' [] []
  | cons {x : Str} {d : DS DeckSt} {t : M (Fl σ' β)} {hs : List (Str × DS DeckSt)} {ts : List (Str × M (Fl σ' β))} (h : ∀ ρ', X' ρ' → TB F' eb (fun _ => True) d ρ' t) (r : HsT F' eb X' hs ts) : HsT F' eb X' ((x, d) :: hs) ((x, t) :: ts)
theorem HsT.at {F' : σ' → En} {X' : En → Prop} {hs : List (Str × DS DeckSt)} {ts : List (Str × M (Fl σ' β))} (h : HsT F' eb X' hs ts) : hs.length = ts.length ∧ ∀ ρ', X' ρ' → ∀ (i : Nat) h t, hs[i]? = some h → ts[i]? = some t → h.1 = t.1 ∧ TB F' eb (fun _ => True) h.2 ρ' t.2 := by
  induction h with
  | nil => exact ⟨rfl, fun ρ' x i h t e => by simp at e⟩
  | cons h r ih =>
    refine ⟨by simp [ih.1], fun ρ' x i a b e1 e2 => ?_⟩
    cases i with
    | zero => simp at e1 e2; subst e1; subst e2; exact ⟨rfl, h ρ' x⟩
    | succ i => exact ih.2 ρ' x i a b (by simpa using e1) (by simpa using e2)
/-- a try: X' is what the errors leave -/
theorem tb_try {F' : σ' → En} {X' : En → Prop} {sub : Str → Str → Option Bool} {hs : List (Str × DS DeckSt)} {m : M (Fl σ' β)} {ts : List (Str × M (Fl σ' β))} {k : σ' → M (Fl σ β)} (hm : TB F' eb X' A ρ m) (hh : HsT F' eb X' hs ts) (hx : ∀ ρ, X' ρ → X ρ) (hk : ∀ st, TB F eb X rest (F' st) (k st)) :
    TB F eb X (dSeq (dTry sub A hs) rest) ρ (thn (tryT sub m ts) k) := fun s => by
  have h := hm s
  have : BL F' eb X (dTry sub A hs ρ s) (tryT sub m ts s) := by
    unfold dTry tryT
    cases q : m s with
    | bad => exact trivial
    | ex c s1 =>
      rw [q] at h
      obtain ⟨ρ', e1, e2⟩ := h
      rw [e1]
      exact hndT_bl (hx ρ' e2) hh.at.1 (hh.at.2 ρ' e2)
    | ok z s1 =>
      rw [q] at h
      cases z with
      | nx st => rw [show A ρ s = _ from h]; exact rfl
      | rt v => rw [show A ρ s = _ from h]; exact rfl
      | bk st => rw [show A ρ s = _ from h]; exact rfl
      | ct st => rw [show A ρ s = _ from h]; exact rfl
  rw [seq_eq]
  exact this.thn hk
/-- a def -/
theorem fin_ok {N : Nat} {ds : DS DeckSt} {args : List D} {m : M (Fl Unit β)} {d : Option β} {F : Unit → En} {X : En → Prop} (h : TB F eb X ds (args.map (fun d => some (.val d)) ++ List.replicate (N - args.length) none) m) (hd : ∀ v, d = some v → eb v = .non) : ∀ s, RE eb (mOf N ds args s) (fin d m s) := fun s n => by
  have g := h s
  unfold fin bnd at n ⊢
  unfold mOf
  cases q : m s with
  | bad => rw [q] at n; exact absurd rfl n
  | ex c s1 =>
    rw [q] at g
    obtain ⟨ρ', e1, e2⟩ := g
    rw [e1]
    rfl
  | ok z s1 =>
    rw [q] at g n
    cases z with
    | nx st =>
      rw [show ds _ s = _ from g]
      cases d with
      | none => exact absurd rfl n
      | some v => show R.ok .non s1 = R.ok (eb v) s1; rw [hd v rfl]
    | rt v => rw [show ds _ s = _ from g]; rfl
    | bk st => exact absurd rfl n
    | ct st => exact absurd rfl n
end
end Mir

set_option Elab.async false
set_option linter.all false
set_option maxRecDepth 100000
set_option maxHeartbeats 2000000
namespace Mir
open PySem PySem.Spec L2
open PyProof.Rows hiding St
/-! ### what stands for what -/
section
variable {α β γ δ ε ζ : Type}
@[reducible] def eL (e : α → D) (l : List α) : D := .lst (l.map e)
@[reducible] def eR (e : α → D) (l : List α) : D := .tup (l.map e)
@[reducible] def e1 (a : α → D) (p : α) : D := .tup [a p]
@[reducible] def e2 (a : α → D) (b : β → D) (p : α × β) : D := .tup [a p.1, b p.2]
@[reducible] def e3 (a : α → D) (b : β → D) (c : γ → D) (p : α × β × γ) : D := .tup [a p.1, b p.2.1, c p.2.2]
@[reducible] def e4 (a : α → D) (b : β → D) (c : γ → D) (d : δ → D) (p : α × β × γ × δ) : D := .tup [a p.1, b p.2.1, c p.2.2.1, d p.2.2.2]
@[reducible] def e5 (a : α → D) (b : β → D) (c : γ → D) (d : δ → D) (e : ε → D) (p : α × β × γ × δ × ε) : D := .tup [a p.1, b p.2.1, c p.2.2.1, d p.2.2.2.1, e p.2.2.2.2]
def eO (e : α → D) : Option α → D
  | none => .non
  | some a => e a
@[simp] theorem eO_none {e : α → D} : eO e none = .non := rfl
@[simp] theorem eO_some {e : α → D} {a : α} : eO e (some a) = e a := rfl
@[reducible] def eN (_ : Unit) : D := .non
@[reducible] def eK (_ : Unit) : D := .deck
@[reducible] def eA (d : D) : D := d
def signs (w : Wd) : List Wd := w.map fun c => [c]
/-! ### the way back -/
def Dec (e : α → D) (f : D → Option α) : Prop := ∀ d a, f d = some a → d = e a
def fI' : D → Option Int
  | .int i => some i
  | _ => none
def fB : D → Option Bool
  | .bl i => some i
  | _ => none
def fW : D → Option Wd
  | .str i => some i
  | _ => none
def fN : D → Option Unit
  | .non => some ()
  | _ => none
def mapO (f : D → Option α) : List D → Option (List α)
  | [] => some []
  | d :: l => (f d).bind fun a => (mapO f l).map (a :: ·)
def fL (f : D → Option α) : D → Option (List α)
  | .lst l => mapO f l
  | _ => none
def fR (f : D → Option α) : D → Option (List α)
  | .tup l => mapO f l
  | _ => none
def fO (f : D → Option α) : D → Option (Option α)
  | .non => some none
  | d => (f d).map some
def f1 (a : D → Option α) : D → Option α
  | .tup [x] => a x
  | _ => none
def f2 (a : D → Option α) (b : D → Option β) : D → Option (α × β)
  | .tup [x, y] => (a x).bind fun x => (b y).map fun y => (x, y)
  | _ => none
def f3 (a : D → Option α) (b : D → Option β) (c : D → Option γ) : D → Option (α × β × γ)
  | .tup [x, y, z] => (a x).bind fun x => (b y).bind fun y => (c z).map fun z => (x, y, z)
  | _ => none
def f4 (a : D → Option α) (b : D → Option β) (c : D → Option γ) (d : D → Option δ) : D → Option (α × β × γ × δ)
  | .tup [x, y, z, w] => (a x).bind fun x => (b y).bind fun y => (c z).bind fun z => (d w).map fun w => (x, y, z, w)
  | _ => none
def f5 (a : D → Option α) (b : D → Option β) (c : D → Option γ) (d : D → Option δ) (e : D → Option ε) : D → Option (α × β × γ × δ × ε)
  | .tup [x, y, z, w, v] => (a x).bind fun x => (b y).bind fun y => (c z).bind fun z => (d w).bind fun w => (e v).map fun v => (x, y, z, w, v)
  | _ => none
variable {ea : α → D} {eb : β → D} {ec : γ → D} {ed : δ → D} {ee : ε → D} {fa : D → Option α} {fb : D → Option β} {fc : D → Option γ} {fd : D → Option δ} {fe : D → Option ε}
theorem dec_A : Dec eA some := fun d a h => by cases h; rfl
theorem dec_I : Dec .int fI' := fun d a h => by cases d <;> cases h; rfl
theorem dec_B : Dec .bl fB := fun d a h => by cases d <;> cases h; rfl
theorem dec_W : Dec .str fW := fun d a h => by cases d <;> cases h; rfl
theorem dec_N : Dec eN fN := fun d a h => by cases d <;> cases h; rfl
theorem mapO_dec (h : Dec ea fa) : ∀ {l : List D} {as : List α}, mapO fa l = some as → l = as.map ea
  | [], as, e => by cases e; rfl
  | d :: l, as, e => by
    simp only [mapO] at e
    obtain ⟨a, e1, e2⟩ := Option.bind_eq_some_iff.mp e
    obtain ⟨r, e3, rfl⟩ := Option.map_eq_some_iff.mp e2
    rw [h d a e1, mapO_dec h e3]; rfl
theorem dec_L (h : Dec ea fa) : Dec (eL ea) (fL fa) := fun d a e => by
  cases d <;> simp only [fL] at e <;> first | cases e | rw [mapO_dec h e]
theorem dec_R (h : Dec ea fa) : Dec (eR ea) (fR fa) := fun d a e => by
  cases d <;> simp only [fR] at e <;> first | cases e | rw [mapO_dec h e]
theorem dec_O (h : Dec ea fa) : Dec (eO ea) (fO fa) := fun d a e => by
  cases d with
  | non => cases e; rfl
  | _ =>
    simp only [fO] at e
    obtain ⟨b, e1, rfl⟩ := Option.map_eq_some_iff.mp e
    exact h _ b e1
theorem dec_1 (ha : Dec ea fa) : Dec (e1 ea) (f1 fa) := fun d a e => by
  unfold f1 at e
  split at e
  · rw [ha _ _ e]
  · cases e
theorem dec_2 (ha : Dec ea fa) (hb : Dec eb fb) : Dec (e2 ea eb) (f2 fa fb) := fun d a e => by
  unfold f2 at e
  split at e
  · obtain ⟨x, e1, e⟩ := Option.bind_eq_some_iff.mp e
    obtain ⟨y, e2, rfl⟩ := Option.map_eq_some_iff.mp e
    rw [ha _ _ e1, hb _ _ e2]
  · cases e
theorem dec_3 (ha : Dec ea fa) (hb : Dec eb fb) (hc : Dec ec fc) : Dec (e3 ea eb ec) (f3 fa fb fc) := fun d a e => by
  unfold f3 at e
  split at e
  · obtain ⟨x, e1, e⟩ := Option.bind_eq_some_iff.mp e
    obtain ⟨y, e2, e⟩ := Option.bind_eq_some_iff.mp e
    obtain ⟨z, e3, rfl⟩ := Option.map_eq_some_iff.mp e
    rw [ha _ _ e1, hb _ _ e2, hc _ _ e3]
  · cases e
theorem dec_4 (ha : Dec ea fa) (hb : Dec eb fb) (hc : Dec ec fc) (hd : Dec ed fd) : Dec (e4 ea eb ec ed) (f4 fa fb fc fd) := fun d a e => by
  unfold f4 at e
  split at e
  · obtain ⟨x, e1, e⟩ := Option.bind_eq_some_iff.mp e
    obtain ⟨y, e2, e⟩ := Option.bind_eq_some_iff.mp e
    obtain ⟨z, e3, e⟩ := Option.bind_eq_some_iff.mp e
    obtain ⟨w, e4, rfl⟩ := Option.map_eq_some_iff.mp e
    rw [ha _ _ e1, hb _ _ e2, hc _ _ e3, hd _ _ e4]
  · cases e
theorem dec_5 (ha : Dec ea fa) (hb : Dec eb fb) (hc : Dec ec fc) (hd : Dec ed fd) (he : Dec ee fe) : Dec (e5 ea eb ec ed ee) (f5 fa fb fc fd fe) := fun d a e => by
  unfold f5 at e
  split at e
  · obtain ⟨x, e1, e⟩ := Option.bind_eq_some_iff.mp e
    obtain ⟨y, e2, e⟩ := Option.bind_eq_some_iff.mp e
    obtain ⟨z, e3, e⟩ := Option.bind_eq_some_iff.mp e
    obtain ⟨w, e4, e⟩ := Option.bind_eq_some_iff.mp e
    obtain ⟨v, e5, rfl⟩ := Option.map_eq_some_iff.mp e
    rw [ha _ _ e1, hb _ _ e2, hc _ _ e3, hd _ _ e4, he _ _ e5]
  · cases e
/-- a decoder reads what was put -/
def Rd (e : α → D) (f : D → Option α) : Prop := ∀ a, f (e a) = some a
theorem rd_A : Rd eA some := fun _ => rfl
theorem rd_I : Rd .int fI' := fun _ => rfl
theorem rd_B : Rd .bl fB := fun _ => rfl
theorem rd_W : Rd .str fW := fun _ => rfl
theorem rd_N : Rd eN fN := fun _ => rfl
theorem mapO_rd (h : Rd ea fa) : ∀ l : List α, mapO fa (l.map ea) = some l
  | [] => rfl
  | a :: l => by rw [List.map_cons, mapO, h a, Option.bind_some, mapO_rd h l]; rfl
theorem rd_L (h : Rd ea fa) : Rd (eL ea) (fL fa) := fun l => mapO_rd h l
theorem rd_R (h : Rd ea fa) : Rd (eR ea) (fR fa) := fun l => mapO_rd h l
theorem rd_1 (h : Rd ea fa) : Rd (e1 ea) (f1 fa) := fun p => h p
theorem rd_2 (h : Rd ea fa) (h' : Rd eb fb) : Rd (e2 ea eb) (f2 fa fb) := fun p => by
  show (fa (ea p.1)).bind _ = _; rw [h, Option.bind_some, h']; rfl
theorem rd_3 (h : Rd ea fa) (h' : Rd eb fb) (h'' : Rd ec fc) : Rd (e3 ea eb ec) (f3 fa fb fc) := fun p => by
  show (fa (ea p.1)).bind _ = _; rw [h, Option.bind_some, h', Option.bind_some, h'']; rfl
theorem rd_4 (h : Rd ea fa) (h' : Rd eb fb) (h'' : Rd ec fc) (h3 : Rd ed fd) : Rd (e4 ea eb ec ed) (f4 fa fb fc fd) := fun p => by
  show (fa (ea p.1)).bind _ = _; rw [h, Option.bind_some, h', Option.bind_some, h'', Option.bind_some, h3]; rfl
/-! ### equality -/
structure EqK (n : Nat) (e : α → D) [BEq α] : Prop where
  fit : ∀ a, Mir.fit n (e a) = true
  eq : ∀ a b, eqD (e a) (e b) = (a == b)
theorem fit_mono : ∀ (n m : Nat) (d : D), n ≤ m → fit n d = true → fit m d = true := by
  intro n
  induction n with
  | zero => intro m d _ h; cases d <;> cases m <;> first | rfl | (simp [fit] at h)
  | succ n ih =>
    intro m d hm h
    cases m with
    | zero => omega
    | succ m =>
      cases d <;> first | rfl | (simp [fit] at h; done) | skip
      all_goals
        simp only [fit, List.all_eq_true] at h ⊢
        exact fun x hx => ih m x (by omega) (h x hx)
theorem eqk_I : EqK 0 D.int := ⟨fun _ => rfl, fun _ _ => rfl⟩
theorem eqk_B : EqK 0 D.bl := ⟨fun _ => rfl, fun _ _ => rfl⟩
theorem eqk_W : EqK 0 D.str := ⟨fun _ => rfl, fun _ _ => rfl⟩
theorem eqDs_map [BEq α] (h : ∀ a b, eqD (ea a) (ea b) = (a == b)) : ∀ l m : List α, eqDs (l.map ea) (m.map ea) = (l == m)
  | [], [] => rfl
  | [], _ :: _ => rfl
  | _ :: _, [] => rfl
  | a :: l, b :: m => by rw [List.map_cons, List.map_cons, eqDs, h, eqDs_map h l m]; rfl
theorem eqk_R {n : Nat} [BEq α] (h : EqK n ea) : EqK (n + 1) (eR ea) := ⟨fun l => by
  show (l.map ea).all (Mir.fit n) = true
  rw [List.all_map, List.all_eq_true]; exact fun x _ => h.fit x, fun l m => eqDs_map h.eq l m⟩
theorem eqk_L {n : Nat} [BEq α] (h : EqK n ea) : EqK (n + 1) (eL ea) := ⟨fun l => by
  show (l.map ea).all (Mir.fit n) = true
  rw [List.all_map, List.all_eq_true]; exact fun x _ => h.fit x, fun l m => eqDs_map h.eq l m⟩
theorem eqk_2 {n m : Nat} [BEq α] [BEq β] (h : EqK n ea) (h' : EqK m eb) : EqK (max n m + 1) (e2 ea eb) := ⟨fun p => by
  show [ea p.1, eb p.2].all (Mir.fit (max n m)) = true
  simp only [List.all_cons, List.all_nil, Bool.and_true, Bool.and_eq_true]
  exact ⟨fit_mono _ _ _ (by omega) (h.fit _), fit_mono _ _ _ (by omega) (h'.fit _)⟩, fun p q => by
  show (eqD _ _ && (eqD _ _ && true)) = _
  rw [h.eq, h'.eq, Bool.and_true]; rfl⟩
theorem eqk_3 {n m k : Nat} [BEq α] [BEq β] [BEq γ] (h : EqK n ea) (h' : EqK m eb) (h'' : EqK k ec) : EqK (max n (max m k) + 1) (e3 ea eb ec) := ⟨fun p => by
  show [ea p.1, eb p.2.1, ec p.2.2].all (Mir.fit (max n (max m k))) = true
  simp only [List.all_cons, List.all_nil, Bool.and_true, Bool.and_eq_true]
  exact ⟨fit_mono _ _ _ (by omega) (h.fit _), fit_mono _ _ _ (by omega) (h'.fit _), fit_mono _ _ _ (by omega) (h''.fit _)⟩, fun p q => by
  show (eqD _ _ && (eqD _ _ && (eqD _ _ && true))) = _
  rw [h.eq, h'.eq, h''.eq, Bool.and_true]; rfl⟩
theorem eqk_4 {n m k j : Nat} [BEq α] [BEq β] [BEq γ] [BEq δ] (h : EqK n ea) (h' : EqK m eb) (h'' : EqK k ec) (h3 : EqK j ed) : EqK (max n (max m (max k j)) + 1) (e4 ea eb ec ed) := ⟨fun p => by
  show [ea p.1, eb p.2.1, ec p.2.2.1, ed p.2.2.2].all (Mir.fit (max n (max m (max k j)))) = true
  simp only [List.all_cons, List.all_nil, Bool.and_true, Bool.and_eq_true]
  exact ⟨fit_mono _ _ _ (by omega) (h.fit _), fit_mono _ _ _ (by omega) (h'.fit _), fit_mono _ _ _ (by omega) (h''.fit _), fit_mono _ _ _ (by omega) (h3.fit _)⟩, fun p q => by
  show (eqD _ _ && (eqD _ _ && (eqD _ _ && (eqD _ _ && true)))) = _
  rw [h.eq, h'.eq, h''.eq, h3.eq, Bool.and_true]; rfl⟩
/-- never None, and never equal to None -/
structure NN (e : α → D) : Prop where
  is : ∀ a, isF false (e a) .non = some (.bl false) ∧ isF true (e a) .non = some (.bl true)
  l : ∀ a, eqD (e a) .non = false
  r : ∀ a, eqD .non (e a) = false
theorem nn_I : NN D.int := ⟨fun _ => ⟨rfl, rfl⟩, fun _ => rfl, fun _ => rfl⟩
theorem nn_B : NN D.bl := ⟨fun _ => ⟨rfl, rfl⟩, fun _ => rfl, fun _ => rfl⟩
theorem nn_W : NN D.str := ⟨fun _ => ⟨rfl, rfl⟩, fun _ => rfl, fun _ => rfl⟩
theorem nn_R : NN (eR ea) := ⟨fun _ => ⟨rfl, rfl⟩, fun _ => rfl, fun _ => rfl⟩
theorem nn_L : NN (eL ea) := ⟨fun _ => ⟨rfl, rfl⟩, fun _ => rfl, fun _ => rfl⟩
theorem nn_1 : NN (e1 ea) := ⟨fun _ => ⟨rfl, rfl⟩, fun _ => rfl, fun _ => rfl⟩
theorem nn_2 : NN (e2 ea eb) := ⟨fun _ => ⟨rfl, rfl⟩, fun _ => rfl, fun _ => rfl⟩
theorem nn_3 : NN (e3 ea eb ec) := ⟨fun _ => ⟨rfl, rfl⟩, fun _ => rfl, fun _ => rfl⟩
theorem nn_4 : NN (e4 ea eb ec ed) := ⟨fun _ => ⟨rfl, rfl⟩, fun _ => rfl, fun _ => rfl⟩
theorem nn_5 : NN (e5 ea eb ec ed ee) := ⟨fun _ => ⟨rfl, rfl⟩, fun _ => rfl, fun _ => rfl⟩
theorem eqk_O {n : Nat} [BEq α] (h : EqK n ea) (k : NN ea) : EqK n (eO ea) := ⟨fun o => by
  cases o with
  | none => cases n <;> rfl
  | some a => exact h.fit a, fun o p => by
  cases o <;> cases p <;> first | rfl | exact k.l _ | exact k.r _ | exact h.eq _ _⟩
def oEq [BEq α] (a b : α) : Option Bool := some (a == b)
def oNe [BEq α] (a b : α) : Option Bool := some (!(a == b))
theorem o_eq {n : Nat} [BEq α] (h : EqK n ea) (hn : n ≤ 64) : O2 eqO oEq ea ea .bl := fun a b c e => by
  cases e
  unfold eqO eqF
  rw [fit_mono n 64 _ hn (h.fit a), fit_mono n 64 _ hn (h.fit b), ← h.eq]
  rfl
theorem o_ne {n : Nat} [BEq α] (h : EqK n ea) (hn : n ≤ 64) : O2 neO oNe ea ea .bl := fun a b c e => by
  cases e
  unfold neO eqF
  rw [fit_mono n 64 _ hn (h.fit a), fit_mono n 64 _ hn (h.fit b), ← h.eq]
  rfl
@[simp] theorem oEq_ev [BEq α] {a b : α} : oEq a b = some (a == b) := rfl
@[simp] theorem oNe_ev [BEq α] {a b : α} : oNe a b = some (!(a == b)) := rfl
/-! ### operators as they are on trees -/
def dBo (f : D → D → Option D) (a b : D) : Option Bool := (f a b).bind asB
theorem o_B {f : D → D → Option D} : O2 f (dBo f) eA eA .bl := fun a b c h => by
  obtain ⟨d, e1, e2⟩ := Option.bind_eq_some_iff.mp h
  rw [e1, asB_some e2]
theorem o_D {f : D → D → Option D} : O2 f f eA eA eA := fun a b c h => h
theorem u_D {f : D → Option D} : O1 f f eA eA := fun a c h => h
def dB1 (f : D → Option D) (a : D) : Option Bool := (f a).bind asB
theorem i_D {T : String} : ∀ a c, dB1 (isiD T) a = some c → isiD T (eA a) = some (.bl c) := fun a c h => by
  obtain ⟨d, e1, e2⟩ := Option.bind_eq_some_iff.mp h
  rw [show isiD T (eA a) = _ from e1, asB_some e2]
def dC1 (f : List D → Option D) (a : D) : Option D := f [a]
theorem c_D {f : List D → Option D} : ∀ a c, dC1 f a = some c → f [eA a] = some (eA c) := fun a c h => h
def dI1 (f : List D → Option D) (a : D) : Option Int := (f [a]).bind fI'
theorem c_DI {f : List D → Option D} : ∀ a c, dI1 f a = some c → f [eA a] = some (.int c) := fun a c h => by
  obtain ⟨d, e1, e2⟩ := Option.bind_eq_some_iff.mp h
  rw [show f [eA a] = _ from e1, dec_I _ _ e2]
def dBL1 (f : List D → Option D) (a : D) : Option Bool := (f [a]).bind asB
theorem c_DB {f : List D → Option D} : ∀ a c, dBL1 f a = some c → f [eA a] = some (.bl c) := fun a c h => by
  obtain ⟨d, e1, e2⟩ := Option.bind_eq_some_iff.mp h
  rw [show f [eA a] = _ from e1, asB_some e2]
theorem sl_D : ∀ (a : D) lo hi c, slD a lo hi = some c → slD (eA a) lo hi = some (eA c) := fun a lo hi c h => h
theorem w_D : ∀ a c, walkD a = some c → walkD (eA a) = some (c.map eA) := fun a c h => by rw [show List.map eA c = c from List.map_id c]; exact h
theorem tr_D : ∀ a c, truD a = some c → truD (eA a) = some c := fun a c h => h
/-! ### ints -/
def oAdd (a b : Int) : Option Int := some (a + b)
def oSub (a b : Int) : Option Int := some (a - b)
def oMul (a b : Int) : Option Int := if mulOk a b then some (a * b) else none
def oMod (a b : Int) : Option Int := if 0 < b then some (a % b) else none
def oDiv (a b : Int) : Option Int := if 0 < b ∧ b < 1073741824 then some (a / b) else none
def oPow (a b : Int) : Option Int := if 0 ≤ b ∧ b ≤ 1000000 ∧ a.natAbs < 2 ^ 64 then some (a ^ b.toNat) else none
def oNeg (a : Int) : Option Int := some (-a)
def oLt (a b : Int) : Option Bool := some (decide (a < b))
def oLe (a b : Int) : Option Bool := some (decide (a ≤ b))
def oGt (a b : Int) : Option Bool := some (decide (b < a))
def oGe (a b : Int) : Option Bool := some (decide (b ≤ a))
def oLtW (a b : Wd) : Option Bool := some (decide (a < b))
@[simp] theorem oAdd_ev {a b : Int} : oAdd a b = some (a + b) := rfl
@[simp] theorem oSub_ev {a b : Int} : oSub a b = some (a - b) := rfl
@[simp] theorem oNeg_ev {a : Int} : oNeg a = some (-a) := rfl
@[simp] theorem oLt_ev {a b : Int} : oLt a b = some (decide (a < b)) := rfl
@[simp] theorem oLe_ev {a b : Int} : oLe a b = some (decide (a ≤ b)) := rfl
@[simp] theorem oGt_ev {a b : Int} : oGt a b = some (decide (b < a)) := rfl
@[simp] theorem oGe_ev {a b : Int} : oGe a b = some (decide (b ≤ a)) := rfl
@[simp] theorem oLtW_ev {a b : Wd} : oLtW a b = some (decide (a < b)) := rfl
theorem o_add : O2 addD oAdd .int .int .int := fun a b c h => by cases h; rfl
theorem o_iadd : O2 iaddD oAdd .int .int .int := fun a b c h => by cases h; rfl
theorem o_sub : O2 subD oSub .int .int .int := fun a b c h => by cases h; rfl
theorem o_mul : O2 mulI oMul .int .int .int := fun a b c h => by
  show (if mulOk a b then some (a * b) else none).map D.int = _
  rw [show (if mulOk a b then some (a * b) else none) = some c from h]; rfl
theorem o_times : O2 timesD oMul .int .int .int := fun a b c h => by
  unfold timesD
  rw [o_mul a b c h]; rfl
theorem o_mod : O2 modD oMod .int .int .int := fun a b c h => by
  show (if decide (0 < b) = true then some (a % b) else none).map D.int = _
  unfold oMod at h
  by_cases z : 0 < b
  · rw [if_pos z] at h; cases h; rw [if_pos (by simpa using z)]; rfl
  · rw [if_neg z] at h; cases h
theorem o_fdiv : O2 fdivD oDiv .int .int .int := fun a b c h => by
  show (if (decide (0 < b) && decide (b < 1073741824)) = true then some (a / b) else none).map D.int = _
  unfold oDiv at h
  by_cases z : 0 < b ∧ b < 1073741824
  · rw [if_pos z] at h; cases h; rw [if_pos (by simpa using z)]; rfl
  · rw [if_neg z] at h; cases h
theorem o_pow : O2 powD oPow .int .int .int := fun a b c h => by
  show (if (decide (0 ≤ b) && decide (b ≤ 1000000) && decide (a.natAbs < 2 ^ 64)) = true then some (a ^ b.toNat) else none).map D.int = _
  unfold oPow at h
  by_cases z : 0 ≤ b ∧ b ≤ 1000000 ∧ a.natAbs < 2 ^ 64
  · rw [if_pos z] at h; cases h; rw [if_pos (by simpa [and_assoc] using z)]; rfl
  · rw [if_neg z] at h; cases h
theorem u_neg : O1 negD oNeg .int .int := fun a c h => by cases h; rfl
theorem o_lt : O2 ltD oLt .int .int .bl := fun a b c h => by cases h; rfl
theorem o_ltW : O2 ltD oLtW .str .str .bl := fun a b c h => by cases h; rfl
theorem o_le : O2 leD oLe .int .int .bl := fun a b c h => by cases h; rfl
theorem o_gt : O2 gtD oGt .int .int .bl := fun a b c h => by cases h; rfl
theorem o_ge : O2 geD oGe .int .int .bl := fun a b c h => by cases h; rfl
def oMin (a b : Int) : Option Int := some (if b < a then b else a)
def oMax (a b : Int) : Option Int := some (if b > a then b else a)
@[simp] theorem oMin_ev {a b : Int} : oMin a b = some (if b < a then b else a) := rfl
@[simp] theorem oMax_ev {a b : Int} : oMax a b = some (if b > a then b else a) := rfl
theorem c_min2 : ∀ a b c, oMin a b = some c → min2D [.int a, .int b] = some (.int c) := fun a b c h => by cases h; rfl
theorem c_max2 : ∀ a b c, oMax a b = some c → max2D [.int a, .int b] = some (.int c) := fun a b c h => by cases h; rfl
def oId (a : α) : Option α := some a
@[simp] theorem oId_ev {a : α} : oId a = some a := rfl
theorem c_intI : ∀ a c, oId a = some c → intD [.int a] = some (.int c) := fun a c h => by cases h; rfl
def oOfB (b : Bool) : Option Int := some (if b then 1 else 0)
@[simp] theorem oOfB_ev {b : Bool} : oOfB b = some (if b then 1 else 0) := rfl
theorem c_intB : ∀ a c, oOfB a = some c → intD [.bl a] = some (.int c) := fun a c h => by cases h; rfl
/-! ### None -/
def oIsN (o : Option α) (_ : Unit) : Option Bool := some o.isNone
def oIsNN (o : Option α) (_ : Unit) : Option Bool := some o.isSome
@[simp] theorem oIsN_ev {o : Option α} {u : Unit} : oIsN o u = some o.isNone := rfl
@[simp] theorem oIsNN_ev {o : Option α} {u : Unit} : oIsNN o u = some o.isSome := rfl
theorem o_isN (h : NN ea) : O2 (isF false) oIsN (eO ea) eN .bl := fun a b c e => by
  cases e; cases a with
  | none => rfl
  | some a => exact (h.is a).1
theorem o_isNN (h : NN ea) : O2 (isF true) oIsNN (eO ea) eN .bl := fun a b c e => by
  cases e; cases a with
  | none => rfl
  | some a => exact (h.is a).2
theorem o_isB : O2 (isF false) oEq D.bl D.bl .bl := fun a b c e => by cases e; rfl
theorem o_isNB : O2 (isF true) oNe D.bl D.bl .bl := fun a b c e => by cases e; rfl
/-! ### texts, rows, lists -/
def oCat (x y : Wd) : Option Wd := if x.length + y.length ≤ 1048576 then some (x ++ y) else none
def oApd (x y : List α) : Option (List α) := if x.length + y.length ≤ 65536 then some (x ++ y) else none
theorem o_cat : O2 addD oCat .str .str .str := fun a b c h => by
  show (if _ then _ else _) = _
  unfold oCat at h
  by_cases z : a.length + b.length ≤ 1048576
  · rw [if_pos z] at h ⊢; cases h; rfl
  · rw [if_neg z] at h; cases h
theorem o_icat : O2 iaddD oCat .str .str .str := fun a b c h => by
  show (if _ then _ else _) = _
  unfold oCat at h
  by_cases z : a.length + b.length ≤ 1048576
  · rw [if_pos z] at h ⊢; cases h; rfl
  · rw [if_neg z] at h; cases h
theorem o_apdR : O2 addD oApd (eR ea) (eR ea) (eR ea) := fun a b c h => by
  show (if (a.map ea).length + (b.map ea).length ≤ 65536 then some (D.tup (a.map ea ++ b.map ea)) else none) = _
  unfold oApd at h
  rw [List.length_map, List.length_map]
  by_cases z : a.length + b.length ≤ 65536
  · rw [if_pos z] at h ⊢; cases h; rw [← List.map_append]
  · rw [if_neg z] at h; cases h
theorem o_apdL : O2 addD oApd (eL ea) (eL ea) (eL ea) := fun a b c h => by
  show (if (a.map ea).length + (b.map ea).length ≤ 65536 then some (D.lst (a.map ea ++ b.map ea)) else none) = _
  unfold oApd at h
  rw [List.length_map, List.length_map]
  by_cases z : a.length + b.length ≤ 65536
  · rw [if_pos z] at h ⊢; cases h; rw [← List.map_append]
  · rw [if_neg z] at h; cases h
theorem o_catL : ∀ a b c, oApd a b = some c → catL (eL ea a) (eL ea b) = some (c.map ea) := fun a b c h => by
  show (if (a.map ea).length + (b.map ea).length ≤ 65536 then some ((a.map ea ++ b.map ea)) else none) = _
  unfold oApd at h
  rw [List.length_map, List.length_map]
  by_cases z : a.length + b.length ≤ 65536
  · rw [if_pos z] at h ⊢; cases h; rw [← List.map_append]
  · rw [if_neg z] at h; cases h
def oRep (l : List α) (k : Int) : Option (List α) := if okT k l.length then some (many k l) else none
def oRepR (l : List α) (k : Int) : Option (List α) := if okT k l.length && !l.isEmpty then some (many k l) else none
theorem many_map {f : α → β} {k : Int} {l : List α} : many k (l.map f) = (many k l).map f := by
  unfold many; rw [List.map_flatten, List.map_replicate]
theorem o_repL : ∀ a b c, oRep a b = some c → repL (eL ea a) (.int b) = some (c.map ea) := fun a b c h => by
  show (if okT b (a.map ea).length then some (many b (a.map ea)) else none) = _
  rw [List.length_map]
  unfold oRep at h
  by_cases z : okT b a.length = true
  · rw [if_pos z] at h ⊢; cases h; rw [many_map]
  · rw [if_neg z] at h; cases h
theorem o_repDL : O2 repD oRep (eL ea) .int (eL ea) := fun a b c h => by
  show (if okT b (a.map ea).length then some (D.lst (many b (a.map ea))) else none) = _
  rw [List.length_map]
  unfold oRep at h
  by_cases z : okT b a.length = true
  · rw [if_pos z] at h ⊢; cases h; rw [many_map]
  · rw [if_neg z] at h; cases h
theorem o_repDR : O2 repD oRepR (eR ea) .int (eR ea) := fun a b c h => by
  show (if okT b (a.map ea).length && !(a.map ea).isEmpty then some (D.tup (many b (a.map ea))) else none) = _
  rw [List.length_map, show (a.map ea).isEmpty = a.isEmpty from by cases a <;> rfl]
  unfold oRepR at h
  by_cases z : (okT b a.length && !a.isEmpty) = true
  · rw [if_pos z] at h ⊢; cases h; rw [many_map]
  · rw [if_neg z] at h; cases h
theorem o_repW : O2 repD oRep .str .int .str := fun a b c h => by
  show (if okT b a.length then some (D.str (many b a)) else none) = _
  unfold oRep at h
  by_cases z : okT b a.length = true
  · rw [if_pos z] at h ⊢; cases h; rfl
  · rw [if_neg z] at h; cases h
theorem o_timesW : O2 timesD oRep .str .int .str := fun a b c h => by
  unfold timesD; rw [o_repW a b c h]; rfl
theorem o_timesL : O2 timesD oRep (eL ea) .int (eL ea) := fun a b c h => by
  unfold timesD; rw [o_repDL a b c h]; rfl
theorem o_timesR : O2 timesD oRepR (eR ea) .int (eR ea) := fun a b c h => by
  unfold timesD; rw [o_repDR a b c h]; rfl
theorem atI_map {f : α → β} {l : List α} {i : Int} : atI (l.map f) i = (atI l i).map f := by
  unfold atI
  rw [List.length_map]
  cases ixN l.length i with
  | none => rfl
  | some j => simp
theorem o_ixR : O2 ixD atI (eR ea) .int ea := fun a b c h => by
  show atI (a.map ea) b = _
  rw [atI_map, h]; rfl
theorem o_ixL : O2 ixD atI (eL ea) .int ea := fun a b c h => by
  show atI (a.map ea) b = _
  rw [atI_map, h]; rfl
def oIxW (w : Wd) (i : Int) : Option Wd := (atI w i).map fun c => [c]
theorem o_ixW : O2 ixD oIxW .str .int .str := fun a b c h => by
  obtain ⟨x, e1, rfl⟩ := Option.map_eq_some_iff.mp h
  show (atI a b).map _ = _
  rw [e1]; rfl
theorem cutL_map {f : α → β} {l : List α} {lo hi : Option Int} : cutL (l.map f) lo hi = (cutL l lo hi).map f := by
  unfold cutL; rw [List.length_map, List.map_take, List.map_drop]
def oCut (l : List α) (lo hi : Option Int) : Option (List α) := some (cutL l lo hi)
@[simp] theorem oCut_ev {l : List α} {lo hi : Option Int} : oCut l lo hi = some (cutL l lo hi) := rfl
theorem sl_R : ∀ a lo hi c, oCut a lo hi = some c → slD (eR ea a) lo hi = some (eR ea c) := fun a lo hi c h => by
  cases h; show some (D.tup (cutL (a.map ea) lo hi)) = _; rw [cutL_map]
theorem sl_L : ∀ a lo hi c, oCut a lo hi = some c → slD (eL ea a) lo hi = some (eL ea c) := fun a lo hi c h => by
  cases h; show some (D.lst (cutL (a.map ea) lo hi)) = _; rw [cutL_map]
theorem sl_W : ∀ a lo hi c, oCut a lo hi = some c → slD (.str a) lo hi = some (.str c) := fun a lo hi c h => by cases h; rfl
def oRev (l : List α) : Option (List α) := some l.reverse
@[simp] theorem oRev_ev {l : List α} : oRev l = some l.reverse := rfl
theorem u_revR : O1 revD oRev (eR ea) (eR ea) := fun a c h => by cases h; show some (D.tup (a.map ea).reverse) = _; rw [← List.map_reverse]
theorem u_revL : O1 revD oRev (eL ea) (eL ea) := fun a c h => by cases h; show some (D.lst (a.map ea).reverse) = _; rw [← List.map_reverse]
theorem u_revW : O1 revD oRev .str .str := fun a c h => by cases h; rfl
def oLen (l : List α) : Option Int := some (l.length : Int)
@[simp] theorem oLen_ev {l : List α} : oLen l = some (l.length : Int) := rfl
theorem c_lenR : ∀ a c, oLen a = some c → lenD [eR ea a] = some (.int c) := fun a c h => by cases h; show some (D.int (a.map ea).length) = _; rw [List.length_map]
theorem c_lenL : ∀ a c, oLen a = some c → lenD [eL ea a] = some (.int c) := fun a c h => by cases h; show some (D.int (a.map ea).length) = _; rw [List.length_map]
theorem c_lenW : ∀ a c, oLen a = some c → lenD [.str a] = some (.int c) := fun a c h => by cases h; rfl
def oAll (l : List Bool) : Option Bool := some (l.all id)
def oAny (l : List Bool) : Option Bool := some (l.any id)
@[simp] theorem oAll_ev {l : List Bool} : oAll l = some (l.all id) := rfl
@[simp] theorem oAny_ev {l : List Bool} : oAny l = some (l.any id) := rfl
theorem allBl_mp : ∀ l : List Bool, allBl (l.map D.bl) = some l
  | [] => rfl
  | b :: l => by rw [List.map_cons, allBl, allBl_mp l]; rfl
theorem c_all : ∀ a c, oAll a = some c → allD [eL .bl a] = some (.bl c) := fun a c h => by cases h; show (allBl (a.map D.bl)).map _ = _; rw [allBl_mp]; rfl
theorem c_any : ∀ a c, oAny a = some c → anyD [eL .bl a] = some (.bl c) := fun a c h => by cases h; show (allBl (a.map D.bl)).map _ = _; rw [allBl_mp]; rfl
def oSum (l : List Int) : Option Int := some l.sum
@[simp] theorem oSum_ev {l : List Int} : oSum l = some l.sum := rfl
theorem intsOf_mp : ∀ l : List Int, intsOf (l.map D.int) = some l
  | [] => rfl
  | b :: l => by rw [List.map_cons, intsOf, intsOf_mp l]; rfl
theorem c_sum : ∀ a c, oSum a = some c → sumD [eL .int a] = some (.int c) := fun a c h => by cases h; show (intsOf (a.map D.int)).map _ = _; rw [intsOf_mp]; rfl
theorem c_tupL : ∀ a c, oId a = some c → tupleD [eL ea a] = some (eR ea c) := fun a c h => by cases h; rfl
theorem c_tupR : ∀ a c, oId a = some c → tupleD [eR ea a] = some (eR ea c) := fun a c h => by cases h; rfl
def oTo (l : List α) : Option (List α) := if l.length ≤ 65536 then some l else none
theorem l_ofR : ∀ a c, oTo a = some c → (itemsD (eR ea a)).filter (fun ds => ds.length ≤ 65536) = some (c.map ea) := fun a c h => by
  unfold oTo at h
  by_cases z : a.length ≤ 65536
  · rw [if_pos z] at h; cases h
    show (some (a.map ea)).filter _ = _
    rw [Option.filter_some, if_pos (by simpa using z)]
  · rw [if_neg z] at h; cases h
theorem l_ofL : ∀ a c, oTo a = some c → (itemsD (eL ea a)).filter (fun ds => ds.length ≤ 65536) = some (c.map ea) := fun a c h => by
  unfold oTo at h
  by_cases z : a.length ≤ 65536
  · rw [if_pos z] at h; cases h
    show (some (a.map ea)).filter _ = _
    rw [Option.filter_some, if_pos (by simpa using z)]
  · rw [if_neg z] at h; cases h
def itemsO (d : D) : Option (List D) := (itemsD d).filter (fun ds => ds.length ≤ 65536)
theorem l_ofD : ∀ a c, itemsO a = some c → (itemsD (eA a)).filter (fun ds => ds.length ≤ 65536) = some (c.map eA) := fun a c h => by rw [show List.map eA c = c from List.map_id c]; exact h
/-! ### in -/
structure Flat (e : α → D) [BEq α] : Prop where
  flat : ∀ a, flatD (e a) = true
  eq : ∀ a b, eqD (e a) (e b) = (a == b)
theorem flat_I : Flat D.int := ⟨fun _ => rfl, fun _ _ => rfl⟩
theorem flat_W : Flat D.str := ⟨fun _ => rfl, fun _ _ => rfl⟩
theorem flat_B : Flat D.bl := ⟨fun _ => rfl, fun _ _ => rfl⟩
def oIn [BEq α] (a : α) (l : List α) : Option Bool := some (l.any fun b => b == a)
def oNin [BEq α] (a : α) (l : List α) : Option Bool := some (!l.any fun b => b == a)
@[simp] theorem oIn_ev [BEq α] {a : α} {l : List α} : oIn a l = some (l.any fun b => b == a) := rfl
@[simp] theorem oNin_ev [BEq α] {a : α} {l : List α} : oNin a l = some (!l.any fun b => b == a) := rfl
theorem in_all [BEq α] (h : Flat ea) {l : List α} : (l.map ea).all flatD = true := by
  rw [List.all_map, List.all_eq_true]; exact fun x _ => h.flat x
theorem in_any [BEq α] (h : Flat ea) {a : α} {l : List α} : (l.map ea).any (fun y => eqD y (ea a)) = l.any fun b => b == a := by
  rw [List.any_map]; congr 1; funext x; exact h.eq x a
theorem inF_tup {neg : Bool} {x : D} {ys : List D} : inF neg x (.tup ys) = if flatD x && ys.all flatD then some (.bl (if neg then !ys.any (fun y => eqD y x) else ys.any fun y => eqD y x)) else none := by
  unfold inF; split <;> first | rfl | (rename_i h; cases h; done) | skip
  all_goals (rename_i h; simp_all)
theorem inF_lst {neg : Bool} {x : D} {ys : List D} : inF neg x (.lst ys) = if flatD x && ys.all flatD then some (.bl (if neg then !ys.any (fun y => eqD y x) else ys.any fun y => eqD y x)) else none := by
  unfold inF; split <;> first | rfl | (rename_i h; cases h; done) | skip
  all_goals (rename_i h; simp_all)
theorem o_inR [BEq α] (h : Flat ea) : O2 (inF false) oIn ea (eR ea) .bl := fun a b c e => by
  cases e; rw [inF_tup, h.flat, in_all h, in_any h]; rfl
theorem o_inL [BEq α] (h : Flat ea) : O2 (inF false) oIn ea (eL ea) .bl := fun a b c e => by
  cases e; rw [inF_lst, h.flat, in_all h, in_any h]; rfl
theorem o_ninR [BEq α] (h : Flat ea) : O2 (inF true) oNin ea (eR ea) .bl := fun a b c e => by
  cases e; rw [inF_tup, h.flat, in_all h, in_any h]; rfl
theorem o_ninL [BEq α] (h : Flat ea) : O2 (inF true) oNin ea (eL ea) .bl := fun a b c e => by
  cases e; rw [inF_lst, h.flat, in_all h, in_any h]; rfl
def oInW (c : Wd) (z : Wd) : Option Bool := match c with
  | [c] => some (z.contains c)
  | _ => none
def oNinW (c : Wd) (z : Wd) : Option Bool := match c with
  | [c] => some (!z.contains c)
  | _ => none
@[simp] theorem oInW_ev {c : Nat} {z : Wd} : oInW [c] z = some (z.contains c) := rfl
@[simp] theorem oNinW_ev {c : Nat} {z : Wd} : oNinW [c] z = some (!z.contains c) := rfl
theorem o_inW : O2 (inF false) oInW .str .str .bl := fun a b c e => by
  match a, e with
  | [x], e => cases e; rfl
theorem o_ninW : O2 (inF true) oNinW .str .str .bl := fun a b c e => by
  match a, e with
  | [x], e => cases e; rfl
/-! ### what is walked -/
def oSigns (w : Wd) : Option (List Wd) := some (signs w)
@[simp] theorem oSigns_ev {w : Wd} : oSigns w = some (signs w) := rfl
theorem w_W : ∀ a c, oSigns a = some c → walkD (.str a) = some (c.map D.str) := fun a c h => by
  cases h; show some _ = _; unfold signs; rw [List.map_map]; rfl
theorem w_R : ∀ a c, oId a = some c → walkD (eR ea a) = some (c.map ea) := fun a c h => by cases h; rfl
theorem w_L : ∀ a c, oId a = some c → walkD (eL ea a) = some (c.map ea) := fun a c h => by cases h; rfl
def upto (i : Int) (n : Nat) : List Int := (List.range n).map fun k => i + ((k : Nat) : Int)
def down (i : Int) (n : Nat) : List Int := (List.range n).map fun k => i - ((k : Nat) : Int)
def oRng1 (p : Int × Unit) : Option (List Int) := if p.1 ≤ 65536 ∧ -65536 ≤ p.1 then some (upto 0 p.1.toNat) else none
def oRng2 (p : Int × Int × Unit) : Option (List Int) := if p.2.1 ≤ 65536 ∧ -65536 ≤ p.2.1 ∧ p.1 ≤ 65536 ∧ -65536 ≤ p.1 then some (upto p.1 (p.2.1 - p.1).toNat) else none
def oRng3 (p : Int × Int × Int × Unit) : Option (List Int) := if p.2.2.1 = -1 ∧ p.1 ≤ 65536 ∧ -65536 ≤ p.1 ∧ p.2.1 ≤ 65536 ∧ -65536 ≤ p.2.1 then some (down p.1 (p.1 - p.2.1).toNat) else none
theorem upto_map {i : Int} {n : Nat} : rngD i n = (upto i n).map D.int := by unfold rngD upto; rw [List.map_map]; rfl
theorem down_map {i : Int} {n : Nat} : downD i n = (down i n).map D.int := by unfold downD down; rw [List.map_map]; rfl
theorem w_rng1 : ∀ p c, oRng1 p = some c → rng1 [.int p.1] = some (c.map D.int) := fun p c h => by
  show (if p.1 ≤ 65536 ∧ -65536 ≤ p.1 then some (rngD 0 p.1.toNat) else none) = _
  unfold oRng1 at h
  by_cases z : p.1 ≤ 65536 ∧ -65536 ≤ p.1
  · rw [if_pos z] at h ⊢; cases h; rw [upto_map]
  · rw [if_neg z] at h; cases h
theorem w_rng2 : ∀ p c, oRng2 p = some c → rng2 [.int p.1, .int p.2.1] = some (c.map D.int) := fun p c h => by
  show (if p.2.1 ≤ 65536 ∧ -65536 ≤ p.2.1 ∧ p.1 ≤ 65536 ∧ -65536 ≤ p.1 then some (rngD p.1 (p.2.1 - p.1).toNat) else none) = _
  unfold oRng2 at h
  by_cases z : p.2.1 ≤ 65536 ∧ -65536 ≤ p.2.1 ∧ p.1 ≤ 65536 ∧ -65536 ≤ p.1
  · rw [if_pos z] at h ⊢; cases h; rw [upto_map]
  · rw [if_neg z] at h; cases h
theorem w_rng3 : ∀ p c, oRng3 p = some c → rng3 [.int p.1, .int p.2.1, .int p.2.2.1] = some (c.map D.int) := fun p c h => by
  show (if p.2.2.1 = -1 ∧ p.1 ≤ 65536 ∧ -65536 ≤ p.1 ∧ p.2.1 ≤ 65536 ∧ -65536 ≤ p.2.1 then some (downD p.1 (p.1 - p.2.1).toNat) else none) = _
  unfold oRng3 at h
  by_cases z : p.2.2.1 = -1 ∧ p.1 ≤ 65536 ∧ -65536 ≤ p.1 ∧ p.2.1 ≤ 65536 ∧ -65536 ≤ p.2.1
  · rw [if_pos z] at h ⊢; cases h; rw [down_map]
  · rw [if_neg z] at h; cases h
theorem zipD_map : ∀ (l : List α) (m : List β), zipD (l.map ea) (m.map eb) = (l.zip m).map (e2 ea eb)
  | [], _ => by cases ‹List β› <;> rfl
  | _ :: _, [] => rfl
  | a :: l, b :: m => by
    show D.tup [ea a, eb b] :: zipD (l.map ea) (m.map eb) = _
    rw [zipD_map l m]; rfl
def oZip (p : List α × List β × Unit) : Option (List (α × β)) := some (p.1.zip p.2.1)
@[simp] theorem oZip_ev {p : List α × List β × Unit} : oZip p = some (p.1.zip p.2.1) := rfl
theorem w_zipL : ∀ p c, oZip p = some c → zip2 [eL ea p.1, eL eb p.2.1] = some (c.map (e2 ea eb)) := fun p c h => by
  cases h; show some (zipD _ _) = _; rw [zipD_map]
theorem w_zipR : ∀ p c, oZip p = some c → zip2 [eR ea p.1, eR eb p.2.1] = some (c.map (e2 ea eb)) := fun p c h => by
  cases h; show some (zipD _ _) = _; rw [zipD_map]
/-! ### texts' methods -/
def oFind1 (w : Wd) (p : Wd × Unit) : Option Int := match p.1 with
  | [c] => some (fnd w c 0)
  | _ => none
def oFind2 (w : Wd) (p : Wd × Int × Unit) : Option Int := match p.1 with
  | [c] => some (fnd w c (fromI w.length p.2.1))
  | _ => none
@[simp] theorem oFind1_ev {w : Wd} {c : Nat} {u : Unit} : oFind1 w ([c], u) = some (fnd w c 0) := rfl
@[simp] theorem oFind2_ev {w : Wd} {c : Nat} {i : Int} {u : Unit} : oFind2 w ([c], i, u) = some (fnd w c (fromI w.length i)) := rfl
theorem m_find1 : ∀ a p c, oFind1 a p = some c → find1 (.str a) [.str p.1] = some (.int c) := fun a p c h => by
  obtain ⟨x, u⟩ := p
  match x, h with
  | [c], h => cases h; rfl
theorem m_find2 : ∀ a p c, oFind2 a p = some c → find2 (.str a) [.str p.1, .int p.2.1] = some (.int c) := fun a p c h => by
  obtain ⟨x, i, u⟩ := p
  match x, h with
  | [c], h => cases h; rfl
def oJoin (w : Wd) (p : List Wd × Unit) : Option Wd := if okJoin w p.1 then some (joinL w p.1) else none
theorem strsOf_mp : ∀ l : List Wd, strsOf (l.map D.str) = some l
  | [] => rfl
  | b :: l => by rw [List.map_cons, strsOf, strsOf_mp l]; rfl
theorem m_joinL : ∀ a p c, oJoin a p = some c → joinD (.str a) [eL .str p.1] = some (.str c) := fun a p c h => by
  show (strsOf (p.1.map D.str)).bind _ = _
  rw [strsOf_mp, Option.bind_some]
  unfold oJoin at h
  by_cases z : okJoin a p.1 = true
  · rw [if_pos z] at h ⊢; cases h; rfl
  · rw [if_neg z] at h; cases h
/-! ### methods of own lists -/
def oApp (l : List α) (p : α × Unit) : Option (List α × Unit) := if l.length < 65536 then some (l ++ [p.1], ()) else none
def oExt (l : List α) (p : List α × Unit) : Option (List α × Unit) := if l.length + p.1.length ≤ 65536 then some (l ++ p.1, ()) else none
def oPop (l : List α) (p : Unit) : Option (List α × α) := l.getLast?.map fun a => (l.dropLast, a)
def oIns (l : List α) (p : Int × α × Unit) : Option (List α × Unit) := if p.1 = 0 ∧ l.length < 65536 then some (p.2.1 :: l, ()) else none
theorem ml_app {l : List α} : ∀ p l' d, oApp l p = some (l', d) → fApp (l.map ea) [ea p.1] = some (l'.map ea, eN d) := fun p l' d h => by
  show (if (l.map ea).length < 65536 then some (l.map ea ++ [ea p.1], D.non) else none) = _
  unfold oApp at h
  rw [List.length_map]
  by_cases z : l.length < 65536
  · rw [if_pos z] at h ⊢; cases h; rw [List.map_append]; rfl
  · rw [if_neg z] at h; cases h
theorem ml_ext {l : List α} : ∀ p l' d, oExt l p = some (l', d) → fExt (l.map ea) [eL ea p.1] = some (l'.map ea, eN d) := fun p l' d h => by
  show (if (l.map ea).length + (p.1.map ea).length ≤ 65536 then some (l.map ea ++ p.1.map ea, D.non) else none) = _
  unfold oExt at h
  rw [List.length_map, List.length_map]
  by_cases z : l.length + p.1.length ≤ 65536
  · rw [if_pos z] at h ⊢; cases h; rw [List.map_append]
  · rw [if_neg z] at h; cases h
theorem ml_pop {l : List α} : ∀ (p : Unit) l' d, oPop l p = some (l', d) → fPop (l.map ea) [] = some (l'.map ea, ea d) := fun p l' d h => by
  obtain ⟨a, e1, e2⟩ := Option.map_eq_some_iff.mp h
  cases e2
  show ((l.map ea).getLast?).map _ = _
  rw [List.getLast?_map, e1, ← List.map_dropLast]; rfl
theorem ml_ins {l : List α} : ∀ p l' d, oIns l p = some (l', d) → fIns (l.map ea) [.int p.1, ea p.2.1] = some (l'.map ea, eN d) := fun p l' d h => by
  unfold oIns at h
  by_cases z : p.1 = 0 ∧ l.length < 65536
  · rw [if_pos z] at h; cases h
    rw [z.1]
    show (if (l.map ea).length < 65536 then some (ea p.2.1 :: l.map ea, D.non) else none) = _
    rw [List.length_map, if_pos z.2]; rfl
  · rw [if_neg z] at h; cases h
theorem te_ixo {ρ : En} {db : DE DeckSt} {tb : M Int} {l : List α} (i : Nat) (h : ρ[i]? = some (some (.own (l.map ea)))) (hb : TE db ρ tb .int) : TE (dIxO i db) ρ (un (atI l) tb) ea := fun s => by
  show RE ea (dIxO i db ρ s) _
  unfold dIxO
  rw [h]
  refine (hb s).bind fun b s1 _ => .ofO fun c z => ?_
  show atI (l.map ea) b = _
  rw [atI_map, z]; rfl
@[simp] theorem lft_ite {c : Prop} [Decidable c] {a b : Option α} : lft (if c then a else b) = if c then lft a else lft b := by split <;> rfl
/-- truth of things -/
def oTru (l : List α) : Option Bool := some (!l.isEmpty)
@[simp] theorem oTru_ev {l : List α} : oTru l = some (!l.isEmpty) := rfl
theorem tr_R : ∀ a c, oTru a = some c → truD (eR ea a) = some c := fun a c h => by cases h; cases a <;> rfl
theorem tr_L : ∀ a c, oTru a = some c → truD (eL ea a) = some c := fun a c h => by cases h; cases a <;> rfl
theorem tr_W : ∀ a c, oTru a = some c → truD (.str a) = some c := fun a c h => by cases h; rfl
/-- the draws -/
def t_pick (_ : Unit) (n : Int) : M Int := fun s => if 0 < n ∧ n < 1073741824 then .ok (pickF s n).1 (pickF s n).2 else .bad
theorem pick_ok : ∀ (a : Unit) (n : Int) (s : DeckSt), RE .int (mPick [eK a, .int n] s) (t_pick a n s) := fun a n s z => by
  unfold t_pick at z ⊢
  by_cases y : 0 < n ∧ n < 1073741824
  · rw [if_pos y]; exact if_pos y
  · rw [if_neg y] at z; exact absurd rfl z
theorem t_pick1 {st : DeckSt} (h : st.Ok) {u : Unit} {n : Int} (h0 : 0 < n) (h1 : n < 1073741824) : Ok1 (t_pick u n st) fun a => 0 ≤ a ∧ a < n :=
  ⟨_, _, if_pos ⟨h0, h1⟩, pickF_ok h h0, pickF_range st h0⟩
end
end Mir

set_option Elab.async false
set_option linter.all false
set_option maxRecDepth 100000
set_option maxHeartbeats 2000000
namespace Mir
open PySem PySem.Spec L2
open PyProof.Rows hiding St
section
variable {α β γ δ σ σ' : Type}
variable {F : σ → En} {F' : σ' → En} {eb : β → D} {X : En → Prop} {ρ ρ' : En} {de da db : DE DeckSt} {dl di : DA DeckSt} {dt : DT DeckSt} {A B rest L : DS DeckSt} {e ea : α → D} {el : α → List D} {t : M α} {tr : M β}
/-- an own list that has been handed on -/
theorem te_ownV {a : α} (i : Nat) (h : ρ[i]? = some (some (.val (e a)))) : TE (dOwn i) ρ (ret a) e := fun s => by
  show RE e (dOwn i ρ s) _
  unfold dOwn
  rw [h]
  exact .ok rfl
theorem te_ixoV {tb : M Int} {l : List α} (i : Nat) (h : ρ[i]? = some (some (.val (.lst (l.map ea))))) (hb : TE db ρ tb .int) : TE (dIxO i db) ρ (un (atI l) tb) ea := fun s => by
  show RE ea (dIxO i db ρ s) _
  unfold dIxO
  rw [h]
  refine (hb s).bind fun b s1 _ => .ofO fun c z => ?_
  show atI (l.map ea) b = _
  rw [atI_map, z]; rfl
theorem ta_down {f : D → Option γ} {ec : γ → D} {t : M (List α)} (h : TA dl ρ t (List.map ea)) (k : Dec ec f) : TA dl ρ (bnd t fun l => lft (mapO f (l.map ea))) (List.map ec) := fun s n => by
  have := h s
  unfold bnd at n ⊢
  cases q : t s with
  | bad => rw [q] at n; exact absurd rfl n
  | ex c s1 => rw [q] at this; rw [this (fun z => nomatch z)]; rfl
  | ok a s1 =>
    rw [q] at this n
    rw [this (fun z => nomatch z)]
    show R.ok (a.map ea) s1 = R.map (Mir.ofO s1 (mapO f (a.map ea))) (List.map ec)
    cases z : mapO f (a.map ea) with
    | none => exact absurd (by show Mir.ofO s1 (mapO f (a.map ea)) = _; rw [z]; rfl) n
    | some b => rw [mapO_dec k z]; rfl
/-- two branches that come together -/
theorem tb_ifJ {F' : σ' → En} {tc : M Bool} {u v : M (Fl σ' β)} {k : σ' → M (Fl σ β)} (h : TT dt ρ tc) (hx : X ρ) (hu : TB F' eb X A ρ u) (hv : TB F' eb X B ρ v) (hk : ∀ st, TB F eb X rest (F' st) (k st)) : TB F eb X (dSeq (dIfS dt A B) rest) ρ (thn (ifT tc u v) k) := fun s => by
  rw [seq_eq]
  refine BL.thn (F' := F') ?_ hk
  unfold dIfS
  show BL F' eb X _ ((tc s).bind _)
  refine BL.out (h s) hx fun a s1 => ?_
  cases a
  · exact hv s1
  · exact hu s1
theorem tb_meth0 {i : Nat} {e0 e1 : γ → D} {l : List γ} {f : List D → List D → Option (List D × D)} {kk : D → En → Option En} {ed : δ → D} {op : List γ → α → Option (List γ × δ)} {G : List γ → δ → En} {k : List γ × δ → M (Fl σ β)}
    (hi : ρ[i]? = some (some (.own (l.map e0)))) (o : ∀ a l' d, op l a = some (l', d) → f (l.map e0) (el a) = some (l'.map e0, ed d)) (hg : ∀ l' d, kk (ed d) (ρ.set i (some (.own (l'.map e0)))) = some (G l' d))
    (h : TA dl ρ t el) (hx : X ρ) (hk : ∀ p, TB F eb X rest (G p.1 p.2) (k p)) : TB F eb X (dSeq (dMeth i [] dl f kk) rest) ρ (bnd (un (op l) t) k) :=
  tb_meth (e1 := e1) hi (fun a => frzl_nil _ _) hi o hg h hx hk
def oZipD (p : D × D × Unit) : Option (List (D × D)) := (zip2 [p.1, p.2.1]).bind (mapO (f2 some some))
theorem w_zipD : ∀ p c, oZipD p = some c → zip2 [eA p.1, eA p.2.1] = some (c.map (e2 eA eA)) := fun p c h => by
  obtain ⟨l, e1, e2⟩ := Option.bind_eq_some_iff.mp h
  rw [show zip2 [eA p.1, eA p.2.1] = _ from e1, mapO_dec (dec_2 dec_A dec_A) e2]
end
end Mir

set_option Elab.async false
set_option linter.all false
set_option maxRecDepth 100000
set_option maxHeartbeats 2000000
/-! the same with environments as written lists: every look-up by a chain -/
namespace Mir
open PySem PySem.Spec L2
open PyProof.Rows hiding St
section
variable {α β γ δ σ σ' : Type}
theorem l0 {x : Option Sl} {l : En} : (x :: l)[0]? = some x := rfl
theorem ls {x : Option Sl} {l : En} {i : Nat} {y : Option (Option Sl)} (h : l[i]? = y) : (x :: l)[i + 1]? = y := h
theorem s0 {x y : Option Sl} {l : En} : (x :: l).set 0 y = y :: l := rfl
theorem ss {x y : Option Sl} {l m : En} {i : Nat} (h : l.set i y = m) : (x :: l).set (i + 1) y = x :: m := by rw [List.set_cons_succ, h]
/-- what is forgotten -/
inductive Fm : List Bool → En → En → Prop
  | n : Fm [] [] []
  | t {m : List Bool} {x : Option Sl} {r r' : En} (h : Fm m r r') : Fm (true :: m) (x :: r) (x :: r')
  | f {m : List Bool} {x : Option Sl} {r r' : En} (h : Fm m r r') : Fm (false :: m) (x :: r) (none :: r')
def mkB (k : List Nat) : Nat → List Bool → Bool
  | _, [] => true
  | i, b :: m => (b == k.contains i) && mkB k (i + 1) m
theorem fgt_m {k : List Nat} {m : List Bool} {ρ ρ' : En} (hm : mkB k 0 m = true) (h : Fm m ρ ρ') : fgt k ρ = ρ' := by
  have key : ∀ {m : List Bool} {ρ ρ' : En} {i : Nat}, mkB k i m = true → Fm m ρ ρ' → (ρ.mapIdx fun j x => if i + j ∈ k then x else none) = ρ' := by
    intro m ρ ρ' i hm h
    induction h generalizing i with
    | n => rfl
    | t h ih =>
      simp only [mkB, Bool.and_eq_true, beq_iff_eq] at hm
      rw [List.mapIdx_cons, Nat.add_zero, if_pos (by simpa using hm.1.symm)]
      congr 1
      rw [← ih hm.2]
      congr 1; funext j x
      rw [Nat.add_assoc, Nat.add_comm 1 j]
    | f h ih =>
      simp only [mkB, Bool.and_eq_true, beq_iff_eq] at hm
      rw [List.mapIdx_cons, Nat.add_zero, if_neg (fun z => by have := hm.1; simp [z] at this)]
      congr 1
      rw [← ih hm.2]
      congr 1; funext j x
      rw [Nat.add_assoc, Nat.add_comm 1 j]
  have := key (i := 0) hm h
  unfold fgt
  simpa using this
theorem w0 {ρ : En} : wipeE ρ [] = ρ := rfl
theorem ws {ρ ρ1 ρ2 : En} {v : Nat} {vs : List Nat} (h : wipeE ρ vs = ρ1) (h' : ρ1.set v none = ρ2) : wipeE ρ (v :: vs) = ρ2 := by
  show (wipeE ρ vs).set v none = ρ2
  rw [h, h']
theorem wf {ρ ρ1 : En} {vs : List Nat} (h : wipeE ρ vs = ρ1) : wipeE (frz [] ρ) vs = ρ1 := by rw [frz_nil]; exact h
theorem wF {ρ ρ0 ρ1 : En} {sc vs : List Nat} (h0 : frz sc ρ = ρ0) (h : wipeE ρ0 vs = ρ1) : wipeE (frz sc ρ) vs = ρ1 := by rw [h0]; exact h
theorem fnl {ρ ρ1 : En} (h : ρ = ρ1) : frz [] ρ = ρ1 := by rw [frz_nil]; exact h
/-- targets -/
theorem gn {ρ ρ' : En} {i : Nat} {d : D} (h : ρ.set i (some (.val d)) = ρ') : gN i d ρ = some ρ' := by show some _ = _; rw [h]
theorem gz {ρ : En} : gsNil [] ρ = some ρ := rfl
theorem gc {g : DG} {gs : DGs} {d : D} {ds : List D} {ρ ρ1 ρ2 : En} (h : g d ρ = some ρ1) (h' : gs ds ρ1 = some ρ2) : gsCons g gs (d :: ds) ρ = some ρ2 := by
  show (g d ρ).bind _ = _
  rw [h]; exact h'
theorem gt {gs : DGs} {ds : List D} {n : Nat} {ρ ρ' : En} (hn : ds.length = n) (h : gs ds ρ = some ρ') : gT n gs (.tup ds) ρ = some ρ' := by
  show (if ds.length = n then gs ds ρ else none) = _
  rw [if_pos hn]; exact h
theorem gf {g : DG} {d : D} {ρ : En} {o : Option En} (h : g d ρ = o) : g d (frz [] ρ) = o := by rw [frz_nil]; exact h
theorem gF {g : DG} {d : D} {sc : List Nat} {ρ ρ0 : En} {o : Option En} (h0 : frz sc ρ = ρ0) (h : g d ρ0 = o) : g d (frz sc ρ) = o := by rw [h0]; exact h
theorem kd {ρ ρ' : En} {d : D} (h : ρ = ρ') : kDrop d ρ = some ρ' := by show some _ = _; rw [h]
theorem gA {g : DG} {d : D} {ρ ρ1 : En} {o : Option En} (h : ρ = ρ1) (h' : g d ρ1 = o) : g d ρ = o := by rw [h]; exact h'
variable {F : σ → En} {F' : σ' → En} {eb : β → D} {X : En → Prop} {ρ ρ' : En} {de da db : DE DeckSt} {dl di dj : DA DeckSt} {dt dt1 : DT DeckSt} {A B rest L : DS DeckSt} {e ea : α → D} {ec : γ → D} {el : α → List D} {t : M α} {tr : M β}
theorem tb_asgC {i : Nat} {ρ2 : α → En} {k : α → M (Fl σ β)} (h : TE de ρ t e) (hx : X ρ) (hs : ∀ a, ρ.set i (some (.val (e a))) = ρ2 a) (hk : ∀ a, TB F eb X rest (ρ2 a) (k a)) : TB F eb X (dSeq (dAsg i [] (dV de)) rest) ρ (bnd t k) :=
  tb_asg h hx fun a => by rw [hs a]; exact hk a
theorem tb_asgFC {i : Nat} {sc : List Nat} {ρ1 : En} {ρ2 : α → En} {k : α → M (Fl σ β)} (h : TE de ρ t e) (hx : X ρ) (hf : ∀ a, frzs (.val (e a)) sc ρ = ρ1) (hs : ∀ a, ρ1.set i (some (.val (e a))) = ρ2 a) (hk : ∀ a, TB F eb X rest (ρ2 a) (k a)) : TB F eb X (dSeq (dAsg i sc (dV de)) rest) ρ (bnd t k) :=
  tb_asgF h hx hf fun a => by rw [hs a]; exact hk a
theorem tb_asgOC {i : Nat} {sc : List Nat} {ρ1 : En} {ρ2 : α → En} {k : α → M (Fl σ β)} (h : TA dl ρ t el) (hx : X ρ) (hf : frz sc ρ = ρ1) (hs : ∀ a, ρ1.set i (some (.own (el a))) = ρ2 a) (hk : ∀ a, TB F eb X rest (ρ2 a) (k a)) : TB F eb X (dSeq (dAsg i sc (dO dl)) rest) ρ (bnd t k) :=
  tb_asgO h hx hf fun a => by rw [hs a]; exact hk a
theorem tb_parC {i j : Nat} {e' : γ → D} {u : M γ} {ρ1 : α → En} {ρ2 : α → γ → En} {k : α → γ → M (Fl σ β)} (h : TE da ρ t e) (h' : TE db ρ u e') (hx : X ρ) (hs : ∀ a, ρ.set i (some (.val (e a))) = ρ1 a) (hs' : ∀ a b, (ρ1 a).set j (some (.val (e' b))) = ρ2 a b) (hk : ∀ a b, TB F eb X rest (ρ2 a b) (k a b)) :
    TB F eb X (dSeq (dPar i j [] [] (dV da) (dV db)) rest) ρ (bnd t fun a => bnd u fun b => k a b) :=
  tb_par h h' hx fun a b => by rw [hs a, hs' a b]; exact hk a b
theorem tb_parGC {i j : Nat} {sa sb : List Nat} {dv dw : E1 DeckSt Sl} {ev : α → Sl} {ew : γ → Sl} {u : M γ} {ρ1 ρ2 : En} {ρ3 : α → En} {ρ4 : α → γ → En} {k : α → γ → M (Fl σ β)} (h : ∀ s, RE ev (dv ρ s) (t s)) (hf : ∀ a, frzs (ev a) sa ρ = ρ1) (h' : ∀ s, RE ew (dw ρ1 s) (u s)) (hf' : ∀ a, frzs (ew a) sb ρ1 = ρ2) (hx : X ρ) (hx1 : X ρ1)
    (hs : ∀ a, ρ2.set i (some (ev a)) = ρ3 a) (hs' : ∀ a b, (ρ3 a).set j (some (ew b)) = ρ4 a b) (hk : ∀ a b, TB F eb X rest (ρ4 a b) (k a b)) : TB F eb X (dSeq (dPar i j sa sb dv dw) rest) ρ (bnd t fun a => bnd u fun b => k a b) :=
  tb_parG h hf h' hf' hx hx1 fun a b => by rw [hs a, hs' a b]; exact hk a b
theorem fz0 {x : Sl} {ρ : En} : frzs x [] ρ = ρ := frzs_nil _ _
theorem tb_augC {i : Nat} {f : D → D → Option D} {e0 : γ → D} {c : γ} {e1 : δ → D} {op : γ → α → Option δ} {ρ2 : δ → En} {k : δ → M (Fl σ β)} (hi : ρ[i]? = some (some (.val (e0 c)))) (o : O2 f op e0 e e1) (h : TE de ρ t e) (hx : X ρ) (hs : ∀ z, ρ.set i (some (.val (e1 z))) = ρ2 z) (hk : ∀ z, TB F eb X rest (ρ2 z) (k z)) :
    TB F eb X (dSeq (dAug i f de) rest) ρ (bnd (bin op (ret c) t) k) :=
  tb_aug hi o h hx fun z => by rw [hs z]; exact hk z
theorem tb_forgetC {t : M (Fl σ β)} {keep : List Nat} (e : fgt keep ρ = ρ') (h : TB F eb X rest ρ' t) : TB F eb X (dForget keep rest) ρ t := tb_forget (by rw [e]; exact h)
theorem tb_forgetSC {t : M (Fl σ β)} {keep : List Nat} (e : fgt keep ρ = ρ') (h : TB F eb X (dSeq A rest) ρ' t) : TB F eb X (dSeq (dForget keep A) rest) ρ t := tb_forgetS (by rw [e]; exact h)
theorem ta_lcC {g : DG} {vs sc : List Nat} {tl : M (List α)} {p : α → M Bool} {f : α → M γ} {ρw : En} {G : α → En} (hl : TA di ρ tl (List.map e)) (hw : wipeE (frz sc ρ) vs = ρw) (hg : ∀ a, g (e a) ρw = some (G a)) (hp : ∀ a, TT dt (G a) (p a)) (hf : ∀ a, TE de (G a) (f a) ec) :
    TA (dLc g vs sc di dt de) ρ (lc tl p f) (List.map ec) := ta_lc hl (fun a => by rw [hw]; exact hg a) hp hf
theorem ta_lc2C {ex : δ → D} {g g1 : DG} {vs sc v1 : List Nat} {tl : M (List α)} {p : α → M Bool} {q : α → M (List δ)} {p1 : α → δ → M Bool} {f : α → δ → M γ} {ρw : En} {G ρv : α → En} {G1 : α → δ → En} (hl : TA di ρ tl (List.map e)) (hw : wipeE (frz sc ρ) vs = ρw) (hg : ∀ a, g (e a) ρw = some (G a))
    (hp : ∀ a, TT dt (G a) (p a)) (hq : ∀ a, TA dj (G a) (q a) (List.map ex)) (hv : ∀ a, wipeE (G a) v1 = ρv a) (hg1 : ∀ a b, g1 (ex b) (ρv a) = some (G1 a b)) (hp1 : ∀ a b, TT dt1 (G1 a b) (p1 a b)) (hf : ∀ a b, TE de (G1 a b) (f a b) ec) :
    TA (dLc2 g dj v1 g1 vs sc di dt dt1 de) ρ (lc2 tl p q p1 f) (List.map ec) := ta_lc2 hl (fun a => by rw [hw]; exact hg a) hp hq (fun a b => by rw [hv a]; exact hg1 a b) hp1 hf
end
end Mir

set_option Elab.async false
set_option linter.all false
set_option maxRecDepth 100000
set_option maxHeartbeats 2000000
namespace Mir
open PySem PySem.Spec L2
open PyProof.Rows hiding St
open PySem.W (alike alikeAll dataLt dataLe sort_maps)
section
variable {α β γ δ σ σ' : Type}
variable {F : σ → En} {eb : β → D} {X : En → Prop} {ρ ρ' : En} {de dk : DE DeckSt} {rest : DS DeckSt} {e ea : α → D} {eb' : β → D} {ec : γ → D} {ed : δ → D} {t : M α}
/-! ### order -/
structure AlK (n : Nat) (e : α → D) : Prop where
  fit : ∀ a, Mir.fit n (e a) = true
  al : ∀ a b, alike (toPy (e a)) (toPy (e b)) = true
  ne : ∀ a, (match e a with
    | .non => false
    | _ => true) = true
theorem alk_I : AlK 0 D.int := ⟨fun _ => rfl, fun _ _ => by simp [toPy, alike], fun _ => rfl⟩
theorem alk_B : AlK 0 D.bl := ⟨fun _ => rfl, fun _ _ => by simp [toPy, alike], fun _ => rfl⟩
theorem alk_W : AlK 0 D.str := ⟨fun _ => rfl, fun _ _ => by simp [toPy, alike], fun _ => rfl⟩
theorem alks {n : Nat} (h : AlK n ea) : ∀ l m : List α, alikeAll (toPys (l.map ea)) (toPys (m.map ea)) = true
  | [], m => by simp [toPys, alikeAll]
  | a :: l, [] => by simp [toPys, alikeAll]
  | a :: l, b :: m => by simp [toPys, alikeAll, h.al, alks h l m]
theorem alk_R {n : Nat} (h : AlK n ea) : AlK (n + 1) (eR ea) := ⟨fun l => by
  show (l.map ea).all (Mir.fit n) = true
  rw [List.all_map, List.all_eq_true]; exact fun x _ => h.fit x, fun l m => by simp only [toPy, alike]; exact alks h l m, fun _ => rfl⟩
theorem alk_L {n : Nat} (h : AlK n ea) : AlK (n + 1) (eL ea) := ⟨fun l => by
  show (l.map ea).all (Mir.fit n) = true
  rw [List.all_map, List.all_eq_true]; exact fun x _ => h.fit x, fun l m => by simp only [toPy, alike]; exact alks h l m, fun _ => rfl⟩
theorem alk_2 {n m : Nat} (h : AlK n ea) (h' : AlK m eb') : AlK (max n m + 1) (e2 ea eb') := ⟨fun p => by
  show [ea p.1, eb' p.2].all (Mir.fit (max n m)) = true
  simp only [List.all_cons, List.all_nil, Bool.and_true, Bool.and_eq_true]
  exact ⟨fit_mono _ _ _ (by omega) (h.fit _), fit_mono _ _ _ (by omega) (h'.fit _)⟩, fun p q => by simp [toPy, toPys, alike, alikeAll, h.al, h'.al], fun _ => rfl⟩
theorem alk_3 {n m k : Nat} (h : AlK n ea) (h' : AlK m eb') (h'' : AlK k ec) : AlK (max n (max m k) + 1) (e3 ea eb' ec) := ⟨fun p => by
  show [ea p.1, eb' p.2.1, ec p.2.2].all (Mir.fit (max n (max m k))) = true
  simp only [List.all_cons, List.all_nil, Bool.and_true, Bool.and_eq_true]
  exact ⟨fit_mono _ _ _ (by omega) (h.fit _), fit_mono _ _ _ (by omega) (h'.fit _), fit_mono _ _ _ (by omega) (h''.fit _)⟩, fun p q => by simp [toPy, toPys, alike, alikeAll, h.al, h'.al, h''.al], fun _ => rfl⟩
def ltK (e : α → D) (a b : α) : Bool := dataLt (toPy (e a)) (toPy (e b))
def leK (e : α → D) (a b : α) : Bool := dataLe false (fun a => toPy (e a)) a b
def oLtK (e : α → D) (a b : α) : Option Bool := some (ltK e a b)
@[simp] theorem oLtK_ev {a b : α} : oLtK e a b = some (ltK e a b) := rfl
theorem o_ltK {n : Nat} (h : AlK n e) (hs : ∀ a, seqD (e a) = true) (hn : n ≤ 60) : O2 ltA (oLtK e) e e .bl := fun a b c q => by
  cases q
  have h0 : ltD (e a) (e b) = none := by
    have := hs a
    cases q : e a <;> rw [q] at this <;> simp [seqD] at this <;> rfl
  unfold ltA ltG
  rw [h0, fit_mono n 60 _ hn (h.fit a), fit_mono n 60 _ hn (h.fit b), hs a, h.al a b]
  rfl
theorem o_ltA : O2 ltA oLt .int .int .bl := fun a b c h => by cases h; rfl
theorem o_ltWA : O2 ltA oLtW .str .str .bl := fun a b c h => by cases h; rfl
def best (g : α → α → Bool) : List α → Option α
  | [] => none
  | x :: xs => some (xs.foldl (fun a y => if g a y then y else a) x)
def oMin1 (e : α → D) (l : List α) : Option α := best (fun a y => ltK e y a) l
def oMax1 (e : α → D) (l : List α) : Option α := best (fun a y => ltK e a y) l
theorem okAll_k {n : Nat} (h : AlK n e) (hn : n ≤ 60) (l : List α) : okAll (l.map e) = true := by
  simp only [okAll, Bool.and_eq_true, List.all_eq_true, List.mem_map]
  refine ⟨?_, ?_⟩
  · rintro d ⟨a, _, rfl⟩
    exact ⟨fit_mono n 60 _ hn (h.fit a), h.ne a⟩
  · rintro d ⟨a, _, rfl⟩ d' ⟨b, _, rfl⟩
    exact h.al a b
theorem fold_e {g : α → α → Bool} {G : D → D → Bool} (hg : ∀ a y, G (e a) (e y) = g a y) : ∀ (xs : List α) (x : α), (xs.map e).foldl (fun a y => if G a y then y else a) (e x) = e (xs.foldl (fun a y => if g a y then y else a) x)
  | [], x => rfl
  | y :: xs, x => by
    rw [List.map_cons, List.foldl_cons, List.foldl_cons, hg]
    rw [show (if g x y = true then e y else e x) = e (if g x y = true then y else x) from by split <;> rfl]
    exact fold_e hg xs _
theorem c_minL {n : Nat} (h : AlK n e) (hn : n ≤ 60) : ∀ a c, oMin1 e a = some c → minD1 [eL e a] = some (e c) := fun l c q => by
  cases l with
  | nil => cases q
  | cons x xs =>
    cases q
    show (if okAll (e x :: xs.map e) then some (minL (e x) (xs.map e)) else none) = _
    rw [if_pos (show okAll (e x :: xs.map e) = true from okAll_k h hn (x :: xs))]
    exact congrArg some (fold_e (G := fun a y => ltDD y a) (fun a y => rfl) xs x)
theorem c_maxL {n : Nat} (h : AlK n e) (hn : n ≤ 60) : ∀ a c, oMax1 e a = some c → maxD1 [eL e a] = some (e c) := fun l c q => by
  cases l with
  | nil => cases q
  | cons x xs =>
    cases q
    show (if okAll (e x :: xs.map e) then some (maxL (e x) (xs.map e)) else none) = _
    rw [if_pos (show okAll (e x :: xs.map e) = true from okAll_k h hn (x :: xs))]
    exact congrArg some (fold_e (G := fun a y => ltDD a y) (fun a y => rfl) xs x)
theorem c_minR {n : Nat} (h : AlK n e) (hn : n ≤ 60) : ∀ a c, oMin1 e a = some c → minD1 [eR e a] = some (e c) := fun l c q => c_minL h hn l c q
theorem c_maxR {n : Nat} (h : AlK n e) (hn : n ≤ 60) : ∀ a c, oMax1 e a = some c → maxD1 [eR e a] = some (e c) := fun l c q => c_maxL h hn l c q
/-- sorted -/
def oSort (e : α → D) (l : List α) : Option (List α) := some (l.mergeSort (leK e))
@[simp] theorem oSort_ev {l : List α} : oSort e l = some (l.mergeSort (leK e)) := rfl
def oSortR (e : α → D) (ne : α → Bool) (l : List α) : Option (List α) := if l.all ne then some (l.mergeSort (leK e)) else none
theorem srtL_map (l : List α) : srtL (l.map e) = (l.mergeSort (leK e)).map e := (sort_maps e fun a _ b _ => rfl).symm
theorem c_sort {n : Nat} (h : AlK n e) (hn : n ≤ 60) (hk : (∀ a, ∃ x r, e a = .tup (x :: r)) ∨ ∀ a ds, e a ≠ .tup ds) : ∀ a c, oSort e a = some c → sortD [eL e a] = some (eL e c) := fun l c q => by
  cases q
  show (if srtOk (l.map e) then some (D.lst (srtL (l.map e))) else none) = _
  rw [if_pos, srtL_map]
  simp only [srtOk, Bool.and_eq_true, Bool.or_eq_true, List.all_eq_true, List.mem_map]
  refine ⟨okAll_k h hn l, ?_⟩
  rcases hk with hk | hk
  · refine .inl ?_
    rintro d ⟨a, _, rfl⟩
    obtain ⟨x, r, q⟩ := hk a
    rw [q]
  · refine .inr ?_
    rintro d ⟨a, _, rfl⟩
    cases q : e a with
    | tup ds => exact absurd q (hk a ds)
    | _ => rfl
theorem c_sortR {n : Nat} {ea : α → D} (h : AlK n ea) (hn : n + 1 ≤ 60) : ∀ a c, oSortR (eR ea) (fun r => !r.isEmpty) a = some c → sortD [eL (eR ea) a] = some (eL (eR ea) c) := fun l c q => by
  unfold oSortR at q
  by_cases z : (l.all fun r => !r.isEmpty) = true
  · rw [if_pos z] at q
    cases q
    show (if srtOk (l.map (eR ea)) then some (D.lst (srtL (l.map (eR ea)))) else none) = _
    rw [if_pos, srtL_map]
    simp only [srtOk, Bool.and_eq_true, Bool.or_eq_true, List.all_eq_true, List.mem_map]
    refine ⟨okAll_k (alk_R h) hn l, .inl ?_⟩
    rintro d ⟨a, ha, rfl⟩
    have := List.all_eq_true.mp z a ha
    cases a with
    | nil => simp at this
    | cons x r => rfl
  · rw [if_neg z] at q; cases q
/-! ### what is walked -/
def Itk (e : α → D) (g : α → Option (List β)) (eb : β → D) : Prop := ∀ a l, g a = some l → itD (e a) = some (l.map eb)
theorem itk_L : Itk (eL ea) some ea := fun a l h => by cases h; rfl
theorem itk_R : Itk (eR ea) some ea := fun a l h => by cases h; rfl
theorem itk_W : Itk D.str (fun w => some (signs w)) D.str := fun a l h => by cases h; show some _ = _; unfold signs; rw [List.map_map]; rfl
theorem itk_A : Itk eA itD eA := fun a l h => by rw [show List.map eA l = l from List.map_id l]; exact h
def oZipP (g : α → Option (List γ)) (g' : β → Option (List δ)) (p : α × β × Unit) : Option (List (γ × δ)) := (g p.1).bind fun l => (g' p.2.1).map fun m => l.zip m
theorem w_zipP {g : α → Option (List γ)} {g' : β → Option (List δ)} (h : Itk ea g ec) (h' : Itk eb' g' ed) : ∀ p c, oZipP g g' p = some c → zipA [ea p.1, eb' p.2.1] = some (c.map (e2 ec ed)) := fun p c q => by
  obtain ⟨l, q1, q⟩ := Option.bind_eq_some_iff.mp q
  obtain ⟨m, q2, rfl⟩ := Option.map_eq_some_iff.mp q
  show (itD (ea p.1)).bind _ = _
  rw [h _ _ q1, Option.bind_some, h' _ _ q2]
  show some (zipD _ _) = _
  rw [zipD_map]
@[simp] theorem oZipP_ev {p : List α × List β × Unit} : oZipP some some p = some (p.1.zip p.2.1) := rfl
def numd (l : List α) : List (Int × α) := l.mapIdx fun i x => ((i : Int), x)
def oEnumP (g : α → Option (List γ)) (p : α × Unit) : Option (List (Int × γ)) := (g p.1).map numd
@[simp] theorem oEnumP_ev {p : List α × Unit} : oEnumP some p = some (numd p.1) := rfl
theorem w_enumP {g : α → Option (List γ)} (h : Itk ea g ec) : ∀ p c, oEnumP g p = some c → enumD [ea p.1] = some (c.map (e2 .int ec)) := fun p c q => by
  obtain ⟨l, q1, rfl⟩ := Option.map_eq_some_iff.mp q
  show (itD (ea p.1)).map enumL = _
  rw [h _ _ q1]
  show some (enumL _) = some ((numd l).map _)
  unfold enumL numd
  congr 1
  refine List.ext_getElem? fun i => ?_
  simp
  cases l[i]? <;> rfl
theorem w_revL : ∀ a c, oRev a = some c → revW (eL ea a) = some (c.map ea) := fun a c h => by cases h; show some (a.map ea).reverse = _; rw [← List.map_reverse]
theorem w_revR : ∀ a c, oRev a = some c → revW (eR ea a) = some (c.map ea) := fun a c h => by cases h; show some (a.map ea).reverse = _; rw [← List.map_reverse]
/-! ### items stored -/
def augT (l : List Int) (tk te : M Int) : M (List Int) := bnd tk fun n => if 0 ≤ n ∧ n.toNat < l.length then bnd te fun z => ret (l.set n.toNat (l.getD n.toNat 0 + z)) else bad
def setT (l : List α) (tk : M Int) (te : M α) : M (List α) := bnd te fun z => bnd tk fun n => if 0 ≤ n ∧ n.toNat < l.length then ret (l.set n.toNat z) else bad
theorem tb_augo {i : Nat} {l : List Int} {tk te : M Int} {ρ2 : List Int → En} {k : List Int → M (Fl σ β)} (hi : ρ[i]? = some (some (.own (l.map .int)))) (hk : TE dk ρ tk .int) (h : TE de ρ te .int) (hx : X ρ) (hs : ∀ l' : List Int, ρ.set i (some (.own (l'.map .int))) = ρ2 l') (hr : ∀ l', TB F eb X rest (ρ2 l') (k l')) :
    TB F eb X (dSeq (dAugO i dk de) rest) ρ (bnd (augT l tk te) k) := fun s => by
  rw [seq_eq]
  unfold dAugO
  rw [hi]
  dsimp only
  rw [seq_out]
  show BL F eb X _ (((tk s).bind _).bind k)
  rw [R.bind_bind]
  refine BL.out (hk s) hx fun n s1 => ?_
  by_cases z : 0 ≤ n ∧ n.toNat < l.length
  · have e1 : (l.map D.int)[n.toNat]? = some (.int (l.getD n.toNat 0)) := by
      rw [List.getElem?_map, List.getElem?_eq_getElem z.2]
      simp [z.2]
    dsimp only
    rw [if_pos z.1, e1]
    dsimp only
    rw [seq_out]
    show BL F eb X _ (((if 0 ≤ n ∧ n.toNat < l.length then bnd te fun z => ret (l.set n.toNat (l.getD n.toNat 0 + z)) else bad) s1).bind k)
    rw [if_pos z]
    show BL F eb X _ (((te s1).bind _).bind k)
    rw [R.bind_bind]
    refine BL.out (h s1) hx fun y s2 => ?_
    show BL F eb X (rest (ρ.set i (some (.own ((l.map D.int).set n.toNat (.int (l.getD n.toNat 0 + y)))))) s2) (k _ s2)
    rw [← List.map_set, hs]
    exact hr _ s2
  · show BL F eb X _ (((if 0 ≤ n ∧ n.toNat < l.length then bnd te fun z => ret (l.set n.toNat (l.getD n.toNat 0 + z)) else bad) s1).bind k)
    rw [if_neg z]
    exact trivial
theorem tb_seto {i : Nat} {e : γ → D} {l : List γ} {tk : M Int} {te : M γ} {ρ2 : List γ → En} {k : List γ → M (Fl σ β)} (hi : ρ[i]? = some (some (.own (l.map e)))) (hk : TE dk ρ tk .int) (h : TE de ρ te e) (hx : X ρ) (hs : ∀ l' : List γ, ρ.set i (some (.own (l'.map e))) = ρ2 l') (hr : ∀ l', TB F eb X rest (ρ2 l') (k l')) :
    TB F eb X (dSeq (dSetO i dk de) rest) ρ (bnd (setT l tk te) k) := fun s => by
  rw [seq_eq]
  unfold dSetO
  rw [hi]
  dsimp only
  rw [seq_out]
  show BL F eb X _ (((te s).bind _).bind k)
  rw [R.bind_bind]
  refine BL.out (h s) hx fun y s1 => ?_
  rw [seq_out]
  show BL F eb X _ (((tk s1).bind _).bind k)
  rw [R.bind_bind]
  refine BL.out (hk s1) hx fun n s2 => ?_
  by_cases z : 0 ≤ n ∧ n.toNat < l.length
  · dsimp only
    rw [if_pos (by rw [List.length_map]; exact z)]
    show BL F eb X _ (((if 0 ≤ n ∧ n.toNat < l.length then ret (l.set n.toNat y) else bad) s2).bind k)
    rw [if_pos z]
    show BL F eb X (rest (ρ.set i (some (.own ((l.map e).set n.toNat (e y))))) s2) (k _ s2)
    rw [← List.map_set, hs]
    exact hr _ s2
  · show BL F eb X _ (((if 0 ≤ n ∧ n.toNat < l.length then ret (l.set n.toNat y) else bad) s2).bind k)
    rw [if_neg z]
    exact trivial
/-- a thing that is known to be of a kind from here on -/
theorem tb_narrow {d : D} {f : D → Option γ} {e : γ → D} {ρ2 : γ → En} {k : γ → M (Fl σ β)} (h : Dec e f) (hr : ∀ a, d = e a → ρ = ρ2 a) (hk : ∀ a, TB F eb X rest (ρ2 a) (k a)) : TB F eb X rest ρ (bnd (lft (f d)) k) := fun s => by
  show BL F eb X _ ((Mir.ofO s (f d)).bind k)
  cases q : f d with
  | none => exact trivial
  | some a =>
    rw [hr a (h d a q)]
    exact hk a s
end
end Mir

set_option Elab.async false
set_option linter.all false
set_option maxRecDepth 100000
set_option maxHeartbeats 1000000
/-! reckoning with typed functions -/
namespace Mir
open PySem PySem.Spec L2
open PyProof.Rows hiding St
@[simp] theorem db_int_non : dB1 (isiD "int") D.non = some false := by unfold dB1; rw [isi_int_non]; rfl
@[simp] theorem db_int_bl {b : Bool} : dB1 (isiD "int") (D.bl b) = some true := by unfold dB1; rw [isi_int_bl]; rfl
@[simp] theorem db_int_int {i : Int} : dB1 (isiD "int") (D.int i) = some true := by unfold dB1; rw [isi_int_int]; rfl
@[simp] theorem db_int_str {l : List Nat} : dB1 (isiD "int") (D.str l) = some false := by unfold dB1; rw [isi_int_str]; rfl
@[simp] theorem db_int_tup {ds : List D} : dB1 (isiD "int") (D.tup ds) = some false := by unfold dB1; rw [isi_int_tup]; rfl
@[simp] theorem db_int_lst {ds : List D} : dB1 (isiD "int") (D.lst ds) = some false := by unfold dB1; rw [isi_int_lst]; rfl
@[simp] theorem db_bool_non : dB1 (isiD "bool") D.non = some false := by unfold dB1; rw [isi_bool_non]; rfl
@[simp] theorem db_bool_bl {b : Bool} : dB1 (isiD "bool") (D.bl b) = some true := by unfold dB1; rw [isi_bool_bl]; rfl
@[simp] theorem db_bool_int {i : Int} : dB1 (isiD "bool") (D.int i) = some false := by unfold dB1; rw [isi_bool_int]; rfl
@[simp] theorem db_bool_str {l : List Nat} : dB1 (isiD "bool") (D.str l) = some false := by unfold dB1; rw [isi_bool_str]; rfl
@[simp] theorem db_bool_tup {ds : List D} : dB1 (isiD "bool") (D.tup ds) = some false := by unfold dB1; rw [isi_bool_tup]; rfl
@[simp] theorem db_bool_lst {ds : List D} : dB1 (isiD "bool") (D.lst ds) = some false := by unfold dB1; rw [isi_bool_lst]; rfl
@[simp] theorem db_str_non : dB1 (isiD "str") D.non = some false := by unfold dB1; rw [isi_str_non]; rfl
@[simp] theorem db_str_bl {b : Bool} : dB1 (isiD "str") (D.bl b) = some false := by unfold dB1; rw [isi_str_bl]; rfl
@[simp] theorem db_str_int {i : Int} : dB1 (isiD "str") (D.int i) = some false := by unfold dB1; rw [isi_str_int]; rfl
@[simp] theorem db_str_str {l : List Nat} : dB1 (isiD "str") (D.str l) = some true := by unfold dB1; rw [isi_str_str]; rfl
@[simp] theorem db_str_tup {ds : List D} : dB1 (isiD "str") (D.tup ds) = some false := by unfold dB1; rw [isi_str_tup]; rfl
@[simp] theorem db_str_lst {ds : List D} : dB1 (isiD "str") (D.lst ds) = some false := by unfold dB1; rw [isi_str_lst]; rfl
@[simp] theorem db_tuple_non : dB1 (isiD "tuple") D.non = some false := by unfold dB1; rw [isi_tuple_non]; rfl
@[simp] theorem db_tuple_bl {b : Bool} : dB1 (isiD "tuple") (D.bl b) = some false := by unfold dB1; rw [isi_tuple_bl]; rfl
@[simp] theorem db_tuple_int {i : Int} : dB1 (isiD "tuple") (D.int i) = some false := by unfold dB1; rw [isi_tuple_int]; rfl
@[simp] theorem db_tuple_str {l : List Nat} : dB1 (isiD "tuple") (D.str l) = some false := by unfold dB1; rw [isi_tuple_str]; rfl
@[simp] theorem db_tuple_tup {ds : List D} : dB1 (isiD "tuple") (D.tup ds) = some true := by unfold dB1; rw [isi_tuple_tup]; rfl
@[simp] theorem db_tuple_lst {ds : List D} : dB1 (isiD "tuple") (D.lst ds) = some false := by unfold dB1; rw [isi_tuple_lst]; rfl
@[simp] theorem db_list_non : dB1 (isiD "list") D.non = some false := by unfold dB1; rw [isi_list_non]; rfl
@[simp] theorem db_list_bl {b : Bool} : dB1 (isiD "list") (D.bl b) = some false := by unfold dB1; rw [isi_list_bl]; rfl
@[simp] theorem db_list_int {i : Int} : dB1 (isiD "list") (D.int i) = some false := by unfold dB1; rw [isi_list_int]; rfl
@[simp] theorem db_list_str {l : List Nat} : dB1 (isiD "list") (D.str l) = some false := by unfold dB1; rw [isi_list_str]; rfl
@[simp] theorem db_list_tup {ds : List D} : dB1 (isiD "list") (D.tup ds) = some false := by unfold dB1; rw [isi_list_tup]; rfl
@[simp] theorem db_list_lst {ds : List D} : dB1 (isiD "list") (D.lst ds) = some true := by unfold dB1; rw [isi_list_lst]; rfl
@[simp] theorem di_len_str {l : List Nat} : dI1 lenD (.str l) = some (l.length : Int) := rfl
@[simp] theorem di_len_tup {l : List D} : dI1 lenD (.tup l) = some (l.length : Int) := rfl
@[simp] theorem di_len_lst {l : List D} : dI1 lenD (.lst l) = some (l.length : Int) := rfl
@[simp] theorem ifT_bad {α : Type} {u v : M α} : ifT bad u v = bad := rfl
@[simp] theorem ifT_exc {α : Type} {c : Str} {u v : M α} : ifT (exc c) u v = exc c := rfl
@[simp] theorem notT_exc {c : Str} : notT (exc c) = exc c := rfl
@[simp] theorem orT_exc {c : Str} {u : M Bool} : orT (exc c) u = exc c := rfl
@[simp] theorem andT_exc {c : Str} {u : M Bool} : andT (exc c) u = exc c := rfl
@[simp] theorem un_exc {α β : Type} {op : α → Option β} {c : Str} : un op (exc c) = exc c := rfl
theorem lcT_ret {α β : Type} {p : α → M Bool} {f : α → M β} (q : α → Bool) (h : α → β) : ∀ {l : List α}, (∀ a ∈ l, p a = ret (q a)) → (∀ a ∈ l, q a = true → f a = ret (h a)) → lcT p f l = ret ((l.filter q).map h)
  | [], _, _ => rfl
  | a :: l, hp, hf => by
    rw [lcT, hp a (.head _), bnd_ret, lcT_ret q h (fun b hb => hp b (.tail _ hb)) fun b hb => hf b (.tail _ hb)]
    cases z : q a with
    | true => rw [if_pos rfl, hf a (.head _) z]; simp [z]
    | false => simp [z]
/-- a comprehension of things that are told, with a test; without one -/
theorem lc_ret {α β : Type} {p : α → M Bool} {f : α → M β} {l : List α} (q : α → Bool) (h : α → β) (hl : l.length ≤ 65536) (hp : ∀ a ∈ l, p a = ret (q a)) (hf : ∀ a ∈ l, q a = true → f a = ret (h a)) : lc (ret l) p f = ret ((l.filter q).map h) := by
  unfold lc
  rw [bnd_ret, if_pos hl, lcT_ret q h hp hf]; rfl
theorem lc_map {α β : Type} {f : α → M β} {l : List α} (h : α → β) (hl : l.length ≤ 65536) (hf : ∀ a ∈ l, f a = ret (h a)) : lc (ret l) (fun _ => ret true) f = ret (l.map h) := by
  have := lc_ret (p := fun _ : α => ret true) (f := f) (fun _ => true) h hl (fun _ _ => rfl) fun a ha _ => hf a ha
  rw [this, List.filter_eq_self.mpr (by simp)]
theorem atI_last {α : Type} {l : List α} {x : α} : atI (l ++ [x]) (-1) = some x := by
  unfold atI ixN
  rw [if_neg (by omega), List.length_append, List.length_singleton, if_pos (by omega)]
  have : ((-1 : Int) + ((l.length + 1 : Nat) : Int)).toNat = l.length := by omega
  rw [this, Option.bind_some]
  simp
theorem fromI_nat {n k : Nat} : fromI n (k : Int) = k := by
  unfold fromI
  rw [if_neg (by omega)]
  omega
theorem upto_nat {k n : Nat} : upto (k : Int) (((n : Int) - (k : Int)).toNat) = (List.range' k (n - k)).map fun (i : Nat) => (i : Int) := by
  unfold upto
  rw [List.range'_eq_map_range, List.map_map]
  have : ((n : Int) - (k : Int)).toNat = n - k := by omega
  rw [this]
  refine List.map_congr_left fun i _ => ?_
  simp
/-- range(n) -/
theorem rng1_nat {n : Nat} (h : n ≤ 65536) : oRng1 ((n : Int), ()) = some ((List.range n).map fun (i : Nat) => (i : Int)) := by
  unfold oRng1
  rw [if_pos (by dsimp only; omega)]
  have := upto_nat (k := 0) (n := n)
  simp only [Int.ofNat_zero, Int.sub_zero, Nat.sub_zero] at this
  rw [← List.range_eq_range'] at this
  exact congrArg some this
/-- the turns of a law -/
theorem rngs_ok {d : DA DeckSt} {N : Nat} {a b : Int} (hd : ∀ n st, d (rho0 N n) st = ofO st (rng1 [.int (a + (if b < (n : Int) then b else (n : Int)))])) (h0 : -1000 ≤ a ∧ a ≤ 1000) (h1 : 0 ≤ b ∧ b ≤ 1000) : ∀ n : Nat, n ≤ 63 → ∀ st : DeckSt, ∃ l, d (rho0 N n) st = .ok l st := fun n hn st => by
  refine ⟨rngD 0 (a + (if b < (n : Int) then b else (n : Int))).toNat, ?_⟩
  rw [hd]
  unfold rng1
  dsimp only
  rw [if_pos (by split <;> omega)]
  rfl
end Mir

set_option Elab.async false
set_option linter.all false
set_option maxRecDepth 100000
set_option maxHeartbeats 4000000
namespace Mir
open PySem PySem.Spec L2
open PyProof.Rows hiding St
def whileFuel : Nat := 1000000
def subTab : List (Str × Str × Bool) := [("BadOther", "BadOther", true), ("BadOther", "BadWord", false), ("BadWord", "BadOther", false), ("BadWord", "BadWord", true)]
def subF : Str → Str → Option Bool := subT subTab
abbrev m__law_pick : List D → DeckSt → R DeckSt D := mPick
abbrev N__law_word : List Str := ["deck", "letters", "most", "k"]
def d__law_word : DS DeckSt := dRet (dMb joinD (dC (.str [])) (dCons (dF (dLc (gN 3) [3] [] (dRng rng1 (dCons (dCall m__law_pick (dCons (dVar 0) (dCons (dBin addD (dVar 2) (dC (.int 1))) (dNil)))) (dNil))) (dYes) (dBin ixD (dC (.str [97, 98, 99])) (dCall m__law_pick (dCons (dVar 0) (dCons (dVar 1) (dNil))))))) (dNil)))
def m__law_word : List D → DeckSt → R DeckSt D := mOf 4 d__law_word
def t__law_word (deck : Unit) (letters : Int) (most : Int) : M Wd := fin none (mp .rt (bin oJoin (ret ([] : Wd)) (prd (lc (un oRng1 (prd (bnd (prd (ret deck) (prd (bin oAdd (ret most) (ret (1 : Int))) (ret ()))) fun p : Unit × Int × Unit => t_pick p.1 p.2.1) (ret ()))) (fun a1 : Int => (ret true)) fun a1 => (bin oIxW (ret ([97, 98, 99] : Wd)) (bnd (prd (ret deck) (prd (ret letters) (ret ()))) fun p : Unit × Int × Unit => t_pick p.1 p.2.1))) (ret ()))))
theorem te__law_word (deck : Unit) (letters : Int) (most : Int) : ∀ s, RE D.str (m__law_word [eK deck, D.int letters, D.int most] s) (t__law_word deck letters most s) := fin_ok (F := fun _ : Unit => List.replicate 4 none) (X := fun _ => True) (ds := d__law_word) (N := 4) (tb_to (ρ' := [some (.val (eK deck)), some (.val (D.int letters)), some (.val (D.int most)), none]) rfl (tb_last (tb_ret (te_mb m_joinL (te_c (e := D.str) (a := ([] : Wd)) rfl) (ta_cons (te_f (ta_lcC (ta_rng w_rng1 (ta_cons (te_call (eb := D.int) (ta_cons (te_var (e := eK) (a := deck) 0 l0) (ta_cons (te_bin o_add (te_var (e := D.int) (a := most) 2 (ls (ls l0))) (te_c (e := D.int) (a := (1 : Int)) rfl)) ta_nil)) fun p => pick_ok p.1 p.2.1) ta_nil)) (wf (ws w0 (ss (ss (ss s0))))) (fun _ => (gn (ss (ss (ss s0))))) (fun a1 => tt_yes) (fun a1 => (te_bin o_ixW (te_c (e := D.str) (a := ([97, 98, 99] : Wd)) rfl) (te_call (eb := D.int) (ta_cons (te_var (e := eK) (a := deck) 0 l0) (ta_cons (te_var (e := D.int) (a := letters) 1 (ls l0)) ta_nil)) fun p => pick_ok p.1 p.2.1))))) ta_nil)) trivial))) (fun _ h => nomatch h)
abbrev N__law_all : List Str := ["word", "other", "rows", "sign", "longer", "row", "start", "place"]
def L__law_all_1 : DS DeckSt := dSeq (dAsg 6 [] (dV (dIf (dB (dBin neO (dVar 5) (dTup (dNil)))) (dBin addD (dBin ixD (dVar 5) (dUn negD (dC (.int 1)))) (dC (.int 1))) (dC (.int 0)))))
  (dSeq (dMeth 4 [] (dCons (dF (dLc (gN 7) [7] [] (dRng rng2 (dCons (dVar 6) (dCons (dCallB lenD (dCons (dVar 1) (dNil))) (dNil)))) (dB (dBin eqO (dBin ixD (dVar 1) (dVar 7)) (dVar 3))) (dBin addD (dVar 5) (dTup (dCons (dVar 7) (dNil)))))) (dNil)) fExt kDrop)
  (dForget [4, 1, 2, 3, 0] (dNext)))
def L__law_all_2 : DS DeckSt := dSeq (dAsg 4 [] (dO (dLst (dNil))))
  (dForget [4, 1, 2, 3, 0] (dSeq (dFor (gN 5) [] (dWalk (dVar 2) walkD) L__law_all_1)
  (dSeq (dAsg 2 [4] (dV (dOwn 4)))
  (dForget [1, 2, 0] (dNext)))))
def d__law_all : DS DeckSt := dSeq (dAsg 2 [] (dV (dF (dLst (dCons (dTup (dNil)) (dNil))))))
  (dForget [1, 2, 0] (dSeq (dFor (gN 3) [] (dWalk (dVar 0) walkD) L__law_all_2)
  (dRet (dVar 2))))
def m__law_all : List D → DeckSt → R DeckSt D := mOf 8 d__law_all
def b__law_all_1 (other : Wd) (a4 : Wd) (a7 : (List Int)) (st6 : (List (List Int))) : M (Fl (List (List Int)) (List (List Int))) := (bnd (ifT (bin oNe (ret a7) (mp (fun p : Unit => ([] : List Int)) (ret ()))) (bin oAdd (bin atI (ret a7) (un oNeg (ret (1 : Int)))) (ret (1 : Int))) (ret (0 : Int))) fun start8 : Int => (bnd (un (oExt st6) (prd (lc (un oRng2 (prd (ret start8) (prd (un oLen (ret other)) (ret ())))) (fun a9 : Int => (bin oEq (bin oIxW (ret other) (ret a9)) (ret a4))) fun a9 => (bin oApd (ret a7) (mp (fun p : Int × Unit => ([p.1] : List Int)) (prd (ret a9) (ret ()))))) (ret ()))) fun u10 : (List (List Int)) × Unit => (ret (.nx u10.1))))
def b__law_all_2 (other : Wd) (a4 : Wd) (st3 : (List (List Int))) : M (Fl (List (List Int)) (List (List Int))) := (bnd (mp (fun p : Unit => ([] : List (List Int))) (ret ())) fun longer5 : (List (List Int)) => (bnd (un oId (ret st3)) fun l => thn (forT (b__law_all_1 other a4) l longer5) fun st6 => (bnd (ret st6) fun rows11 : (List (List Int)) => (ret (.nx rows11)))))
def t__law_all (word : Wd) (other : Wd) : M (List (List Int)) := fin none (bnd (mp (fun p : (List Int) × Unit => ([p.1] : List (List Int))) (prd (mp (fun p : Unit => ([] : List Int)) (ret ())) (ret ()))) fun rows2 : (List (List Int)) => (bnd (un oSigns (ret word)) fun l => thn (forT (b__law_all_2 other) l rows2) fun st3 => (mp .rt (ret st3))))
theorem te__law_all (word : Wd) (other : Wd) : ∀ s, RE (eL (eR D.int)) (m__law_all [D.str word, D.str other] s) (t__law_all word other s) := fin_ok (F := fun _ : Unit => List.replicate 8 none) (X := fun _ => True) (ds := d__law_all) (N := 8) (tb_to (ρ' := [some (.val (D.str word)), some (.val (D.str other)), none, none, none, none, none, none]) rfl (tb_asgC (e := (eL (eR D.int))) (te_f (ta_lst (ek := List.map (eR D.int)) (ta_cons (te_tup ta_nil (fun _ => Nat.le_of_ble_eq_true rfl) fun _ => rfl) ta_nil) (fun _ => Nat.le_of_ble_eq_true rfl) fun _ => rfl)) trivial (fun _ => (ss (ss s0))) fun rows2 => (tb_forgetC (fgt_m (m := [true, true, true, false, false, false, false, false]) (by decide +kernel) (.t (.t (.t (.f (.f (.f (.f (.f Fm.n))))))))) (tb_for (e := D.str) (F0 := (fun st3 : (List (List Int)) => [some (.val (D.str word)), some (.val (D.str other)), some (.val ((eL (eR D.int)) st3)), none, none, none, none, none])) (body := b__law_all_2 other) rows2 (ta_walk w_W (te_var (e := D.str) (a := word) 0 l0)) (fnl rfl) (fun _ _ => (gn (ss (ss (ss s0))))) (fun a4 st3 => (tb_asgOC (ρ1 := [some (.val (D.str word)), some (.val (D.str other)), some (.val ((eL (eR D.int)) st3)), some (.val (D.str a4)), none, none, none, none]) (ta_lst (ek := List.map (eR D.int)) ta_nil (fun _ => Nat.le_of_ble_eq_true rfl) fun _ => rfl) trivial (fnl rfl) (fun _ => (ss (ss (ss (ss s0))))) fun longer5 => (tb_forgetC (fgt_m (m := [true, true, true, true, true, false, false, false]) (by decide +kernel) (.t (.t (.t (.t (.t (.f (.f (.f Fm.n))))))))) (tb_for (e := (eR D.int)) (F0 := (fun st6 : (List (List Int)) => [some (.val (D.str word)), some (.val (D.str other)), some (.val ((eL (eR D.int)) st3)), some (.val (D.str a4)), some (.own (List.map (eR D.int) st6)), none, none, none])) (body := b__law_all_1 other a4) longer5 (ta_walk w_L (te_var (e := (eL (eR D.int))) (a := st3) 2 (ls (ls l0)))) (fnl rfl) (fun _ _ => (gn (ss (ss (ss (ss (ss s0))))))) (fun a7 st6 => (tb_asgC (e := D.int) (te_if (tt_b (te_bin (o_ne (eqk_R eqk_I) (by decide)) (te_var (e := (eR D.int)) (a := a7) 5 (ls (ls (ls (ls (ls l0)))))) (te_tup ta_nil (fun _ => Nat.le_of_ble_eq_true rfl) fun _ => rfl))) (te_bin o_add (te_bin o_ixR (te_var (e := (eR D.int)) (a := a7) 5 (ls (ls (ls (ls (ls l0)))))) (te_un u_neg (te_c (e := D.int) (a := (1 : Int)) rfl))) (te_c (e := D.int) (a := (1 : Int)) rfl)) (te_c (e := D.int) (a := (0 : Int)) rfl)) trivial (fun _ => (ss (ss (ss (ss (ss (ss s0))))))) fun start8 => (tb_meth0 (e0 := (eR D.int)) (e1 := (eR D.int)) (ed := eN) (l := st6) (ls (ls (ls (ls l0)))) ml_ext (fun _ _ => (kd (ss (ss (ss (ss s0)))))) (ta_cons (te_f (ta_lcC (ta_rng w_rng2 (ta_cons (te_var (e := D.int) (a := start8) 6 (ls (ls (ls (ls (ls (ls l0))))))) (ta_cons (te_cb1 c_lenW (te_var (e := D.str) (a := other) 1 (ls l0))) ta_nil))) (wf (ws w0 (ss (ss (ss (ss (ss (ss (ss s0))))))))) (fun _ => (gn (ss (ss (ss (ss (ss (ss (ss s0))))))))) (fun a9 => (tt_b (te_bin (o_eq eqk_W (by decide)) (te_bin o_ixW (te_var (e := D.str) (a := other) 1 (ls l0)) (te_var (e := D.int) (a := a9) 7 (ls (ls (ls (ls (ls (ls (ls l0))))))))) (te_var (e := D.str) (a := a4) 3 (ls (ls (ls l0))))))) (fun a9 => (te_bin o_apdR (te_var (e := (eR D.int)) (a := a7) 5 (ls (ls (ls (ls (ls l0)))))) (te_tup (ta_cons (te_var (e := D.int) (a := a9) 7 (ls (ls (ls (ls (ls (ls (ls l0)))))))) ta_nil) (fun _ => Nat.le_of_ble_eq_true rfl) fun _ => rfl))))) ta_nil) trivial fun u10 => (tb_forgetC (fgt_m (m := [true, true, true, true, true, false, false, false]) (by decide +kernel) (.t (.t (.t (.t (.t (.f (.f (.f Fm.n))))))))) (tb_end u10.1 rfl))))) trivial fun st6 => (tb_asgFC (e := (eL (eR D.int))) (ρ1 := [some (.val (D.str word)), some (.val (D.str other)), some (.val ((eL (eR D.int)) st3)), some (.val (D.str a4)), some (.val ((eL (eR D.int)) st6)), none, none, none]) (te_own (e := (eR D.int)) (l := st6) 4 (ls (ls (ls (ls l0))))) trivial (fun _ => rfl) (fun _ => (ss (ss s0))) fun rows11 => (tb_forgetC (fgt_m (m := [true, true, true, false, false, false, false, false]) (by decide +kernel) (.t (.t (.t (.f (.f (.f (.f (.f Fm.n))))))))) (tb_end rows11 rfl))))))) trivial fun st3 => (tb_last (tb_ret (te_var (e := (eL (eR D.int))) (a := st3) 2 (ls (ls l0))) trivial)))))) (fun _ h => nomatch h)
abbrev N__law_left : List Str := ["word", "other", "found", "start", "sign", "places", "place"]
def L__law_left_1 : DS DeckSt := dSeq (dAsg 5 [] (dV (dF (dLc (gN 6) [6] [] (dRng rng2 (dCons (dVar 3) (dCons (dCallB lenD (dCons (dVar 1) (dNil))) (dNil)))) (dB (dBin eqO (dBin ixD (dVar 1) (dVar 6)) (dVar 4))) (dVar 6)))))
  (dSeq (dIfS (dB (dBin eqO (dVar 5) (dF (dLst (dNil))))) (dRet (dC .non)) (dNext))
  (dSeq (dMeth 2 [] (dCons (dBin ixD (dVar 5) (dC (.int 0))) (dNil)) fApp kDrop)
  (dSeq (dAsg 3 [] (dV (dBin addD (dBin ixD (dVar 5) (dC (.int 0))) (dC (.int 1)))))
  (dForget [2, 1, 3, 0] (dNext)))))
def d__law_left : DS DeckSt := dSeq (dPar 2 3 [] [] (dO (dLst (dNil))) (dV (dC (.int 0))))
  (dForget [2, 1, 3, 0] (dSeq (dFor (gN 4) [] (dWalk (dVar 0) walkD) L__law_left_1)
  (dRet (dCallB tupleD (dCons (dOwn 2) (dNil))))))
def m__law_left : List D → DeckSt → R DeckSt D := mOf 7 d__law_left
def b__law_left_1 (other : Wd) (a15 : Wd) (st14 : ((List Int) × Int)) : M (Fl ((List Int) × Int) (Option (List Int))) := (bnd (lc (un oRng2 (prd (ret st14.2) (prd (un oLen (ret other)) (ret ())))) (fun a16 : Int => (bin oEq (bin oIxW (ret other) (ret a16)) (ret a15))) fun a16 => (ret a16)) fun places17 : (List Int) => (ifT (bin oEq (ret places17) (mp (fun p : Unit => ([] : List Int)) (ret ()))) (mp .rt (mp (fun _ : Unit => (none : Option (List Int))) (ret ()))) (bnd (un (oApp st14.1) (prd (bin atI (ret places17) (ret (0 : Int))) (ret ()))) fun u18 : (List Int) × Unit => (bnd (bin oAdd (bin atI (ret places17) (ret (0 : Int))) (ret (1 : Int))) fun start19 : Int => (ret (.nx (u18.1, start19)))))))
def t__law_left (word : Wd) (other : Wd) : M (Option (List Int)) := fin (some none) (bnd (mp (fun p : Unit => ([] : List Int)) (ret ())) fun found12 : (List Int) => bnd (ret (0 : Int)) fun start13 : Int => (bnd (un oSigns (ret word)) fun l => thn (forT (b__law_left_1 other) l (found12, start13)) fun st14 => (mp .rt (mp some (un oId (ret st14.1))))))
theorem te__law_left (word : Wd) (other : Wd) : ∀ s, RE (eO (eR D.int)) (m__law_left [D.str word, D.str other] s) (t__law_left word other s) := fin_ok (F := fun _ : Unit => List.replicate 7 none) (X := fun _ => True) (ds := d__law_left) (N := 7) (tb_to (ρ' := [some (.val (D.str word)), some (.val (D.str other)), none, none, none, none, none]) rfl (tb_parGC (ev := (fun v => Sl.own (List.map D.int v))) (ew := (fun v => Sl.val (D.int v))) (ρ1 := [some (.val (D.str word)), some (.val (D.str other)), none, none, none, none, none]) (ρ2 := [some (.val (D.str word)), some (.val (D.str other)), none, none, none, none, none]) (re_o (ta_lst (ek := List.map D.int) ta_nil (fun _ => Nat.le_of_ble_eq_true rfl) fun _ => rfl)) (fun _ => fz0) (re_v (te_c (e := D.int) (a := (0 : Int)) rfl)) (fun _ => fz0) trivial trivial (fun _ => (ss (ss s0))) (fun _ _ => (ss (ss (ss s0)))) fun found12 start13 => (tb_forgetC (fgt_m (m := [true, true, true, true, false, false, false]) (by decide +kernel) (.t (.t (.t (.t (.f (.f (.f Fm.n)))))))) (tb_for (e := D.str) (F0 := (fun st14 : ((List Int) × Int) => [some (.val (D.str word)), some (.val (D.str other)), some (.own (List.map D.int st14.1)), some (.val (D.int st14.2)), none, none, none])) (body := b__law_left_1 other) (found12, start13) (ta_walk w_W (te_var (e := D.str) (a := word) 0 l0)) (fnl rfl) (fun _ _ => (gn (ss (ss (ss (ss s0)))))) (fun a15 st14 => (tb_asgC (e := (eL D.int)) (te_f (ta_lcC (ta_rng w_rng2 (ta_cons (te_var (e := D.int) (a := st14.2) 3 (ls (ls (ls l0)))) (ta_cons (te_cb1 c_lenW (te_var (e := D.str) (a := other) 1 (ls l0))) ta_nil))) (wf (ws w0 (ss (ss (ss (ss (ss (ss s0)))))))) (fun _ => (gn (ss (ss (ss (ss (ss (ss s0)))))))) (fun a16 => (tt_b (te_bin (o_eq eqk_W (by decide)) (te_bin o_ixW (te_var (e := D.str) (a := other) 1 (ls l0)) (te_var (e := D.int) (a := a16) 6 (ls (ls (ls (ls (ls (ls l0)))))))) (te_var (e := D.str) (a := a15) 4 (ls (ls (ls (ls l0)))))))) (fun a16 => (te_var (e := D.int) (a := a16) 6 (ls (ls (ls (ls (ls (ls l0)))))))))) trivial (fun _ => (ss (ss (ss (ss (ss s0)))))) fun places17 => (tb_if (tt_b (te_bin (o_eq (eqk_L eqk_I) (by decide)) (te_var (e := (eL D.int)) (a := places17) 5 (ls (ls (ls (ls (ls l0)))))) (te_f (ta_lst (ek := List.map D.int) ta_nil (fun _ => Nat.le_of_ble_eq_true rfl) fun _ => rfl)))) trivial (tb_ret (te_mp (te_c (e := eN) (a := ()) rfl) fun _ => rfl) trivial) (tb_next (tb_meth0 (e0 := D.int) (e1 := D.int) (ed := eN) (l := st14.1) (ls (ls l0)) ml_app (fun _ _ => (kd (ss (ss s0)))) (ta_cons (te_bin o_ixL (te_var (e := (eL D.int)) (a := places17) 5 (ls (ls (ls (ls (ls l0)))))) (te_c (e := D.int) (a := (0 : Int)) rfl)) ta_nil) trivial fun u18 => (tb_asgC (e := D.int) (te_bin o_add (te_bin o_ixL (te_var (e := (eL D.int)) (a := places17) 5 (ls (ls (ls (ls (ls l0)))))) (te_c (e := D.int) (a := (0 : Int)) rfl)) (te_c (e := D.int) (a := (1 : Int)) rfl)) trivial (fun _ => (ss (ss (ss s0)))) fun start19 => (tb_forgetC (fgt_m (m := [true, true, true, true, false, false, false]) (by decide +kernel) (.t (.t (.t (.t (.f (.f (.f Fm.n)))))))) (tb_end (u18.1, start19) rfl)))))))) trivial fun st14 => (tb_last (tb_ret (te_mp (te_cb1 c_tupL (te_own (e := D.int) (l := st14.1) 2 (ls (ls l0)))) fun _ => rfl) trivial)))))) (fun _ h => by cases h; rfl)
abbrev N__law_ways : List Str := ["word", "other", "counts", "sign", "later", "total", "place"]
def L__law_ways_1 : DS DeckSt := dSeq (dAsg 5 [] (dV (dBin addD (dVar 5) (dIf (dB (dBin eqO (dBin ixD (dVar 1) (dVar 6)) (dVar 3))) (dBin ixD (dVar 2) (dVar 6)) (dC (.int 0))))))
  (dSeq (dMeth 4 [] (dCons (dVar 5) (dNil)) fApp kDrop)
  (dForget [2, 4, 1, 3, 5, 0] (dNext)))
def L__law_ways_2 : DS DeckSt := dSeq (dPar 4 5 [] [] (dO (dLst (dCons (dC (.int 0)) (dNil)))) (dV (dC (.int 0))))
  (dForget [2, 4, 1, 3, 5, 0] (dSeq (dFor (gN 6) [] (dRng rng1 (dCons (dCallB lenD (dCons (dVar 1) (dNil))) (dNil))) L__law_ways_1)
  (dSeq (dAsg 2 [4] (dV (dOwn 4)))
  (dForget [2, 1, 0] (dNext)))))
def d__law_ways : DS DeckSt := dSeq (dAsg 2 [] (dV (dBin repD (dF (dLst (dCons (dC (.int 1)) (dNil)))) (dBin addD (dCallB lenD (dCons (dVar 1) (dNil))) (dC (.int 1))))))
  (dForget [2, 1, 0] (dSeq (dFor (gN 3) [] (dWalk (dVar 0) walkD) L__law_ways_2)
  (dRet (dBin ixD (dVar 2) (dUn negD (dC (.int 1)))))))
def m__law_ways : List D → DeckSt → R DeckSt D := mOf 7 d__law_ways
def b__law_ways_1 (other : Wd) (st21 : (List Int)) (a22 : Wd) (a26 : Int) (st25 : ((List Int) × Int)) : M (Fl ((List Int) × Int) Int) := (bnd (bin oAdd (ret st25.2) (ifT (bin oEq (bin oIxW (ret other) (ret a26)) (ret a22)) (bin atI (ret st21) (ret a26)) (ret (0 : Int)))) fun total27 : Int => (bnd (un (oApp st25.1) (prd (ret total27) (ret ()))) fun u28 : (List Int) × Unit => (ret (.nx (u28.1, total27)))))
def b__law_ways_2 (other : Wd) (a22 : Wd) (st21 : (List Int)) : M (Fl (List Int) Int) := (bnd (mp (fun p : Int × Unit => ([p.1] : List Int)) (prd (ret (0 : Int)) (ret ()))) fun later23 : (List Int) => bnd (ret (0 : Int)) fun total24 : Int => (bnd (un oRng1 (prd (un oLen (ret other)) (ret ()))) fun l => thn (forT (b__law_ways_1 other st21 a22) l (later23, total24)) fun st25 => (bnd (ret st25.1) fun counts29 : (List Int) => (ret (.nx counts29)))))
def t__law_ways (word : Wd) (other : Wd) : M Int := fin none (bnd (bin oRep (mp (fun p : Int × Unit => ([p.1] : List Int)) (prd (ret (1 : Int)) (ret ()))) (bin oAdd (un oLen (ret other)) (ret (1 : Int)))) fun counts20 : (List Int) => (bnd (un oSigns (ret word)) fun l => thn (forT (b__law_ways_2 other) l counts20) fun st21 => (mp .rt (bin atI (ret st21) (un oNeg (ret (1 : Int)))))))
theorem te__law_ways (word : Wd) (other : Wd) : ∀ s, RE D.int (m__law_ways [D.str word, D.str other] s) (t__law_ways word other s) := fin_ok (F := fun _ : Unit => List.replicate 7 none) (X := fun _ => True) (ds := d__law_ways) (N := 7) (tb_to (ρ' := [some (.val (D.str word)), some (.val (D.str other)), none, none, none, none, none]) rfl (tb_asgC (e := (eL D.int)) (te_bin o_repDL (te_f (ta_lst (ek := List.map D.int) (ta_cons (te_c (e := D.int) (a := (1 : Int)) rfl) ta_nil) (fun _ => Nat.le_of_ble_eq_true rfl) fun _ => rfl)) (te_bin o_add (te_cb1 c_lenW (te_var (e := D.str) (a := other) 1 (ls l0))) (te_c (e := D.int) (a := (1 : Int)) rfl))) trivial (fun _ => (ss (ss s0))) fun counts20 => (tb_forgetC (fgt_m (m := [true, true, true, false, false, false, false]) (by decide +kernel) (.t (.t (.t (.f (.f (.f (.f Fm.n)))))))) (tb_for (e := D.str) (F0 := (fun st21 : (List Int) => [some (.val (D.str word)), some (.val (D.str other)), some (.val ((eL D.int) st21)), none, none, none, none])) (body := b__law_ways_2 other) counts20 (ta_walk w_W (te_var (e := D.str) (a := word) 0 l0)) (fnl rfl) (fun _ _ => (gn (ss (ss (ss s0))))) (fun a22 st21 => (tb_parGC (ev := (fun v => Sl.own (List.map D.int v))) (ew := (fun v => Sl.val (D.int v))) (ρ1 := [some (.val (D.str word)), some (.val (D.str other)), some (.val ((eL D.int) st21)), some (.val (D.str a22)), none, none, none]) (ρ2 := [some (.val (D.str word)), some (.val (D.str other)), some (.val ((eL D.int) st21)), some (.val (D.str a22)), none, none, none]) (re_o (ta_lst (ek := List.map D.int) (ta_cons (te_c (e := D.int) (a := (0 : Int)) rfl) ta_nil) (fun _ => Nat.le_of_ble_eq_true rfl) fun _ => rfl)) (fun _ => fz0) (re_v (te_c (e := D.int) (a := (0 : Int)) rfl)) (fun _ => fz0) trivial trivial (fun _ => (ss (ss (ss (ss s0))))) (fun _ _ => (ss (ss (ss (ss (ss s0)))))) fun later23 total24 => (tb_forgetC (fgt_m (m := [true, true, true, true, true, true, false]) (by decide +kernel) (.t (.t (.t (.t (.t (.t (.f Fm.n)))))))) (tb_for (e := D.int) (F0 := (fun st25 : ((List Int) × Int) => [some (.val (D.str word)), some (.val (D.str other)), some (.val ((eL D.int) st21)), some (.val (D.str a22)), some (.own (List.map D.int st25.1)), some (.val (D.int st25.2)), none])) (body := b__law_ways_1 other st21 a22) (later23, total24) (ta_rng w_rng1 (ta_cons (te_cb1 c_lenW (te_var (e := D.str) (a := other) 1 (ls l0))) ta_nil)) (fnl rfl) (fun _ _ => (gn (ss (ss (ss (ss (ss (ss s0)))))))) (fun a26 st25 => (tb_asgC (e := D.int) (te_bin o_add (te_var (e := D.int) (a := st25.2) 5 (ls (ls (ls (ls (ls l0)))))) (te_if (tt_b (te_bin (o_eq eqk_W (by decide)) (te_bin o_ixW (te_var (e := D.str) (a := other) 1 (ls l0)) (te_var (e := D.int) (a := a26) 6 (ls (ls (ls (ls (ls (ls l0)))))))) (te_var (e := D.str) (a := a22) 3 (ls (ls (ls l0)))))) (te_bin o_ixL (te_var (e := (eL D.int)) (a := st21) 2 (ls (ls l0))) (te_var (e := D.int) (a := a26) 6 (ls (ls (ls (ls (ls (ls l0)))))))) (te_c (e := D.int) (a := (0 : Int)) rfl))) trivial (fun _ => (ss (ss (ss (ss (ss s0)))))) fun total27 => (tb_meth0 (e0 := D.int) (e1 := D.int) (ed := eN) (l := st25.1) (ls (ls (ls (ls l0)))) ml_app (fun _ _ => (kd (ss (ss (ss (ss s0)))))) (ta_cons (te_var (e := D.int) (a := total27) 5 (ls (ls (ls (ls (ls l0)))))) ta_nil) trivial fun u28 => (tb_forgetC (fgt_m (m := [true, true, true, true, true, true, false]) (by decide +kernel) (.t (.t (.t (.t (.t (.t (.f Fm.n)))))))) (tb_end (u28.1, total27) rfl))))) trivial fun st25 => (tb_asgFC (e := (eL D.int)) (ρ1 := [some (.val (D.str word)), some (.val (D.str other)), some (.val ((eL D.int) st21)), some (.val (D.str a22)), some (.val ((eL D.int) st25.1)), some (.val (D.int st25.2)), none]) (te_own (e := D.int) (l := st25.1) 4 (ls (ls (ls (ls l0))))) trivial (fun _ => rfl) (fun _ => (ss (ss s0))) fun counts29 => (tb_forgetC (fgt_m (m := [true, true, true, false, false, false, false]) (by decide +kernel) (.t (.t (.t (.f (.f (.f (.f Fm.n)))))))) (tb_end counts29 rfl))))))) trivial fun st21 => (tb_last (tb_ret (te_bin o_ixL (te_var (e := (eL D.int)) (a := st21) 2 (ls (ls l0))) (te_un u_neg (te_c (e := D.int) (a := (1 : Int)) rfl))) trivial)))))) (fun _ h => nomatch h)
abbrev N_is_word_of : List Str := ["letters", "thing", "most", "letter"]
def d_is_word_of : DS DeckSt := dSeq (dIfS (dOr (dNot (dTr (dIsi "str" (dVar 1)))) (dB (dBin gtD (dCallB lenD (dCons (dVar 1) (dNil))) (dVar 2)))) (dRet (dC (.bl false))) (dNext))
  (dRet (dCallB allD (dCons (dF (dLc (gN 3) [3] [] (dWalk (dVar 1) walkD) (dYes) (dBin (inF false) (dVar 3) (dSl (dC (.str [97, 98, 99])) (dNoPart) (dPart (dVar 0)))))) (dNil))))
def m_is_word_of : List D → DeckSt → R DeckSt D := mOf 4 d_is_word_of
def t_is_word_of (letters : Int) (thing : D) (most : Int) : M Bool := fin none (ifT (orT (notT (un (dB1 (isiD "str")) (ret thing))) (bin oGt (un (dI1 lenD) (ret thing)) (ret most))) (mp .rt (ret false)) (mp .rt (un oAll (lc (un walkD (ret thing)) (fun a30 : D => (ret true)) fun a30 => (bin (dBo (inF false)) (ret a30) (mp D.str (sli oCut (ret ([97, 98, 99] : Wd)) (ret none) (mp some (ret letters)))))))))
theorem te_is_word_of (letters : Int) (thing : D) (most : Int) : ∀ s, RE D.bl (m_is_word_of [D.int letters, eA thing, D.int most] s) (t_is_word_of letters thing most s) := fin_ok (F := fun _ : Unit => List.replicate 4 none) (X := fun _ => True) (ds := d_is_word_of) (N := 4) (tb_to (ρ' := [some (.val (D.int letters)), some (.val (eA thing)), some (.val (D.int most)), none]) rfl (tb_if (tt_or (tt_not (tt_tr (te_isi i_D (te_var (e := eA) (a := thing) 1 (ls l0))))) (tt_b (te_bin o_gt (te_cb1 c_DI (te_var (e := eA) (a := thing) 1 (ls l0))) (te_var (e := D.int) (a := most) 2 (ls (ls l0)))))) trivial (tb_ret (te_c (e := D.bl) (a := false) rfl) trivial) (tb_next (tb_last (tb_ret (te_cb1 c_all (te_f (ta_lcC (ta_walk w_D (te_var (e := eA) (a := thing) 1 (ls l0))) (wf (ws w0 (ss (ss (ss s0))))) (fun _ => (gn (ss (ss (ss s0))))) (fun a30 => tt_yes) (fun a30 => (te_bin o_B (te_var (e := eA) (a := a30) 3 (ls (ls (ls l0)))) (te_up (te_sl sl_W (te_c (e := D.str) (a := ([97, 98, 99] : Wd)) rfl) tp_no (tp_some (te_var (e := D.int) (a := letters) 0 l0))))))))) trivial))))) (fun _ h => nomatch h)
abbrev N_is_word : List Str := ["thing"]
def d_is_word : DS DeckSt := dRet (dCall m_is_word_of (dCons (dCallB lenD (dCons (dC (.str [97, 98, 99])) (dNil))) (dCons (dVar 0) (dCons (dC (.int 12)) (dNil)))))
def m_is_word : List D → DeckSt → R DeckSt D := mOf 1 d_is_word
def t_is_word (thing : D) : M Bool := fin none (mp .rt (bnd (prd (un oLen (ret ([97, 98, 99] : Wd))) (prd (ret thing) (prd (ret (12 : Int)) (ret ())))) fun p : Int × D × Int × Unit => t_is_word_of p.1 p.2.1 p.2.2.1))
theorem te_is_word (thing : D) : ∀ s, RE D.bl (m_is_word [eA thing] s) (t_is_word thing s) := fin_ok (F := fun _ : Unit => List.replicate 1 none) (X := fun _ => True) (ds := d_is_word) (N := 1) (tb_to (ρ' := [some (.val (eA thing))]) rfl (tb_last (tb_ret (te_call (eb := D.bl) (ta_cons (te_cb1 c_lenW (te_c (e := D.str) (a := ([97, 98, 99] : Wd)) rfl)) (ta_cons (te_var (e := eA) (a := thing) 0 l0) (ta_cons (te_c (e := D.int) (a := (12 : Int)) rfl) ta_nil))) fun p => te_is_word_of p.1 p.2.1 p.2.2.1) trivial))) (fun _ h => nomatch h)
abbrev N_need_word : List Str := ["word"]
def d_need_word : DS DeckSt := dSeq (dIfS (dNot (dTr (dCall m_is_word (dCons (dVar 0) (dNil))))) (dRaise "BadWord") (dNext))
  (dForget [] (dNext))
def m_need_word : List D → DeckSt → R DeckSt D := mOf 1 d_need_word
def t_need_word (word : D) : M Unit := fin (some ()) (ifT (notT (bnd (prd (ret word) (ret ())) fun p : D × Unit => t_is_word p.1)) (exc "BadWord") (ret (.nx ())))
theorem te_need_word (word : D) : ∀ s, RE eN (m_need_word [eA word] s) (t_need_word word s) := fin_ok (F := fun _ : Unit => List.replicate 1 none) (X := fun _ => True) (ds := d_need_word) (N := 1) (tb_to (ρ' := [some (.val (eA word))]) rfl (tb_if (tt_not (tt_tr (te_call (eb := D.bl) (ta_cons (te_var (e := eA) (a := word) 0 l0) ta_nil) fun p => te_is_word p.1))) trivial (tb_raise trivial) (tb_next (tb_forgetC (fgt_m (m := [false]) (by decide +kernel) (.f Fm.n)) (tb_end () rfl))))) (fun _ h => by cases h; rfl)
abbrev N_need_words : List Str := ["word", "other"]
def d_need_words : DS DeckSt := dSeq (dDrop (dCall m_need_word (dCons (dVar 0) (dNil))))
  (dSeq (dIfS (dNot (dTr (dCall m_is_word (dCons (dVar 1) (dNil))))) (dRaise "BadOther") (dNext))
  (dForget [] (dNext)))
def m_need_words : List D → DeckSt → R DeckSt D := mOf 2 d_need_words
def t_need_words (word : D) (other : D) : M Unit := fin (some ()) (bnd (bnd (prd (ret word) (ret ())) fun p : D × Unit => t_need_word p.1) fun _ => (ifT (notT (bnd (prd (ret other) (ret ())) fun p : D × Unit => t_is_word p.1)) (exc "BadOther") (ret (.nx ()))))
theorem te_need_words (word : D) (other : D) : ∀ s, RE eN (m_need_words [eA word, eA other] s) (t_need_words word other s) := fin_ok (F := fun _ : Unit => List.replicate 2 none) (X := fun _ => True) (ds := d_need_words) (N := 2) (tb_to (ρ' := [some (.val (eA word)), some (.val (eA other))]) rfl (tb_drop (e := eN) (te_call (eb := eN) (ta_cons (te_var (e := eA) (a := word) 0 l0) ta_nil) fun p => te_need_word p.1) trivial fun _ => (tb_if (tt_not (tt_tr (te_call (eb := D.bl) (ta_cons (te_var (e := eA) (a := other) 1 (ls l0)) ta_nil) fun p => te_is_word p.1))) trivial (tb_raise trivial) (tb_next (tb_forgetC (fgt_m (m := [false, false]) (by decide +kernel) (.f (.f Fm.n))) (tb_end () rfl)))))) (fun _ h => by cases h; rfl)
abbrev N_leftmost_in : List Str := ["word", "other", "found", "start", "letter", "place"]
def L_leftmost_in_1 : DS DeckSt := dSeq (dAsg 5 [] (dV (dMb find2 (dVar 1) (dCons (dVar 4) (dCons (dVar 3) (dNil))))))
  (dSeq (dIfS (dB (dBin ltA (dVar 5) (dC (.int 0)))) (dRet (dC .non)) (dNext))
  (dSeq (dMeth 2 [] (dCons (dVar 5) (dNil)) fApp kDrop)
  (dSeq (dAsg 3 [] (dV (dBin addD (dVar 5) (dC (.int 1)))))
  (dForget [2, 1, 3, 0] (dNext)))))
def d_leftmost_in : DS DeckSt := dSeq (dPar 2 3 [] [] (dO (dLst (dNil))) (dV (dC (.int 0))))
  (dForget [2, 1, 3, 0] (dSeq (dFor (gN 4) [] (dWalk (dVar 0) walkD) L_leftmost_in_1)
  (dRet (dOwn 2))))
def m_leftmost_in : List D → DeckSt → R DeckSt D := mOf 6 d_leftmost_in
def b_leftmost_in_1 (other : Wd) (a35 : Wd) (st34 : ((List Int) × Int)) : M (Fl ((List Int) × Int) (Option (List Int))) := (bnd (bin oFind2 (ret other) (prd (ret a35) (prd (ret st34.2) (ret ())))) fun place36 : Int => (ifT (bin oLt (ret place36) (ret (0 : Int))) (mp .rt (mp (fun _ : Unit => (none : Option (List Int))) (ret ()))) (bnd (un (oApp st34.1) (prd (ret place36) (ret ()))) fun u37 : (List Int) × Unit => (bnd (bin oAdd (ret place36) (ret (1 : Int))) fun start38 : Int => (ret (.nx (u37.1, start38)))))))
def t_leftmost_in (word : Wd) (other : Wd) : M (Option (List Int)) := fin (some none) (bnd (mp (fun p : Unit => ([] : List Int)) (ret ())) fun found32 : (List Int) => bnd (ret (0 : Int)) fun start33 : Int => (bnd (un oSigns (ret word)) fun l => thn (forT (b_leftmost_in_1 other) l (found32, start33)) fun st34 => (mp .rt (mp some (ret st34.1)))))
theorem te_leftmost_in (word : Wd) (other : Wd) : ∀ s, RE (eO (eL D.int)) (m_leftmost_in [D.str word, D.str other] s) (t_leftmost_in word other s) := fin_ok (F := fun _ : Unit => List.replicate 6 none) (X := fun _ => True) (ds := d_leftmost_in) (N := 6) (tb_to (ρ' := [some (.val (D.str word)), some (.val (D.str other)), none, none, none, none]) rfl (tb_parGC (ev := (fun v => Sl.own (List.map D.int v))) (ew := (fun v => Sl.val (D.int v))) (ρ1 := [some (.val (D.str word)), some (.val (D.str other)), none, none, none, none]) (ρ2 := [some (.val (D.str word)), some (.val (D.str other)), none, none, none, none]) (re_o (ta_lst (ek := List.map D.int) ta_nil (fun _ => Nat.le_of_ble_eq_true rfl) fun _ => rfl)) (fun _ => fz0) (re_v (te_c (e := D.int) (a := (0 : Int)) rfl)) (fun _ => fz0) trivial trivial (fun _ => (ss (ss s0))) (fun _ _ => (ss (ss (ss s0)))) fun found32 start33 => (tb_forgetC (fgt_m (m := [true, true, true, true, false, false]) (by decide +kernel) (.t (.t (.t (.t (.f (.f Fm.n))))))) (tb_for (e := D.str) (F0 := (fun st34 : ((List Int) × Int) => [some (.val (D.str word)), some (.val (D.str other)), some (.own (List.map D.int st34.1)), some (.val (D.int st34.2)), none, none])) (body := b_leftmost_in_1 other) (found32, start33) (ta_walk w_W (te_var (e := D.str) (a := word) 0 l0)) (fnl rfl) (fun _ _ => (gn (ss (ss (ss (ss s0)))))) (fun a35 st34 => (tb_asgC (e := D.int) (te_mb m_find2 (te_var (e := D.str) (a := other) 1 (ls l0)) (ta_cons (te_var (e := D.str) (a := a35) 4 (ls (ls (ls (ls l0))))) (ta_cons (te_var (e := D.int) (a := st34.2) 3 (ls (ls (ls l0)))) ta_nil))) trivial (fun _ => (ss (ss (ss (ss (ss s0)))))) fun place36 => (tb_if (tt_b (te_bin o_ltA (te_var (e := D.int) (a := place36) 5 (ls (ls (ls (ls (ls l0)))))) (te_c (e := D.int) (a := (0 : Int)) rfl))) trivial (tb_ret (te_mp (te_c (e := eN) (a := ()) rfl) fun _ => rfl) trivial) (tb_next (tb_meth0 (e0 := D.int) (e1 := D.int) (ed := eN) (l := st34.1) (ls (ls l0)) ml_app (fun _ _ => (kd (ss (ss s0)))) (ta_cons (te_var (e := D.int) (a := place36) 5 (ls (ls (ls (ls (ls l0)))))) ta_nil) trivial fun u37 => (tb_asgC (e := D.int) (te_bin o_add (te_var (e := D.int) (a := place36) 5 (ls (ls (ls (ls (ls l0)))))) (te_c (e := D.int) (a := (1 : Int)) rfl)) trivial (fun _ => (ss (ss (ss s0)))) fun start38 => (tb_forgetC (fgt_m (m := [true, true, true, true, false, false]) (by decide +kernel) (.t (.t (.t (.t (.f (.f Fm.n))))))) (tb_end (u37.1, start38) rfl)))))))) trivial fun st34 => (tb_last (tb_ret (te_mp (te_own (e := D.int) (l := st34.1) 2 (ls (ls l0))) fun _ => rfl) trivial)))))) (fun _ h => by cases h; rfl)
abbrev N_leftmost_places : List Str := ["word", "other", "found"]
def d_leftmost_places : DS DeckSt := dSeq (dDrop (dCall m_need_words (dCons (dVar 0) (dCons (dVar 1) (dNil)))))
  (dSeq (dAsg 2 [] (dV (dCall m_leftmost_in (dCons (dVar 0) (dCons (dVar 1) (dNil))))))
  (dRet (dIf (dB (dBin (isF false) (dVar 2) (dC .non))) (dC .non) (dCallB tupleD (dCons (dVar 2) (dNil))))))
def m_leftmost_places : List D → DeckSt → R DeckSt D := mOf 3 d_leftmost_places
def t_leftmost_places (word : D) (other : D) : M (Option (List Int)) := fin (some none) (bnd (bnd (prd (ret word) (prd (ret other) (ret ()))) fun p : D × D × Unit => t_need_words p.1 p.2.1) fun _ => (bnd (lft (fW word)) fun word40 : Wd => (bnd (lft (fW other)) fun other41 : Wd => (bnd (bnd (prd (ret word40) (prd (ret other41) (ret ()))) fun p : Wd × Wd × Unit => t_leftmost_in p.1 p.2.1) fun found42 : (Option (List Int)) => (mp .rt (ifT (bin oIsN (ret found42) (ret ())) (mp (fun _ : Unit => (none : Option (List Int))) (ret ())) (mp some (un oId (bnd (ret found42) fun o => lft o)))))))))
theorem te_leftmost_places (word : D) (other : D) : ∀ s, RE (eO (eR D.int)) (m_leftmost_places [eA word, eA other] s) (t_leftmost_places word other s) := fin_ok (F := fun _ : Unit => List.replicate 3 none) (X := fun _ => True) (ds := d_leftmost_places) (N := 3) (tb_to (ρ' := [some (.val (eA word)), some (.val (eA other)), none]) rfl (tb_drop (e := eN) (te_call (eb := eN) (ta_cons (te_var (e := eA) (a := word) 0 l0) (ta_cons (te_var (e := eA) (a := other) 1 (ls l0)) ta_nil)) fun p => te_need_words p.1 p.2.1) trivial fun _ => (tb_narrow (e := D.str) (ρ2 := fun word40 => [some (.val (D.str word40)), some (.val (eA other)), none]) dec_W (fun _ h => by subst h; rfl) fun word40 => (tb_narrow (e := D.str) (ρ2 := fun other41 => [some (.val (D.str word40)), some (.val (D.str other41)), none]) dec_W (fun _ h => by subst h; rfl) fun other41 => (tb_asgC (e := (eO (eL D.int))) (te_call (eb := (eO (eL D.int))) (ta_cons (te_var (e := D.str) (a := word40) 0 l0) (ta_cons (te_var (e := D.str) (a := other41) 1 (ls l0)) ta_nil)) fun p => te_leftmost_in p.1 p.2.1) trivial (fun _ => (ss (ss s0))) fun found42 => (tb_last (tb_ret (te_if (tt_b (te_bin (o_isN nn_L) (te_var (e := (eO (eL D.int))) (a := found42) 2 (ls (ls l0))) (te_c (e := eN) (a := ()) rfl))) (te_mp (te_c (e := eN) (a := ()) rfl) fun _ => rfl) (te_mp (te_cb1 c_tupL (te_down (f := fun o => o) (te_var (e := (eO (eL D.int))) (a := found42) 2 (ls (ls l0))) (by intro a b h; cases a <;> cases h; rfl))) fun _ => rfl)) trivial))))))) (fun _ h => by cases h; rfl)
abbrev N_rightmost_in : List Str := ["word", "other", "found", "place"]
def d_rightmost_in : DS DeckSt := dSeq (dAsg 2 [] (dV (dCall m_leftmost_in (dCons (dUn revD (dVar 0)) (dCons (dUn revD (dVar 1)) (dNil))))))
  (dSeq (dIfS (dB (dBin (isF false) (dVar 2) (dC .non))) (dRet (dC .non)) (dNext))
  (dRet (dF (dLc (gN 3) [3] [] (dWalk (dVar 2) revW) (dYes) (dBin subD (dBin subD (dCallB lenD (dCons (dVar 1) (dNil))) (dC (.int 1))) (dVar 3))))))
def m_rightmost_in : List D → DeckSt → R DeckSt D := mOf 4 d_rightmost_in
def t_rightmost_in (word : Wd) (other : Wd) : M (Option (List Int)) := fin (some none) (bnd (bnd (prd (un oRev (ret word)) (prd (un oRev (ret other)) (ret ()))) fun p : Wd × Wd × Unit => t_leftmost_in p.1 p.2.1) fun found43 : (Option (List Int)) => (ifT (bin oIsN (ret found43) (ret ())) (mp .rt (mp (fun _ : Unit => (none : Option (List Int))) (ret ()))) (mp .rt (mp some (lc (un oRev (bnd (ret found43) fun o => lft o)) (fun a44 : Int => (ret true)) fun a44 => (bin oSub (bin oSub (un oLen (ret other)) (ret (1 : Int))) (ret a44)))))))
theorem te_rightmost_in (word : Wd) (other : Wd) : ∀ s, RE (eO (eL D.int)) (m_rightmost_in [D.str word, D.str other] s) (t_rightmost_in word other s) := fin_ok (F := fun _ : Unit => List.replicate 4 none) (X := fun _ => True) (ds := d_rightmost_in) (N := 4) (tb_to (ρ' := [some (.val (D.str word)), some (.val (D.str other)), none, none]) rfl (tb_asgC (e := (eO (eL D.int))) (te_call (eb := (eO (eL D.int))) (ta_cons (te_un u_revW (te_var (e := D.str) (a := word) 0 l0)) (ta_cons (te_un u_revW (te_var (e := D.str) (a := other) 1 (ls l0))) ta_nil)) fun p => te_leftmost_in p.1 p.2.1) trivial (fun _ => (ss (ss s0))) fun found43 => (tb_if (tt_b (te_bin (o_isN nn_L) (te_var (e := (eO (eL D.int))) (a := found43) 2 (ls (ls l0))) (te_c (e := eN) (a := ()) rfl))) trivial (tb_ret (te_mp (te_c (e := eN) (a := ()) rfl) fun _ => rfl) trivial) (tb_next (tb_last (tb_ret (te_mp (te_f (ta_lcC (ta_walk w_revL (te_down (f := fun o => o) (te_var (e := (eO (eL D.int))) (a := found43) 2 (ls (ls l0))) (by intro a b h; cases a <;> cases h; rfl))) (wf (ws w0 (ss (ss (ss s0))))) (fun _ => (gn (ss (ss (ss s0))))) (fun a44 => tt_yes) (fun a44 => (te_bin o_sub (te_bin o_sub (te_cb1 c_lenW (te_var (e := D.str) (a := other) 1 (ls l0))) (te_c (e := D.int) (a := (1 : Int)) rfl)) (te_var (e := D.int) (a := a44) 3 (ls (ls (ls l0)))))))) fun _ => rfl) trivial)))))) (fun _ h => by cases h; rfl)
abbrev N_rightmost_places : List Str := ["word", "other", "found"]
def d_rightmost_places : DS DeckSt := dSeq (dDrop (dCall m_need_words (dCons (dVar 0) (dCons (dVar 1) (dNil)))))
  (dSeq (dAsg 2 [] (dV (dCall m_rightmost_in (dCons (dVar 0) (dCons (dVar 1) (dNil))))))
  (dRet (dIf (dB (dBin (isF false) (dVar 2) (dC .non))) (dC .non) (dCallB tupleD (dCons (dVar 2) (dNil))))))
def m_rightmost_places : List D → DeckSt → R DeckSt D := mOf 3 d_rightmost_places
def t_rightmost_places (word : D) (other : D) : M (Option (List Int)) := fin (some none) (bnd (bnd (prd (ret word) (prd (ret other) (ret ()))) fun p : D × D × Unit => t_need_words p.1 p.2.1) fun _ => (bnd (lft (fW word)) fun word46 : Wd => (bnd (lft (fW other)) fun other47 : Wd => (bnd (bnd (prd (ret word46) (prd (ret other47) (ret ()))) fun p : Wd × Wd × Unit => t_rightmost_in p.1 p.2.1) fun found48 : (Option (List Int)) => (mp .rt (ifT (bin oIsN (ret found48) (ret ())) (mp (fun _ : Unit => (none : Option (List Int))) (ret ())) (mp some (un oId (bnd (ret found48) fun o => lft o)))))))))
theorem te_rightmost_places (word : D) (other : D) : ∀ s, RE (eO (eR D.int)) (m_rightmost_places [eA word, eA other] s) (t_rightmost_places word other s) := fin_ok (F := fun _ : Unit => List.replicate 3 none) (X := fun _ => True) (ds := d_rightmost_places) (N := 3) (tb_to (ρ' := [some (.val (eA word)), some (.val (eA other)), none]) rfl (tb_drop (e := eN) (te_call (eb := eN) (ta_cons (te_var (e := eA) (a := word) 0 l0) (ta_cons (te_var (e := eA) (a := other) 1 (ls l0)) ta_nil)) fun p => te_need_words p.1 p.2.1) trivial fun _ => (tb_narrow (e := D.str) (ρ2 := fun word46 => [some (.val (D.str word46)), some (.val (eA other)), none]) dec_W (fun _ h => by subst h; rfl) fun word46 => (tb_narrow (e := D.str) (ρ2 := fun other47 => [some (.val (D.str word46)), some (.val (D.str other47)), none]) dec_W (fun _ h => by subst h; rfl) fun other47 => (tb_asgC (e := (eO (eL D.int))) (te_call (eb := (eO (eL D.int))) (ta_cons (te_var (e := D.str) (a := word46) 0 l0) (ta_cons (te_var (e := D.str) (a := other47) 1 (ls l0)) ta_nil)) fun p => te_rightmost_in p.1 p.2.1) trivial (fun _ => (ss (ss s0))) fun found48 => (tb_last (tb_ret (te_if (tt_b (te_bin (o_isN nn_L) (te_var (e := (eO (eL D.int))) (a := found48) 2 (ls (ls l0))) (te_c (e := eN) (a := ()) rfl))) (te_mp (te_c (e := eN) (a := ()) rfl) fun _ => rfl) (te_mp (te_cb1 c_tupL (te_down (f := fun o => o) (te_var (e := (eO (eL D.int))) (a := found48) 2 (ls (ls l0))) (by intro a b h; cases a <;> cases h; rfl))) fun _ => rfl)) trivial))))))) (fun _ h => by cases h; rfl)
abbrev N__law_right : List Str := ["word", "other", "found", "end", "sign", "places", "place"]
def L__law_right_1 : DS DeckSt := dSeq (dAsg 5 [] (dV (dF (dLc (gN 6) [6] [] (dRng rng1 (dCons (dVar 3) (dNil))) (dB (dBin eqO (dBin ixD (dVar 1) (dVar 6)) (dVar 4))) (dVar 6)))))
  (dSeq (dIfS (dB (dBin eqO (dVar 5) (dF (dLst (dNil))))) (dRet (dC .non)) (dNext))
  (dSeq (dAsg 3 [] (dV (dBin ixD (dVar 5) (dUn negD (dC (.int 1))))))
  (dSeq (dMeth 2 [] (dCons (dVar 3) (dNil)) fApp kDrop)
  (dForget [3, 2, 1, 0] (dNext)))))
def d__law_right : DS DeckSt := dSeq (dPar 2 3 [] [] (dO (dLst (dNil))) (dV (dCallB lenD (dCons (dVar 1) (dNil)))))
  (dForget [3, 2, 1, 0] (dSeq (dFor (gN 4) [] (dWalk (dUn revD (dVar 0)) walkD) L__law_right_1)
  (dRet (dCallB tupleD (dCons (dUn revD (dOwn 2)) (dNil))))))
def m__law_right : List D → DeckSt → R DeckSt D := mOf 7 d__law_right
def b__law_right_1 (other : Wd) (a52 : Wd) (st51 : (Int × (List Int))) : M (Fl (Int × (List Int)) (Option (List Int))) := (bnd (lc (un oRng1 (prd (ret st51.1) (ret ()))) (fun a53 : Int => (bin oEq (bin oIxW (ret other) (ret a53)) (ret a52))) fun a53 => (ret a53)) fun places54 : (List Int) => (ifT (bin oEq (ret places54) (mp (fun p : Unit => ([] : List Int)) (ret ()))) (mp .rt (mp (fun _ : Unit => (none : Option (List Int))) (ret ()))) (bnd (bin atI (ret places54) (un oNeg (ret (1 : Int)))) fun end55 : Int => (bnd (un (oApp st51.2) (prd (ret end55) (ret ()))) fun u56 : (List Int) × Unit => (ret (.nx (end55, u56.1)))))))
def t__law_right (word : Wd) (other : Wd) : M (Option (List Int)) := fin (some none) (bnd (mp (fun p : Unit => ([] : List Int)) (ret ())) fun found49 : (List Int) => bnd (un oLen (ret other)) fun end50 : Int => (bnd (un oSigns (un oRev (ret word))) fun l => thn (forT (b__law_right_1 other) l (end50, found49)) fun st51 => (mp .rt (mp some (un oId (un oRev (ret st51.2)))))))
theorem te__law_right (word : Wd) (other : Wd) : ∀ s, RE (eO (eR D.int)) (m__law_right [D.str word, D.str other] s) (t__law_right word other s) := fin_ok (F := fun _ : Unit => List.replicate 7 none) (X := fun _ => True) (ds := d__law_right) (N := 7) (tb_to (ρ' := [some (.val (D.str word)), some (.val (D.str other)), none, none, none, none, none]) rfl (tb_parGC (ev := (fun v => Sl.own (List.map D.int v))) (ew := (fun v => Sl.val (D.int v))) (ρ1 := [some (.val (D.str word)), some (.val (D.str other)), none, none, none, none, none]) (ρ2 := [some (.val (D.str word)), some (.val (D.str other)), none, none, none, none, none]) (re_o (ta_lst (ek := List.map D.int) ta_nil (fun _ => Nat.le_of_ble_eq_true rfl) fun _ => rfl)) (fun _ => fz0) (re_v (te_cb1 c_lenW (te_var (e := D.str) (a := other) 1 (ls l0)))) (fun _ => fz0) trivial trivial (fun _ => (ss (ss s0))) (fun _ _ => (ss (ss (ss s0)))) fun found49 end50 => (tb_forgetC (fgt_m (m := [true, true, true, true, false, false, false]) (by decide +kernel) (.t (.t (.t (.t (.f (.f (.f Fm.n)))))))) (tb_for (e := D.str) (F0 := (fun st51 : (Int × (List Int)) => [some (.val (D.str word)), some (.val (D.str other)), some (.own (List.map D.int st51.2)), some (.val (D.int st51.1)), none, none, none])) (body := b__law_right_1 other) (end50, found49) (ta_walk w_W (te_un u_revW (te_var (e := D.str) (a := word) 0 l0))) (fnl rfl) (fun _ _ => (gn (ss (ss (ss (ss s0)))))) (fun a52 st51 => (tb_asgC (e := (eL D.int)) (te_f (ta_lcC (ta_rng w_rng1 (ta_cons (te_var (e := D.int) (a := st51.1) 3 (ls (ls (ls l0)))) ta_nil)) (wf (ws w0 (ss (ss (ss (ss (ss (ss s0)))))))) (fun _ => (gn (ss (ss (ss (ss (ss (ss s0)))))))) (fun a53 => (tt_b (te_bin (o_eq eqk_W (by decide)) (te_bin o_ixW (te_var (e := D.str) (a := other) 1 (ls l0)) (te_var (e := D.int) (a := a53) 6 (ls (ls (ls (ls (ls (ls l0)))))))) (te_var (e := D.str) (a := a52) 4 (ls (ls (ls (ls l0)))))))) (fun a53 => (te_var (e := D.int) (a := a53) 6 (ls (ls (ls (ls (ls (ls l0)))))))))) trivial (fun _ => (ss (ss (ss (ss (ss s0)))))) fun places54 => (tb_if (tt_b (te_bin (o_eq (eqk_L eqk_I) (by decide)) (te_var (e := (eL D.int)) (a := places54) 5 (ls (ls (ls (ls (ls l0)))))) (te_f (ta_lst (ek := List.map D.int) ta_nil (fun _ => Nat.le_of_ble_eq_true rfl) fun _ => rfl)))) trivial (tb_ret (te_mp (te_c (e := eN) (a := ()) rfl) fun _ => rfl) trivial) (tb_next (tb_asgC (e := D.int) (te_bin o_ixL (te_var (e := (eL D.int)) (a := places54) 5 (ls (ls (ls (ls (ls l0)))))) (te_un u_neg (te_c (e := D.int) (a := (1 : Int)) rfl))) trivial (fun _ => (ss (ss (ss s0)))) fun end55 => (tb_meth0 (e0 := D.int) (e1 := D.int) (ed := eN) (l := st51.2) (ls (ls l0)) ml_app (fun _ _ => (kd (ss (ss s0)))) (ta_cons (te_var (e := D.int) (a := end55) 3 (ls (ls (ls l0)))) ta_nil) trivial fun u56 => (tb_forgetC (fgt_m (m := [true, true, true, true, false, false, false]) (by decide +kernel) (.t (.t (.t (.t (.f (.f (.f Fm.n)))))))) (tb_end (end55, u56.1) rfl)))))))) trivial fun st51 => (tb_last (tb_ret (te_mp (te_cb1 c_tupL (te_un u_revL (te_own (e := D.int) (l := st51.2) 2 (ls (ls l0))))) fun _ => rfl) trivial)))))) (fun _ h => by cases h; rfl)
abbrev N__law_same : List Str := ["told", "due", "waiting", "one", "two", "k"]
def L__law_same_1 : DS DeckSt := dSeq (dMeth 2 [] dNil fPop (gT 2 (gsCons (gN 3) (gsCons (gN 4) (gsNil)))))
  (dSeq (dIfS (dTr (dIsi "tuple" (dVar 4))) (dSeq (dIfS (dOr (dNot (dTr (dIsi "tuple" (dVar 3)))) (dB (dBin neO (dCallB lenD (dCons (dVar 3) (dNil))) (dCallB lenD (dCons (dVar 4) (dNil)))))) (dRet (dC (.bl false))) (dNext))
  (dMeth 2 [] (dCons (dF (dLc (gN 5) [5] [] (dRng rng1 (dCons (dCallB lenD (dCons (dVar 4) (dNil))) (dNil))) (dYes) (dTup (dCons (dBin ixD (dVar 3) (dVar 5)) (dCons (dBin ixD (dVar 4) (dVar 5)) (dNil)))))) (dNil)) fExt kDrop)) (dIfS (dB (dBin (isF false) (dVar 4) (dC .non))) (dIfS (dB (dBin (isF true) (dVar 3) (dC .non))) (dRet (dC (.bl false))) (dNext)) (dIfS (dTr (dIsi "bool" (dVar 4))) (dIfS (dOr (dNot (dTr (dIsi "bool" (dVar 3)))) (dB (dBin neO (dVar 3) (dVar 4)))) (dRet (dC (.bl false))) (dNext)) (dIfS (dTr (dIsi "str" (dVar 4))) (dIfS (dOr (dNot (dTr (dIsi "str" (dVar 3)))) (dB (dBin neO (dVar 3) (dVar 4)))) (dRet (dC (.bl false))) (dNext)) (dIfS (dOr (dNot (dTr (dIsi "int" (dVar 3)))) (dOr (dTr (dIsi "bool" (dVar 3))) (dB (dBin neO (dVar 3) (dVar 4))))) (dRet (dC (.bl false))) (dNext))))))
  (dForget [2] (dNext)))
def Q__law_same_2 : DT DeckSt := dB (dBin neO (dOwn 2) (dF (dLst (dNil))))
def d__law_same : DS DeckSt := dSeq (dAsg 2 [] (dO (dLst (dCons (dTup (dCons (dVar 0) (dCons (dVar 1) (dNil)))) (dNil)))))
  (dForget [2] (dSeq (dWhile whileFuel Q__law_same_2 L__law_same_1)
  (dRet (dC (.bl true)))))
def m__law_same : List D → DeckSt → R DeckSt D := mOf 6 d__law_same
def q__law_same_1 (st58 : (List (D × D))) : M Bool := (bin (dBo neO) (mp (eL (e2 eA eA)) (ret st58)) (mp (eL (e2 eA eA)) (mp (fun p : Unit => ([] : List (D × D))) (ret ()))))
def b__law_same_1 (st58 : (List (D × D))) : M (Fl (List (D × D)) Bool) := (bnd (un (oPop st58) (ret ())) fun u59 : (List (D × D)) × (D × D) => (ifT (un (dB1 (isiD "tuple")) (ret u59.2.2)) (ifT (orT (notT (un (dB1 (isiD "tuple")) (ret u59.2.1))) (bin oNe (un (dI1 lenD) (ret u59.2.1)) (un (dI1 lenD) (ret u59.2.2)))) (mp .rt (ret false)) (bnd (un (oExt u59.1) (prd (lc (un oRng1 (prd (un (dI1 lenD) (ret u59.2.2)) (ret ()))) (fun a60 : Int => (ret true)) fun a60 => (mp (fun p : D × D × Unit => (p.1, p.2.1)) (prd (bin ixD (ret u59.2.1) (mp D.int (ret a60))) (prd (bin ixD (ret u59.2.2) (mp D.int (ret a60))) (ret ()))))) (ret ()))) fun u61 : (List (D × D)) × Unit => (ret (.nx u61.1)))) (ifT (bin (dBo (isF false)) (ret u59.2.2) (mp eN (ret ()))) (ifT (bin (dBo (isF true)) (ret u59.2.1) (mp eN (ret ()))) (mp .rt (ret false)) (ret (.nx u59.1))) (ifT (un (dB1 (isiD "bool")) (ret u59.2.2)) (ifT (orT (notT (un (dB1 (isiD "bool")) (ret u59.2.1))) (bin (dBo neO) (ret u59.2.1) (ret u59.2.2))) (mp .rt (ret false)) (ret (.nx u59.1))) (ifT (un (dB1 (isiD "str")) (ret u59.2.2)) (ifT (orT (notT (un (dB1 (isiD "str")) (ret u59.2.1))) (bin (dBo neO) (ret u59.2.1) (ret u59.2.2))) (mp .rt (ret false)) (ret (.nx u59.1))) (ifT (orT (notT (un (dB1 (isiD "int")) (ret u59.2.1))) (orT (un (dB1 (isiD "bool")) (ret u59.2.1)) (bin (dBo neO) (ret u59.2.1) (ret u59.2.2)))) (mp .rt (ret false)) (ret (.nx u59.1))))))))
def t__law_same (told : D) (due : D) : M Bool := fin none (bnd (mp (fun p : (D × D) × Unit => ([p.1] : List (D × D))) (prd (mp (fun p : D × D × Unit => (p.1, p.2.1)) (prd (ret told) (prd (ret due) (ret ())))) (ret ()))) fun waiting57 : (List (D × D)) => (thn (whT (q__law_same_1) (b__law_same_1) whileFuel waiting57) fun st58 => (mp .rt (ret true))))
theorem te__law_same (told : D) (due : D) : ∀ s, RE D.bl (m__law_same [eA told, eA due] s) (t__law_same told due s) := fin_ok (F := fun _ : Unit => List.replicate 6 none) (X := fun _ => True) (ds := d__law_same) (N := 6) (tb_to (ρ' := [some (.val (eA told)), some (.val (eA due)), none, none, none, none]) rfl (tb_asgOC (ρ1 := [some (.val (eA told)), some (.val (eA due)), none, none, none, none]) (ta_lst (ek := List.map (e2 eA eA)) (ta_cons (te_tup (eb := (e2 eA eA)) (ta_cons (te_var (e := eA) (a := told) 0 l0) (ta_cons (te_var (e := eA) (a := due) 1 (ls l0)) ta_nil)) (fun _ => Nat.le_of_ble_eq_true rfl) fun _ => rfl) ta_nil) (fun _ => Nat.le_of_ble_eq_true rfl) fun _ => rfl) trivial (fnl rfl) (fun _ => (ss (ss s0))) fun waiting57 => (tb_forgetC (fgt_m (m := [false, false, true, false, false, false]) (by decide +kernel) (.f (.f (.t (.f (.f (.f Fm.n))))))) (tb_while (F0 := (fun st58 : (List (D × D)) => [none, none, some (.own (List.map (e2 eA eA) st58)), none, none, none])) (tc := q__law_same_1) (body := b__law_same_1) waiting57 rfl (fun _ => trivial) (fun st58 => (tt_b (te_bin o_B (te_up (te_own (e := (e2 eA eA)) (l := st58) 2 (ls (ls l0)))) (te_up (te_f (ta_lst (ek := List.map (e2 eA eA)) ta_nil (fun _ => Nat.le_of_ble_eq_true rfl) fun _ => rfl)))))) (fun st58 => (tb_meth0 (e0 := (e2 eA eA)) (e1 := (e2 eA eA)) (ed := (e2 eA eA)) (l := st58) (ls (ls l0)) ml_pop (fun _ _ => (gA (ss (ss s0)) (gt rfl (gc (gn (ss (ss (ss s0)))) (gc (gn (ss (ss (ss (ss s0))))) gz))))) ta_nil trivial fun u59 => (tb_if (tt_tr (te_isi i_D (te_var (e := eA) (a := u59.2.2) 4 (ls (ls (ls (ls l0))))))) trivial (tb_assoc (tb_if (tt_or (tt_not (tt_tr (te_isi i_D (te_var (e := eA) (a := u59.2.1) 3 (ls (ls (ls l0))))))) (tt_b (te_bin (o_ne eqk_I (by decide)) (te_cb1 c_DI (te_var (e := eA) (a := u59.2.1) 3 (ls (ls (ls l0))))) (te_cb1 c_DI (te_var (e := eA) (a := u59.2.2) 4 (ls (ls (ls (ls l0))))))))) trivial (tb_ret (te_c (e := D.bl) (a := false) rfl) trivial) (tb_next (tb_meth0 (e0 := (e2 eA eA)) (e1 := (e2 eA eA)) (ed := eN) (l := u59.1) (ls (ls l0)) ml_ext (fun _ _ => (kd (ss (ss s0)))) (ta_cons (te_f (ta_lcC (ta_rng w_rng1 (ta_cons (te_cb1 c_DI (te_var (e := eA) (a := u59.2.2) 4 (ls (ls (ls (ls l0)))))) ta_nil)) (wf (ws w0 (ss (ss (ss (ss (ss s0))))))) (fun _ => (gn (ss (ss (ss (ss (ss s0))))))) (fun a60 => tt_yes) (fun a60 => (te_tup (eb := (e2 eA eA)) (ta_cons (te_bin o_D (te_var (e := eA) (a := u59.2.1) 3 (ls (ls (ls l0)))) (te_up (te_var (e := D.int) (a := a60) 5 (ls (ls (ls (ls (ls l0)))))))) (ta_cons (te_bin o_D (te_var (e := eA) (a := u59.2.2) 4 (ls (ls (ls (ls l0))))) (te_up (te_var (e := D.int) (a := a60) 5 (ls (ls (ls (ls (ls l0)))))))) ta_nil)) (fun _ => Nat.le_of_ble_eq_true rfl) fun _ => rfl)))) ta_nil) trivial fun u61 => (tb_forgetC (fgt_m (m := [false, false, true, false, false, false]) (by decide +kernel) (.f (.f (.t (.f (.f (.f Fm.n))))))) (tb_end u61.1 rfl)))))) (tb_if (tt_b (te_bin o_B (te_var (e := eA) (a := u59.2.2) 4 (ls (ls (ls (ls l0))))) (te_up (te_c (e := eN) (a := ()) rfl)))) trivial (tb_if (tt_b (te_bin o_B (te_var (e := eA) (a := u59.2.1) 3 (ls (ls (ls l0)))) (te_up (te_c (e := eN) (a := ()) rfl)))) trivial (tb_ret (te_c (e := D.bl) (a := false) rfl) trivial) (tb_next (tb_forgetC (fgt_m (m := [false, false, true, false, false, false]) (by decide +kernel) (.f (.f (.t (.f (.f (.f Fm.n))))))) (tb_end u59.1 rfl)))) (tb_if (tt_tr (te_isi i_D (te_var (e := eA) (a := u59.2.2) 4 (ls (ls (ls (ls l0))))))) trivial (tb_if (tt_or (tt_not (tt_tr (te_isi i_D (te_var (e := eA) (a := u59.2.1) 3 (ls (ls (ls l0))))))) (tt_b (te_bin o_B (te_var (e := eA) (a := u59.2.1) 3 (ls (ls (ls l0)))) (te_var (e := eA) (a := u59.2.2) 4 (ls (ls (ls (ls l0)))))))) trivial (tb_ret (te_c (e := D.bl) (a := false) rfl) trivial) (tb_next (tb_forgetC (fgt_m (m := [false, false, true, false, false, false]) (by decide +kernel) (.f (.f (.t (.f (.f (.f Fm.n))))))) (tb_end u59.1 rfl)))) (tb_if (tt_tr (te_isi i_D (te_var (e := eA) (a := u59.2.2) 4 (ls (ls (ls (ls l0))))))) trivial (tb_if (tt_or (tt_not (tt_tr (te_isi i_D (te_var (e := eA) (a := u59.2.1) 3 (ls (ls (ls l0))))))) (tt_b (te_bin o_B (te_var (e := eA) (a := u59.2.1) 3 (ls (ls (ls l0)))) (te_var (e := eA) (a := u59.2.2) 4 (ls (ls (ls (ls l0)))))))) trivial (tb_ret (te_c (e := D.bl) (a := false) rfl) trivial) (tb_next (tb_forgetC (fgt_m (m := [false, false, true, false, false, false]) (by decide +kernel) (.f (.f (.t (.f (.f (.f Fm.n))))))) (tb_end u59.1 rfl)))) (tb_if (tt_or (tt_not (tt_tr (te_isi i_D (te_var (e := eA) (a := u59.2.1) 3 (ls (ls (ls l0))))))) (tt_or (tt_tr (te_isi i_D (te_var (e := eA) (a := u59.2.1) 3 (ls (ls (ls l0)))))) (tt_b (te_bin o_B (te_var (e := eA) (a := u59.2.1) 3 (ls (ls (ls l0)))) (te_var (e := eA) (a := u59.2.2) 4 (ls (ls (ls (ls l0))))))))) trivial (tb_ret (te_c (e := D.bl) (a := false) rfl) trivial) (tb_next (tb_forgetC (fgt_m (m := [false, false, true, false, false, false]) (by decide +kernel) (.f (.f (.t (.f (.f (.f Fm.n))))))) (tb_end u59.1 rfl)))))))))) fun st58 => (tb_last (tb_ret (te_c (e := D.bl) (a := true) rfl) trivial)))))) (fun _ h => nomatch h)
abbrev N_lies_in : List Str := ["word", "other", "start", "letter"]
def L_lies_in_1 : DS DeckSt := dSeq (dAsg 2 [] (dV (dBin addD (dMb find2 (dVar 1) (dCons (dVar 3) (dCons (dVar 2) (dNil)))) (dC (.int 1)))))
  (dSeq (dIfS (dB (dBin eqO (dVar 2) (dC (.int 0)))) (dRet (dC (.bl false))) (dNext))
  (dForget [1, 2, 0] (dNext)))
def d_lies_in : DS DeckSt := dSeq (dAsg 2 [] (dV (dC (.int 0))))
  (dForget [1, 2, 0] (dSeq (dFor (gN 3) [] (dWalk (dVar 0) walkD) L_lies_in_1)
  (dRet (dC (.bl true)))))
def m_lies_in : List D → DeckSt → R DeckSt D := mOf 4 d_lies_in
def b_lies_in_1 (other : Wd) (a64 : Wd) (st63 : Int) : M (Fl Int Bool) := (bnd (bin oAdd (bin oFind2 (ret other) (prd (ret a64) (prd (ret st63) (ret ())))) (ret (1 : Int))) fun start65 : Int => (ifT (bin oEq (ret start65) (ret (0 : Int))) (mp .rt (ret false)) (ret (.nx start65))))
def t_lies_in (word : Wd) (other : Wd) : M Bool := fin none (bnd (ret (0 : Int)) fun start62 : Int => (bnd (un oSigns (ret word)) fun l => thn (forT (b_lies_in_1 other) l start62) fun st63 => (mp .rt (ret true))))
theorem te_lies_in (word : Wd) (other : Wd) : ∀ s, RE D.bl (m_lies_in [D.str word, D.str other] s) (t_lies_in word other s) := fin_ok (F := fun _ : Unit => List.replicate 4 none) (X := fun _ => True) (ds := d_lies_in) (N := 4) (tb_to (ρ' := [some (.val (D.str word)), some (.val (D.str other)), none, none]) rfl (tb_asgC (e := D.int) (te_c (e := D.int) (a := (0 : Int)) rfl) trivial (fun _ => (ss (ss s0))) fun start62 => (tb_forgetC (fgt_m (m := [true, true, true, false]) (by decide +kernel) (.t (.t (.t (.f Fm.n))))) (tb_for (e := D.str) (F0 := (fun st63 : Int => [some (.val (D.str word)), some (.val (D.str other)), some (.val (D.int st63)), none])) (body := b_lies_in_1 other) start62 (ta_walk w_W (te_var (e := D.str) (a := word) 0 l0)) (fnl rfl) (fun _ _ => (gn (ss (ss (ss s0))))) (fun a64 st63 => (tb_asgC (e := D.int) (te_bin o_add (te_mb m_find2 (te_var (e := D.str) (a := other) 1 (ls l0)) (ta_cons (te_var (e := D.str) (a := a64) 3 (ls (ls (ls l0)))) (ta_cons (te_var (e := D.int) (a := st63) 2 (ls (ls l0))) ta_nil))) (te_c (e := D.int) (a := (1 : Int)) rfl)) trivial (fun _ => (ss (ss s0))) fun start65 => (tb_if (tt_b (te_bin (o_eq eqk_I (by decide)) (te_var (e := D.int) (a := start65) 2 (ls (ls l0))) (te_c (e := D.int) (a := (0 : Int)) rfl))) trivial (tb_ret (te_c (e := D.bl) (a := false) rfl) trivial) (tb_next (tb_forgetC (fgt_m (m := [true, true, true, false]) (by decide +kernel) (.t (.t (.t (.f Fm.n))))) (tb_end start65 rfl)))))) trivial fun st63 => (tb_last (tb_ret (te_c (e := D.bl) (a := true) rfl) trivial)))))) (fun _ h => nomatch h)
abbrev N_is_subword : List Str := ["word", "other"]
def d_is_subword : DS DeckSt := dSeq (dDrop (dCall m_need_words (dCons (dVar 0) (dCons (dVar 1) (dNil)))))
  (dRet (dCall m_lies_in (dCons (dVar 0) (dCons (dVar 1) (dNil)))))
def m_is_subword : List D → DeckSt → R DeckSt D := mOf 2 d_is_subword
def t_is_subword (word : D) (other : D) : M Bool := fin none (bnd (bnd (prd (ret word) (prd (ret other) (ret ()))) fun p : D × D × Unit => t_need_words p.1 p.2.1) fun _ => (bnd (lft (fW word)) fun word67 : Wd => (bnd (lft (fW other)) fun other68 : Wd => (mp .rt (bnd (prd (ret word67) (prd (ret other68) (ret ()))) fun p : Wd × Wd × Unit => t_lies_in p.1 p.2.1)))))
theorem te_is_subword (word : D) (other : D) : ∀ s, RE D.bl (m_is_subword [eA word, eA other] s) (t_is_subword word other s) := fin_ok (F := fun _ : Unit => List.replicate 2 none) (X := fun _ => True) (ds := d_is_subword) (N := 2) (tb_to (ρ' := [some (.val (eA word)), some (.val (eA other))]) rfl (tb_drop (e := eN) (te_call (eb := eN) (ta_cons (te_var (e := eA) (a := word) 0 l0) (ta_cons (te_var (e := eA) (a := other) 1 (ls l0)) ta_nil)) fun p => te_need_words p.1 p.2.1) trivial fun _ => (tb_narrow (e := D.str) (ρ2 := fun word67 => [some (.val (D.str word67)), some (.val (eA other))]) dec_W (fun _ h => by subst h; rfl) fun word67 => (tb_narrow (e := D.str) (ρ2 := fun other68 => [some (.val (D.str word67)), some (.val (D.str other68))]) dec_W (fun _ h => by subst h; rfl) fun other68 => (tb_last (tb_ret (te_call (eb := D.bl) (ta_cons (te_var (e := D.str) (a := word67) 0 l0) (ta_cons (te_var (e := D.str) (a := other68) 1 (ls l0)) ta_nil)) fun p => te_lies_in p.1 p.2.1) trivial)))))) (fun _ h => nomatch h)
abbrev N_ways_in : List Str := ["word", "other", "counts", "letter", "index"]
def L_ways_in_1 : DS DeckSt := dSeq (dIfS (dB (dBin eqO (dBin ixD (dVar 0) (dVar 4)) (dVar 3))) (dAugO 2 (dBin addD (dVar 4) (dC (.int 1))) (dIxO 2 (dVar 4))) (dNext))
  (dForget [2, 3, 1, 0] (dNext))
def L_ways_in_2 : DS DeckSt := dForget [2, 3, 1, 0] (dSeq (dFor (gN 4) [] (dRng rng3 (dCons (dBin subD (dCallB lenD (dCons (dVar 0) (dNil))) (dC (.int 1))) (dCons (dUn negD (dC (.int 1))) (dCons (dUn negD (dC (.int 1))) (dNil))))) L_ways_in_1)
  (dForget [2, 1, 0] (dNext)))
def d_ways_in : DS DeckSt := dSeq (dDrop (dCall m_need_words (dCons (dVar 0) (dCons (dVar 1) (dNil)))))
  (dSeq (dAsg 2 [] (dO (dBinL catL (dF (dLst (dCons (dC (.int 1)) (dNil)))) (dBin repD (dF (dLst (dCons (dC (.int 0)) (dNil)))) (dCallB lenD (dCons (dVar 0) (dNil)))))))
  (dForget [2, 1, 0] (dSeq (dFor (gN 3) [] (dWalk (dVar 1) walkD) L_ways_in_2)
  (dRet (dIxO 2 (dUn negD (dC (.int 1))))))))
def m_ways_in : List D → DeckSt → R DeckSt D := mOf 5 d_ways_in
def b_ways_in_1 (word70 : Wd) (a74 : Wd) (a76 : Int) (st75 : (List Int)) : M (Fl (List Int) Int) := (ifT (bin oEq (bin oIxW (ret word70) (ret a76)) (ret a74)) (bnd (augT st75 (bin oAdd (ret a76) (ret (1 : Int))) (un (atI st75) (ret a76))) fun counts77 : (List Int) => (ret (.nx counts77))) (ret (.nx st75)))
def b_ways_in_2 (word70 : Wd) (a74 : Wd) (st73 : (List Int)) : M (Fl (List Int) Int) := (bnd (un oRng3 (prd (bin oSub (un oLen (ret word70)) (ret (1 : Int))) (prd (un oNeg (ret (1 : Int))) (prd (un oNeg (ret (1 : Int))) (ret ()))))) fun l => thn (forT (b_ways_in_1 word70 a74) l st73) fun st75 => (ret (.nx st75)))
def t_ways_in (word : D) (other : D) : M Int := fin none (bnd (bnd (prd (ret word) (prd (ret other) (ret ()))) fun p : D × D × Unit => t_need_words p.1 p.2.1) fun _ => (bnd (lft (fW word)) fun word70 : Wd => (bnd (lft (fW other)) fun other71 : Wd => (bnd (bin oApd (mp (fun p : Int × Unit => ([p.1] : List Int)) (prd (ret (1 : Int)) (ret ()))) (bin oRep (mp (fun p : Int × Unit => ([p.1] : List Int)) (prd (ret (0 : Int)) (ret ()))) (un oLen (ret word70)))) fun counts72 : (List Int) => (bnd (un oSigns (ret other71)) fun l => thn (forT (b_ways_in_2 word70) l counts72) fun st73 => (mp .rt (un (atI st73) (un oNeg (ret (1 : Int))))))))))
theorem te_ways_in (word : D) (other : D) : ∀ s, RE D.int (m_ways_in [eA word, eA other] s) (t_ways_in word other s) := fin_ok (F := fun _ : Unit => List.replicate 5 none) (X := fun _ => True) (ds := d_ways_in) (N := 5) (tb_to (ρ' := [some (.val (eA word)), some (.val (eA other)), none, none, none]) rfl (tb_drop (e := eN) (te_call (eb := eN) (ta_cons (te_var (e := eA) (a := word) 0 l0) (ta_cons (te_var (e := eA) (a := other) 1 (ls l0)) ta_nil)) fun p => te_need_words p.1 p.2.1) trivial fun _ => (tb_narrow (e := D.str) (ρ2 := fun word70 => [some (.val (D.str word70)), some (.val (eA other)), none, none, none]) dec_W (fun _ h => by subst h; rfl) fun word70 => (tb_narrow (e := D.str) (ρ2 := fun other71 => [some (.val (D.str word70)), some (.val (D.str other71)), none, none, none]) dec_W (fun _ h => by subst h; rfl) fun other71 => (tb_asgOC (ρ1 := [some (.val (D.str word70)), some (.val (D.str other71)), none, none, none]) (ta_binL o_catL (te_f (ta_lst (ek := List.map D.int) (ta_cons (te_c (e := D.int) (a := (1 : Int)) rfl) ta_nil) (fun _ => Nat.le_of_ble_eq_true rfl) fun _ => rfl)) (te_bin o_repDL (te_f (ta_lst (ek := List.map D.int) (ta_cons (te_c (e := D.int) (a := (0 : Int)) rfl) ta_nil) (fun _ => Nat.le_of_ble_eq_true rfl) fun _ => rfl)) (te_cb1 c_lenW (te_var (e := D.str) (a := word70) 0 l0)))) trivial (fnl rfl) (fun _ => (ss (ss s0))) fun counts72 => (tb_forgetC (fgt_m (m := [true, true, true, false, false]) (by decide +kernel) (.t (.t (.t (.f (.f Fm.n)))))) (tb_for (e := D.str) (F0 := (fun st73 : (List Int) => [some (.val (D.str word70)), some (.val (D.str other71)), some (.own (List.map D.int st73)), none, none])) (body := b_ways_in_2 word70) counts72 (ta_walk w_W (te_var (e := D.str) (a := other71) 1 (ls l0))) (fnl rfl) (fun _ _ => (gn (ss (ss (ss s0))))) (fun a74 st73 => (tb_forgetC (fgt_m (m := [true, true, true, true, false]) (by decide +kernel) (.t (.t (.t (.t (.f Fm.n)))))) (tb_for (e := D.int) (F0 := (fun st75 : (List Int) => [some (.val (D.str word70)), some (.val (D.str other71)), some (.own (List.map D.int st75)), some (.val (D.str a74)), none])) (body := b_ways_in_1 word70 a74) st73 (ta_rng w_rng3 (ta_cons (te_bin o_sub (te_cb1 c_lenW (te_var (e := D.str) (a := word70) 0 l0)) (te_c (e := D.int) (a := (1 : Int)) rfl)) (ta_cons (te_un u_neg (te_c (e := D.int) (a := (1 : Int)) rfl)) (ta_cons (te_un u_neg (te_c (e := D.int) (a := (1 : Int)) rfl)) ta_nil)))) (fnl rfl) (fun _ _ => (gn (ss (ss (ss (ss s0)))))) (fun a76 st75 => (tb_if (tt_b (te_bin (o_eq eqk_W (by decide)) (te_bin o_ixW (te_var (e := D.str) (a := word70) 0 l0) (te_var (e := D.int) (a := a76) 4 (ls (ls (ls (ls l0)))))) (te_var (e := D.str) (a := a74) 3 (ls (ls (ls l0)))))) trivial (tb_augo (l := st75) (ls (ls l0)) (te_bin o_add (te_var (e := D.int) (a := a76) 4 (ls (ls (ls (ls l0))))) (te_c (e := D.int) (a := (1 : Int)) rfl)) (te_ixo (ea := D.int) (l := st75) 2 (ls (ls l0)) (te_var (e := D.int) (a := a76) 4 (ls (ls (ls (ls l0)))))) trivial (fun _ => (ss (ss s0))) fun counts77 => (tb_forgetC (fgt_m (m := [true, true, true, true, false]) (by decide +kernel) (.t (.t (.t (.t (.f Fm.n)))))) (tb_end counts77 rfl))) (tb_next (tb_forgetC (fgt_m (m := [true, true, true, true, false]) (by decide +kernel) (.t (.t (.t (.t (.f Fm.n)))))) (tb_end st75 rfl))))) trivial fun st75 => (tb_forgetC (fgt_m (m := [true, true, true, false, false]) (by decide +kernel) (.t (.t (.t (.f (.f Fm.n)))))) (tb_end st75 rfl))))) trivial fun st73 => (tb_last (tb_ret (te_ixo (ea := D.int) (l := st73) 2 (ls (ls l0)) (te_un u_neg (te_c (e := D.int) (a := (1 : Int)) rfl))) trivial))))))))) (fun _ h => nomatch h)
abbrev N_rest_before : List Str := ["word", "other", "found"]
def d_rest_before : DS DeckSt := dSeq (dDrop (dCall m_need_words (dCons (dVar 0) (dCons (dVar 1) (dNil)))))
  (dSeq (dAsg 2 [] (dV (dCall m_rightmost_in (dCons (dVar 0) (dCons (dVar 1) (dNil))))))
  (dSeq (dIfS (dB (dBin (isF false) (dVar 2) (dC .non))) (dRet (dC .non)) (dNext))
  (dRet (dIf (dB (dBin eqO (dVar 2) (dF (dLst (dNil))))) (dVar 1) (dSl (dVar 1) (dNoPart) (dPart (dBin ixD (dVar 2) (dC (.int 0)))))))))
def m_rest_before : List D → DeckSt → R DeckSt D := mOf 3 d_rest_before
def t_rest_before (word : D) (other : D) : M (Option Wd) := fin (some none) (bnd (bnd (prd (ret word) (prd (ret other) (ret ()))) fun p : D × D × Unit => t_need_words p.1 p.2.1) fun _ => (bnd (lft (fW word)) fun word79 : Wd => (bnd (lft (fW other)) fun other80 : Wd => (bnd (bnd (prd (ret word79) (prd (ret other80) (ret ()))) fun p : Wd × Wd × Unit => t_rightmost_in p.1 p.2.1) fun found81 : (Option (List Int)) => (ifT (bin oIsN (ret found81) (ret ())) (mp .rt (mp (fun _ : Unit => (none : Option Wd)) (ret ()))) (mp .rt (ifT (bin oEq (bnd (ret found81) fun o => lft o) (mp (fun p : Unit => ([] : List Int)) (ret ()))) (mp some (ret other80)) (mp some (sli oCut (ret other80) (ret none) (mp some (bin atI (bnd (ret found81) fun o => lft o) (ret (0 : Int)))))))))))))
theorem te_rest_before (word : D) (other : D) : ∀ s, RE (eO D.str) (m_rest_before [eA word, eA other] s) (t_rest_before word other s) := fin_ok (F := fun _ : Unit => List.replicate 3 none) (X := fun _ => True) (ds := d_rest_before) (N := 3) (tb_to (ρ' := [some (.val (eA word)), some (.val (eA other)), none]) rfl (tb_drop (e := eN) (te_call (eb := eN) (ta_cons (te_var (e := eA) (a := word) 0 l0) (ta_cons (te_var (e := eA) (a := other) 1 (ls l0)) ta_nil)) fun p => te_need_words p.1 p.2.1) trivial fun _ => (tb_narrow (e := D.str) (ρ2 := fun word79 => [some (.val (D.str word79)), some (.val (eA other)), none]) dec_W (fun _ h => by subst h; rfl) fun word79 => (tb_narrow (e := D.str) (ρ2 := fun other80 => [some (.val (D.str word79)), some (.val (D.str other80)), none]) dec_W (fun _ h => by subst h; rfl) fun other80 => (tb_asgC (e := (eO (eL D.int))) (te_call (eb := (eO (eL D.int))) (ta_cons (te_var (e := D.str) (a := word79) 0 l0) (ta_cons (te_var (e := D.str) (a := other80) 1 (ls l0)) ta_nil)) fun p => te_rightmost_in p.1 p.2.1) trivial (fun _ => (ss (ss s0))) fun found81 => (tb_if (tt_b (te_bin (o_isN nn_L) (te_var (e := (eO (eL D.int))) (a := found81) 2 (ls (ls l0))) (te_c (e := eN) (a := ()) rfl))) trivial (tb_ret (te_mp (te_c (e := eN) (a := ()) rfl) fun _ => rfl) trivial) (tb_next (tb_last (tb_ret (te_if (tt_b (te_bin (o_eq (eqk_L eqk_I) (by decide)) (te_down (f := fun o => o) (te_var (e := (eO (eL D.int))) (a := found81) 2 (ls (ls l0))) (by intro a b h; cases a <;> cases h; rfl)) (te_f (ta_lst (ek := List.map D.int) ta_nil (fun _ => Nat.le_of_ble_eq_true rfl) fun _ => rfl)))) (te_mp (te_var (e := D.str) (a := other80) 1 (ls l0)) fun _ => rfl) (te_mp (te_sl sl_W (te_var (e := D.str) (a := other80) 1 (ls l0)) tp_no (tp_some (te_bin o_ixL (te_down (f := fun o => o) (te_var (e := (eO (eL D.int))) (a := found81) 2 (ls (ls l0))) (by intro a b h; cases a <;> cases h; rfl)) (te_c (e := D.int) (a := (0 : Int)) rfl)))) fun _ => rfl)) trivial))))))))) (fun _ h => by cases h; rfl)
abbrev N_rest_behind : List Str := ["word", "other", "found"]
def d_rest_behind : DS DeckSt := dSeq (dDrop (dCall m_need_words (dCons (dVar 0) (dCons (dVar 1) (dNil)))))
  (dSeq (dAsg 2 [] (dV (dCall m_leftmost_in (dCons (dVar 0) (dCons (dVar 1) (dNil))))))
  (dSeq (dIfS (dB (dBin (isF false) (dVar 2) (dC .non))) (dRet (dC .non)) (dNext))
  (dRet (dIf (dB (dBin eqO (dVar 2) (dF (dLst (dNil))))) (dVar 1) (dSl (dVar 1) (dPart (dBin addD (dBin ixD (dVar 2) (dUn negD (dC (.int 1)))) (dC (.int 1)))) (dNoPart))))))
def m_rest_behind : List D → DeckSt → R DeckSt D := mOf 3 d_rest_behind
def t_rest_behind (word : D) (other : D) : M (Option Wd) := fin (some none) (bnd (bnd (prd (ret word) (prd (ret other) (ret ()))) fun p : D × D × Unit => t_need_words p.1 p.2.1) fun _ => (bnd (lft (fW word)) fun word83 : Wd => (bnd (lft (fW other)) fun other84 : Wd => (bnd (bnd (prd (ret word83) (prd (ret other84) (ret ()))) fun p : Wd × Wd × Unit => t_leftmost_in p.1 p.2.1) fun found85 : (Option (List Int)) => (ifT (bin oIsN (ret found85) (ret ())) (mp .rt (mp (fun _ : Unit => (none : Option Wd)) (ret ()))) (mp .rt (ifT (bin oEq (bnd (ret found85) fun o => lft o) (mp (fun p : Unit => ([] : List Int)) (ret ()))) (mp some (ret other84)) (mp some (sli oCut (ret other84) (mp some (bin oAdd (bin atI (bnd (ret found85) fun o => lft o) (un oNeg (ret (1 : Int)))) (ret (1 : Int)))) (ret none))))))))))
theorem te_rest_behind (word : D) (other : D) : ∀ s, RE (eO D.str) (m_rest_behind [eA word, eA other] s) (t_rest_behind word other s) := fin_ok (F := fun _ : Unit => List.replicate 3 none) (X := fun _ => True) (ds := d_rest_behind) (N := 3) (tb_to (ρ' := [some (.val (eA word)), some (.val (eA other)), none]) rfl (tb_drop (e := eN) (te_call (eb := eN) (ta_cons (te_var (e := eA) (a := word) 0 l0) (ta_cons (te_var (e := eA) (a := other) 1 (ls l0)) ta_nil)) fun p => te_need_words p.1 p.2.1) trivial fun _ => (tb_narrow (e := D.str) (ρ2 := fun word83 => [some (.val (D.str word83)), some (.val (eA other)), none]) dec_W (fun _ h => by subst h; rfl) fun word83 => (tb_narrow (e := D.str) (ρ2 := fun other84 => [some (.val (D.str word83)), some (.val (D.str other84)), none]) dec_W (fun _ h => by subst h; rfl) fun other84 => (tb_asgC (e := (eO (eL D.int))) (te_call (eb := (eO (eL D.int))) (ta_cons (te_var (e := D.str) (a := word83) 0 l0) (ta_cons (te_var (e := D.str) (a := other84) 1 (ls l0)) ta_nil)) fun p => te_leftmost_in p.1 p.2.1) trivial (fun _ => (ss (ss s0))) fun found85 => (tb_if (tt_b (te_bin (o_isN nn_L) (te_var (e := (eO (eL D.int))) (a := found85) 2 (ls (ls l0))) (te_c (e := eN) (a := ()) rfl))) trivial (tb_ret (te_mp (te_c (e := eN) (a := ()) rfl) fun _ => rfl) trivial) (tb_next (tb_last (tb_ret (te_if (tt_b (te_bin (o_eq (eqk_L eqk_I) (by decide)) (te_down (f := fun o => o) (te_var (e := (eO (eL D.int))) (a := found85) 2 (ls (ls l0))) (by intro a b h; cases a <;> cases h; rfl)) (te_f (ta_lst (ek := List.map D.int) ta_nil (fun _ => Nat.le_of_ble_eq_true rfl) fun _ => rfl)))) (te_mp (te_var (e := D.str) (a := other84) 1 (ls l0)) fun _ => rfl) (te_mp (te_sl sl_W (te_var (e := D.str) (a := other84) 1 (ls l0)) (tp_some (te_bin o_add (te_bin o_ixL (te_down (f := fun o => o) (te_var (e := (eO (eL D.int))) (a := found85) 2 (ls (ls l0))) (by intro a b h; cases a <;> cases h; rfl)) (te_un u_neg (te_c (e := D.int) (a := (1 : Int)) rfl))) (te_c (e := D.int) (a := (1 : Int)) rfl))) tp_no) fun _ => rfl)) trivial))))))))) (fun _ h => by cases h; rfl)
abbrev N__law_near : List Str := ["deck", "row", "other", "found", "at", "one"]
def L__law_near_1 : DS DeckSt := dSeq (dMeth 3 [] (dCons (dBin addD (dBin addD (dSl (dVar 1) (dNoPart) (dPart (dVar 4))) (dTup (dCons (dVar 5) (dNil)))) (dSl (dVar 1) (dPart (dBin addD (dVar 4) (dC (.int 1)))) (dNoPart))) (dNil)) fApp kDrop)
  (dForget [4, 3, 2, 1] (dNext))
def d__law_near : DS DeckSt := dSeq (dAsg 3 [] (dO (dLst (dCons (dF (dListOf (dVar 1))) (dCons (dBin addD (dVar 1) (dTup (dCons (dC (.int 0)) (dNil)))) (dCons (dSl (dVar 1) (dNoPart) (dPart (dUn negD (dC (.int 1))))) (dCons (dUn revD (dVar 1)) (dCons (dC .non) (dCons (dC (.int 0)) (dCons (dC (.str [])) (dCons (dBin addD (dVar 1) (dTup (dCons (dCallB lenD (dCons (dVar 2) (dNil))) (dNil)))) (dNil))))))))))))
  (dSeq (dIfS (dB (dBin neO (dVar 1) (dTup (dNil)))) (dSeq (dAsg 4 [] (dV (dCall m__law_pick (dCons (dVar 0) (dCons (dCallB lenD (dCons (dVar 1) (dNil))) (dNil))))))
  (dForget [4, 3, 2, 1] (dFor (gN 5) [] (dWalk (dF (dLst (dCons (dBin addD (dBin ixD (dVar 1) (dVar 4)) (dC (.int 1))) (dCons (dBin subD (dBin ixD (dVar 1) (dVar 4)) (dC (.int 1))) (dCons (dUn negD (dC (.int 1))) (dCons (dCallB lenD (dCons (dVar 2) (dNil))) (dCons (dC (.bl true)) (dCons (dC (.bl false)) (dCons (dC .non) (dNil)))))))))) walkD) L__law_near_1))) (dNext))
  (dRet (dOwn 3)))
def m__law_near : List D → DeckSt → R DeckSt D := mOf 6 d__law_near
def b__law_near_1 (row : (List Int)) (at87 : Int) (a89 : D) (st88 : (List D)) : M (Fl (List D) (List D)) := (bnd (un (oApp st88) (prd (bin addD (bin addD (mp (eR D.int) (sli oCut (ret row) (ret none) (mp some (ret at87)))) (mp (e1 eA) (mp (fun p : D × Unit => p.1) (prd (ret a89) (ret ()))))) (mp (eR D.int) (sli oCut (ret row) (mp some (bin oAdd (ret at87) (ret (1 : Int)))) (ret none)))) (ret ()))) fun u90 : (List D) × Unit => (ret (.nx u90.1)))
def t__law_near (deck : Unit) (row : (List Int)) (other : Wd) : M (List D) := fin none (bnd (mp (fun p : D × D × D × D × D × D × D × D × Unit => ([p.1, p.2.1, p.2.2.1, p.2.2.2.1, p.2.2.2.2.1, p.2.2.2.2.2.1, p.2.2.2.2.2.2.1, p.2.2.2.2.2.2.2.1] : List D)) (prd (mp (eL D.int) (un oTo (ret row))) (prd (mp (eR D.int) (bin oApd (ret row) (mp (fun p : Int × Unit => ([p.1] : List Int)) (prd (ret (0 : Int)) (ret ()))))) (prd (mp (eR D.int) (sli oCut (ret row) (ret none) (mp some (un oNeg (ret (1 : Int)))))) (prd (mp (eR D.int) (un oRev (ret row))) (prd (mp eN (ret ())) (prd (mp D.int (ret (0 : Int))) (prd (mp D.str (ret ([] : Wd))) (prd (mp (eR D.int) (bin oApd (ret row) (mp (fun p : Int × Unit => ([p.1] : List Int)) (prd (un oLen (ret other)) (ret ()))))) (ret ())))))))))) fun found86 : (List D) => (ifT (bin oNe (ret row) (mp (fun p : Unit => ([] : List Int)) (ret ()))) (bnd (bnd (prd (ret deck) (prd (un oLen (ret row)) (ret ()))) fun p : Unit × Int × Unit => t_pick p.1 p.2.1) fun at87 : Int => (bnd (un oId (mp (fun p : D × D × D × D × D × D × D × Unit => ([p.1, p.2.1, p.2.2.1, p.2.2.2.1, p.2.2.2.2.1, p.2.2.2.2.2.1, p.2.2.2.2.2.2.1] : List D)) (prd (mp D.int (bin oAdd (bin atI (ret row) (ret at87)) (ret (1 : Int)))) (prd (mp D.int (bin oSub (bin atI (ret row) (ret at87)) (ret (1 : Int)))) (prd (mp D.int (un oNeg (ret (1 : Int)))) (prd (mp D.int (un oLen (ret other))) (prd (mp D.bl (ret true)) (prd (mp D.bl (ret false)) (prd (mp eN (ret ())) (ret ())))))))))) fun l => thn (forT (b__law_near_1 row at87) l found86) fun st88 => (mp .rt (ret st88)))) (mp .rt (ret found86))))
theorem te__law_near (deck : Unit) (row : (List Int)) (other : Wd) : ∀ s, RE (eL eA) (m__law_near [eK deck, (eR D.int) row, D.str other] s) (t__law_near deck row other s) := fin_ok (F := fun _ : Unit => List.replicate 6 none) (X := fun _ => True) (ds := d__law_near) (N := 6) (tb_to (ρ' := [some (.val (eK deck)), some (.val ((eR D.int) row)), some (.val (D.str other)), none, none, none]) rfl (tb_asgOC (ρ1 := [some (.val (eK deck)), some (.val ((eR D.int) row)), some (.val (D.str other)), none, none, none]) (ta_lst (ek := List.map eA) (ta_cons (te_up (te_f (ta_listOf l_ofR (te_var (e := (eR D.int)) (a := row) 1 (ls l0))))) (ta_cons (te_up (te_bin o_apdR (te_var (e := (eR D.int)) (a := row) 1 (ls l0)) (te_tup (ta_cons (te_c (e := D.int) (a := (0 : Int)) rfl) ta_nil) (fun _ => Nat.le_of_ble_eq_true rfl) fun _ => rfl))) (ta_cons (te_up (te_sl sl_R (te_var (e := (eR D.int)) (a := row) 1 (ls l0)) tp_no (tp_some (te_un u_neg (te_c (e := D.int) (a := (1 : Int)) rfl))))) (ta_cons (te_up (te_un u_revR (te_var (e := (eR D.int)) (a := row) 1 (ls l0)))) (ta_cons (te_up (te_c (e := eN) (a := ()) rfl)) (ta_cons (te_up (te_c (e := D.int) (a := (0 : Int)) rfl)) (ta_cons (te_up (te_c (e := D.str) (a := ([] : Wd)) rfl)) (ta_cons (te_up (te_bin o_apdR (te_var (e := (eR D.int)) (a := row) 1 (ls l0)) (te_tup (ta_cons (te_cb1 c_lenW (te_var (e := D.str) (a := other) 2 (ls (ls l0)))) ta_nil) (fun _ => Nat.le_of_ble_eq_true rfl) fun _ => rfl))) ta_nil)))))))) (fun _ => Nat.le_of_ble_eq_true rfl) fun _ => rfl) trivial (fnl rfl) (fun _ => (ss (ss (ss s0)))) fun found86 => (tb_if (tt_b (te_bin (o_ne (eqk_R eqk_I) (by decide)) (te_var (e := (eR D.int)) (a := row) 1 (ls l0)) (te_tup ta_nil (fun _ => Nat.le_of_ble_eq_true rfl) fun _ => rfl))) trivial (tb_assoc (tb_asgC (e := D.int) (te_call (eb := D.int) (ta_cons (te_var (e := eK) (a := deck) 0 l0) (ta_cons (te_cb1 c_lenR (te_var (e := (eR D.int)) (a := row) 1 (ls l0))) ta_nil)) fun p => pick_ok p.1 p.2.1) trivial (fun _ => (ss (ss (ss (ss s0))))) fun at87 => (tb_forgetSC (fgt_m (m := [false, true, true, true, true, false]) (by decide +kernel) (.f (.t (.t (.t (.t (.f Fm.n))))))) (tb_for (e := eA) (F0 := (fun st88 : (List D) => [none, some (.val ((eR D.int) row)), some (.val (D.str other)), some (.own (List.map eA st88)), some (.val (D.int at87)), none])) (body := b__law_near_1 row at87) found86 (ta_walk w_L (te_f (ta_lst (ek := List.map eA) (ta_cons (te_up (te_bin o_add (te_bin o_ixR (te_var (e := (eR D.int)) (a := row) 1 (ls l0)) (te_var (e := D.int) (a := at87) 4 (ls (ls (ls (ls l0)))))) (te_c (e := D.int) (a := (1 : Int)) rfl))) (ta_cons (te_up (te_bin o_sub (te_bin o_ixR (te_var (e := (eR D.int)) (a := row) 1 (ls l0)) (te_var (e := D.int) (a := at87) 4 (ls (ls (ls (ls l0)))))) (te_c (e := D.int) (a := (1 : Int)) rfl))) (ta_cons (te_up (te_un u_neg (te_c (e := D.int) (a := (1 : Int)) rfl))) (ta_cons (te_up (te_cb1 c_lenW (te_var (e := D.str) (a := other) 2 (ls (ls l0))))) (ta_cons (te_up (te_c (e := D.bl) (a := true) rfl)) (ta_cons (te_up (te_c (e := D.bl) (a := false) rfl)) (ta_cons (te_up (te_c (e := eN) (a := ()) rfl)) ta_nil))))))) (fun _ => Nat.le_of_ble_eq_true rfl) fun _ => rfl))) (fnl rfl) (fun _ _ => (gn (ss (ss (ss (ss (ss s0))))))) (fun a89 st88 => (tb_meth0 (e0 := eA) (e1 := eA) (ed := eN) (l := st88) (ls (ls (ls l0))) ml_app (fun _ _ => (kd (ss (ss (ss s0))))) (ta_cons (te_bin o_D (te_bin o_D (te_up (te_sl sl_R (te_var (e := (eR D.int)) (a := row) 1 (ls l0)) tp_no (tp_some (te_var (e := D.int) (a := at87) 4 (ls (ls (ls (ls l0)))))))) (te_up (te_tup (eb := (e1 eA)) (ta_cons (te_var (e := eA) (a := a89) 5 (ls (ls (ls (ls (ls l0)))))) ta_nil) (fun _ => Nat.le_of_ble_eq_true rfl) fun _ => rfl))) (te_up (te_sl sl_R (te_var (e := (eR D.int)) (a := row) 1 (ls l0)) (tp_some (te_bin o_add (te_var (e := D.int) (a := at87) 4 (ls (ls (ls (ls l0))))) (te_c (e := D.int) (a := (1 : Int)) rfl))) tp_no))) ta_nil) trivial fun u90 => (tb_forgetC (fgt_m (m := [false, true, true, true, true, false]) (by decide +kernel) (.f (.t (.t (.t (.t (.f Fm.n))))))) (tb_end u90.1 rfl)))) trivial fun st88 => (tb_last (tb_ret (te_own (e := eA) (l := st88) 3 (ls (ls (ls l0)))) trivial)))))) (tb_next (tb_last (tb_ret (te_own (e := eA) (l := found86) 3 (ls (ls (ls l0)))) trivial)))))) (fun _ h => nomatch h)
abbrev N__law_is_int : List Str := ["thing"]
def d__law_is_int : DS DeckSt := dRet (dAndV (dIsi "int" (dVar 0)) (dNotV (dIsi "bool" (dVar 0))))
def m__law_is_int : List D → DeckSt → R DeckSt D := mOf 1 d__law_is_int
def t__law_is_int (thing : D) : M Bool := fin none (mp .rt (andT (un (dB1 (isiD "int")) (ret thing)) (notT (un (dB1 (isiD "bool")) (ret thing)))))
theorem te__law_is_int (thing : D) : ∀ s, RE D.bl (m__law_is_int [eA thing] s) (t__law_is_int thing s) := fin_ok (F := fun _ : Unit => List.replicate 1 none) (X := fun _ => True) (ds := d__law_is_int) (N := 1) (tb_to (ρ' := [some (.val (eA thing))]) rfl (tb_last (tb_ret (te_and (te_isi i_D (te_var (e := eA) (a := thing) 0 l0)) (te_not (te_isi i_D (te_var (e := eA) (a := thing) 0 l0)))) trivial))) (fun _ h => nomatch h)
abbrev N__law_judge : List Str := ["word", "other", "thing", "k"]
def L__law_judge_1 : DS DeckSt := dSeq (dIfS (dOr (dNot (dTr (dCall m__law_is_int (dCons (dBin ixD (dVar 2) (dVar 3)) (dNil))))) (dOr (dNot (dB (dChain leD ltA (dC (.int 0)) (dBin ixD (dVar 2) (dVar 3)) (dCallB lenD (dCons (dVar 1) (dNil)))))) (dB (dBin neO (dBin ixD (dVar 1) (dBin ixD (dVar 2) (dVar 3))) (dBin ixD (dVar 0) (dVar 3)))))) (dRet (dC (.bl false))) (dNext))
  (dSeq (dIfS (dAnd (dB (dBin gtD (dVar 3) (dC (.int 0)))) (dB (dBin leD (dBin ixD (dVar 2) (dVar 3)) (dBin ixD (dVar 2) (dBin subD (dVar 3) (dC (.int 1))))))) (dRet (dC (.bl false))) (dNext))
  (dForget [1, 2, 0] (dNext)))
def d__law_judge : DS DeckSt := dSeq (dIfS (dOr (dNot (dTr (dIsi "tuple" (dVar 2)))) (dB (dBin neO (dCallB lenD (dCons (dVar 2) (dNil))) (dCallB lenD (dCons (dVar 0) (dNil)))))) (dRet (dC (.bl false))) (dNext))
  (dForget [1, 2, 0] (dSeq (dFor (gN 3) [] (dRng rng1 (dCons (dCallB lenD (dCons (dVar 2) (dNil))) (dNil))) L__law_judge_1)
  (dRet (dC (.bl true)))))
def m__law_judge : List D → DeckSt → R DeckSt D := mOf 4 d__law_judge
def b__law_judge_1 (word : Wd) (other : Wd) (thing : D) (a92 : Int) (st91 : Unit) : M (Fl Unit Bool) := (ifT (orT (notT (bnd (prd (bin ixD (ret thing) (mp D.int (ret a92))) (ret ())) fun p : D × Unit => t__law_is_int p.1)) (orT (notT (chn (dBo leD) (dBo ltA) (mp D.int (ret (0 : Int))) (bin ixD (ret thing) (mp D.int (ret a92))) (mp D.int (un oLen (ret other))))) (bin oNe (bin oIxW (ret other) (bnd (bin ixD (ret thing) (mp D.int (ret a92))) fun d => lft (fI' d))) (bin oIxW (ret word) (ret a92))))) (mp .rt (ret false)) (ifT (andT (bin oGt (ret a92) (ret (0 : Int))) (bin (dBo leD) (bin ixD (ret thing) (mp D.int (ret a92))) (bin ixD (ret thing) (mp D.int (bin oSub (ret a92) (ret (1 : Int))))))) (mp .rt (ret false)) (ret (.nx ()))))
def t__law_judge (word : Wd) (other : Wd) (thing : D) : M Bool := fin none (ifT (orT (notT (un (dB1 (isiD "tuple")) (ret thing))) (bin oNe (un (dI1 lenD) (ret thing)) (un oLen (ret word)))) (mp .rt (ret false)) (bnd (un oRng1 (prd (un (dI1 lenD) (ret thing)) (ret ()))) fun l => thn (forT (b__law_judge_1 word other thing) l ()) fun st91 => (mp .rt (ret true))))
theorem te__law_judge (word : Wd) (other : Wd) (thing : D) : ∀ s, RE D.bl (m__law_judge [D.str word, D.str other, eA thing] s) (t__law_judge word other thing s) := fin_ok (F := fun _ : Unit => List.replicate 4 none) (X := fun _ => True) (ds := d__law_judge) (N := 4) (tb_to (ρ' := [some (.val (D.str word)), some (.val (D.str other)), some (.val (eA thing)), none]) rfl (tb_if (tt_or (tt_not (tt_tr (te_isi i_D (te_var (e := eA) (a := thing) 2 (ls (ls l0)))))) (tt_b (te_bin (o_ne eqk_I (by decide)) (te_cb1 c_DI (te_var (e := eA) (a := thing) 2 (ls (ls l0)))) (te_cb1 c_lenW (te_var (e := D.str) (a := word) 0 l0))))) trivial (tb_ret (te_c (e := D.bl) (a := false) rfl) trivial) (tb_next (tb_forgetC (fgt_m (m := [true, true, true, false]) (by decide +kernel) (.t (.t (.t (.f Fm.n))))) (tb_for (e := D.int) (F0 := (fun st91 : Unit => [some (.val (D.str word)), some (.val (D.str other)), some (.val (eA thing)), none])) (body := b__law_judge_1 word other thing) () (ta_rng w_rng1 (ta_cons (te_cb1 c_DI (te_var (e := eA) (a := thing) 2 (ls (ls l0)))) ta_nil)) (fnl rfl) (fun _ _ => (gn (ss (ss (ss s0))))) (fun a92 st91 => (tb_if (tt_or (tt_not (tt_tr (te_call (eb := D.bl) (ta_cons (te_bin o_D (te_var (e := eA) (a := thing) 2 (ls (ls l0))) (te_up (te_var (e := D.int) (a := a92) 3 (ls (ls (ls l0)))))) ta_nil) fun p => te__law_is_int p.1))) (tt_or (tt_not (tt_b (te_chain o_B o_B (te_up (te_c (e := D.int) (a := (0 : Int)) rfl)) (te_bin o_D (te_var (e := eA) (a := thing) 2 (ls (ls l0))) (te_up (te_var (e := D.int) (a := a92) 3 (ls (ls (ls l0)))))) (te_up (te_cb1 c_lenW (te_var (e := D.str) (a := other) 1 (ls l0))))))) (tt_b (te_bin (o_ne eqk_W (by decide)) (te_bin o_ixW (te_var (e := D.str) (a := other) 1 (ls l0)) (te_down (te_bin o_D (te_var (e := eA) (a := thing) 2 (ls (ls l0))) (te_up (te_var (e := D.int) (a := a92) 3 (ls (ls (ls l0)))))) dec_I)) (te_bin o_ixW (te_var (e := D.str) (a := word) 0 l0) (te_var (e := D.int) (a := a92) 3 (ls (ls (ls l0))))))))) trivial (tb_ret (te_c (e := D.bl) (a := false) rfl) trivial) (tb_next (tb_if (tt_and (tt_b (te_bin o_gt (te_var (e := D.int) (a := a92) 3 (ls (ls (ls l0)))) (te_c (e := D.int) (a := (0 : Int)) rfl))) (tt_b (te_bin o_B (te_bin o_D (te_var (e := eA) (a := thing) 2 (ls (ls l0))) (te_up (te_var (e := D.int) (a := a92) 3 (ls (ls (ls l0)))))) (te_bin o_D (te_var (e := eA) (a := thing) 2 (ls (ls l0))) (te_up (te_bin o_sub (te_var (e := D.int) (a := a92) 3 (ls (ls (ls l0)))) (te_c (e := D.int) (a := (1 : Int)) rfl))))))) trivial (tb_ret (te_c (e := D.bl) (a := false) rfl) trivial) (tb_next (tb_forgetC (fgt_m (m := [true, true, true, false]) (by decide +kernel) (.t (.t (.t (.f Fm.n))))) (tb_end () rfl))))))) trivial fun st91 => (tb_last (tb_ret (te_c (e := D.bl) (a := true) rfl) trivial))))))) (fun _ h => nomatch h)
abbrev N_is_embedding : List Str := ["word", "other", "thing", "last", "letter", "place"]
def L_is_embedding_1 : DS DeckSt := dSeq (dIfS (dOr (dNot (dTr (dIsi "int" (dVar 5)))) (dOr (dTr (dIsi "bool" (dVar 5))) (dNot (dB (dChain ltA ltA (dVar 3) (dVar 5) (dCallB lenD (dCons (dVar 1) (dNil)))))))) (dRet (dC (.bl false))) (dNext))
  (dSeq (dIfS (dB (dBin neO (dBin ixD (dVar 1) (dVar 5)) (dVar 4))) (dRet (dC (.bl false))) (dNext))
  (dSeq (dAsg 3 [] (dV (dVar 5)))
  (dForget [3, 1, 2, 0] (dNext))))
def d_is_embedding : DS DeckSt := dSeq (dDrop (dCall m_need_words (dCons (dVar 0) (dCons (dVar 1) (dNil)))))
  (dSeq (dIfS (dOr (dNot (dTr (dIsi "tuple" (dVar 2)))) (dB (dBin neO (dCallB lenD (dCons (dVar 2) (dNil))) (dCallB lenD (dCons (dVar 0) (dNil)))))) (dRet (dC (.bl false))) (dNext))
  (dSeq (dAsg 3 [] (dV (dUn negD (dC (.int 1)))))
  (dForget [3, 1, 2, 0] (dSeq (dFor (gT 2 (gsCons (gN 4) (gsCons (gN 5) (gsNil)))) [] (dRng zipA (dCons (dVar 0) (dCons (dVar 2) (dNil)))) L_is_embedding_1)
  (dRet (dC (.bl true)))))))
def m_is_embedding : List D → DeckSt → R DeckSt D := mOf 6 d_is_embedding
def b_is_embedding_1 (other95 : Wd) (a98 : (Wd × D)) (st97 : Int) : M (Fl Int Bool) := (ifT (orT (notT (un (dB1 (isiD "int")) (ret a98.2))) (orT (un (dB1 (isiD "bool")) (ret a98.2)) (notT (chn (dBo ltA) (dBo ltA) (mp D.int (ret st97)) (ret a98.2) (mp D.int (un oLen (ret other95))))))) (mp .rt (ret false)) (ifT (bin oNe (bin oIxW (ret other95) (bnd (ret a98.2) fun d => lft (fI' d))) (ret a98.1)) (mp .rt (ret false)) (bnd (bnd (ret a98.2) fun d => lft (fI' d)) fun last99 : Int => (ret (.nx last99)))))
def t_is_embedding (word : D) (other : D) (thing : D) : M Bool := fin none (bnd (bnd (prd (ret word) (prd (ret other) (ret ()))) fun p : D × D × Unit => t_need_words p.1 p.2.1) fun _ => (bnd (lft (fW word)) fun word94 : Wd => (bnd (lft (fW other)) fun other95 : Wd => (ifT (orT (notT (un (dB1 (isiD "tuple")) (ret thing))) (bin oNe (un (dI1 lenD) (ret thing)) (un oLen (ret word94)))) (mp .rt (ret false)) (bnd (un oNeg (ret (1 : Int))) fun last96 : Int => (bnd (un (oZipP (fun w => some (signs w)) itD) (prd (ret word94) (prd (ret thing) (ret ())))) fun l => thn (forT (b_is_embedding_1 other95) l last96) fun st97 => (mp .rt (ret true))))))))
theorem te_is_embedding (word : D) (other : D) (thing : D) : ∀ s, RE D.bl (m_is_embedding [eA word, eA other, eA thing] s) (t_is_embedding word other thing s) := fin_ok (F := fun _ : Unit => List.replicate 6 none) (X := fun _ => True) (ds := d_is_embedding) (N := 6) (tb_to (ρ' := [some (.val (eA word)), some (.val (eA other)), some (.val (eA thing)), none, none, none]) rfl (tb_drop (e := eN) (te_call (eb := eN) (ta_cons (te_var (e := eA) (a := word) 0 l0) (ta_cons (te_var (e := eA) (a := other) 1 (ls l0)) ta_nil)) fun p => te_need_words p.1 p.2.1) trivial fun _ => (tb_narrow (e := D.str) (ρ2 := fun word94 => [some (.val (D.str word94)), some (.val (eA other)), some (.val (eA thing)), none, none, none]) dec_W (fun _ h => by subst h; rfl) fun word94 => (tb_narrow (e := D.str) (ρ2 := fun other95 => [some (.val (D.str word94)), some (.val (D.str other95)), some (.val (eA thing)), none, none, none]) dec_W (fun _ h => by subst h; rfl) fun other95 => (tb_if (tt_or (tt_not (tt_tr (te_isi i_D (te_var (e := eA) (a := thing) 2 (ls (ls l0)))))) (tt_b (te_bin (o_ne eqk_I (by decide)) (te_cb1 c_DI (te_var (e := eA) (a := thing) 2 (ls (ls l0)))) (te_cb1 c_lenW (te_var (e := D.str) (a := word94) 0 l0))))) trivial (tb_ret (te_c (e := D.bl) (a := false) rfl) trivial) (tb_next (tb_asgC (e := D.int) (te_un u_neg (te_c (e := D.int) (a := (1 : Int)) rfl)) trivial (fun _ => (ss (ss (ss s0)))) fun last96 => (tb_forgetC (fgt_m (m := [true, true, true, true, false, false]) (by decide +kernel) (.t (.t (.t (.t (.f (.f Fm.n))))))) (tb_for (e := (e2 D.str eA)) (F0 := (fun st97 : Int => [some (.val (D.str word94)), some (.val (D.str other95)), some (.val (eA thing)), some (.val (D.int st97)), none, none])) (body := b_is_embedding_1 other95) last96 (ta_rng (w_zipP itk_W itk_A) (ta_cons (te_var (e := D.str) (a := word94) 0 l0) (ta_cons (te_var (e := eA) (a := thing) 2 (ls (ls l0))) ta_nil))) (fnl rfl) (fun _ _ => (gt rfl (gc (gn (ss (ss (ss (ss s0))))) (gc (gn (ss (ss (ss (ss (ss s0)))))) gz)))) (fun a98 st97 => (tb_if (tt_or (tt_not (tt_tr (te_isi i_D (te_var (e := eA) (a := a98.2) 5 (ls (ls (ls (ls (ls l0))))))))) (tt_or (tt_tr (te_isi i_D (te_var (e := eA) (a := a98.2) 5 (ls (ls (ls (ls (ls l0)))))))) (tt_not (tt_b (te_chain o_B o_B (te_up (te_var (e := D.int) (a := st97) 3 (ls (ls (ls l0))))) (te_var (e := eA) (a := a98.2) 5 (ls (ls (ls (ls (ls l0)))))) (te_up (te_cb1 c_lenW (te_var (e := D.str) (a := other95) 1 (ls l0))))))))) trivial (tb_ret (te_c (e := D.bl) (a := false) rfl) trivial) (tb_next (tb_if (tt_b (te_bin (o_ne eqk_W (by decide)) (te_bin o_ixW (te_var (e := D.str) (a := other95) 1 (ls l0)) (te_down (te_var (e := eA) (a := a98.2) 5 (ls (ls (ls (ls (ls l0)))))) dec_I)) (te_var (e := D.str) (a := a98.1) 4 (ls (ls (ls (ls l0))))))) trivial (tb_ret (te_c (e := D.bl) (a := false) rfl) trivial) (tb_next (tb_asgC (e := D.int) (te_down (te_var (e := eA) (a := a98.2) 5 (ls (ls (ls (ls (ls l0)))))) dec_I) trivial (fun _ => (ss (ss (ss s0)))) fun last99 => (tb_forgetC (fgt_m (m := [true, true, true, true, false, false]) (by decide +kernel) (.t (.t (.t (.t (.f (.f Fm.n))))))) (tb_end last99 rfl)))))))) trivial fun st97 => (tb_last (tb_ret (te_c (e := D.bl) (a := true) rfl) trivial))))))))))) (fun _ h => nomatch h)
abbrev N__law_told_right : List Str := ["deck", "word", "other", "rows", "left", "right", "behind", "before", "due", "things", "thing", "row"]
def L__law_told_right_1 : DS DeckSt := dSeq (dIfS (dNot (dTr (dCall m__law_same (dCons (dCall m_is_embedding (dCons (dVar 1) (dCons (dVar 2) (dCons (dVar 10) (dNil))))) (dCons (dCall m__law_judge (dCons (dVar 1) (dCons (dVar 2) (dCons (dVar 10) (dNil))))) (dNil)))))) (dRet (dC (.bl false))) (dNext))
  (dForget [2, 9, 1] (dNext))
def d__law_told_right : DS DeckSt := dSeq (dPar 4 5 [] [] (dV (dCall m__law_left (dCons (dVar 1) (dCons (dVar 2) (dNil))))) (dV (dCall m__law_right (dCons (dVar 1) (dCons (dVar 2) (dNil))))))
  (dSeq (dIfS (dOr (dNot (dTr (dCall m__law_same (dCons (dCall m_is_subword (dCons (dVar 1) (dCons (dVar 2) (dNil)))) (dCons (dBin (isF true) (dVar 4) (dC .non)) (dNil)))))) (dNot (dTr (dCall m__law_same (dCons (dCallK m_leftmost_places [1, 0] dNil (dCons (dVar 2) (dCons (dVar 1) (dNil)))) (dCons (dVar 4) (dNil))))))) (dRet (dC (.bl false))) (dNext))
  (dSeq (dIfS (dOr (dNot (dTr (dCall m__law_same (dCons (dCall m_rightmost_places (dCons (dVar 1) (dCons (dVar 2) (dNil)))) (dCons (dVar 5) (dNil)))))) (dNot (dTr (dCall m__law_same (dCons (dCall m_ways_in (dCons (dVar 1) (dCons (dVar 2) (dNil)))) (dCons (dCall m__law_ways (dCons (dVar 1) (dCons (dVar 2) (dNil)))) (dNil))))))) (dRet (dC (.bl false))) (dNext))
  (dSeq (dPar 6 7 [] [] (dV (dVar 2)) (dV (dVar 2)))
  (dSeq (dIfS (dAnd (dB (dBin neO (dVar 1) (dC (.str [])))) (dB (dBin (isF true) (dVar 4) (dC .non)))) (dSeq (dPar 6 7 [] [] (dV (dSl (dVar 2) (dPart (dBin addD (dBin ixD (dVar 4) (dUn negD (dC (.int 1)))) (dC (.int 1)))) (dNoPart))) (dV (dSl (dVar 2) (dNoPart) (dPart (dBin ixD (dVar 5) (dC (.int 0)))))))
  (dForget [7, 6, 0, 4, 2, 3, 1] (dNext))) (dForget [7, 6, 0, 4, 2, 3, 1] (dNext)))
  (dSeq (dAsg 8 [] (dV (dIf (dB (dBin (isF false) (dVar 4) (dC .non))) (dF (dLst (dCons (dC .non) (dCons (dC .non) (dNil))))) (dF (dLst (dCons (dVar 6) (dCons (dVar 7) (dNil))))))))
  (dSeq (dIfS (dNot (dTr (dCall m__law_same (dCons (dTup (dCons (dCall m_rest_behind (dCons (dVar 1) (dCons (dVar 2) (dNil)))) (dCons (dCallK m_rest_before [0, 1] dNil (dCons (dVar 1) (dCons (dVar 2) (dNil)))) (dNil)))) (dCons (dCallB tupleD (dCons (dVar 8) (dNil))) (dNil)))))) (dRet (dC (.bl false))) (dNext))
  (dSeq (dAsg 9 [] (dV (dBin addD (dF (dLc (gN 11) [11] [] (dWalk (dSl (dVar 3) (dNoPart) (dPart (dC (.int 20)))) walkD) (dYes) (dVar 11))) (dCall m__law_near (dCons (dVar 0) (dCons (dBin ixD (dBin addD (dVar 3) (dF (dLst (dCons (dBin repD (dTup (dCons (dC (.int 0)) (dNil))) (dCallB lenD (dCons (dVar 1) (dNil)))) (dNil))))) (dC (.int 0))) (dCons (dVar 2) (dNil))))))))
  (dForget [2, 9, 1] (dSeq (dFor (gN 10) [] (dWalk (dVar 9) walkD) L__law_told_right_1)
  (dRet (dC (.bl true))))))))))))
def m__law_told_right : List D → DeckSt → R DeckSt D := mOf 12 d__law_told_right
def b__law_told_right_1 (word : Wd) (other : Wd) (a111 : D) (st110 : Unit) : M (Fl Unit Bool) := (ifT (notT (bnd (prd (mp D.bl (bnd (prd (mp D.str (ret word)) (prd (mp D.str (ret other)) (prd (ret a111) (ret ())))) fun p : D × D × D × Unit => t_is_embedding p.1 p.2.1 p.2.2.1)) (prd (mp D.bl (bnd (prd (ret word) (prd (ret other) (prd (ret a111) (ret ())))) fun p : Wd × Wd × D × Unit => t__law_judge p.1 p.2.1 p.2.2.1)) (ret ()))) fun p : D × D × Unit => t__law_same p.1 p.2.1)) (mp .rt (ret false)) (ret (.nx ())))
def t__law_told_right (deck : Unit) (word : Wd) (other : Wd) (rows : (List (List Int))) : M Bool := fin none (bnd (bnd (prd (ret word) (prd (ret other) (ret ()))) fun p : Wd × Wd × Unit => t__law_left p.1 p.2.1) fun left100 : (Option (List Int)) => bnd (bnd (prd (ret word) (prd (ret other) (ret ()))) fun p : Wd × Wd × Unit => t__law_right p.1 p.2.1) fun right101 : (Option (List Int)) => (ifT (orT (notT (bnd (prd (mp D.bl (bnd (prd (mp D.str (ret word)) (prd (mp D.str (ret other)) (ret ()))) fun p : D × D × Unit => t_is_subword p.1 p.2.1)) (prd (mp D.bl (bin oIsNN (ret left100) (ret ()))) (ret ()))) fun p : D × D × Unit => t__law_same p.1 p.2.1)) (notT (bnd (prd (mp (eO (eR D.int)) (bnd (ret ()) fun p : Unit => bnd (prd (mp D.str (ret other)) (prd (mp D.str (ret word)) (ret ()))) fun q : D × D × Unit => t_leftmost_places q.2.1 q.1)) (prd (mp (eO (eR D.int)) (ret left100)) (ret ()))) fun p : D × D × Unit => t__law_same p.1 p.2.1))) (mp .rt (ret false)) (ifT (orT (notT (bnd (prd (mp (eO (eR D.int)) (bnd (prd (mp D.str (ret word)) (prd (mp D.str (ret other)) (ret ()))) fun p : D × D × Unit => t_rightmost_places p.1 p.2.1)) (prd (mp (eO (eR D.int)) (ret right101)) (ret ()))) fun p : D × D × Unit => t__law_same p.1 p.2.1)) (notT (bnd (prd (mp D.int (bnd (prd (mp D.str (ret word)) (prd (mp D.str (ret other)) (ret ()))) fun p : D × D × Unit => t_ways_in p.1 p.2.1)) (prd (mp D.int (bnd (prd (ret word) (prd (ret other) (ret ()))) fun p : Wd × Wd × Unit => t__law_ways p.1 p.2.1)) (ret ()))) fun p : D × D × Unit => t__law_same p.1 p.2.1))) (mp .rt (ret false)) (bnd (ret other) fun behind102 : Wd => bnd (ret other) fun before103 : Wd => (thn (ifT (andT (bin oNe (ret word) (ret ([] : Wd))) (bin oIsNN (ret left100) (ret ()))) (bnd (sli oCut (ret other) (mp some (bin oAdd (bin atI (bnd (ret left100) fun o => lft o) (un oNeg (ret (1 : Int)))) (ret (1 : Int)))) (ret none)) fun behind105 : Wd => bnd (sli oCut (ret other) (ret none) (mp some (bin atI (bnd (ret right101) fun o => lft o) (ret (0 : Int))))) fun before106 : Wd => (ret (.nx (before106, behind105)))) (ret (.nx (before103, behind102)))) fun st104 => (bnd (ifT (bin oIsN (ret left100) (ret ())) (mp (eL eN) (mp (fun p : Unit × Unit × Unit => ([p.1, p.2.1] : List Unit)) (prd (ret ()) (prd (ret ()) (ret ()))))) (mp (eL D.str) (mp (fun p : Wd × Wd × Unit => ([p.1, p.2.1] : List Wd)) (prd (ret st104.2) (prd (ret st104.1) (ret ())))))) fun due107 : D => (ifT (notT (bnd (prd (mp (fun p : D × D × Unit => D.tup [p.1, p.2.1]) (prd (mp (eO D.str) (bnd (prd (mp D.str (ret word)) (prd (mp D.str (ret other)) (ret ()))) fun p : D × D × Unit => t_rest_behind p.1 p.2.1)) (prd (mp (eO D.str) (bnd (ret ()) fun p : Unit => bnd (prd (mp D.str (ret word)) (prd (mp D.str (ret other)) (ret ()))) fun q : D × D × Unit => t_rest_before q.1 q.2.1)) (ret ())))) (prd (un (dC1 tupleD) (ret due107)) (ret ()))) fun p : D × D × Unit => t__law_same p.1 p.2.1)) (mp .rt (ret false)) (bnd (bnd (bin addD (mp (eL (eR D.int)) (lc (un oId (sli oCut (ret rows) (ret none) (mp some (ret (20 : Int))))) (fun a108 : (List Int) => (ret true)) fun a108 => (ret a108))) (mp (eL eA) (bnd (prd (ret deck) (prd (bin atI (bin oApd (ret rows) (mp (fun p : (List Int) × Unit => ([p.1] : List (List Int))) (prd (bin oRepR (mp (fun p : Int × Unit => ([p.1] : List Int)) (prd (ret (0 : Int)) (ret ()))) (un oLen (ret word))) (ret ())))) (ret (0 : Int))) (prd (ret other) (ret ())))) fun p : Unit × (List Int) × Wd × Unit => t__law_near p.1 p.2.1 p.2.2.1))) fun d => lft ((fL some) d)) fun things109 : (List D) => (bnd (un oId (ret things109)) fun l => thn (forT (b__law_told_right_1 word other) l ()) fun st110 => (mp .rt (ret true)))))))))))
theorem te__law_told_right (deck : Unit) (word : Wd) (other : Wd) (rows : (List (List Int))) : ∀ s, RE D.bl (m__law_told_right [eK deck, D.str word, D.str other, (eL (eR D.int)) rows] s) (t__law_told_right deck word other rows s) := fin_ok (F := fun _ : Unit => List.replicate 12 none) (X := fun _ => True) (ds := d__law_told_right) (N := 12) (tb_to (ρ' := [some (.val (eK deck)), some (.val (D.str word)), some (.val (D.str other)), some (.val ((eL (eR D.int)) rows)), none, none, none, none, none, none, none, none]) rfl (tb_parC (e := (eO (eR D.int))) (e' := (eO (eR D.int))) (te_call (eb := (eO (eR D.int))) (ta_cons (te_var (e := D.str) (a := word) 1 (ls l0)) (ta_cons (te_var (e := D.str) (a := other) 2 (ls (ls l0))) ta_nil)) fun p => te__law_left p.1 p.2.1) (te_call (eb := (eO (eR D.int))) (ta_cons (te_var (e := D.str) (a := word) 1 (ls l0)) (ta_cons (te_var (e := D.str) (a := other) 2 (ls (ls l0))) ta_nil)) fun p => te__law_right p.1 p.2.1) trivial (fun _ => (ss (ss (ss (ss s0))))) (fun _ _ => (ss (ss (ss (ss (ss s0)))))) fun left100 right101 => (tb_if (tt_or (tt_not (tt_tr (te_call (eb := D.bl) (ta_cons (te_up (te_call (eb := D.bl) (ta_cons (te_up (te_var (e := D.str) (a := word) 1 (ls l0))) (ta_cons (te_up (te_var (e := D.str) (a := other) 2 (ls (ls l0)))) ta_nil)) fun p => te_is_subword p.1 p.2.1)) (ta_cons (te_up (te_bin (o_isNN nn_R) (te_var (e := (eO (eR D.int))) (a := left100) 4 (ls (ls (ls (ls l0))))) (te_c (e := eN) (a := ()) rfl))) ta_nil)) fun p => te__law_same p.1 p.2.1))) (tt_not (tt_tr (te_call (eb := D.bl) (ta_cons (te_up (te_callK (ec := (eO (eR D.int))) ta_nil (ta_cons (te_up (te_var (e := D.str) (a := other) 2 (ls (ls l0)))) (ta_cons (te_up (te_var (e := D.str) (a := word) 1 (ls l0))) ta_nil)) fun p q => te_leftmost_places q.2.1 q.1)) (ta_cons (te_up (te_var (e := (eO (eR D.int))) (a := left100) 4 (ls (ls (ls (ls l0)))))) ta_nil)) fun p => te__law_same p.1 p.2.1)))) trivial (tb_ret (te_c (e := D.bl) (a := false) rfl) trivial) (tb_next (tb_if (tt_or (tt_not (tt_tr (te_call (eb := D.bl) (ta_cons (te_up (te_call (eb := (eO (eR D.int))) (ta_cons (te_up (te_var (e := D.str) (a := word) 1 (ls l0))) (ta_cons (te_up (te_var (e := D.str) (a := other) 2 (ls (ls l0)))) ta_nil)) fun p => te_rightmost_places p.1 p.2.1)) (ta_cons (te_up (te_var (e := (eO (eR D.int))) (a := right101) 5 (ls (ls (ls (ls (ls l0))))))) ta_nil)) fun p => te__law_same p.1 p.2.1))) (tt_not (tt_tr (te_call (eb := D.bl) (ta_cons (te_up (te_call (eb := D.int) (ta_cons (te_up (te_var (e := D.str) (a := word) 1 (ls l0))) (ta_cons (te_up (te_var (e := D.str) (a := other) 2 (ls (ls l0)))) ta_nil)) fun p => te_ways_in p.1 p.2.1)) (ta_cons (te_up (te_call (eb := D.int) (ta_cons (te_var (e := D.str) (a := word) 1 (ls l0)) (ta_cons (te_var (e := D.str) (a := other) 2 (ls (ls l0))) ta_nil)) fun p => te__law_ways p.1 p.2.1)) ta_nil)) fun p => te__law_same p.1 p.2.1)))) trivial (tb_ret (te_c (e := D.bl) (a := false) rfl) trivial) (tb_next (tb_parC (e := D.str) (e' := D.str) (te_var (e := D.str) (a := other) 2 (ls (ls l0))) (te_var (e := D.str) (a := other) 2 (ls (ls l0))) trivial (fun _ => (ss (ss (ss (ss (ss (ss s0))))))) (fun _ _ => (ss (ss (ss (ss (ss (ss (ss s0)))))))) fun behind102 before103 => (tb_ifJ (F' := (fun st104 : (Wd × Wd) => [some (.val (eK deck)), some (.val (D.str word)), some (.val (D.str other)), some (.val ((eL (eR D.int)) rows)), some (.val ((eO (eR D.int)) left100)), none, some (.val (D.str st104.2)), some (.val (D.str st104.1)), none, none, none, none])) (tt_and (tt_b (te_bin (o_ne eqk_W (by decide)) (te_var (e := D.str) (a := word) 1 (ls l0)) (te_c (e := D.str) (a := ([] : Wd)) rfl))) (tt_b (te_bin (o_isNN nn_R) (te_var (e := (eO (eR D.int))) (a := left100) 4 (ls (ls (ls (ls l0))))) (te_c (e := eN) (a := ()) rfl)))) trivial (tb_parC (e := D.str) (e' := D.str) (te_sl sl_W (te_var (e := D.str) (a := other) 2 (ls (ls l0))) (tp_some (te_bin o_add (te_bin o_ixR (te_down (f := fun o => o) (te_var (e := (eO (eR D.int))) (a := left100) 4 (ls (ls (ls (ls l0))))) (by intro a b h; cases a <;> cases h; rfl)) (te_un u_neg (te_c (e := D.int) (a := (1 : Int)) rfl))) (te_c (e := D.int) (a := (1 : Int)) rfl))) tp_no) (te_sl sl_W (te_var (e := D.str) (a := other) 2 (ls (ls l0))) tp_no (tp_some (te_bin o_ixR (te_down (f := fun o => o) (te_var (e := (eO (eR D.int))) (a := right101) 5 (ls (ls (ls (ls (ls l0)))))) (by intro a b h; cases a <;> cases h; rfl)) (te_c (e := D.int) (a := (0 : Int)) rfl)))) trivial (fun _ => (ss (ss (ss (ss (ss (ss s0))))))) (fun _ _ => (ss (ss (ss (ss (ss (ss (ss s0)))))))) fun behind105 before106 => (tb_forgetC (fgt_m (m := [true, true, true, true, true, false, true, true, false, false, false, false]) (by decide +kernel) (.t (.t (.t (.t (.t (.f (.t (.t (.f (.f (.f (.f Fm.n))))))))))))) (tb_end (before106, behind105) rfl))) (tb_forgetC (fgt_m (m := [true, true, true, true, true, false, true, true, false, false, false, false]) (by decide +kernel) (.t (.t (.t (.t (.t (.f (.t (.t (.f (.f (.f (.f Fm.n))))))))))))) (tb_end (before103, behind102) rfl)) fun st104 => (tb_asgC (e := eA) (te_if (tt_b (te_bin (o_isN nn_R) (te_var (e := (eO (eR D.int))) (a := left100) 4 (ls (ls (ls (ls l0))))) (te_c (e := eN) (a := ()) rfl))) (te_up (te_f (ta_lst (ek := List.map eN) (ta_cons (te_c (e := eN) (a := ()) rfl) (ta_cons (te_c (e := eN) (a := ()) rfl) ta_nil)) (fun _ => Nat.le_of_ble_eq_true rfl) fun _ => rfl))) (te_up (te_f (ta_lst (ek := List.map D.str) (ta_cons (te_var (e := D.str) (a := st104.2) 6 (ls (ls (ls (ls (ls (ls l0))))))) (ta_cons (te_var (e := D.str) (a := st104.1) 7 (ls (ls (ls (ls (ls (ls (ls l0)))))))) ta_nil)) (fun _ => Nat.le_of_ble_eq_true rfl) fun _ => rfl)))) trivial (fun _ => (ss (ss (ss (ss (ss (ss (ss (ss s0))))))))) fun due107 => (tb_if (tt_not (tt_tr (te_call (eb := D.bl) (ta_cons (te_tup (eb := eA) (ta_cons (te_up (te_call (eb := (eO D.str)) (ta_cons (te_up (te_var (e := D.str) (a := word) 1 (ls l0))) (ta_cons (te_up (te_var (e := D.str) (a := other) 2 (ls (ls l0)))) ta_nil)) fun p => te_rest_behind p.1 p.2.1)) (ta_cons (te_up (te_callK (ec := (eO D.str)) ta_nil (ta_cons (te_up (te_var (e := D.str) (a := word) 1 (ls l0))) (ta_cons (te_up (te_var (e := D.str) (a := other) 2 (ls (ls l0)))) ta_nil)) fun p q => te_rest_before q.1 q.2.1)) ta_nil)) (fun _ => Nat.le_of_ble_eq_true rfl) fun _ => rfl) (ta_cons (te_cb1 c_D (te_var (e := eA) (a := due107) 8 (ls (ls (ls (ls (ls (ls (ls (ls l0)))))))))) ta_nil)) fun p => te__law_same p.1 p.2.1))) trivial (tb_ret (te_c (e := D.bl) (a := false) rfl) trivial) (tb_next (tb_asgC (e := (eL eA)) (te_down (te_bin o_D (te_up (te_f (ta_lcC (ta_walk w_L (te_sl sl_L (te_var (e := (eL (eR D.int))) (a := rows) 3 (ls (ls (ls l0)))) tp_no (tp_some (te_c (e := D.int) (a := (20 : Int)) rfl)))) (wf (ws w0 (ss (ss (ss (ss (ss (ss (ss (ss (ss (ss (ss s0))))))))))))) (fun _ => (gn (ss (ss (ss (ss (ss (ss (ss (ss (ss (ss (ss s0))))))))))))) (fun a108 => tt_yes) (fun a108 => (te_var (e := (eR D.int)) (a := a108) 11 (ls (ls (ls (ls (ls (ls (ls (ls (ls (ls (ls l0)))))))))))))))) (te_up (te_call (eb := (eL eA)) (ta_cons (te_var (e := eK) (a := deck) 0 l0) (ta_cons (te_bin o_ixL (te_bin o_apdL (te_var (e := (eL (eR D.int))) (a := rows) 3 (ls (ls (ls l0)))) (te_f (ta_lst (ek := List.map (eR D.int)) (ta_cons (te_bin o_repDR (te_tup (ta_cons (te_c (e := D.int) (a := (0 : Int)) rfl) ta_nil) (fun _ => Nat.le_of_ble_eq_true rfl) fun _ => rfl) (te_cb1 c_lenW (te_var (e := D.str) (a := word) 1 (ls l0)))) ta_nil) (fun _ => Nat.le_of_ble_eq_true rfl) fun _ => rfl))) (te_c (e := D.int) (a := (0 : Int)) rfl)) (ta_cons (te_var (e := D.str) (a := other) 2 (ls (ls l0))) ta_nil))) fun p => te__law_near p.1 p.2.1 p.2.2.1))) (dec_L dec_A)) trivial (fun _ => (ss (ss (ss (ss (ss (ss (ss (ss (ss s0)))))))))) fun things109 => (tb_forgetC (fgt_m (m := [false, true, true, false, false, false, false, false, false, true, false, false]) (by decide +kernel) (.f (.t (.t (.f (.f (.f (.f (.f (.f (.t (.f (.f Fm.n))))))))))))) (tb_for (e := eA) (F0 := (fun st110 : Unit => [none, some (.val (D.str word)), some (.val (D.str other)), none, none, none, none, none, none, some (.val ((eL eA) things109)), none, none])) (body := b__law_told_right_1 word other) () (ta_walk w_L (te_var (e := (eL eA)) (a := things109) 9 (ls (ls (ls (ls (ls (ls (ls (ls (ls l0))))))))))) (fnl rfl) (fun _ _ => (gn (ss (ss (ss (ss (ss (ss (ss (ss (ss (ss s0)))))))))))) (fun a111 st110 => (tb_if (tt_not (tt_tr (te_call (eb := D.bl) (ta_cons (te_up (te_call (eb := D.bl) (ta_cons (te_up (te_var (e := D.str) (a := word) 1 (ls l0))) (ta_cons (te_up (te_var (e := D.str) (a := other) 2 (ls (ls l0)))) (ta_cons (te_var (e := eA) (a := a111) 10 (ls (ls (ls (ls (ls (ls (ls (ls (ls (ls l0))))))))))) ta_nil))) fun p => te_is_embedding p.1 p.2.1 p.2.2.1)) (ta_cons (te_up (te_call (eb := D.bl) (ta_cons (te_var (e := D.str) (a := word) 1 (ls l0)) (ta_cons (te_var (e := D.str) (a := other) 2 (ls (ls l0))) (ta_cons (te_var (e := eA) (a := a111) 10 (ls (ls (ls (ls (ls (ls (ls (ls (ls (ls l0))))))))))) ta_nil))) fun p => te__law_judge p.1 p.2.1 p.2.2.1)) ta_nil)) fun p => te__law_same p.1 p.2.1))) trivial (tb_ret (te_c (e := D.bl) (a := false) rfl) trivial) (tb_next (tb_forgetC (fgt_m (m := [false, true, true, false, false, false, false, false, false, true, false, false]) (by decide +kernel) (.f (.t (.t (.f (.f (.f (.f (.f (.f (.t (.f (.f Fm.n))))))))))))) (tb_end () rfl))))) trivial fun st110 => (tb_last (tb_ret (te_c (e := D.bl) (a := true) rfl) trivial)))))))))))))))) (fun _ h => nomatch h)
abbrev N__law_refused : List Str := ["which", "word", "other", "found", "told"]
def d__law_refused : DS DeckSt := dSeq (dAsg 3 [] (dV (dC (.str [110, 111, 110, 101]))))
  (dForget [3, 2, 0, 1] (dSeq (dTry subF (dSeq (dIfS (dB (dBin ltA (dVar 0) (dC (.int 2)))) (dAsg 4 [] (dV (dIf (dB (dBin eqO (dVar 0) (dC (.int 0)))) (dCall m_is_subword (dCons (dVar 1) (dCons (dVar 2) (dNil)))) (dCall m_leftmost_places (dCons (dVar 1) (dCons (dVar 2) (dNil))))))) (dIfS (dB (dBin ltA (dVar 0) (dC (.int 4)))) (dAsg 4 [] (dV (dIf (dB (dBin eqO (dVar 0) (dC (.int 2)))) (dCall m_rightmost_places (dCons (dVar 1) (dCons (dVar 2) (dNil)))) (dCall m_rest_behind (dCons (dVar 1) (dCons (dVar 2) (dNil))))))) (dIfS (dB (dBin ltA (dVar 0) (dC (.int 6)))) (dAsg 4 [] (dV (dIf (dB (dBin eqO (dVar 0) (dC (.int 4)))) (dCall m_rest_before (dCons (dVar 1) (dCons (dVar 2) (dNil)))) (dCall m_ways_in (dCons (dVar 1) (dCons (dVar 2) (dNil))))))) (dAsg 4 [] (dV (dCall m_is_embedding (dCons (dVar 1) (dCons (dVar 2) (dCons (dC .non) (dNil))))))))))
  (dForget [3] (dNext))) (("BadWord", dForget [] (dSeq (dAsg 3 [] (dV (dC (.str [119, 111, 114, 100]))))
  (dForget [3] (dNext)))) :: ("BadOther", dForget [] (dSeq (dAsg 3 [] (dV (dC (.str [111, 116, 104, 101, 114]))))
  (dForget [3] (dNext)))) :: []))
  (dRet (dVar 3))))
def m__law_refused : List D → DeckSt → R DeckSt D := mOf 5 d__law_refused
def t__law_refused (which : Int) (word : D) (other : D) : M Wd := fin none (bnd (ret ([110, 111, 110, 101] : Wd)) fun found112 : Wd => (thn (tryT subF (σ := Wd) (ifT (bin oLt (ret which) (ret (2 : Int))) (bnd (ifT (bin oEq (ret which) (ret (0 : Int))) (mp D.bl (bnd (prd (ret word) (prd (ret other) (ret ()))) fun p : D × D × Unit => t_is_subword p.1 p.2.1)) (mp (eO (eR D.int)) (bnd (prd (ret word) (prd (ret other) (ret ()))) fun p : D × D × Unit => t_leftmost_places p.1 p.2.1))) fun told114 : D => (ret (.nx found112))) (ifT (bin oLt (ret which) (ret (4 : Int))) (bnd (ifT (bin oEq (ret which) (ret (2 : Int))) (mp (eO (eR D.int)) (bnd (prd (ret word) (prd (ret other) (ret ()))) fun p : D × D × Unit => t_rightmost_places p.1 p.2.1)) (mp (eO D.str) (bnd (prd (ret word) (prd (ret other) (ret ()))) fun p : D × D × Unit => t_rest_behind p.1 p.2.1))) fun told115 : D => (ret (.nx found112))) (ifT (bin oLt (ret which) (ret (6 : Int))) (bnd (ifT (bin oEq (ret which) (ret (4 : Int))) (mp (eO D.str) (bnd (prd (ret word) (prd (ret other) (ret ()))) fun p : D × D × Unit => t_rest_before p.1 p.2.1)) (mp D.int (bnd (prd (ret word) (prd (ret other) (ret ()))) fun p : D × D × Unit => t_ways_in p.1 p.2.1))) fun told116 : D => (ret (.nx found112))) (bnd (bnd (prd (ret word) (prd (ret other) (prd (mp eN (ret ())) (ret ())))) fun p : D × D × D × Unit => t_is_embedding p.1 p.2.1 p.2.2.1) fun told117 : Bool => (ret (.nx found112)))))) (("BadWord", (bnd (ret ([119, 111, 114, 100] : Wd)) fun found119 : Wd => (ret (.nx found119)))) :: ("BadOther", (bnd (ret ([111, 116, 104, 101, 114] : Wd)) fun found118 : Wd => (ret (.nx found118)))) :: [])) fun st113 => (mp .rt (ret st113))))
theorem te__law_refused (which : Int) (word : D) (other : D) : ∀ s, RE D.str (m__law_refused [D.int which, eA word, eA other] s) (t__law_refused which word other s) := fin_ok (F := fun _ : Unit => List.replicate 5 none) (X := fun _ => True) (ds := d__law_refused) (N := 5) (tb_to (ρ' := [some (.val (D.int which)), some (.val (eA word)), some (.val (eA other)), none, none]) rfl (tb_asgC (e := D.str) (te_c (e := D.str) (a := ([110, 111, 110, 101] : Wd)) rfl) trivial (fun _ => (ss (ss (ss s0)))) fun found112 => (tb_forgetC (fgt_m (m := [true, true, true, true, false]) (by decide +kernel) (.t (.t (.t (.t (.f Fm.n)))))) (tb_try (F' := (fun st113 : Wd => [none, none, none, some (.val (D.str st113)), none])) (X' := (fun ρ => fgt [] ρ = [none, none, none, none, none])) (tb_if (tt_b (te_bin o_ltA (te_var (e := D.int) (a := which) 0 l0) (te_c (e := D.int) (a := (2 : Int)) rfl))) rfl (tb_asgC (e := eA) (te_if (tt_b (te_bin (o_eq eqk_I (by decide)) (te_var (e := D.int) (a := which) 0 l0) (te_c (e := D.int) (a := (0 : Int)) rfl))) (te_up (te_call (eb := D.bl) (ta_cons (te_var (e := eA) (a := word) 1 (ls l0)) (ta_cons (te_var (e := eA) (a := other) 2 (ls (ls l0))) ta_nil)) fun p => te_is_subword p.1 p.2.1)) (te_up (te_call (eb := (eO (eR D.int))) (ta_cons (te_var (e := eA) (a := word) 1 (ls l0)) (ta_cons (te_var (e := eA) (a := other) 2 (ls (ls l0))) ta_nil)) fun p => te_leftmost_places p.1 p.2.1))) rfl (fun _ => (ss (ss (ss (ss s0))))) fun told114 => (tb_forgetC (fgt_m (m := [false, false, false, true, false]) (by decide +kernel) (.f (.f (.f (.t (.f Fm.n)))))) (tb_end found112 rfl))) (tb_if (tt_b (te_bin o_ltA (te_var (e := D.int) (a := which) 0 l0) (te_c (e := D.int) (a := (4 : Int)) rfl))) rfl (tb_asgC (e := eA) (te_if (tt_b (te_bin (o_eq eqk_I (by decide)) (te_var (e := D.int) (a := which) 0 l0) (te_c (e := D.int) (a := (2 : Int)) rfl))) (te_up (te_call (eb := (eO (eR D.int))) (ta_cons (te_var (e := eA) (a := word) 1 (ls l0)) (ta_cons (te_var (e := eA) (a := other) 2 (ls (ls l0))) ta_nil)) fun p => te_rightmost_places p.1 p.2.1)) (te_up (te_call (eb := (eO D.str)) (ta_cons (te_var (e := eA) (a := word) 1 (ls l0)) (ta_cons (te_var (e := eA) (a := other) 2 (ls (ls l0))) ta_nil)) fun p => te_rest_behind p.1 p.2.1))) rfl (fun _ => (ss (ss (ss (ss s0))))) fun told115 => (tb_forgetC (fgt_m (m := [false, false, false, true, false]) (by decide +kernel) (.f (.f (.f (.t (.f Fm.n)))))) (tb_end found112 rfl))) (tb_if (tt_b (te_bin o_ltA (te_var (e := D.int) (a := which) 0 l0) (te_c (e := D.int) (a := (6 : Int)) rfl))) rfl (tb_asgC (e := eA) (te_if (tt_b (te_bin (o_eq eqk_I (by decide)) (te_var (e := D.int) (a := which) 0 l0) (te_c (e := D.int) (a := (4 : Int)) rfl))) (te_up (te_call (eb := (eO D.str)) (ta_cons (te_var (e := eA) (a := word) 1 (ls l0)) (ta_cons (te_var (e := eA) (a := other) 2 (ls (ls l0))) ta_nil)) fun p => te_rest_before p.1 p.2.1)) (te_up (te_call (eb := D.int) (ta_cons (te_var (e := eA) (a := word) 1 (ls l0)) (ta_cons (te_var (e := eA) (a := other) 2 (ls (ls l0))) ta_nil)) fun p => te_ways_in p.1 p.2.1))) rfl (fun _ => (ss (ss (ss (ss s0))))) fun told116 => (tb_forgetC (fgt_m (m := [false, false, false, true, false]) (by decide +kernel) (.f (.f (.f (.t (.f Fm.n)))))) (tb_end found112 rfl))) (tb_asgC (e := D.bl) (te_call (eb := D.bl) (ta_cons (te_var (e := eA) (a := word) 1 (ls l0)) (ta_cons (te_var (e := eA) (a := other) 2 (ls (ls l0))) (ta_cons (te_up (te_c (e := eN) (a := ()) rfl)) ta_nil))) fun p => te_is_embedding p.1 p.2.1 p.2.2.1) rfl (fun _ => (ss (ss (ss (ss s0))))) fun told117 => (tb_forgetC (fgt_m (m := [false, false, false, true, false]) (by decide +kernel) (.f (.f (.f (.t (.f Fm.n)))))) (tb_end found112 rfl)))))) (.cons (fun ρ' h => tb_forget (tb_to h (tb_asgC (e := D.str) (te_c (e := D.str) (a := ([119, 111, 114, 100] : Wd)) rfl) trivial (fun _ => (ss (ss (ss s0)))) fun found119 => (tb_forgetC (fgt_m (m := [false, false, false, true, false]) (by decide +kernel) (.f (.f (.f (.t (.f Fm.n)))))) (tb_end found119 rfl))))) (.cons (fun ρ' h => tb_forget (tb_to h (tb_asgC (e := D.str) (te_c (e := D.str) (a := ([111, 116, 104, 101, 114] : Wd)) rfl) trivial (fun _ => (ss (ss (ss s0)))) fun found118 => (tb_forgetC (fgt_m (m := [false, false, false, true, false]) (by decide +kernel) (.f (.f (.f (.t (.f Fm.n)))))) (tb_end found118 rfl))))) .nil)) (fun _ _ => trivial) fun st113 => (tb_last (tb_ret (te_var (e := D.str) (a := st113) 3 (ls (ls (ls l0)))) trivial)))))) (fun _ h => nomatch h)
abbrev N_law : List Str := ["script", "deck", "turn", "letters", "word", "other", "rows", "long", "longer", "one", "two", "good", "bad", "which", "words"]
def L_law_1 : DS DeckSt := dSeq (dIfS (dNot (dTr (dCall m__law_told_right (dCons (dVar 1) (dCons (dVar 9) (dCons (dVar 10) (dCons (dF (dLst (dNil))) (dNil)))))))) (dRet (dC (.bl false))) (dNext))
  (dForget [1, 7, 8, 5, 4] (dNext))
def L_law_2 : DS DeckSt := dSeq (dAsg 14 [] (dV (dF (dLst (dCons (dCall m__law_refused (dCons (dVar 13) (dCons (dVar 12) (dCons (dVar 12) (dNil))))) (dCons (dCall m__law_refused (dCons (dVar 13) (dCons (dVar 12) (dCons (dVar 4) (dNil))))) (dCons (dCall m__law_refused (dCons (dVar 13) (dCons (dVar 4) (dCons (dVar 12) (dNil))))) (dCons (dCall m__law_refused (dCons (dVar 13) (dCons (dVar 4) (dCons (dVar 5) (dNil))))) (dNil)))))))))
  (dSeq (dIfS (dB (dBin neO (dVar 14) (dF (dLst (dCons (dC (.str [119, 111, 114, 100])) (dCons (dC (.str [119, 111, 114, 100])) (dCons (dC (.str [111, 116, 104, 101, 114])) (dCons (dC (.str [110, 111, 110, 101])) (dNil))))))))) (dRet (dC (.bl false))) (dNext))
  (dForget [12, 1, 5, 4] (dNext)))
def L_law_3 : DS DeckSt := dForget [1] (dSeq (dAsg 3 [] (dV (dBin addD (dC (.int 1)) (dCall m__law_pick (dCons (dVar 1) (dCons (dC (.int 3)) (dNil)))))))
  (dSeq (dPar 4 5 [] [] (dV (dCall m__law_word (dCons (dVar 1) (dCons (dVar 3) (dCons (dC (.int 4)) (dNil)))))) (dV (dCall m__law_word (dCons (dVar 1) (dCons (dVar 3) (dCons (dC (.int 8)) (dNil)))))))
  (dSeq (dAsg 6 [] (dV (dCall m__law_all (dCons (dVar 4) (dCons (dVar 5) (dNil))))))
  (dSeq (dIfS (dOr (dB (dBin neO (dBin eqO (dVar 6) (dF (dLst (dNil)))) (dBin (isF false) (dCall m__law_left (dCons (dVar 4) (dCons (dVar 5) (dNil)))) (dC .non)))) (dB (dBin neO (dCallB lenD (dCons (dVar 6) (dNil))) (dCall m__law_ways (dCons (dVar 4) (dCons (dVar 5) (dNil))))))) (dRet (dC (.bl false))) (dNext))
  (dSeq (dIfS (dAnd (dB (dBin neO (dVar 6) (dF (dLst (dNil))))) (dOr (dB (dBin neO (dCallB minD1 (dCons (dVar 6) (dNil))) (dCall m_leftmost_places (dCons (dVar 4) (dCons (dVar 5) (dNil)))))) (dB (dBin neO (dCallB maxD1 (dCons (dVar 6) (dNil))) (dCall m_rightmost_places (dCons (dVar 4) (dCons (dVar 5) (dNil)))))))) (dRet (dC (.bl false))) (dNext))
  (dSeq (dIfS (dNot (dTr (dCall m__law_told_right (dCons (dVar 1) (dCons (dVar 4) (dCons (dVar 5) (dCons (dVar 6) (dNil)))))))) (dRet (dC (.bl false))) (dNext))
  (dSeq (dPar 7 8 [] [] (dV (dCall m__law_word (dCons (dVar 1) (dCons (dVar 3) (dCons (dC (.int 8)) (dNil)))))) (dV (dCall m__law_word (dCons (dVar 1) (dCons (dVar 3) (dCons (dC (.int 12)) (dNil)))))))
  (dForget [1, 7, 8, 5, 4] (dSeq (dFor (gT 2 (gsCons (gN 9) (gsCons (gN 10) (gsNil)))) [] (dWalk (dF (dLst (dCons (dTup (dCons (dVar 7) (dCons (dVar 8) (dNil)))) (dCons (dTup (dCons (dBin repD (dBin ixD (dC (.str [97, 98, 99])) (dC (.int 0))) (dCallB lenD (dCons (dVar 7) (dNil)))) (dCons (dBin repD (dBin ixD (dC (.str [97, 98, 99])) (dC (.int 0))) (dC (.int 12))) (dNil)))) (dCons (dTup (dCons (dVar 8) (dCons (dVar 8) (dNil)))) (dCons (dTup (dCons (dC (.str [])) (dCons (dVar 8) (dNil)))) (dNil))))))) walkD) L_law_1)
  (dSeq (dAsg 11 [] (dV (dF (dLst (dCons (dVar 4) (dCons (dVar 5) (dCons (dVar 7) (dCons (dVar 8) (dCons (dC (.str [97, 98, 99, 97, 98, 99, 97, 98, 99, 97, 98, 99])) (dNil))))))))))
  (dSeq (dAsg 12 [] (dV (dBin ixD (dF (dLst (dCons (dC .non) (dCons (dC (.int 5)) (dCons (dC (.str [97, 98, 99, 100])) (dCons (dBin repD (dC (.str [97])) (dC (.int 13))) (dCons (dC (.str [65])) (dCons (dC (.str [32])) (dCons (dTup (dCons (dC (.str [97])) (dNil))) (dCons (dF (dLst (dCons (dC (.str [97])) (dCons (dC (.str [98])) (dNil))))) (dCons (dC (.str [97, 32, 98])) (dCons (dC (.bl true)) (dNil))))))))))))) (dCall m__law_pick (dCons (dVar 1) (dCons (dC (.int 10)) (dNil)))))))
  (dSeq (dIfS (dOr (dNot (dTr (dCallB allD (dCons (dF (dLc (gN 9) [9] [] (dWalk (dVar 11) walkD) (dYes) (dBin (isF false) (dCall m_is_word (dCons (dVar 9) (dNil))) (dC (.bl true))))) (dNil))))) (dB (dBin (isF true) (dCallK m_is_word [0] dNil (dCons (dVar 12) (dNil))) (dC (.bl false))))) (dRet (dC (.bl false))) (dNext))
  (dForget [12, 1, 5, 4] (dSeq (dFor (gN 13) [] (dRng rng1 (dCons (dC (.int 7)) (dNil))) L_law_2)
  (dForget [1] (dNext))))))))))))))))
def d_law : DS DeckSt := dSeq (dFor (gN 2) [] (dRng rng1 (dCons (dBin addD (dC (.int 2)) (dCallB min2D (dCons (dCallB lenX (dCons (dVar 0) (dNil))) (dCons (dC (.int 4)) (dNil))))) (dNil))) L_law_3) (dRet (dC (.bl true)))
def b_law_1 (a127 : (Wd × Wd)) (st126 : Unit) : M (Fl Unit Bool) := (ifT (notT (bnd (prd (ret ()) (prd (ret a127.1) (prd (ret a127.2) (prd (mp (fun p : Unit => ([] : List (List Int))) (ret ())) (ret ()))))) fun p : Unit × Wd × Wd × (List (List Int)) × Unit => t__law_told_right p.1 p.2.1 p.2.2.1 p.2.2.2.1)) (mp .rt (ret false)) (ret (.nx ())))
def b_law_2 (word121 : Wd) (other122 : Wd) (bad129 : D) (a132 : Int) (st131 : Unit) : M (Fl Unit Bool) := (bnd (mp (fun p : Wd × Wd × Wd × Wd × Unit => ([p.1, p.2.1, p.2.2.1, p.2.2.2.1] : List Wd)) (prd (bnd (prd (ret a132) (prd (ret bad129) (prd (ret bad129) (ret ())))) fun p : Int × D × D × Unit => t__law_refused p.1 p.2.1 p.2.2.1) (prd (bnd (prd (ret a132) (prd (ret bad129) (prd (mp D.str (ret word121)) (ret ())))) fun p : Int × D × D × Unit => t__law_refused p.1 p.2.1 p.2.2.1) (prd (bnd (prd (ret a132) (prd (mp D.str (ret word121)) (prd (ret bad129) (ret ())))) fun p : Int × D × D × Unit => t__law_refused p.1 p.2.1 p.2.2.1) (prd (bnd (prd (ret a132) (prd (mp D.str (ret word121)) (prd (mp D.str (ret other122)) (ret ())))) fun p : Int × D × D × Unit => t__law_refused p.1 p.2.1 p.2.2.1) (ret ())))))) fun words133 : (List Wd) => (ifT (bin oNe (ret words133) (mp (fun p : Wd × Wd × Wd × Wd × Unit => ([p.1, p.2.1, p.2.2.1, p.2.2.2.1] : List Wd)) (prd (ret ([119, 111, 114, 100] : Wd)) (prd (ret ([119, 111, 114, 100] : Wd)) (prd (ret ([111, 116, 104, 101, 114] : Wd)) (prd (ret ([110, 111, 110, 101] : Wd)) (ret ()))))))) (mp .rt (ret false)) (ret (.nx ()))))
def t_turn : M (Fl Unit Bool) := (bnd (bin oAdd (ret (1 : Int)) (bnd (prd (ret ()) (prd (ret (3 : Int)) (ret ()))) fun p : Unit × Int × Unit => t_pick p.1 p.2.1)) fun letters120 : Int => (bnd (bnd (prd (ret ()) (prd (ret letters120) (prd (ret (4 : Int)) (ret ())))) fun p : Unit × Int × Int × Unit => t__law_word p.1 p.2.1 p.2.2.1) fun word121 : Wd => bnd (bnd (prd (ret ()) (prd (ret letters120) (prd (ret (8 : Int)) (ret ())))) fun p : Unit × Int × Int × Unit => t__law_word p.1 p.2.1 p.2.2.1) fun other122 : Wd => (bnd (bnd (prd (ret word121) (prd (ret other122) (ret ()))) fun p : Wd × Wd × Unit => t__law_all p.1 p.2.1) fun rows123 : (List (List Int)) => (ifT (orT (bin oNe (bin oEq (ret rows123) (mp (fun p : Unit => ([] : List (List Int))) (ret ()))) (bin oIsN (bnd (prd (ret word121) (prd (ret other122) (ret ()))) fun p : Wd × Wd × Unit => t__law_left p.1 p.2.1) (ret ()))) (bin oNe (un oLen (ret rows123)) (bnd (prd (ret word121) (prd (ret other122) (ret ()))) fun p : Wd × Wd × Unit => t__law_ways p.1 p.2.1))) (mp .rt (ret false)) (ifT (andT (bin oNe (ret rows123) (mp (fun p : Unit => ([] : List (List Int))) (ret ()))) (orT (bin oNe (mp some (un (oMin1 (eR D.int)) (ret rows123))) (bnd (prd (mp D.str (ret word121)) (prd (mp D.str (ret other122)) (ret ()))) fun p : D × D × Unit => t_leftmost_places p.1 p.2.1)) (bin oNe (mp some (un (oMax1 (eR D.int)) (ret rows123))) (bnd (prd (mp D.str (ret word121)) (prd (mp D.str (ret other122)) (ret ()))) fun p : D × D × Unit => t_rightmost_places p.1 p.2.1)))) (mp .rt (ret false)) (ifT (notT (bnd (prd (ret ()) (prd (ret word121) (prd (ret other122) (prd (ret rows123) (ret ()))))) fun p : Unit × Wd × Wd × (List (List Int)) × Unit => t__law_told_right p.1 p.2.1 p.2.2.1 p.2.2.2.1)) (mp .rt (ret false)) (bnd (bnd (prd (ret ()) (prd (ret letters120) (prd (ret (8 : Int)) (ret ())))) fun p : Unit × Int × Int × Unit => t__law_word p.1 p.2.1 p.2.2.1) fun long124 : Wd => bnd (bnd (prd (ret ()) (prd (ret letters120) (prd (ret (12 : Int)) (ret ())))) fun p : Unit × Int × Int × Unit => t__law_word p.1 p.2.1 p.2.2.1) fun longer125 : Wd => (bnd (un oId (mp (fun p : (Wd × Wd) × (Wd × Wd) × (Wd × Wd) × (Wd × Wd) × Unit => ([p.1, p.2.1, p.2.2.1, p.2.2.2.1] : List (Wd × Wd))) (prd (mp (fun p : Wd × Wd × Unit => (p.1, p.2.1)) (prd (ret long124) (prd (ret longer125) (ret ())))) (prd (mp (fun p : Wd × Wd × Unit => (p.1, p.2.1)) (prd (bin oRep (bin oIxW (ret ([97, 98, 99] : Wd)) (ret (0 : Int))) (un oLen (ret long124))) (prd (bin oRep (bin oIxW (ret ([97, 98, 99] : Wd)) (ret (0 : Int))) (ret (12 : Int))) (ret ())))) (prd (mp (fun p : Wd × Wd × Unit => (p.1, p.2.1)) (prd (ret longer125) (prd (ret longer125) (ret ())))) (prd (mp (fun p : Wd × Wd × Unit => (p.1, p.2.1)) (prd (ret ([] : Wd)) (prd (ret longer125) (ret ())))) (ret ()))))))) fun l => thn (forT (b_law_1) l ()) fun st126 => (bnd (mp (fun p : D × D × D × D × D × Unit => ([p.1, p.2.1, p.2.2.1, p.2.2.2.1, p.2.2.2.2.1] : List D)) (prd (mp D.str (ret word121)) (prd (mp D.str (ret other122)) (prd (mp D.str (ret long124)) (prd (mp D.str (ret longer125)) (prd (mp D.str (ret ([97, 98, 99, 97, 98, 99, 97, 98, 99, 97, 98, 99] : Wd))) (ret ()))))))) fun good128 : (List D) => (bnd (bin atI (mp (fun p : D × D × D × D × D × D × D × D × D × D × Unit => ([p.1, p.2.1, p.2.2.1, p.2.2.2.1, p.2.2.2.2.1, p.2.2.2.2.2.1, p.2.2.2.2.2.2.1, p.2.2.2.2.2.2.2.1, p.2.2.2.2.2.2.2.2.1, p.2.2.2.2.2.2.2.2.2.1] : List D)) (prd (mp eN (ret ())) (prd (mp D.int (ret (5 : Int))) (prd (mp D.str (ret ([97, 98, 99, 100] : Wd))) (prd (mp D.str (bin oRep (ret ([97] : Wd)) (ret (13 : Int)))) (prd (mp D.str (ret ([65] : Wd))) (prd (mp D.str (ret ([32] : Wd))) (prd (mp (e1 D.str) (mp (fun p : Wd × Unit => p.1) (prd (ret ([97] : Wd)) (ret ())))) (prd (mp (eL D.str) (mp (fun p : Wd × Wd × Unit => ([p.1, p.2.1] : List Wd)) (prd (ret ([97] : Wd)) (prd (ret ([98] : Wd)) (ret ()))))) (prd (mp D.str (ret ([97, 32, 98] : Wd))) (prd (mp D.bl (ret true)) (ret ())))))))))))) (bnd (prd (ret ()) (prd (ret (10 : Int)) (ret ()))) fun p : Unit × Int × Unit => t_pick p.1 p.2.1)) fun bad129 : D => (ifT (orT (notT (un oAll (lc (un oId (ret good128)) (fun a130 : D => (ret true)) fun a130 => (bin oEq (bnd (prd (ret a130) (ret ())) fun p : D × Unit => t_is_word p.1) (ret true))))) (bin oNe (bnd (ret ()) fun p : Unit => bnd (prd (ret bad129) (ret ())) fun q : D × Unit => t_is_word q.1) (ret false))) (mp .rt (ret false)) (bnd (un oRng1 (prd (ret (7 : Int)) (ret ()))) fun l => thn (forT (b_law_2 word121 other122 bad129) l ()) fun st131 => (ret (.nx ()))))))))))))))
theorem te_turn {ρ : En} (hρ : fgt [1] ρ = [none, some (.val .deck), none, none, none, none, none, none, none, none, none, none, none, none, none]) : TB (fun _ : Unit => [none, some (.val .deck), none, none, none, none, none, none, none, none, none, none, none, none, none]) D.bl (fun _ => True) L_law_3 ρ t_turn := (tb_forgetC hρ (tb_asgC (e := D.int) (te_bin o_add (te_c (e := D.int) (a := (1 : Int)) rfl) (te_call (eb := D.int) (ta_cons (te_var (e := eK) (a := ()) 1 (ls l0)) (ta_cons (te_c (e := D.int) (a := (3 : Int)) rfl) ta_nil)) fun p => pick_ok p.1 p.2.1)) trivial (fun _ => (ss (ss (ss s0)))) fun letters120 => (tb_parC (e := D.str) (e' := D.str) (te_call (eb := D.str) (ta_cons (te_var (e := eK) (a := ()) 1 (ls l0)) (ta_cons (te_var (e := D.int) (a := letters120) 3 (ls (ls (ls l0)))) (ta_cons (te_c (e := D.int) (a := (4 : Int)) rfl) ta_nil))) fun p => te__law_word p.1 p.2.1 p.2.2.1) (te_call (eb := D.str) (ta_cons (te_var (e := eK) (a := ()) 1 (ls l0)) (ta_cons (te_var (e := D.int) (a := letters120) 3 (ls (ls (ls l0)))) (ta_cons (te_c (e := D.int) (a := (8 : Int)) rfl) ta_nil))) fun p => te__law_word p.1 p.2.1 p.2.2.1) trivial (fun _ => (ss (ss (ss (ss s0))))) (fun _ _ => (ss (ss (ss (ss (ss s0)))))) fun word121 other122 => (tb_asgC (e := (eL (eR D.int))) (te_call (eb := (eL (eR D.int))) (ta_cons (te_var (e := D.str) (a := word121) 4 (ls (ls (ls (ls l0))))) (ta_cons (te_var (e := D.str) (a := other122) 5 (ls (ls (ls (ls (ls l0)))))) ta_nil)) fun p => te__law_all p.1 p.2.1) trivial (fun _ => (ss (ss (ss (ss (ss (ss s0))))))) fun rows123 => (tb_if (tt_or (tt_b (te_bin (o_ne eqk_B (by decide)) (te_bin (o_eq (eqk_L (eqk_R eqk_I)) (by decide)) (te_var (e := (eL (eR D.int))) (a := rows123) 6 (ls (ls (ls (ls (ls (ls l0))))))) (te_f (ta_lst (ek := List.map (eR D.int)) ta_nil (fun _ => Nat.le_of_ble_eq_true rfl) fun _ => rfl))) (te_bin (o_isN nn_R) (te_call (eb := (eO (eR D.int))) (ta_cons (te_var (e := D.str) (a := word121) 4 (ls (ls (ls (ls l0))))) (ta_cons (te_var (e := D.str) (a := other122) 5 (ls (ls (ls (ls (ls l0)))))) ta_nil)) fun p => te__law_left p.1 p.2.1) (te_c (e := eN) (a := ()) rfl)))) (tt_b (te_bin (o_ne eqk_I (by decide)) (te_cb1 c_lenL (te_var (e := (eL (eR D.int))) (a := rows123) 6 (ls (ls (ls (ls (ls (ls l0)))))))) (te_call (eb := D.int) (ta_cons (te_var (e := D.str) (a := word121) 4 (ls (ls (ls (ls l0))))) (ta_cons (te_var (e := D.str) (a := other122) 5 (ls (ls (ls (ls (ls l0)))))) ta_nil)) fun p => te__law_ways p.1 p.2.1)))) trivial (tb_ret (te_c (e := D.bl) (a := false) rfl) trivial) (tb_next (tb_if (tt_and (tt_b (te_bin (o_ne (eqk_L (eqk_R eqk_I)) (by decide)) (te_var (e := (eL (eR D.int))) (a := rows123) 6 (ls (ls (ls (ls (ls (ls l0))))))) (te_f (ta_lst (ek := List.map (eR D.int)) ta_nil (fun _ => Nat.le_of_ble_eq_true rfl) fun _ => rfl)))) (tt_or (tt_b (te_bin (o_ne (eqk_O (eqk_R eqk_I) nn_R) (by decide)) (te_mp (te_cb1 (c_minL (alk_R alk_I) (by decide)) (te_var (e := (eL (eR D.int))) (a := rows123) 6 (ls (ls (ls (ls (ls (ls l0)))))))) fun _ => rfl) (te_call (eb := (eO (eR D.int))) (ta_cons (te_up (te_var (e := D.str) (a := word121) 4 (ls (ls (ls (ls l0)))))) (ta_cons (te_up (te_var (e := D.str) (a := other122) 5 (ls (ls (ls (ls (ls l0))))))) ta_nil)) fun p => te_leftmost_places p.1 p.2.1))) (tt_b (te_bin (o_ne (eqk_O (eqk_R eqk_I) nn_R) (by decide)) (te_mp (te_cb1 (c_maxL (alk_R alk_I) (by decide)) (te_var (e := (eL (eR D.int))) (a := rows123) 6 (ls (ls (ls (ls (ls (ls l0)))))))) fun _ => rfl) (te_call (eb := (eO (eR D.int))) (ta_cons (te_up (te_var (e := D.str) (a := word121) 4 (ls (ls (ls (ls l0)))))) (ta_cons (te_up (te_var (e := D.str) (a := other122) 5 (ls (ls (ls (ls (ls l0))))))) ta_nil)) fun p => te_rightmost_places p.1 p.2.1))))) trivial (tb_ret (te_c (e := D.bl) (a := false) rfl) trivial) (tb_next (tb_if (tt_not (tt_tr (te_call (eb := D.bl) (ta_cons (te_var (e := eK) (a := ()) 1 (ls l0)) (ta_cons (te_var (e := D.str) (a := word121) 4 (ls (ls (ls (ls l0))))) (ta_cons (te_var (e := D.str) (a := other122) 5 (ls (ls (ls (ls (ls l0)))))) (ta_cons (te_var (e := (eL (eR D.int))) (a := rows123) 6 (ls (ls (ls (ls (ls (ls l0))))))) ta_nil)))) fun p => te__law_told_right p.1 p.2.1 p.2.2.1 p.2.2.2.1))) trivial (tb_ret (te_c (e := D.bl) (a := false) rfl) trivial) (tb_next (tb_parC (e := D.str) (e' := D.str) (te_call (eb := D.str) (ta_cons (te_var (e := eK) (a := ()) 1 (ls l0)) (ta_cons (te_var (e := D.int) (a := letters120) 3 (ls (ls (ls l0)))) (ta_cons (te_c (e := D.int) (a := (8 : Int)) rfl) ta_nil))) fun p => te__law_word p.1 p.2.1 p.2.2.1) (te_call (eb := D.str) (ta_cons (te_var (e := eK) (a := ()) 1 (ls l0)) (ta_cons (te_var (e := D.int) (a := letters120) 3 (ls (ls (ls l0)))) (ta_cons (te_c (e := D.int) (a := (12 : Int)) rfl) ta_nil))) fun p => te__law_word p.1 p.2.1 p.2.2.1) trivial (fun _ => (ss (ss (ss (ss (ss (ss (ss s0)))))))) (fun _ _ => (ss (ss (ss (ss (ss (ss (ss (ss s0))))))))) fun long124 longer125 => (tb_forgetC (fgt_m (m := [false, true, false, false, true, true, false, true, true, false, false, false, false, false, false]) (by decide +kernel) (.f (.t (.f (.f (.t (.t (.f (.t (.t (.f (.f (.f (.f (.f (.f Fm.n)))))))))))))))) (tb_for (e := (e2 D.str D.str)) (F0 := (fun st126 : Unit => [none, some (.val (eK ())), none, none, some (.val (D.str word121)), some (.val (D.str other122)), none, some (.val (D.str long124)), some (.val (D.str longer125)), none, none, none, none, none, none])) (body := b_law_1) () (ta_walk w_L (te_f (ta_lst (ek := List.map (e2 D.str D.str)) (ta_cons (te_tup (eb := (e2 D.str D.str)) (ta_cons (te_var (e := D.str) (a := long124) 7 (ls (ls (ls (ls (ls (ls (ls l0)))))))) (ta_cons (te_var (e := D.str) (a := longer125) 8 (ls (ls (ls (ls (ls (ls (ls (ls l0))))))))) ta_nil)) (fun _ => Nat.le_of_ble_eq_true rfl) fun _ => rfl) (ta_cons (te_tup (eb := (e2 D.str D.str)) (ta_cons (te_bin o_repW (te_bin o_ixW (te_c (e := D.str) (a := ([97, 98, 99] : Wd)) rfl) (te_c (e := D.int) (a := (0 : Int)) rfl)) (te_cb1 c_lenW (te_var (e := D.str) (a := long124) 7 (ls (ls (ls (ls (ls (ls (ls l0)))))))))) (ta_cons (te_bin o_repW (te_bin o_ixW (te_c (e := D.str) (a := ([97, 98, 99] : Wd)) rfl) (te_c (e := D.int) (a := (0 : Int)) rfl)) (te_c (e := D.int) (a := (12 : Int)) rfl)) ta_nil)) (fun _ => Nat.le_of_ble_eq_true rfl) fun _ => rfl) (ta_cons (te_tup (eb := (e2 D.str D.str)) (ta_cons (te_var (e := D.str) (a := longer125) 8 (ls (ls (ls (ls (ls (ls (ls (ls l0))))))))) (ta_cons (te_var (e := D.str) (a := longer125) 8 (ls (ls (ls (ls (ls (ls (ls (ls l0))))))))) ta_nil)) (fun _ => Nat.le_of_ble_eq_true rfl) fun _ => rfl) (ta_cons (te_tup (eb := (e2 D.str D.str)) (ta_cons (te_c (e := D.str) (a := ([] : Wd)) rfl) (ta_cons (te_var (e := D.str) (a := longer125) 8 (ls (ls (ls (ls (ls (ls (ls (ls l0))))))))) ta_nil)) (fun _ => Nat.le_of_ble_eq_true rfl) fun _ => rfl) ta_nil)))) (fun _ => Nat.le_of_ble_eq_true rfl) fun _ => rfl))) (fnl rfl) (fun _ _ => (gt rfl (gc (gn (ss (ss (ss (ss (ss (ss (ss (ss (ss s0)))))))))) (gc (gn (ss (ss (ss (ss (ss (ss (ss (ss (ss (ss s0))))))))))) gz)))) (fun a127 st126 => (tb_if (tt_not (tt_tr (te_call (eb := D.bl) (ta_cons (te_var (e := eK) (a := ()) 1 (ls l0)) (ta_cons (te_var (e := D.str) (a := a127.1) 9 (ls (ls (ls (ls (ls (ls (ls (ls (ls l0)))))))))) (ta_cons (te_var (e := D.str) (a := a127.2) 10 (ls (ls (ls (ls (ls (ls (ls (ls (ls (ls l0))))))))))) (ta_cons (te_f (ta_lst (ek := List.map (eR D.int)) ta_nil (fun _ => Nat.le_of_ble_eq_true rfl) fun _ => rfl)) ta_nil)))) fun p => te__law_told_right p.1 p.2.1 p.2.2.1 p.2.2.2.1))) trivial (tb_ret (te_c (e := D.bl) (a := false) rfl) trivial) (tb_next (tb_forgetC (fgt_m (m := [false, true, false, false, true, true, false, true, true, false, false, false, false, false, false]) (by decide +kernel) (.f (.t (.f (.f (.t (.t (.f (.t (.t (.f (.f (.f (.f (.f (.f Fm.n)))))))))))))))) (tb_end () rfl))))) trivial fun st126 => (tb_asgC (e := (eL eA)) (te_f (ta_lst (ek := List.map eA) (ta_cons (te_up (te_var (e := D.str) (a := word121) 4 (ls (ls (ls (ls l0)))))) (ta_cons (te_up (te_var (e := D.str) (a := other122) 5 (ls (ls (ls (ls (ls l0))))))) (ta_cons (te_up (te_var (e := D.str) (a := long124) 7 (ls (ls (ls (ls (ls (ls (ls l0))))))))) (ta_cons (te_up (te_var (e := D.str) (a := longer125) 8 (ls (ls (ls (ls (ls (ls (ls (ls l0)))))))))) (ta_cons (te_up (te_c (e := D.str) (a := ([97, 98, 99, 97, 98, 99, 97, 98, 99, 97, 98, 99] : Wd)) rfl)) ta_nil))))) (fun _ => Nat.le_of_ble_eq_true rfl) fun _ => rfl)) trivial (fun _ => (ss (ss (ss (ss (ss (ss (ss (ss (ss (ss (ss s0)))))))))))) fun good128 => (tb_asgC (e := eA) (te_bin o_ixL (te_f (ta_lst (ek := List.map eA) (ta_cons (te_up (te_c (e := eN) (a := ()) rfl)) (ta_cons (te_up (te_c (e := D.int) (a := (5 : Int)) rfl)) (ta_cons (te_up (te_c (e := D.str) (a := ([97, 98, 99, 100] : Wd)) rfl)) (ta_cons (te_up (te_bin o_repW (te_c (e := D.str) (a := ([97] : Wd)) rfl) (te_c (e := D.int) (a := (13 : Int)) rfl))) (ta_cons (te_up (te_c (e := D.str) (a := ([65] : Wd)) rfl)) (ta_cons (te_up (te_c (e := D.str) (a := ([32] : Wd)) rfl)) (ta_cons (te_up (te_tup (eb := (e1 D.str)) (ta_cons (te_c (e := D.str) (a := ([97] : Wd)) rfl) ta_nil) (fun _ => Nat.le_of_ble_eq_true rfl) fun _ => rfl)) (ta_cons (te_up (te_f (ta_lst (ek := List.map D.str) (ta_cons (te_c (e := D.str) (a := ([97] : Wd)) rfl) (ta_cons (te_c (e := D.str) (a := ([98] : Wd)) rfl) ta_nil)) (fun _ => Nat.le_of_ble_eq_true rfl) fun _ => rfl))) (ta_cons (te_up (te_c (e := D.str) (a := ([97, 32, 98] : Wd)) rfl)) (ta_cons (te_up (te_c (e := D.bl) (a := true) rfl)) ta_nil)))))))))) (fun _ => Nat.le_of_ble_eq_true rfl) fun _ => rfl)) (te_call (eb := D.int) (ta_cons (te_var (e := eK) (a := ()) 1 (ls l0)) (ta_cons (te_c (e := D.int) (a := (10 : Int)) rfl) ta_nil)) fun p => pick_ok p.1 p.2.1)) trivial (fun _ => (ss (ss (ss (ss (ss (ss (ss (ss (ss (ss (ss (ss s0))))))))))))) fun bad129 => (tb_if (tt_or (tt_not (tt_tr (te_cb1 c_all (te_f (ta_lcC (ta_walk w_L (te_var (e := (eL eA)) (a := good128) 11 (ls (ls (ls (ls (ls (ls (ls (ls (ls (ls (ls l0))))))))))))) (wf (ws w0 (ss (ss (ss (ss (ss (ss (ss (ss (ss s0))))))))))) (fun _ => (gn (ss (ss (ss (ss (ss (ss (ss (ss (ss s0))))))))))) (fun a130 => tt_yes) (fun a130 => (te_bin o_isB (te_call (eb := D.bl) (ta_cons (te_var (e := eA) (a := a130) 9 (ls (ls (ls (ls (ls (ls (ls (ls (ls l0)))))))))) ta_nil) fun p => te_is_word p.1) (te_c (e := D.bl) (a := true) rfl)))))))) (tt_b (te_bin o_isNB (te_callK (ec := D.bl) ta_nil (ta_cons (te_var (e := eA) (a := bad129) 12 (ls (ls (ls (ls (ls (ls (ls (ls (ls (ls (ls (ls l0))))))))))))) ta_nil) fun p q => te_is_word q.1) (te_c (e := D.bl) (a := false) rfl)))) trivial (tb_ret (te_c (e := D.bl) (a := false) rfl) trivial) (tb_next (tb_forgetC (fgt_m (m := [false, true, false, false, true, true, false, false, false, false, false, false, true, false, false]) (by decide +kernel) (.f (.t (.f (.f (.t (.t (.f (.f (.f (.f (.f (.f (.t (.f (.f Fm.n)))))))))))))))) (tb_for (e := D.int) (F0 := (fun st131 : Unit => [none, some (.val (eK ())), none, none, some (.val (D.str word121)), some (.val (D.str other122)), none, none, none, none, none, none, some (.val (eA bad129)), none, none])) (body := b_law_2 word121 other122 bad129) () (ta_rng w_rng1 (ta_cons (te_c (e := D.int) (a := (7 : Int)) rfl) ta_nil)) (fnl rfl) (fun _ _ => (gn (ss (ss (ss (ss (ss (ss (ss (ss (ss (ss (ss (ss (ss s0))))))))))))))) (fun a132 st131 => (tb_asgC (e := (eL D.str)) (te_f (ta_lst (ek := List.map D.str) (ta_cons (te_call (eb := D.str) (ta_cons (te_var (e := D.int) (a := a132) 13 (ls (ls (ls (ls (ls (ls (ls (ls (ls (ls (ls (ls (ls l0)))))))))))))) (ta_cons (te_var (e := eA) (a := bad129) 12 (ls (ls (ls (ls (ls (ls (ls (ls (ls (ls (ls (ls l0))))))))))))) (ta_cons (te_var (e := eA) (a := bad129) 12 (ls (ls (ls (ls (ls (ls (ls (ls (ls (ls (ls (ls l0))))))))))))) ta_nil))) fun p => te__law_refused p.1 p.2.1 p.2.2.1) (ta_cons (te_call (eb := D.str) (ta_cons (te_var (e := D.int) (a := a132) 13 (ls (ls (ls (ls (ls (ls (ls (ls (ls (ls (ls (ls (ls l0)))))))))))))) (ta_cons (te_var (e := eA) (a := bad129) 12 (ls (ls (ls (ls (ls (ls (ls (ls (ls (ls (ls (ls l0))))))))))))) (ta_cons (te_up (te_var (e := D.str) (a := word121) 4 (ls (ls (ls (ls l0)))))) ta_nil))) fun p => te__law_refused p.1 p.2.1 p.2.2.1) (ta_cons (te_call (eb := D.str) (ta_cons (te_var (e := D.int) (a := a132) 13 (ls (ls (ls (ls (ls (ls (ls (ls (ls (ls (ls (ls (ls l0)))))))))))))) (ta_cons (te_up (te_var (e := D.str) (a := word121) 4 (ls (ls (ls (ls l0)))))) (ta_cons (te_var (e := eA) (a := bad129) 12 (ls (ls (ls (ls (ls (ls (ls (ls (ls (ls (ls (ls l0))))))))))))) ta_nil))) fun p => te__law_refused p.1 p.2.1 p.2.2.1) (ta_cons (te_call (eb := D.str) (ta_cons (te_var (e := D.int) (a := a132) 13 (ls (ls (ls (ls (ls (ls (ls (ls (ls (ls (ls (ls (ls l0)))))))))))))) (ta_cons (te_up (te_var (e := D.str) (a := word121) 4 (ls (ls (ls (ls l0)))))) (ta_cons (te_up (te_var (e := D.str) (a := other122) 5 (ls (ls (ls (ls (ls l0))))))) ta_nil))) fun p => te__law_refused p.1 p.2.1 p.2.2.1) ta_nil)))) (fun _ => Nat.le_of_ble_eq_true rfl) fun _ => rfl)) trivial (fun _ => (ss (ss (ss (ss (ss (ss (ss (ss (ss (ss (ss (ss (ss (ss s0))))))))))))))) fun words133 => (tb_if (tt_b (te_bin (o_ne (eqk_L eqk_W) (by decide)) (te_var (e := (eL D.str)) (a := words133) 14 (ls (ls (ls (ls (ls (ls (ls (ls (ls (ls (ls (ls (ls (ls l0))))))))))))))) (te_f (ta_lst (ek := List.map D.str) (ta_cons (te_c (e := D.str) (a := ([119, 111, 114, 100] : Wd)) rfl) (ta_cons (te_c (e := D.str) (a := ([119, 111, 114, 100] : Wd)) rfl) (ta_cons (te_c (e := D.str) (a := ([111, 116, 104, 101, 114] : Wd)) rfl) (ta_cons (te_c (e := D.str) (a := ([110, 111, 110, 101] : Wd)) rfl) ta_nil)))) (fun _ => Nat.le_of_ble_eq_true rfl) fun _ => rfl)))) trivial (tb_ret (te_c (e := D.bl) (a := false) rfl) trivial) (tb_next (tb_forgetC (fgt_m (m := [false, true, false, false, true, true, false, false, false, false, false, false, true, false, false]) (by decide +kernel) (.f (.t (.f (.f (.t (.t (.f (.f (.f (.f (.f (.f (.t (.f (.f Fm.n)))))))))))))))) (tb_end () rfl)))))) trivial fun st131 => (tb_forgetC (fgt_m (m := [false, true, false, false, false, false, false, false, false, false, false, false, false, false, false]) (by decide +kernel) (.f (.t (.f (.f (.f (.f (.f (.f (.f (.f (.f (.f (.f (.f (.f Fm.n)))))))))))))))) (tb_end () rfl)))))))))))))))))))))
theorem law_pure_of (h : ∀ s : DeckSt, s.Ok → ∃ s', t_turn s = .ok (.nx ()) s' ∧ s'.Ok) (hl : ∀ n : Nat, n ≤ 63 → ∀ st : DeckSt, ∃ l, (dRng rng1 (dCons (dBin addD (dC (.int 2)) (dCallB min2D (dCons (dCallB lenX (dCons (dVar 0) (dNil))) (dCons (dC (.int 4)) (dNil))))) (dNil)) : DA DeckSt) (rho0 N_law.length n) st = .ok l st) (st : DeckSt) (n : Nat) (ok : st.Ok) (hn : n ≤ 63) : ∃ s', d_law (rho0 N_law.length n) st = .rt (.bl true) s' := by
  obtain ⟨l, hl⟩ := hl n hn st
  refine turns_pure (N := 13) ok hl (by decide) fun ρ s I => ?_
  obtain ⟨h0, h1, h2⟩ := I
  obtain ⟨s', e, ok'⟩ := h s h2
  have g := te_turn (ρ := ρ) (fgt_one h0 h1) s
  rw [e] at g
  exact ⟨_, s', g, rfl, rfl, ok'⟩
theorem fnd_step {o : List Nat} {c k : Nat} (h : k < o.length) : fnd o c k = if o[k] = c then (k : Int) else fnd o c (k + 1) := by
  unfold fnd
  have e : o.length + 1 - k = (o.length + 1 - (k + 1)) + 1 := by omega
  rw [e, List.range'_succ, List.find?_cons, List.getElem?_eq_getElem h]
  by_cases z : o[k] = c
  · rw [if_pos z, z]
    simp
  · rw [if_neg z]
    have : ((some o[k]) == some c) = false := by simpa using z
    rw [this]
theorem fnd_end {o : List Nat} {c : Nat} : fnd o c o.length = -1 := by
  unfold fnd
  have e : o.length + 1 - o.length = 1 := by omega
  rw [e]
  simp
/-- the leftmost embedding, from the place k on -/
def lmS (k : Nat) : List Nat → List Nat → Option (List Nat)
  | [], _ => some []
  | _ :: _, [] => none
  | c :: w, d :: o => if d = c then (lmS (k + 1) w o).map (k :: ·) else lmS (k + 1) (c :: w) o
theorem fnd_lm {o : List Nat} {c : Nat} {w : List Nat} : ∀ (n k : Nat), o.length - k = n → k ≤ o.length →
    (fnd o c k = -1 ∧ lmS k (c :: w) (o.drop k) = none) ∨ ∃ j : Nat, fnd o c k = (j : Int) ∧ k ≤ j ∧ j < o.length ∧ o[j]? = some c ∧ lmS k (c :: w) (o.drop k) = (lmS (j + 1) w (o.drop (j + 1))).map (j :: ·)
  | 0, k, hn, hk => by
    have e : k = o.length := by omega
    subst e
    exact .inl ⟨fnd_end, by rw [List.drop_length]; rfl⟩
  | n + 1, k, hn, hk => by
    have h : k < o.length := by omega
    rw [fnd_step h, List.drop_eq_getElem_cons h]
    by_cases z : o[k] = c
    · rw [if_pos z]
      exact .inr ⟨k, rfl, Nat.le_refl _, h, by rw [List.getElem?_eq_getElem h, z], by rw [lmS, if_pos z]⟩
    · rw [if_neg z, lmS, if_neg z]
      rcases fnd_lm (o := o) (c := c) (w := w) n (k + 1) (by omega) (by omega) with ⟨e1, e2⟩ | ⟨j, e1, e2, e3, e4, e5⟩
      · exact .inl ⟨e1, e2⟩
      · exact .inr ⟨j, e1, by omega, e3, e4, e5⟩
abbrev toI (l : List Nat) : List Int := l.map fun (n : Nat) => (n : Int)
theorem lm_loop {o : Wd} : ∀ (w : Wd) (f : List Int) (k : Nat), k ≤ o.length → f.length + w.length ≤ 1000 →
    (lmS k w (o.drop k) = none ∧ forT (b_leftmost_in_1 o) (signs w) (f, (k : Int)) = ret (.rt none)) ∨ ∃ r e, lmS k w (o.drop k) = some r ∧ r.length = w.length ∧ forT (b_leftmost_in_1 o) (signs w) (f, (k : Int)) = ret (.nx (f ++ toI r, e))
  | [], f, k, hk, _ => .inr ⟨[], k, by rw [lmS], rfl, by simp [signs]⟩
  | c :: w, f, k, hk, hl => by
    rw [List.length_cons] at hl
    rcases fnd_lm (o := o) (c := c) (w := w) _ k rfl hk with ⟨e1, e2⟩ | ⟨j, e1, e2, e3, e4, e5⟩
    · refine .inl ⟨e2, ?_⟩
      show forT _ ([c] :: signs w) _ = _
      rw [forT_rt (v := none)]
      simp [b_leftmost_in_1, fromI_nat, e1, ifT_ret]
    · rw [e5]
      have h1 : ¬ ((j : Int) < 0) := by omega
      have h2 : f.length < 65536 := by omega
      have s : forT (b_leftmost_in_1 o) (signs (c :: w)) (f, (k : Int)) = forT (b_leftmost_in_1 o) (signs w) (f ++ [(j : Int)], ((j + 1 : Nat) : Int)) := by
        show forT _ ([c] :: signs w) _ = _
        rw [forT_nx (st' := (f ++ [(j : Int)], ((j + 1 : Nat) : Int)))]
        simp [b_leftmost_in_1, fromI_nat, e1, ifT_ret, h1, oApp, h2]
      rw [s]
      rcases lm_loop (o := o) w (f ++ [(j : Int)]) (j + 1) (by omega) (by rw [List.length_append, List.length_singleton]; omega) with ⟨q1, q2⟩ | ⟨r, e, q1, q2, q3⟩
      · exact .inl ⟨by rw [q1]; rfl, q2⟩
      · exact .inr ⟨j :: r, e, by rw [q1]; rfl, by rw [List.length_cons, List.length_cons, q2], by rw [q3]; simp⟩
theorem leftmost_in_ev {w o : Wd} (h : w.length ≤ 900) : t_leftmost_in w o = ret ((lmS 0 w o).map toI) := by
  rcases lm_loop (o := o) w [] 0 (Nat.zero_le _) (by simpa using (by omega : w.length ≤ 1000)) with ⟨q1, q2⟩ | ⟨r, e, q1, q2, q3⟩
  · rw [List.drop_zero] at q1
    have q2 : forT (b_leftmost_in_1 o) (signs w) ([], 0) = ret (.rt none) := q2
    simp [t_leftmost_in, q1, q2]
  · rw [List.drop_zero] at q1
    have q3 : forT (b_leftmost_in_1 o) (signs w) ([], 0) = ret (.nx ([] ++ toI r, e)) := q3
    simp [t_leftmost_in, q1, q3]
/-- places of a sign -/
def plc (o : Wd) (c : Nat) (k n : Nat) : List Nat := (List.range' k (n - k)).filter fun i => o[i]? == some c
theorem plc_lc {o : Wd} {c k n : Nat} (hn : n ≤ o.length) (hl : n ≤ 65536) : lc (ret ((List.range' k (n - k)).map fun (i : Nat) => (i : Int))) (fun i : Int => bin oEq (lft (oIxW o i)) (ret [c])) (fun i : Int => ret i) = ret (toI (plc o c k n)) := by
  rw [lc_ret (fun i : Int => o[i.toNat]? == some c) (fun i => i) (by simp; omega)]
  · rw [List.filter_map, List.map_map]; rfl
  · intro i hi
    obtain ⟨j, hj, rfl⟩ := List.mem_map.mp hi
    have hj := List.mem_range'_1.mp hj
    have hj' : j < o.length := by omega
    simp [oIxW, atI_nat, hj']
  · intro i hi _; rfl
theorem plc_fnd {o : Wd} {c k : Nat} (hk : k ≤ o.length) : (fnd o c k = -1 ∧ plc o c k o.length = []) ∨ ∃ (j : Nat) (r : List Nat), fnd o c k = (j : Int) ∧ plc o c k o.length = j :: r := by
  unfold fnd plc
  have e : o.length + 1 - k = (o.length - k) + 1 := by omega
  rw [e, List.range'_concat, List.find?_append]
  have hx : (List.find? (fun i => o[i]? == some c) [k + 1 * (o.length - k)]) = none := by
    rw [List.find?_eq_none]
    intro i hi
    rw [List.mem_singleton.mp hi, List.getElem?_eq_none (by omega)]
    simp
  rw [hx, Option.or_none, ← List.head?_filter]
  cases List.filter (fun i => o[i]? == some c) (List.range' k (o.length - k)) with
  | nil => exact .inl ⟨rfl, rfl⟩
  | cons j r => exact .inr ⟨j, r, rfl, rfl⟩
theorem ll_loop {o : Wd} (ho : o.length ≤ 60000) : ∀ (w : Wd) (f : List Int) (k : Nat), k ≤ o.length → f.length + w.length ≤ 1000 →
    (lmS k w (o.drop k) = none ∧ forT (b__law_left_1 o) (signs w) (f, (k : Int)) = ret (.rt none)) ∨ ∃ r e, lmS k w (o.drop k) = some r ∧ forT (b__law_left_1 o) (signs w) (f, (k : Int)) = ret (.nx (f ++ toI r, e))
  | [], f, k, hk, _ => .inr ⟨[], k, by rw [lmS], by simp [signs]⟩
  | c :: w, f, k, hk, hl => by
    rw [List.length_cons] at hl
    have u : oRng2 ((k : Int), (o.length : Int), ()) = some ((List.range' k (o.length - k)).map fun (i : Nat) => (i : Int)) := by
      unfold oRng2
      rw [if_pos (by dsimp only; omega)]
      exact congrArg some upto_nat
    have p := plc_lc (o := o) (c := c) (k := k) (n := o.length) (Nat.le_refl _) (by omega)
    rcases fnd_lm (o := o) (c := c) (w := w) _ k rfl hk with ⟨e1, e2⟩ | ⟨j, e1, e2, e3, e4, e5⟩
    · refine .inl ⟨e2, ?_⟩
      show forT _ ([c] :: signs w) _ = _
      have pl : plc o c k o.length = [] := by
        rcases plc_fnd (c := c) hk with ⟨_, q⟩ | ⟨j, r, q, _⟩
        · exact q
        · rw [e1] at q; omega
      rw [pl] at p
      rw [forT_rt (v := none)]
      simp [b__law_left_1, u, p, ifT_ret]
    · rw [e5]
      obtain ⟨r, pl⟩ : ∃ r : List Nat, plc o c k o.length = j :: r := by
        rcases plc_fnd (c := c) hk with ⟨q, _⟩ | ⟨j', r, q, q'⟩
        · rw [e1] at q; omega
        · rw [e1] at q
          have : j = j' := by omega
          subst this
          exact ⟨r, q'⟩
      rw [pl] at p
      have h2 : f.length < 65536 := by omega
      have at0 : atI (toI (j :: r)) 0 = some (j : Int) := atI_nat (k := 0)
      have s : forT (b__law_left_1 o) (signs (c :: w)) (f, (k : Int)) = forT (b__law_left_1 o) (signs w) (f ++ [(j : Int)], ((j + 1 : Nat) : Int)) := by
        show forT _ ([c] :: signs w) _ = _
        rw [forT_nx (st' := (f ++ [(j : Int)], ((j + 1 : Nat) : Int)))]
        simp only [b__law_left_1, bnd_ret, bin_ret, un_ret, prd_ret, u, lft_some, oLen_ev, p, at0]
        simp [ifT_ret, oApp, h2]
      rw [s]
      rcases ll_loop ho w (f ++ [(j : Int)]) (j + 1) (by omega) (by rw [List.length_append, List.length_singleton]; omega) with ⟨q1, q2⟩ | ⟨r, e, q1, q3⟩
      · exact .inl ⟨by rw [q1]; rfl, q2⟩
      · exact .inr ⟨j :: r, e, by rw [q1]; rfl, by rw [q3]; simp⟩
theorem law_left_ev {w o : Wd} (h : w.length ≤ 900) (ho : o.length ≤ 60000) : t__law_left w o = ret ((lmS 0 w o).map toI) := by
  rcases ll_loop ho w [] 0 (Nat.zero_le _) (by simpa using (by omega : w.length ≤ 1000)) with ⟨q1, q2⟩ | ⟨r, e, q1, q3⟩
  · rw [List.drop_zero] at q1
    have q2 : forT (b__law_left_1 o) (signs w) ([], 0) = ret (.rt none) := q2
    simp [t__law_left, q1, q2]
  · rw [List.drop_zero] at q1
    have q3 : forT (b__law_left_1 o) (signs w) ([], 0) = ret (.nx ([] ++ toI r, e)) := q3
    simp [t__law_left, q1, q3]
theorem plc_snoc {o : Wd} {c m : Nat} : plc o c 0 (m + 1) = plc o c 0 m ++ (if o[m]? = some c then [m] else []) := by
  unfold plc
  rw [Nat.sub_zero, Nat.sub_zero, List.range'_concat, List.filter_append]
  congr 1
  by_cases z : o[m]? = some c <;> simp [z]
theorem plc_rev {o : Wd} {c : Nat} : ∀ m : Nat, m ≤ o.length → (fnd o.reverse c (o.length - m) = -1 ∧ plc o c 0 m = []) ∨ ∃ (j : Nat) (l : List Nat), fnd o.reverse c (o.length - m) = (j : Int) ∧ j < o.length ∧ plc o c 0 m = l ++ [o.length - 1 - j]
  | 0, _ => .inl ⟨by rw [Nat.sub_zero]; have := fnd_end (o := o.reverse) (c := c); rwa [List.length_reverse] at this, rfl⟩
  | m + 1, h => by
    have hk : o.length - (m + 1) < o.reverse.length := by rw [List.length_reverse]; omega
    have e1 : o.reverse[o.length - (m + 1)] = o[m] := by
      rw [List.getElem_reverse]
      congr 1
      omega
    rw [fnd_step hk, e1, plc_snoc]
    by_cases z : o[m] = c
    · rw [if_pos z]
      refine .inr ⟨o.length - (m + 1), plc o c 0 m, rfl, by omega, ?_⟩
      rw [if_pos (by rw [List.getElem?_eq_getElem (l := o) (i := m) (by omega), z])]
      rw [show o.length - 1 - (o.length - (m + 1)) = m from by omega]
    · rw [if_neg z, if_neg (by rw [List.getElem?_eq_getElem (l := o) (i := m) (by omega)]; simpa using z), List.append_nil]
      have e2 : o.length - m = o.length - (m + 1) + 1 := by omega
      have := plc_rev (o := o) (c := c) m (by omega)
      rw [e2] at this
      exact this
theorem lr_loop {o : Wd} (ho : o.length ≤ 60000) : ∀ (w : Wd) (f : List Int) (k : Nat), k ≤ o.length → f.length + w.length ≤ 1000 →
    (lmS k w (o.reverse.drop k) = none ∧ forT (b__law_right_1 o) (signs w) (((o.length - k : Nat) : Int), f) = ret (.rt none)) ∨ ∃ r e, lmS k w (o.reverse.drop k) = some r ∧ forT (b__law_right_1 o) (signs w) (((o.length - k : Nat) : Int), f) = ret (.nx (e, f ++ toI (r.map fun j => o.length - 1 - j)))
  | [], f, k, hk, _ => .inr ⟨[], _, by rw [lmS], by simp [signs]; rfl⟩
  | c :: w, f, k, hk, hl => by
    rw [List.length_cons] at hl
    have u : oRng1 (((o.length - k : Nat) : Int), ()) = some ((List.range' 0 (o.length - k - 0)).map fun (i : Nat) => (i : Int)) := by
      unfold oRng1
      rw [if_pos (by dsimp only; omega)]
      have := upto_nat (k := 0) (n := o.length - k)
      simp only [Int.ofNat_zero, Int.sub_zero] at this
      exact congrArg some this
    have p := plc_lc (o := o) (c := c) (k := 0) (n := o.length - k) (by omega) (by omega)
    have hk' : k ≤ o.reverse.length := by rw [List.length_reverse]; exact hk
    have pr := plc_rev (o := o) (c := c) (o.length - k) (by omega)
    rw [show o.length - (o.length - k) = k from by omega] at pr
    rcases fnd_lm (o := o.reverse) (c := c) (w := w) _ k rfl hk' with ⟨e1, e2⟩ | ⟨j, e1, e2, e3, e4, e5⟩
    · refine .inl ⟨e2, ?_⟩
      show forT _ ([c] :: signs w) _ = _
      have pl : plc o c 0 (o.length - k) = [] := by
        rcases pr with ⟨_, q⟩ | ⟨j, r, q, _⟩
        · exact q
        · rw [e1] at q; omega
      rw [pl] at p
      rw [forT_rt (v := none)]
      simp only [b__law_right_1, bnd_ret, bin_ret, un_ret, prd_ret, u, lft_some, p]
      simp [ifT_ret]
    · rw [e5]
      rw [List.length_reverse] at e3
      obtain ⟨l, pl⟩ : ∃ l : List Nat, plc o c 0 (o.length - k) = l ++ [o.length - 1 - j] := by
        rcases pr with ⟨q, _⟩ | ⟨j', r, q, _, q'⟩
        · rw [e1] at q; omega
        · rw [e1] at q
          have : j = j' := by omega
          subst this
          exact ⟨r, q'⟩
      rw [pl] at p
      have h2 : f.length < 65536 := by omega
      have at1 : atI (toI (l ++ [o.length - 1 - j])) (-1) = some ((o.length - 1 - j : Nat) : Int) := by
        rw [show toI (l ++ [o.length - 1 - j]) = toI l ++ [((o.length - 1 - j : Nat) : Int)] from by simp]
        exact atI_last
      have ne : ¬ (toI (l ++ [o.length - 1 - j]) = []) := by simp
      have s : forT (b__law_right_1 o) (signs (c :: w)) (((o.length - k : Nat) : Int), f) = forT (b__law_right_1 o) (signs w) (((o.length - (j + 1) : Nat) : Int), f ++ [((o.length - 1 - j : Nat) : Int)]) := by
        show forT _ ([c] :: signs w) _ = _
        rw [forT_nx (st' := (((o.length - (j + 1) : Nat) : Int), f ++ [((o.length - 1 - j : Nat) : Int)]))]
        simp only [b__law_right_1, bnd_ret, bin_ret, un_ret, prd_ret, u, lft_some, p, oNeg_ev, at1, mp_ret, bin_ret, oEq_ev]
        rw [show (toI (l ++ [o.length - 1 - j]) == []) = false from by simp]
        have e6 : o.length - 1 - j = o.length - (j + 1) := by omega
        simp [ifT_ret, oApp, h2, e6]
      rw [s]
      rcases lr_loop ho w (f ++ [((o.length - 1 - j : Nat) : Int)]) (j + 1) (by omega) (by rw [List.length_append, List.length_singleton]; omega) with ⟨q1, q2⟩ | ⟨r, e, q1, q3⟩
      · exact .inl ⟨by rw [q1]; rfl, q2⟩
      · exact .inr ⟨j :: r, e, by rw [q1]; rfl, by rw [q3]; simp⟩
/-- the rightmost embedding -/
def rmS (w o : Wd) : Option (List Nat) := (lmS 0 w.reverse o.reverse).map fun r => (r.map fun j => o.length - 1 - j).reverse
theorem law_right_ev {w o : Wd} (h : w.length ≤ 900) (ho : o.length ≤ 60000) : t__law_right w o = ret ((rmS w o).map toI) := by
  unfold rmS
  rcases lr_loop ho w.reverse [] 0 (Nat.zero_le _) (by rw [List.length_reverse]; simpa using (by omega : w.length ≤ 1000)) with ⟨q1, q2⟩ | ⟨r, e, q1, q3⟩
  · rw [List.drop_zero] at q1
    rw [Nat.sub_zero] at q2
    simp [t__law_right, q1, q2]
  · rw [List.drop_zero] at q1
    rw [Nat.sub_zero] at q3
    simp [t__law_right, q1, q3, List.map_reverse]
theorem lmS_lt : ∀ {w o : List Nat} {k : Nat} {r : List Nat}, lmS k w o = some r → ∀ j ∈ r, k ≤ j ∧ j < k + o.length
  | [], o, k, r, h, j, hj => by rw [lmS] at h; cases h; cases hj
  | c :: w, [], k, r, h, j, hj => by rw [lmS] at h; cases h
  | c :: w, d :: o, k, r, h, j, hj => by
    rw [lmS] at h
    split at h
    · obtain ⟨r', h', rfl⟩ := Option.map_eq_some_iff.mp h
      rcases List.mem_cons.mp hj with rfl | hj
      · exact ⟨Nat.le_refl _, by rw [List.length_cons]; omega⟩
      · have := lmS_lt h' j hj
        rw [List.length_cons]; omega
    · have := lmS_lt h j hj
      rw [List.length_cons]; omega
theorem lmS_len : ∀ {w o : List Nat} {k : Nat} {r : List Nat}, lmS k w o = some r → r.length = w.length
  | [], o, k, r, h => by rw [lmS] at h; cases h; rfl
  | c :: w, [], k, r, h => by rw [lmS] at h; cases h
  | c :: w, d :: o, k, r, h => by
    rw [lmS] at h
    split at h
    · obtain ⟨r', h', rfl⟩ := Option.map_eq_some_iff.mp h
      rw [List.length_cons, List.length_cons, lmS_len h']
    · exact lmS_len h
theorem rightmost_in_ev {w o : Wd} (h : w.length ≤ 900) : t_rightmost_in w o = ret ((rmS w o).map toI) := by
  have e := leftmost_in_ev (w := w.reverse) (o := o.reverse) (by rw [List.length_reverse]; exact h)
  unfold rmS
  cases q : lmS 0 w.reverse o.reverse with
  | none =>
    rw [q] at e
    simp [t_rightmost_in, e, ifT_ret]
  | some r =>
    rw [q] at e
    have hr := lmS_len q
    rw [List.length_reverse] at hr
    have hlt := lmS_lt q
    have lcm := lc_map (l := (toI r).reverse) (f := fun a : Int => ret ((o.length : Int) - 1 - a)) (fun a => (o.length : Int) - 1 - a) (by simp; omega) (fun _ _ => rfl)
    simp [t_rightmost_in, e, ifT_ret]
    rw [List.map_reverse] at lcm
    simp only [toI, List.map_reverse] at lcm ⊢
    rw [lcm]
    rw [bnd_ret, List.map_map]
    refine congrArg ret (congrArg some (congrArg List.reverse (List.map_congr_left fun j hj => ?_)))
    show (o.length : Int) - 1 - (j : Int) = ((o.length - 1 - j : Nat) : Int)
    have := (hlt j hj).2
    rw [List.length_reverse] at this
    omega
/-- how many embeddings -/
def emb : List Nat → List Nat → Nat
  | [], _ => 1
  | _ :: _, [] => 0
  | c :: w, d :: o => emb (c :: w) o + (if d = c then emb w o else 0)
@[simp] theorem emb_nil {o : List Nat} : emb [] o = 1 := by rw [emb]
@[simp] theorem emb_cn {c : Nat} {w : List Nat} : emb (c :: w) [] = 0 := by rw [emb]
theorem emb_cc {c d : Nat} {w o : List Nat} : emb (c :: w) (d :: o) = emb (c :: w) o + (if d = c then emb w o else 0) := by rw [emb]
theorem emb_snoc {c d : Nat} : ∀ (o w : List Nat), emb (w ++ [c]) (o ++ [d]) = emb (w ++ [c]) o + (if d = c then emb w o else 0)
  | [], [] => by simp [emb_cc]
  | [], a :: w => by
    simp only [List.nil_append, List.cons_append, emb_cc, emb_cn]
    cases w <;> simp
  | x :: o, [] => by
    have ih := emb_snoc (c := c) (d := d) o []
    simp only [List.nil_append, List.cons_append, emb_cc, emb_nil] at ih ⊢
    rw [ih]; omega
  | x :: o, a :: w => by
    have ih := emb_snoc (c := c) (d := d) o (a :: w)
    have ih2 := emb_snoc (c := c) (d := d) o w
    simp only [List.cons_append, emb_cc] at ih ⊢
    rw [ih, ih2]
    by_cases z : x = a <;> by_cases y : d = c <;> simp [z, y] <;> omega
theorem emb_take {c : Nat} {w o : List Nat} {p : Nat} (h : p < o.length) : emb (w ++ [c]) (o.take (p + 1)) = emb (w ++ [c]) (o.take p) + (if o[p] = c then emb w (o.take p) else 0) := by
  rw [List.take_succ_eq_append_getElem h, emb_snoc]
theorem emb_mono {w o : List Nat} {c : Nat} : 0 < emb (c :: w) o → 0 < emb w o := by
  induction o with
  | nil => simp
  | cons d o ih =>
    rw [emb_cc]
    intro h
    cases w with
    | nil => simp
    | cons a w =>
      rw [emb_cc]
      by_cases z : d = c
      · rw [if_pos z] at h
        have : 0 < emb (a :: w) o := by
          by_cases y : 0 < emb (c :: a :: w) o
          · exact ih y
          · omega
        omega
      · rw [if_neg z] at h
        have := ih (by omega)
        omega
theorem lm_emb : ∀ (o w : List Nat) (k : Nat), (lmS k w o).isSome = decide (0 < emb w o)
  | o, [], k => by rw [lmS]; simp
  | [], c :: w, k => by rw [lmS]; simp
  | d :: o, c :: w, k => by
    rw [lmS, emb_cc]
    by_cases z : d = c
    · rw [if_pos z, if_pos z, Option.isSome_map, lm_emb o w]
      have := emb_mono (w := w) (o := o) (c := c)
      by_cases y : 0 < emb w o
      · have e : 0 < emb (c :: w) o + emb w o := by omega
        simp [y, e]
      · have : ¬ 0 < emb (c :: w) o := fun h => y (this h)
        simp [y]; omega
    · rw [if_neg z, if_neg z, lm_emb o (c :: w)]; simp
/-! ### the program's count -/
theorem down_cons {n : Nat} : down (((n + 1 : Nat) : Int) - 1) (n + 1) = (n : Int) :: down ((n : Int) - 1) n := by
  unfold down
  rw [List.range_succ_eq_map, List.map_cons, List.map_map]
  congr 1
  · simp
  · refine List.map_congr_left fun i _ => ?_
    simp; omega
/-- a row with the places above m brought up -/
def upd1 (w : Wd) (d : Nat) (f : Nat → Int) (j : Nat) : Int := f j + (if 0 < j ∧ w[j - 1]? = some d then f (j - 1) else 0)
def rowW (w : Wd) (d : Nat) (f : Nat → Int) (m n : Nat) : List Int := (List.range (n + 1)).map fun j => if m < j then upd1 w d f j else f j
theorem rowW_len {w : Wd} {d : Nat} {f : Nat → Int} {m n : Nat} : (rowW w d f m n).length = n + 1 := by simp [rowW]
theorem rowW_get {w : Wd} {d : Nat} {f : Nat → Int} {m n j : Nat} (h : j < n + 1) : (rowW w d f m n)[j]? = some (if m < j then upd1 w d f j else f j) := by
  simp [rowW, h]
theorem ways_inner {w : Wd} {d : Nat} {f : Nat → Int} (hw : w.length ≤ 1000) : ∀ m : Nat, m ≤ w.length → forT (b_ways_in_1 w [d]) (down ((m : Int) - 1) m) (rowW w d f m w.length) = ret (.nx (rowW w d f 0 w.length))
  | 0, _ => by simp [down]
  | m + 1, h => by
    rw [down_cons]
    have hm : m < w.length := by omega
    have g1 := rowW_get (w := w) (d := d) (f := f) (m := m + 1) (n := w.length) (j := m) (by omega)
    have g2 := rowW_get (w := w) (d := d) (f := f) (m := m + 1) (n := w.length) (j := m + 1) (by omega)
    rw [if_neg (by omega)] at g1 g2
    have L := rowW_len (w := w) (d := d) (f := f) (m := m + 1) (n := w.length)
    rw [forT_nx (st' := rowW w d f m w.length)]
    · exact ways_inner hw m (by omega)
    · have a1 : atI (rowW w d f (m + 1) w.length) (m : Int) = some (f m) := by rw [atI_nat, g1]
      have ix : oIxW w (m : Int) = some [w[m]] := by simp [oIxW, atI_nat, hm]
      by_cases z : w[m] = d
      · have e1 : ((m : Int) + 1).toNat = m + 1 := by omega
        have e2 : (rowW w d f (m + 1) w.length).getD (m + 1) 0 = f (m + 1) := by rw [List.getD_eq_getElem?_getD, g2]; rfl
        have e3 : (0 : Int) ≤ (m : Int) + 1 ∧ ((m : Int) + 1).toNat < (rowW w d f (m + 1) w.length).length := by rw [L]; omega
        have st : (rowW w d f (m + 1) w.length).set (m + 1) (f (m + 1) + f m) = rowW w d f m w.length := by
          refine List.ext_getElem? fun j => ?_
          by_cases hj : j < w.length + 1
          · rw [rowW_get hj]
            by_cases hjm : j = m + 1
            · subst hjm
              rw [List.getElem?_set_self (by rw [L]; omega), if_pos (by omega)]
              unfold upd1
              rw [if_pos ⟨by omega, by rw [Nat.add_sub_cancel, List.getElem?_eq_getElem hm, z]⟩]
              rfl
            · rw [List.getElem?_set_ne (Ne.symm hjm), rowW_get hj]
              by_cases y : m + 1 < j
              · rw [if_pos y, if_pos (by omega)]
              · rw [if_neg y, if_neg (by omega)]
          · rw [List.getElem?_eq_none (by rw [List.length_set, L]; omega), List.getElem?_eq_none (by rw [rowW_len]; omega)]
        simp only [b_ways_in_1, bnd_ret, bin_ret, un_ret, ix, lft_some, oEq_ev, oAdd_ev, a1, augT]
        rw [show ([w[m]] == [d]) = true from by simp [z], ifT_t, if_pos e3, bnd_ret, e1, e2, st]
      · simp only [b_ways_in_1, bnd_ret, bin_ret, un_ret, ix, lft_some, oEq_ev, oAdd_ev, a1, augT]
        rw [show ([w[m]] == [d]) = false from by simp [z], ifT_f]
        have : rowW w d f (m + 1) w.length = rowW w d f m w.length := by
          refine List.ext_getElem? fun j => ?_
          by_cases hj : j < w.length + 1
          · rw [rowW_get hj, rowW_get hj]
            by_cases hjm : j = m + 1
            · subst hjm
              rw [if_neg (by omega), if_pos (by omega)]
              unfold upd1
              rw [if_neg (fun q => z (by have := q.2; rw [Nat.add_sub_cancel, List.getElem?_eq_getElem hm] at this; simpa using this))]
              simp
            · by_cases y : m + 1 < j
              · rw [if_pos y, if_pos (by omega)]
              · rw [if_neg y, if_neg (by omega)]
          · rw [List.getElem?_eq_none (by rw [rowW_len]; omega), List.getElem?_eq_none (by rw [rowW_len]; omega)]
        rw [this]
def cntW (w o : Wd) : List Int := (List.range (w.length + 1)).map fun j => (emb (w.take j) o : Int)
theorem upd_emb {w o : Wd} {d j : Nat} (h : j < w.length + 1) : upd1 w d (fun j => (emb (w.take j) o : Int)) j = (emb (w.take j) (o ++ [d]) : Int) := by
  unfold upd1
  cases j with
  | zero => simp
  | succ j =>
    have hj : j < w.length := by omega
    rw [Nat.add_sub_cancel, List.take_succ_eq_append_getElem hj, emb_snoc, List.getElem?_eq_getElem hj]
    by_cases z : w[j] = d
    · rw [if_pos ⟨by omega, by rw [z]⟩, if_pos z.symm]; simp
    · rw [if_neg (fun q => z (by simpa using q.2)), if_neg (fun q => z q.symm)]; simp
theorem ways_turn {w o : Wd} {d : Nat} (hw : w.length ≤ 1000) : b_ways_in_2 w [d] (cntW w o) = ret (.nx (cntW w (o ++ [d]))) := by
  have r : oRng3 ((w.length : Int) - 1, -1, -1, ()) = some (down ((w.length : Int) - 1) w.length) := by
    unfold oRng3
    rw [if_pos (by dsimp only; omega)]
    congr 1
    dsimp only
    congr 1
    omega
  have i := ways_inner (w := w) (d := d) (f := fun j => (emb (w.take j) o : Int)) hw w.length (Nat.le_refl _)
  have e0 : rowW w d (fun j => (emb (w.take j) o : Int)) w.length w.length = cntW w o := by
    unfold rowW cntW
    refine List.map_congr_left fun j hj => ?_
    rw [if_neg (by have := List.mem_range.mp hj; omega)]
  have e1 : rowW w d (fun j => (emb (w.take j) o : Int)) 0 w.length = cntW w (o ++ [d]) := by
    unfold rowW cntW
    refine List.map_congr_left fun j hj => ?_
    have hj := List.mem_range.mp hj
    by_cases z : 0 < j
    · rw [if_pos z]; exact upd_emb hj
    · have : j = 0 := by omega
      subst this
      simp
  rw [e0, e1] at i
  simp [b_ways_in_2, r, i]
theorem ways_loop {w : Wd} (hw : w.length ≤ 1000) : ∀ o o' : Wd, forT (b_ways_in_2 w) (signs o) (cntW w o') = ret (.nx (cntW w (o' ++ o)))
  | [], o' => by simp [signs]
  | d :: o, o' => by
    show forT _ ([d] :: signs o) _ = _
    rw [forT_nx (ways_turn hw), ways_loop hw o (o' ++ [d]), List.append_assoc]
    rfl
theorem cntW_last {w o : Wd} : atI (cntW w o) (-1) = some (emb w o : Int) := by
  unfold cntW
  rw [List.range_succ, List.map_append]
  have := atI_last (l := (List.range w.length).map fun j => (emb (w.take j) o : Int)) (x := (emb w o : Int))
  simpa using this
theorem cntW_nil {w : Wd} : cntW w [] = (1 : Int) :: List.replicate w.length 0 := by
  unfold cntW
  rw [List.range_succ_eq_map, List.map_cons, List.map_map]
  congr 1
  refine List.ext_getElem? fun j => ?_
  rw [List.getElem?_map, List.getElem?_replicate]
  by_cases hj : j < w.length
  · rw [if_pos hj, List.getElem?_range hj]
    cases w with
    | nil => simp at hj
    | cons a w => simp
  · rw [if_neg hj, List.getElem?_eq_none (by simpa using hj)]; rfl
def cntP (w o : Wd) (p : Nat) : List Int := (List.range (p + 1)).map fun q => (emb w (o.take q) : Int)
theorem cntP_succ {w o : Wd} {p : Nat} : cntP w o (p + 1) = cntP w o p ++ [(emb w (o.take (p + 1)) : Int)] := by
  unfold cntP
  rw [List.range_succ, List.map_append]; rfl
theorem lw_inner {w o : Wd} {c : Nat} (ho : o.length ≤ 1000) : ∀ (l : List Nat) (p : Nat), l = List.range' p (o.length - p) → p ≤ o.length →
    forT (b__law_ways_1 o (cntP w o o.length) [c]) (l.map fun (i : Nat) => (i : Int)) (cntP (w ++ [c]) o p, (emb (w ++ [c]) (o.take p) : Int)) = ret (.nx (cntP (w ++ [c]) o o.length, (emb (w ++ [c]) (o.take o.length) : Int)))
  | [], p, hl, hp => by
    have : p = o.length := by
      have := congrArg List.length hl
      simp at this
      omega
    subst this
    simp
  | i :: l, p, hl, hp => by
    have hlt : p < o.length := by
      have := congrArg List.length hl
      simp at this
      omega
    have e : o.length - p = (o.length - (p + 1)) + 1 := by omega
    rw [e, List.range'_succ] at hl
    obtain ⟨rfl, hl⟩ := List.cons.inj hl
    rw [List.map_cons]
    have a1 : atI (cntP w o o.length) (i : Int) = some (emb w (o.take i) : Int) := by
      rw [atI_nat]
      unfold cntP
      rw [List.getElem?_map, List.getElem?_range (by omega)]; rfl
    have ix : oIxW o (i : Int) = some [o[i]] := by simp [oIxW, atI_nat, hlt]
    have tot : (emb (w ++ [c]) (o.take i) : Int) + (if o[i] = c then (emb w (o.take i) : Int) else 0) = (emb (w ++ [c]) (o.take (i + 1)) : Int) := by
      rw [emb_take hlt]
      by_cases z : o[i] = c <;> simp [z]
    have hln : (cntP (w ++ [c]) o i).length < 65536 := by simp [cntP]; omega
    rw [forT_nx (st' := (cntP (w ++ [c]) o (i + 1), (emb (w ++ [c]) (o.take (i + 1)) : Int)))]
    · exact lw_inner ho l (i + 1) hl (by omega)
    · rw [cntP_succ, ← tot]
      by_cases z : o[i] = c
      · simp [b__law_ways_1, ix, a1, z, oApp, hln]
      · have z' : (o[i] == c) = false := by simpa using z
        simp [b__law_ways_1, ix, a1, z, z', oApp, hln]
theorem lw_loop {o : Wd} (ho : o.length ≤ 1000) : ∀ w w' : Wd, forT (b__law_ways_2 o) (signs w) (cntP w' o o.length) = ret (.nx (cntP (w' ++ w) o o.length))
  | [], w' => by simp [signs]
  | c :: w, w' => by
    have i := lw_inner (w := w') (c := c) ho _ 0 rfl (Nat.zero_le _)
    have r := rng1_nat (n := o.length) (by omega)
    rw [Nat.sub_zero, ← List.range_eq_range'] at i
    have e0 : cntP (w' ++ [c]) o 0 = [0] := by
      unfold cntP
      cases w' <;> simp
    have e1 : (emb (w' ++ [c]) (o.take 0) : Int) = 0 := by cases w' <;> simp
    rw [e0, e1] at i
    show forT _ ([c] :: signs w) _ = _
    rw [forT_nx (st' := cntP (w' ++ [c]) o o.length)]
    · rw [lw_loop ho w (w' ++ [c]), List.append_assoc]; rfl
    · simp [b__law_ways_2, r, i]
theorem law_ways_ev {w o : Wd} (ho : o.length ≤ 900) : t__law_ways w o = ret (emb w o : Int) := by
  have L := lw_loop (o := o) (by omega) w []
  have e0 : many ((o.length : Int) + 1) [(1 : Int)] = cntP [] o o.length := by
    unfold many cntP
    rw [show ((o.length : Int) + 1).toNat = o.length + 1 from by omega]
    simp
    refine List.ext_getElem? fun j => ?_
    by_cases hj : j < o.length + 1
    · simp [hj]
    · rw [List.getElem?_eq_none (by simp; omega), List.getElem?_eq_none (by simp; omega)]
  have e2 : oRep [(1 : Int)] ((o.length : Int) + 1) = some (cntP [] o o.length) := by
    unfold oRep
    rw [if_pos (by simp [okT]; omega), e0]
  have e3 : atI (cntP ([] ++ w) o o.length) (-1) = some (emb w o : Int) := by
    have := atI_last (l := (List.range o.length).map fun q => (emb w (o.take q) : Int)) (x := (emb w (o.take o.length) : Int))
    unfold cntP
    rw [List.range_succ, List.map_append]
    simpa using this
  simp only [t__law_ways, prd_ret, mp_ret, un_ret, oLen_ev, lft_some, bin_ret, oAdd_ev, e2, bnd_ret, oSigns_ev, L, thn_nx, oNeg_ev, e3, fin_rt]
/-! ### words -/
def isWd (w : Wd) : Prop := w.length ≤ 12 ∧ ∀ c ∈ w, c = 97 ∨ c = 98 ∨ c = 99
theorem cut3 : cutL ([97, 98, 99] : Wd) none (some 3) = [97, 98, 99] := rfl
theorem inF_one {c : Nat} : dBo (inF false) (.str [c]) (.str [97, 98, 99]) = some (decide (c = 97 ∨ c = 98 ∨ c = 99)) := by
  show some (([97, 98, 99] : List Nat).contains c) = _
  congr 1
  rw [Bool.eq_iff_iff]; simp
def wordB (l : Wd) : Bool := decide (l.length ≤ 12) && l.all fun c => decide (c = 97 ∨ c = 98 ∨ c = 99)
theorem isWd_iff {w : Wd} : wordB w = true ↔ isWd w := by
  unfold wordB isWd
  simp [List.all_eq_true]
theorem is_word_str {l : Wd} : t_is_word (.str l) = ret (wordB l) := by
  by_cases z : (12 : Int) < (l.length : Int)
  · have : wordB l = false := by unfold wordB; rw [decide_eq_false (by omega)]; rfl
    simp [t_is_word, t_is_word_of, z, this]
  · have e := lc_map (l := l.map fun c => D.str [c]) (f := fun a : D => lft (dBo (inF false) a (.str [97, 98, 99]))) (fun a => match a with
      | .str [c] => decide (c = 97 ∨ c = 98 ∨ c = 99)
      | _ => false) (by simp; omega) (fun a ha => by
        obtain ⟨c, _, rfl⟩ := List.mem_map.mp ha
        rw [inF_one]; rfl)
    have w : walkD (.str l) = some (l.map fun c => D.str [c]) := rfl
    have r : wordB l = l.all fun c => decide (c = 97 ∨ c = 98 ∨ c = 99) := by unfold wordB; rw [decide_eq_true (by omega)]; rfl
    simp [t_is_word, t_is_word_of, z, w, cut3, e, r, List.all_map, Function.comp_def]
theorem need_words_ok {w o : Wd} (h : isWd w) (h' : isWd o) : t_need_words (.str w) (.str o) = ret () := by
  simp [t_need_words, t_need_word, is_word_str, isWd_iff.mpr h, isWd_iff.mpr h']
@[simp] theorem fW_str {w : Wd} : fW (.str w) = some w := rfl
theorem lies_loop {o : Wd} : ∀ (w : Wd) (k : Nat), k ≤ o.length →
    (lmS k w (o.drop k) = none ∧ forT (b_lies_in_1 o) (signs w) (k : Int) = ret (.rt false)) ∨ ∃ r e, lmS k w (o.drop k) = some r ∧ forT (b_lies_in_1 o) (signs w) (k : Int) = ret (.nx e)
  | [], k, hk => .inr ⟨[], k, by rw [lmS], by simp [signs]⟩
  | c :: w, k, hk => by
    rcases fnd_lm (o := o) (c := c) (w := w) _ k rfl hk with ⟨e1, e2⟩ | ⟨j, e1, e2, e3, e4, e5⟩
    · refine .inl ⟨e2, ?_⟩
      show forT _ ([c] :: signs w) _ = _
      rw [forT_rt (v := false)]
      simp [b_lies_in_1, fromI_nat, e1, ifT_ret]
    · rw [e5]
      have h1 : ¬ ((j : Int) + 1 = 0) := by omega
      have s : forT (b_lies_in_1 o) (signs (c :: w)) (k : Int) = forT (b_lies_in_1 o) (signs w) ((j + 1 : Nat) : Int) := by
        show forT _ ([c] :: signs w) _ = _
        rw [forT_nx (st' := ((j + 1 : Nat) : Int))]
        simp [b_lies_in_1, fromI_nat, e1, ifT_ret, h1]
      rw [s]
      rcases lies_loop (o := o) w (j + 1) (by omega) with ⟨q1, q2⟩ | ⟨r, e, q1, q3⟩
      · exact .inl ⟨by rw [q1]; rfl, q2⟩
      · exact .inr ⟨j :: r, e, by rw [q1]; rfl, q3⟩
theorem lies_in_ev {w o : Wd} : t_lies_in w o = ret (lmS 0 w o).isSome := by
  rcases lies_loop (o := o) w 0 (Nat.zero_le _) with ⟨q1, q2⟩ | ⟨r, e, q1, q3⟩
  · rw [List.drop_zero] at q1
    have q2 : forT (b_lies_in_1 o) (signs w) 0 = ret (.rt false) := q2
    simp [t_lies_in, q1, q2]
  · rw [List.drop_zero] at q1
    have q3 : forT (b_lies_in_1 o) (signs w) 0 = ret (.nx e) := q3
    simp [t_lies_in, q1, q3]
section
variable {w o : Wd}
theorem is_subword_ev (h : isWd w) (h' : isWd o) : t_is_subword (.str w) (.str o) = ret (lmS 0 w o).isSome := by
  simp [t_is_subword, need_words_ok h h', lies_in_ev]
theorem leftmost_places_ev (h : isWd w) (h' : isWd o) : t_leftmost_places (.str w) (.str o) = ret ((lmS 0 w o).map toI) := by
  have e := leftmost_in_ev (w := w) (o := o) (by have := h.1; omega)
  cases q : lmS 0 w o <;> rw [q] at e <;> simp [t_leftmost_places, need_words_ok h h', e]
theorem rightmost_places_ev (h : isWd w) (h' : isWd o) : t_rightmost_places (.str w) (.str o) = ret ((rmS w o).map toI) := by
  have e := rightmost_in_ev (w := w) (o := o) (by have := h.1; omega)
  cases q : rmS w o <;> rw [q] at e <;> simp [t_rightmost_places, need_words_ok h h', e]
theorem ways_in_ev (h : isWd w) (h' : isWd o) : t_ways_in (.str w) (.str o) = ret (emb w o : Int) := by
  have L := ways_loop (w := w) (by have := h.1; omega) o []
  have e1 : oRep [(0 : Int)] (w.length : Int) = some (List.replicate w.length 0) := by
    unfold oRep many
    rw [if_pos (by have := h.1; simp [okT]; omega)]
    simp
  have e2 : oApd [(1 : Int)] (List.replicate w.length 0) = some (cntW w []) := by
    unfold oApd
    rw [if_pos (by have := h.1; simp; omega), cntW_nil]; rfl
  have e3 := cntW_last (w := w) (o := [] ++ o)
  simp only [t_ways_in, prd_ret, bnd_ret, need_words_ok h h', fW_str, lft_some, mp_ret, un_ret, oLen_ev, bin_ret, e1, e2, oSigns_ev, L, thn_nx, oNeg_ev, e3, fin_rt]
  rfl
/-- what stands behind the leftmost, ahead of the rightmost embedding -/
def behind (w o : Wd) : Option Wd := (lmS 0 w o).map fun r => match r.getLast? with
  | none => o
  | some j => cutL o (some ((j : Int) + 1)) none
def before (w o : Wd) : Option Wd := (rmS w o).map fun r => match r with
  | [] => o
  | j :: _ => cutL o none (some (j : Int))
theorem atI_toI_last {r : List Nat} {j : Nat} : atI (toI (r ++ [j])) (-1) = some (j : Int) := by
  rw [show toI (r ++ [j]) = toI r ++ [(j : Int)] from by simp]
  exact atI_last
theorem rest_behind_ev (h : isWd w) (h' : isWd o) : t_rest_behind (.str w) (.str o) = ret (behind w o) := by
  have e := leftmost_in_ev (w := w) (o := o) (by have := h.1; omega)
  unfold behind
  cases q : lmS 0 w o with
  | none => rw [q] at e; simp [t_rest_behind, need_words_ok h h', e]
  | some r =>
    rw [q] at e
    rcases List.eq_nil_or_concat r with rfl | ⟨r', j, rfl⟩
    · simp [t_rest_behind, need_words_ok h h', e]
    · have a := atI_toI_last (r := r') (j := j)
      simp only [List.concat_eq_append] at e ⊢
      have ne : (toI (r' ++ [j]) == []) = false := by simp
      simp only [Option.map_some] at e ⊢
      simp only [t_rest_behind, prd_ret, bnd_ret, need_words_ok h h', fW_str, lft_some, e, un_ret, bin_ret, oIsN_ev, Option.isNone_some, ifT_f, mp_ret, oEq_ev, ne, oNeg_ev, a, oAdd_ev, sli_ret, oCut_ev, fin_rt]
      simp
theorem rest_before_ev (h : isWd w) (h' : isWd o) : t_rest_before (.str w) (.str o) = ret (before w o) := by
  have e := rightmost_in_ev (w := w) (o := o) (by have := h.1; omega)
  unfold before
  cases q : rmS w o with
  | none => rw [q] at e; simp [t_rest_before, need_words_ok h h', e]
  | some r =>
    rw [q] at e
    cases r with
    | nil => simp [t_rest_before, need_words_ok h h', e]
    | cons j r =>
      have a : atI (toI (j :: r)) 0 = some (j : Int) := atI_nat (k := 0)
      have ne : (toI (j :: r) == []) = false := by simp
      simp only [Option.map_some] at e ⊢
      simp only [t_rest_before, prd_ret, bnd_ret, need_words_ok h h', fW_str, lft_some, e, un_ret, bin_ret, oIsN_ev, Option.isNone_some, ifT_f, mp_ret, oEq_ev, ne, a, sli_ret, oCut_ev, fin_rt]
end
/-! ### all embeddings -/
theorem snocI {α : Type} {P : List α → Prop} (h0 : P []) (hs : ∀ w c, P w → P (w ++ [c])) (w : List α) : P w := by
  have key : ∀ (n : Nat) (w : List α), w.length = n → P w := by
    intro n
    induction n with
    | zero => intro w h; rw [List.length_eq_zero_iff.mp h]; exact h0
    | succ n ih =>
      intro w h
      rcases List.eq_nil_or_concat w with rfl | ⟨w', c, rfl⟩
      · exact h0
      · rw [List.concat_eq_append] at h ⊢
        exact hs _ _ (ih w' (by simpa using h))
  exact key _ w rfl
def nxt (r : List Nat) : Nat := match r.getLast? with
  | none => 0
  | some j => j + 1
@[simp] theorem nxt_nil : nxt [] = 0 := rfl
@[simp] theorem nxt_snoc {r : List Nat} {j : Nat} : nxt (r ++ [j]) = j + 1 := by simp [nxt]
def stepS (o : Wd) (c : Nat) (rows : List (List Nat)) : List (List Nat) := rows.flatMap fun r => (plc o c (nxt r) o.length).map fun p => r ++ [p]
def allS (o w : Wd) : List (List Nat) := w.foldl (fun rows c => stepS o c rows) [[]]
theorem allS_snoc {o w : Wd} {c : Nat} : allS o (w ++ [c]) = stepS o c (allS o w) := by
  unfold allS; rw [List.foldl_append]; rfl
theorem plc_succ {o : Wd} {c k p : Nat} (h : k ≤ p) : plc o c k (p + 1) = plc o c k p ++ (if o[p]? = some c then [p] else []) := by
  unfold plc
  rw [show p + 1 - k = (p - k) + 1 from by omega, List.range'_concat, List.filter_append]
  congr 1
  rw [show k + 1 * (p - k) = p from by omega]
  by_cases z : o[p]? = some c <;> simp [z]
theorem plc_empty {o : Wd} {c k p : Nat} (h : p ≤ k) : plc o c k p = [] := by
  unfold plc
  rw [show p - k = 0 from by omega]; rfl
theorem plc_mem {o : Wd} {c k n j : Nat} : j ∈ plc o c k n ↔ k ≤ j ∧ j < n ∧ o[j]? = some c := by
  unfold plc
  rw [List.mem_filter, List.mem_range'_1, beq_iff_eq]
  constructor
  · rintro ⟨⟨a, b⟩, c⟩; exact ⟨a, by omega, c⟩
  · rintro ⟨a, b, c⟩; exact ⟨⟨a, by omega⟩, c⟩
theorem plc_cnt {o : Wd} {c k : Nat} : ∀ {n p : Nat}, p ≤ n → (plc o c k n).countP (fun i => decide (i < p)) = (plc o c k p).length
  | 0, p, h => by
    have : p = 0 := by omega
    subst this
    rw [plc_empty (Nat.zero_le _)]; rfl
  | n + 1, p, h => by
    by_cases hp : p = n + 1
    · subst hp
      rw [List.countP_eq_length.mpr]
      intro j hj
      exact decide_eq_true (plc_mem.mp hj).2.1
    · by_cases hk : k ≤ n
      · rw [plc_succ hk, List.countP_append, plc_cnt (n := n) (by omega)]
        have : List.countP (fun i => decide (i < p)) (if o[n]? = some c then [n] else []) = 0 := by
          by_cases z : o[n]? = some c
          · rw [if_pos z]; simp; omega
          · rw [if_neg z]; rfl
        rw [this, Nat.add_zero]
      · rw [plc_empty (by omega), plc_empty (by omega)]; rfl
theorem sum_ite {α : Type} {P : α → Bool} {f g : α → Nat} : ∀ l : List α, (∀ a ∈ l, f a = g a + (if P a = true then 1 else 0)) → (l.map f).sum = (l.map g).sum + l.countP P
  | [], _ => rfl
  | a :: l, h => by
    rw [List.map_cons, List.sum_cons, List.map_cons, List.sum_cons, sum_ite l fun b hb => h b (.tail _ hb), h a (.head _), List.countP_cons]
    omega
theorem step_cnt {o : Wd} {c : Nat} {rows : List (List Nat)} {p : Nat} (h : p ≤ o.length) : (stepS o c rows).countP (fun r => decide (nxt r ≤ p)) = (rows.map fun r => (plc o c (nxt r) p).length).sum := by
  unfold stepS
  rw [List.countP_flatMap]
  congr 1
  refine List.map_congr_left fun r _ => ?_
  show List.countP _ ((plc o c (nxt r) o.length).map fun p => r ++ [p]) = _
  rw [List.countP_map, ← plc_cnt h]
  congr 1
  funext j
  show decide (nxt (r ++ [j]) ≤ p) = decide (j < p)
  rw [nxt_snoc]
  rw [Bool.eq_iff_iff]; simp; omega
theorem all_cnt {o : Wd} : ∀ (w : Wd) (p : Nat), p ≤ o.length → (allS o w).countP (fun r => decide (nxt r ≤ p)) = emb w (o.take p) := by
  intro w
  induction w using snocI with
  | h0 => intro p hp; simp [allS, nxt]
  | hs w c ih =>
    intro p
    induction p with
    | zero =>
      intro hp
      rw [allS_snoc, step_cnt (Nat.zero_le _)]
      have : ((allS o w).map fun r => (plc o c (nxt r) 0).length) = (allS o w).map fun _ => 0 := List.map_congr_left fun r _ => by rw [plc_empty (Nat.zero_le _)]; rfl
      rw [this]
      have e : emb (w ++ [c]) (o.take 0) = 0 := by cases w <;> simp
      rw [e]
      generalize allS o w = l
      induction l with
      | nil => rfl
      | cons a l ih => simpa using ih
    | succ p ihp =>
      intro hp
      have hlt : p < o.length := by omega
      have ihp := ihp (by omega)
      rw [allS_snoc, step_cnt (by omega)] at ihp
      rw [allS_snoc, step_cnt hp, emb_take hlt, ← ihp, ← ih p (by omega)]
      by_cases z : o[p] = c
      · rw [if_pos z]
        have z' : o[p]? = some c := by rw [List.getElem?_eq_getElem hlt, z]
        refine sum_ite (P := fun r => decide (nxt r ≤ p)) _ fun r _ => ?_
        by_cases hk : nxt r ≤ p
        · rw [plc_succ hk, if_pos z', if_pos (decide_eq_true hk)]; simp
        · rw [plc_empty (by omega), plc_empty (by omega), if_neg (by simpa using hk)]; rfl
      · rw [if_neg z, Nat.add_zero]
        congr 1
        refine List.map_congr_left fun r _ => ?_
        by_cases hk : nxt r ≤ p
        · rw [plc_succ hk, if_neg (by rw [List.getElem?_eq_getElem hlt]; simpa using z), List.append_nil]
        · rw [plc_empty (by omega), plc_empty (by omega)]
/-- what an embedding is -/
structure IsE (o w r : List Nat) : Prop where
  len : r.length = w.length
  at_ : ∀ (i : Nat) c j, w[i]? = some c → r[i]? = some j → o[j]? = some c
  up : r.Pairwise (· < ·)
theorem nxt_up {r : List Nat} {j : Nat} (h : r.Pairwise (· < ·)) (hj : nxt r ≤ j) : ∀ i ∈ r, i < j := by
  rcases List.eq_nil_or_concat r with rfl | ⟨r', k, rfl⟩
  · intro i hi; cases hi
  · rw [List.concat_eq_append] at h hj ⊢
    rw [nxt_snoc] at hj
    intro i hi
    rcases List.mem_append.mp hi with hi | hi
    · have := (List.pairwise_append.mp h).2.2 i hi k (by simp)
      omega
    · rw [List.mem_singleton.mp hi]; omega
theorem isE_snoc {o w r : List Nat} {c j : Nat} : IsE o (w ++ [c]) (r ++ [j]) ↔ IsE o w r ∧ nxt r ≤ j ∧ o[j]? = some c := by
  constructor
  · intro h
    have hl : r.length = w.length := by have := h.len; simpa using this
    refine ⟨⟨hl, fun i c' j' e1 e2 => h.at_ i c' j' ?_ ?_, (List.pairwise_append.mp h.up).1⟩, ?_, ?_⟩
    · rw [List.getElem?_append_left (List.getElem?_eq_some_iff.mp e1).1]; exact e1
    · rw [List.getElem?_append_left (List.getElem?_eq_some_iff.mp e2).1]; exact e2
    · rcases List.eq_nil_or_concat r with rfl | ⟨r', k, rfl⟩
      · simp
      · rw [List.concat_eq_append] at h ⊢
        rw [nxt_snoc]
        exact (List.pairwise_append.mp h.up).2.2 k (by simp) j (by simp)
    · refine h.at_ w.length c j (by simp) ?_
      rw [← hl]; simp
  · rintro ⟨h, h1, h2⟩
    refine ⟨by simp [h.len], fun i c' j' e1 e2 => ?_, ?_⟩
    · by_cases hi : i < w.length
      · rw [List.getElem?_append_left hi] at e1
        rw [List.getElem?_append_left (by rw [h.len]; exact hi)] at e2
        exact h.at_ i c' j' e1 e2
      · have hi2 : i = w.length := by
          have := (List.getElem?_eq_some_iff.mp e1).1
          simp at this; omega
        subst hi2
        have e3 : (r ++ [j])[w.length]? = some j := by rw [← h.len]; simp
        rw [e3] at e2
        cases e2
        simp at e1
        subst e1
        exact h2
    · rw [List.pairwise_append]
      exact ⟨h.up, by simp, fun a ha b hb => by rw [List.mem_singleton.mp hb]; exact nxt_up h.up h1 a ha⟩
theorem all_mem {o : Wd} : ∀ (w r : List Nat), r ∈ allS o w ↔ IsE o w r := by
  intro w
  induction w using snocI with
  | h0 =>
    intro r
    constructor
    · intro h
      have : r = [] := by simpa [allS] using h
      subst this
      exact ⟨rfl, fun i c j e => by simp at e, .nil⟩
    · intro h
      have : r = [] := List.length_eq_zero_iff.mp h.len
      subst this
      simp [allS]
  | hs w c ih =>
    intro r
    rw [allS_snoc]
    unfold stepS
    rw [List.mem_flatMap]
    constructor
    · rintro ⟨r', h1, h2⟩
      obtain ⟨j, hj, rfl⟩ := List.mem_map.mp h2
      have hj := plc_mem.mp hj
      exact isE_snoc.mpr ⟨(ih r').mp h1, hj.1, hj.2.2⟩
    · intro h
      rcases List.eq_nil_or_concat r with rfl | ⟨r', j, rfl⟩
      · have := h.len; simp at this
      · rw [List.concat_eq_append] at h ⊢
        obtain ⟨h1, h2, h3⟩ := isE_snoc.mp h
        refine ⟨r', (ih r').mpr h1, List.mem_map.mpr ⟨j, plc_mem.mpr ⟨h2, (List.getElem?_eq_some_iff.mp h3).1, h3⟩, rfl⟩⟩
theorem all_len {o w : Wd} : (allS o w).length = emb w o := by
  have h := all_cnt (o := o) w o.length (Nat.le_refl _)
  rw [List.take_length] at h
  rw [← h, List.countP_eq_length.mpr]
  intro r hr
  have e := (all_mem w r).mp hr
  refine decide_eq_true ?_
  rcases List.eq_nil_or_concat r with rfl | ⟨r', j, rfl⟩
  · simp
  · rw [List.concat_eq_append] at e ⊢
    rw [nxt_snoc]
    rcases List.eq_nil_or_concat w with rfl | ⟨w', c, rfl⟩
    · have := e.len; simp at this
    · rw [List.concat_eq_append] at e
      have := (isE_snoc.mp e).2.2
      exact (List.getElem?_eq_some_iff.mp this).1
theorem emb_le : ∀ (o w : List Nat), emb w o ≤ 2 ^ o.length
  | o, [] => by rw [emb_nil]; exact Nat.one_le_two_pow
  | [], c :: w => by simp
  | d :: o, c :: w => by
    have h1 := emb_le o (c :: w)
    have h2 := emb_le o w
    rw [emb_cc, List.length_cons, Nat.pow_succ]
    split <;> omega
theorem la_inner {o : Wd} {c : Nat} (ho : o.length ≤ 8) : ∀ (rows acc : List (List Nat)), (∀ r ∈ rows, r.length ≤ 100 ∧ nxt r ≤ o.length) → acc.length + (stepS o c rows).length ≤ 65536 →
    forT (b__law_all_1 o [c]) (rows.map toI) (acc.map toI) = ret (.nx ((acc ++ stepS o c rows).map toI))
  | [], acc, _, _ => by simp [stepS]
  | r :: rows, acc, hr, hl => by
    have e : stepS o c (r :: rows) = ((plc o c (nxt r) o.length).map fun p => r ++ [p]) ++ stepS o c rows := by unfold stepS; rw [List.flatMap_cons]
    rw [e, List.length_append] at hl
    obtain ⟨r1, r2⟩ := hr r (.head _)
    have ih := la_inner (c := c) ho rows (acc ++ (plc o c (nxt r) o.length).map fun p => r ++ [p]) (fun x hx => hr x (.tail _ hx)) (by rw [List.length_append]; omega)
    rw [List.map_cons, e, ← List.append_assoc, ← ih]
    have st : (ifT (ret (!(toI r == []))) (bin oAdd (lft (atI (toI r) (-1))) (ret 1)) (ret 0) : M Int) = ret ((nxt r : Nat) : Int) := by
      rcases List.eq_nil_or_concat r with rfl | ⟨r', j, rfl⟩
      · simp
      · rw [List.concat_eq_append, nxt_snoc, atI_toI_last]
        have ne : (toI (r' ++ [j]) == []) = false := by simp
        rw [ne]
        simp
    have u : oRng2 (((nxt r : Nat) : Int), (o.length : Int), ()) = some ((List.range' (nxt r) (o.length - nxt r)).map fun (i : Nat) => (i : Int)) := by
      unfold oRng2
      rw [if_pos (by dsimp only; omega)]
      exact congrArg some upto_nat
    have q := lc_ret (l := (List.range' (nxt r) (o.length - nxt r)).map fun (i : Nat) => (i : Int)) (p := fun i : Int => bin oEq (lft (oIxW o i)) (ret [c])) (f := fun i : Int => lft (oApd (toI r) [i])) (fun i : Int => o[i.toNat]? == some c) (fun i => toI r ++ [i]) (by simp; omega) (fun i hi => by
        obtain ⟨j, hj, rfl⟩ := List.mem_map.mp hi
        have hj := List.mem_range'_1.mp hj
        have hj' : j < o.length := by omega
        simp [oIxW, atI_nat, hj']) (fun i hi _ => by
        unfold oApd
        rw [if_pos (by simp; omega)]; rfl)
    have q2 : (((List.range' (nxt r) (o.length - nxt r)).map fun (i : Nat) => (i : Int)).filter fun i : Int => o[i.toNat]? == some c).map (fun i => toI r ++ [i]) = ((plc o c (nxt r) o.length).map fun p => r ++ [p]).map toI := by
      rw [List.filter_map, List.map_map, List.map_map]
      show List.map _ (plc o c (nxt r) o.length) = _
      refine List.map_congr_left fun j _ => ?_
      simp
    rw [q2] at q
    have x : oExt (acc.map toI) (((plc o c (nxt r) o.length).map fun p => r ++ [p]).map toI, ()) = some ((acc ++ (plc o c (nxt r) o.length).map fun p => r ++ [p]).map toI, ()) := by
      unfold oExt
      rw [if_pos (by simp only [List.length_map] at hl ⊢; omega), List.map_append]
    rw [forT_nx]
    simp only [b__law_all_1, bnd_ret, prd_ret, mp_ret, un_ret, bin_ret, lft_some, oNeg_ev, oNe_ev, oLen_ev, st, u, q, x]
theorem la_loop {o : Wd} (ho : o.length ≤ 8) : ∀ w w' : Wd, w'.length + w.length ≤ 100 → forT (b__law_all_2 o) (signs w) ((allS o w').map toI) = ret (.nx ((allS o (w' ++ w)).map toI))
  | [], w', _ => by simp [signs]
  | c :: w, w', hl => by
    rw [List.length_cons] at hl
    have hs : (stepS o c (allS o w')).length ≤ 65536 := by
      rw [← allS_snoc, all_len]
      have := emb_le o (w' ++ [c])
      have h2 : 2 ^ o.length ≤ 2 ^ 8 := Nat.pow_le_pow_right (by decide) ho
      have : (2 : Nat) ^ 8 = 256 := rfl
      omega
    have i := la_inner (c := c) ho (allS o w') [] (fun r hr => by
      have e := (all_mem w' r).mp hr
      refine ⟨by have := e.len; omega, ?_⟩
      rcases List.eq_nil_or_concat r with rfl | ⟨r', j, rfl⟩
      · simp
      · rw [List.concat_eq_append] at e ⊢
        rw [nxt_snoc]
        rcases List.eq_nil_or_concat w' with rfl | ⟨w2, c2, rfl⟩
        · have := e.len; simp at this
        · rw [List.concat_eq_append] at e
          exact (List.getElem?_eq_some_iff.mp (isE_snoc.mp e).2.2).1) (by simpa using hs)
    rw [List.nil_append, ← allS_snoc] at i
    show forT _ ([c] :: signs w) _ = _
    rw [forT_nx (st' := (allS o (w' ++ [c])).map toI)]
    · rw [la_loop ho w (w' ++ [c]) (by rw [List.length_append, List.length_singleton]; omega), List.append_assoc]; rfl
    · simp only [List.map_nil] at i
      simp only [b__law_all_2, bnd_ret, mp_ret, un_ret, oId_ev, lft_some, i, thn_nx]
theorem law_all_ev {w o : Wd} (hw : w.length ≤ 100) (ho : o.length ≤ 8) : t__law_all w o = ret ((allS o w).map toI) := by
  have L := la_loop ho w [] (by simpa using hw)
  have e0 : (allS o []).map toI = [[]] := rfl
  rw [e0] at L
  simp [t__law_all, L]
/-! ### the leftmost is the least, the rightmost the greatest -/
inductive Pw : List Nat → List Nat → Prop
  | nil : Pw [] []
  | cons {a b : Nat} {l m : List Nat} : a ≤ b → Pw l m → Pw (a :: l) (b :: m)
theorem Pw.snoc {a b : Nat} {l m : List Nat} (h : Pw l m) (k : a ≤ b) : Pw (l ++ [a]) (m ++ [b]) := by
  induction h with
  | nil => exact .cons k .nil
  | cons h _ ih => exact .cons h ih
theorem Pw.rev {l m : List Nat} (h : Pw l m) : Pw l.reverse m.reverse := by
  induction h with
  | nil => exact .nil
  | cons h _ ih => rw [List.reverse_cons, List.reverse_cons]; exact ih.snoc h
theorem Pw.anti {n : Nat} {l m : List Nat} (h : Pw l m) : Pw (m.map fun j => n - j) (l.map fun j => n - j) := by
  induction h with
  | nil => exact .nil
  | @cons a b l m h _ ih => exact .cons (show n - b ≤ n - a by omega) ih
theorem Pw.lt {l m : List Nat} (h : Pw l m) : l = m ∨ toI l < toI m := by
  induction h with
  | nil => exact .inl rfl
  | @cons a b l m h _ ih =>
    rcases Nat.lt_or_eq_of_le h with h | h
    · exact .inr (List.Lex.rel (show (a : Int) < (b : Int) by omega))
    · subst h
      rcases ih with ih | ih
      · exact .inl (by rw [ih])
      · exact .inr (List.Lex.cons ih)
theorem fnd_min {o : List Nat} {c : Nat} : ∀ (n k j : Nat), o.length - k = n → k ≤ o.length → fnd o c k = (j : Int) → ∀ i, k ≤ i → o[i]? = some c → j ≤ i
  | 0, k, j, hn, hk, h, i, h1, h2 => by
    have := (List.getElem?_eq_some_iff.mp h2).1
    omega
  | n + 1, k, j, hn, hk, h, i, h1, h2 => by
    have hl : k < o.length := by omega
    rw [fnd_step hl] at h
    by_cases z : o[k] = c
    · rw [if_pos z] at h; omega
    · rw [if_neg z] at h
      by_cases hi : i = k
      · subst hi
        rw [List.getElem?_eq_getElem hl] at h2
        exact absurd (by simpa using h2) z
      · exact fnd_min n (k + 1) j (by omega) (by omega) h i (by omega) h2
theorem isE_cons {o w r : List Nat} {c j : Nat} : IsE o (c :: w) (j :: r) ↔ o[j]? = some c ∧ IsE o w r ∧ ∀ x ∈ r, j < x := by
  constructor
  · intro h
    refine ⟨h.at_ 0 c j rfl rfl, ⟨by simpa using h.len, fun i c' j' e1 e2 => h.at_ (i + 1) c' j' (by simpa using e1) (by simpa using e2), (List.pairwise_cons.mp h.up).2⟩, (List.pairwise_cons.mp h.up).1⟩
  · rintro ⟨h1, h2, h3⟩
    refine ⟨by simp [h2.len], fun i c' j' e1 e2 => ?_, List.pairwise_cons.mpr ⟨h3, h2.up⟩⟩
    cases i with
    | zero => simp at e1 e2; subst e1; subst e2; exact h1
    | succ i => exact h2.at_ i c' j' (by simpa using e1) (by simpa using e2)
theorem lm_least {o : List Nat} : ∀ (w : List Nat) (k : Nat) (r0 : List Nat), k ≤ o.length → lmS k w (o.drop k) = some r0 → IsE o w r0 ∧ (∀ j ∈ r0, k ≤ j) ∧ ∀ r, IsE o w r → (∀ j ∈ r, k ≤ j) → Pw r0 r
  | [], k, r0, hk, h => by
    rw [lmS] at h
    cases h
    refine ⟨⟨rfl, fun i c j e => by simp at e, .nil⟩, (fun j hj => by cases hj), fun r hr _ => ?_⟩
    rw [List.length_eq_zero_iff.mp hr.len]; exact .nil
  | c :: w, k, r0, hk, h => by
    rcases fnd_lm (o := o) (c := c) (w := w) _ k rfl hk with ⟨e1, e2⟩ | ⟨j, e1, e2, e3, e4, e5⟩
    · rw [e2] at h; cases h
    · rw [e5] at h
      obtain ⟨r1, h1, rfl⟩ := Option.map_eq_some_iff.mp h
      obtain ⟨q1, q2, q3⟩ := lm_least w (j + 1) r1 (by omega) h1
      refine ⟨isE_cons.mpr ⟨e4, q1, fun x hx => by have := q2 x hx; omega⟩, fun x hx => ?_, fun r hr hk' => ?_⟩
      · rcases List.mem_cons.mp hx with rfl | hx
        · exact e2
        · have := q2 x hx; omega
      · match r, hr with
        | [], hr => have := hr.len; simp at this
        | j' :: r', hr =>
          obtain ⟨a1, a2, a3⟩ := isE_cons.mp hr
          have hj := fnd_min (o := o) (c := c) _ k j rfl hk e1 j' (hk' j' (.head _)) a1
          exact .cons hj (q3 r' a2 fun x hx => by have := a3 x hx; omega)
def rv (n : Nat) (r : List Nat) : List Nat := (r.map fun j => n - 1 - j).reverse
theorem rv_rv {n : Nat} {r : List Nat} (h : ∀ j ∈ r, j < n) : rv n (rv n r) = r := by
  unfold rv
  rw [List.map_reverse, List.reverse_reverse, List.map_map]
  have : r.map ((fun j => n - 1 - j) ∘ fun j => n - 1 - j) = r.map id := List.map_congr_left fun j hj => by
    have := h j hj
    show n - 1 - (n - 1 - j) = j
    omega
  rw [this, List.map_id]
theorem IsE.lt {o w r : List Nat} (h : IsE o w r) : ∀ j ∈ r, j < o.length := fun j hj => by
  obtain ⟨i, hi, e⟩ := List.getElem_of_mem hj
  have h1 : i < w.length := by rw [← h.len]; exact hi
  have := h.at_ i w[i] j (List.getElem?_eq_getElem h1) (by rw [List.getElem?_eq_getElem hi, e])
  exact (List.getElem?_eq_some_iff.mp this).1
theorem IsE.rev {o w r : List Nat} (h : IsE o w r) : IsE o.reverse w.reverse (rv o.length r) := by
  refine ⟨by simp [rv, h.len], fun i c j e1 e2 => ?_, ?_⟩
  · have hi : i < w.length := by have := (List.getElem?_eq_some_iff.mp e1).1; simpa using this
    unfold rv at e2
    rw [List.getElem?_reverse (by simpa [h.len] using hi), List.getElem?_map, List.length_map] at e2
    rw [List.getElem?_reverse hi] at e1
    rw [h.len] at e2
    obtain ⟨x, hx, rfl⟩ := Option.map_eq_some_iff.mp e2
    have hxo := h.at_ _ c x e1 hx
    have hlt := (List.getElem?_eq_some_iff.mp hxo).1
    rw [List.getElem?_reverse (by omega), ← hxo]
    congr 1
    omega
  · unfold rv
    rw [List.pairwise_reverse, List.pairwise_map]
    refine h.up.imp_of_mem fun {a b} ha hb hab => ?_
    have := h.lt a ha
    have := h.lt b hb
    omega
theorem rm_most {o w r0 : List Nat} (h : rmS w o = some r0) : IsE o w r0 ∧ ∀ r, IsE o w r → Pw r r0 := by
  unfold rmS at h
  obtain ⟨r1, h1, rfl⟩ := Option.map_eq_some_iff.mp h
  obtain ⟨q1, q2, q3⟩ := lm_least (o := o.reverse) w.reverse 0 r1 (Nat.zero_le _) (by rw [List.drop_zero]; exact h1)
  have e1 : IsE o w (rv o.length r1) := by
    have := q1.rev
    rw [List.reverse_reverse, List.reverse_reverse, List.length_reverse] at this
    exact this
  refine ⟨e1, fun r hr => ?_⟩
  have p := q3 _ hr.rev fun j _ => Nat.zero_le _
  have p2 := (p.anti (n := o.length - 1)).rev
  show Pw r (rv o.length r1)
  have e2 : rv o.length (rv o.length r) = r := rv_rv hr.lt
  unfold rv at e2 p2 ⊢
  rw [e2] at p2
  exact p2
theorem rm_some {w o : List Nat} : (rmS w o).isSome = (lmS 0 w o).isSome := by
  unfold rmS
  rw [Option.isSome_map]
  have a1 : ∀ (w o : List Nat), (lmS 0 w o).isSome = true → (lmS 0 w.reverse o.reverse).isSome = true := fun w o h => by
    cases q : lmS 0 w o with
    | none => rw [q] at h; cases h
    | some r =>
      have e := (lm_least (o := o) w 0 r (Nat.zero_le _) (by rw [List.drop_zero]; exact q)).1.rev
      have hm := (all_mem (o := o.reverse) w.reverse _).mpr e
      have : 0 < (allS o.reverse w.reverse).length := List.length_pos_of_mem hm
      rw [all_len] at this
      rw [lm_emb]
      exact decide_eq_true this
  cases h : (lmS 0 w o).isSome with
  | true => exact a1 w o h
  | false =>
    cases h' : (lmS 0 w.reverse o.reverse).isSome with
    | false => rfl
    | true =>
      have := a1 _ _ h'
      rw [List.reverse_reverse, List.reverse_reverse, h] at this
      cases this
/-! ### min and max of rows -/
theorem ltK_ints {a b : List Int} : ltK (eR D.int) a b = decide (a < b) := by
  have : ∀ l : List Int, toPys (l.map D.int) = l.map PyData.int := fun l => by
    induction l with
    | nil => rfl
    | cons x l ih => simp [toPys, toPy, ih]
  unfold ltK
  show PySem.W.dataLt (toPy (.tup (a.map D.int))) (toPy (.tup (b.map D.int))) = _
  simp only [toPy, this]
  rw [PySem.W.dataLt_tuple]
  exact PySem.W.dataLt_ints a b
theorem best_of {α : Type} {P : α → α → Prop} (tr : ∀ {a b c}, P a b → P b c → P a c) (rf : ∀ a, P a a) (tot : ∀ {a b}, ¬ P a b → P b a) {g : α → α → Bool} (hg : ∀ a y, g a y = true → P y a) (hg' : ∀ a y, ¬ g a y = true → P a y) : ∀ (xs : List α) (x : α), xs.foldl (fun a y => if g a y then y else a) x ∈ x :: xs ∧ ∀ y ∈ x :: xs, P (xs.foldl (fun a y => if g a y then y else a) x) y
  | [], x => ⟨.head _, fun y hy => by rw [List.mem_singleton.mp hy]; exact rf _⟩
  | z :: xs, x => by
    rw [List.foldl_cons]
    by_cases h : g x z = true
    · rw [if_pos h]
      obtain ⟨m, l⟩ := best_of (P := P) (g := g) tr rf tot hg hg' xs z
      refine ⟨List.mem_cons_of_mem _ m, fun y hy => ?_⟩
      rcases List.mem_cons.mp hy with rfl | hy
      · exact tr (l z (.head _)) (hg _ _ h)
      · exact l y hy
    · rw [if_neg h]
      obtain ⟨m, l⟩ := best_of (P := P) (g := g) tr rf tot hg hg' xs x
      refine ⟨?_, fun y hy => ?_⟩
      · rcases List.mem_cons.mp m with m | m
        · rw [m]; exact .head _
        · exact List.mem_cons_of_mem _ (List.mem_cons_of_mem _ m)
      · rcases List.mem_cons.mp hy with rfl | hy
        · exact l y (.head _)
        · rcases List.mem_cons.mp hy with rfl | hy
          · exact tr (l x (.head _)) (hg' _ _ h)
          · exact l y (List.mem_cons_of_mem _ hy)
theorem Pw.le {l m : List Nat} (h : Pw l m) : ¬ toI m < toI l := by
  rcases h.lt with h | h
  · rw [h]; exact List.lt_irrefl _
  · exact fun q => List.lt_irrefl _ (List.lt_trans h q)
theorem le_tr {a b c : List Int} (h : ¬ b < a) (h' : ¬ c < b) : ¬ c < a := by
  rw [List.not_lt] at *
  exact List.le_trans h h'
theorem le_as {a b : List Int} (h : ¬ b < a) (h' : ¬ a < b) : a = b := by
  rw [List.not_lt] at *
  exact List.le_antisymm h h'
theorem rows_min {w o : Wd} {r0 : List Nat} (h : lmS 0 w o = some r0) : oMin1 (eR D.int) ((allS o w).map toI) = some (toI r0) := by
  obtain ⟨q1, _, q3⟩ := lm_least (o := o) w 0 r0 (Nat.zero_le _) (by rw [List.drop_zero]; exact h)
  have hm := (all_mem w r0).mpr q1
  unfold oMin1
  cases hr : (allS o w).map toI with
  | nil => rw [List.map_eq_nil_iff] at hr; rw [hr] at hm; cases hm
  | cons x xs =>
    obtain ⟨b1, b2⟩ := best_of (P := fun a b : List Int => ¬ b < a) (g := fun a y => ltK (eR D.int) y a) (fun h h' => le_tr h h') (fun a => List.lt_irrefl a) (fun h => by
      have h := Classical.not_not.mp h
      exact fun q => List.lt_irrefl _ (List.lt_trans h q)) (fun a y h => by
      rw [ltK_ints] at h
      have h := of_decide_eq_true h
      exact fun q => List.lt_irrefl _ (List.lt_trans h q)) (fun a y h => by rw [ltK_ints] at h; simpa using h) xs x
    refine congrArg some (le_as ?_ ?_)
    · rw [← hr] at b2
      exact b2 _ (List.mem_map_of_mem hm)
    · rw [← hr] at b1
      obtain ⟨r, e1, e2⟩ := List.mem_map.mp b1
      rw [← e2]
      exact (q3 r ((all_mem w r).mp e1) fun j _ => Nat.zero_le _).le
theorem rows_max {w o : Wd} {r0 : List Nat} (h : rmS w o = some r0) : oMax1 (eR D.int) ((allS o w).map toI) = some (toI r0) := by
  obtain ⟨q1, q3⟩ := rm_most h
  have hm := (all_mem w r0).mpr q1
  unfold oMax1
  cases hr : (allS o w).map toI with
  | nil => rw [List.map_eq_nil_iff] at hr; rw [hr] at hm; cases hm
  | cons x xs =>
    obtain ⟨b1, b2⟩ := best_of (P := fun a b : List Int => ¬ a < b) (g := fun a y => ltK (eR D.int) a y) (fun h h' => le_tr h' h) (fun a => List.lt_irrefl a) (fun h => by
      have h := Classical.not_not.mp h
      exact fun q => List.lt_irrefl _ (List.lt_trans h q)) (fun a y h => by
      rw [ltK_ints] at h
      have h := of_decide_eq_true h
      exact fun q => List.lt_irrefl _ (List.lt_trans h q)) (fun a y h => by rw [ltK_ints] at h; simpa using h) xs x
    refine congrArg some (le_as ?_ ?_)
    · rw [← hr] at b1
      obtain ⟨r, e1, e2⟩ := List.mem_map.mp b1
      rw [← e2]
      exact (q3 r ((all_mem w r).mp e1)).le
    · rw [← hr] at b2
      exact b2 _ (List.mem_map_of_mem hm)
theorem rows_nil {w o : Wd} : allS o w = [] ↔ lmS 0 w o = none := by
  have := lm_emb o w 0
  rw [← List.length_eq_zero_iff, all_len]
  cases q : lmS 0 w o with
  | none => rw [q] at this; simpa using this
  | some r => rw [q] at this; simp at this; simp; omega
/-! ### judging an embedding -/
def Pl (d : D) : Prop := d = .non ∨ (∃ b, d = .bl b) ∨ ∃ i, d = .int i
/-- what the judge says of a row that has the right length -/
def jd (o : Wd) : Int → List Nat → List D → Bool
  | l, c :: w, .int i :: ds => decide (l < i) && (decide (0 ≤ i) && (decide (i < (o.length : Int)) && (decide (o[i.toNat]? = some c) && jd o i w ds)))
  | _, [], [] => true
  | _, _, _ => false
def jdT (w o : Wd) : D → Bool
  | .tup ds => decide (ds.length = w.length) && jd o (-1) w ds
  | _ => false
@[simp] theorem db_ltA {a b : Int} : dBo ltA (.int a) (.int b) = some (decide (a < b)) := by
  unfold dBo; rw [o_ltA a b _ rfl]; rfl
@[simp] theorem db_leD {a b : Int} : dBo leD (.int a) (.int b) = some (decide (a ≤ b)) := rfl
@[simp] theorem fI_int {i : Int} : fI' (.int i) = some i := rfl
theorem ixW_in {o : Wd} {i : Int} {c : Nat} (h0 : 0 ≤ i) (h1 : i < (o.length : Int)) : ∃ x, oIxW o i = some [x] ∧ o[i.toNat]? = some x := by
  obtain ⟨k, rfl⟩ := Int.eq_ofNat_of_zero_le h0
  have hk : k < o.length := by omega
  exact ⟨o[k], by simp [oIxW, atI_nat, hk], by simp [hk]⟩
theorem emb_loop {o : Wd} : ∀ (w : List Nat) (ds : List D) (l : Int), w.length = ds.length → -1 ≤ l → (∀ d ∈ ds, Pl d) →
    (jd o l w ds = false ∧ forT (b_is_embedding_1 o) ((signs w).zip ds) l = ret (.rt false)) ∨ ∃ e, jd o l w ds = true ∧ forT (b_is_embedding_1 o) ((signs w).zip ds) l = ret (.nx e)
  | [], [], l, _, _, _ => .inr ⟨l, rfl, rfl⟩
  | c :: w, d :: ds, l, hl, hl1, hp => by
    show (_ ∧ forT _ (([c], d) :: (signs w).zip ds) l = _) ∨ ∃ e, _ ∧ forT _ (([c], d) :: (signs w).zip ds) l = _
    rcases hp d (.head _) with rfl | ⟨b, rfl⟩ | ⟨i, rfl⟩
    · exact .inl ⟨rfl, forT_rt (by simp [b_is_embedding_1])⟩
    · exact .inl ⟨rfl, forT_rt (by simp [b_is_embedding_1])⟩
    · by_cases h1 : l < i
      · by_cases h2 : i < (o.length : Int)
        · obtain ⟨x, e1, e2⟩ := ixW_in (c := c) (show 0 ≤ i by omega) h2
          by_cases h3 : x = c
          · subst h3
            have ih := emb_loop (o := o) w ds i (by simpa using hl) (by omega) fun d hd => hp d (.tail _ hd)
            have st : b_is_embedding_1 o ([x], .int i) l = ret (.nx i) := by simp [b_is_embedding_1, h1, h2, e1]
            have j : jd o l (x :: w) (.int i :: ds) = jd o i w ds := by
              have : (0 : Int) ≤ i := by omega
              rw [jd, decide_eq_true h1, decide_eq_true this, decide_eq_true h2, decide_eq_true e2]; rfl
            rw [j, forT_nx st]
            exact ih
          · have h3' : (x == c) = false := by simpa using h3
            refine .inl ⟨?_, forT_rt (by simp [b_is_embedding_1, h1, h2, e1, h3'])⟩
            simp [jd, e2, h3]
        · refine .inl ⟨?_, forT_rt (by simp [b_is_embedding_1, h1, h2])⟩
          simp [jd, h2]
      · refine .inl ⟨?_, forT_rt (by simp [b_is_embedding_1, h1])⟩
        simp [jd, h1]
def Th (d : D) : Prop := (∃ ds, d = .lst ds) ∨ (∃ ds, d = .tup ds ∧ ds.length ≤ 60000 ∧ ∀ x ∈ ds, Pl x) ∨ d = .non ∨ (∃ i, d = .int i) ∨ ∃ l, d = .str l
theorem is_embedding_ev {w o : Wd} (h : isWd w) (h' : isWd o) {th : D} (t : Th th) : t_is_embedding (.str w) (.str o) th = ret (jdT w o th) := by
  rcases t with ⟨ds, rfl⟩ | ⟨ds, rfl, _, hp⟩ | rfl | ⟨i, rfl⟩ | ⟨l, rfl⟩
  · simp [t_is_embedding, need_words_ok h h', jdT]
  · by_cases hl : ds.length = w.length
    · have hl' : ((ds.length : Int) == (w.length : Int)) = true := by simp [hl]
      have z : oZipP (fun w => some (signs w)) itD (w, .tup ds, ()) = some ((signs w).zip ds) := rfl
      rcases emb_loop (o := o) w ds (-1) hl.symm (by omega) hp with ⟨q1, q2⟩ | ⟨e, q1, q2⟩
      · simp [t_is_embedding, need_words_ok h h', jdT, hl, z, q1, q2]
      · simp [t_is_embedding, need_words_ok h h', jdT, hl, z, q1, q2]
    · have hl' : ((ds.length : Int) == (w.length : Int)) = false := by simp; omega
      simp [t_is_embedding, need_words_ok h h', jdT, hl, hl']
  · simp [t_is_embedding, need_words_ok h h', jdT]
  · simp [t_is_embedding, need_words_ok h h', jdT]
  · simp [t_is_embedding, need_words_ok h h', jdT]
def isI : D → Bool
  | .int _ => true
  | _ => false
theorem law_is_int_ev {d : D} (h : Pl d) : t__law_is_int d = ret (isI d) := by
  rcases h with rfl | ⟨b, rfl⟩ | ⟨i, rfl⟩ <;> simp [t__law_is_int, isI]
theorem ixD_tupN {ds : List D} {k : Nat} (h : k < ds.length) : ixD (.tup ds) (.int (k : Int)) = some ds[k] := by
  show atI ds (k : Int) = _
  rw [atI_nat, List.getElem?_eq_getElem h]
/-- the last place before the k-th -/
def prv (ds : List D) (k : Nat) : Int := match k with
  | 0 => -1
  | k + 1 => match ds[k]? with
    | some (.int i) => i
    | _ => -1
theorem prv_succ {ds : List D} {k : Nat} {i : Int} (h : ds[k]? = some (.int i)) : prv ds (k + 1) = i := by
  show (match ds[k]? with
    | some (.int i) => i
    | _ => -1) = i
  rw [h]
theorem judge_loop {w o : Wd} {ds : List D} (hl : ds.length = w.length) (hp : ∀ d ∈ ds, Pl d) : ∀ (n k : Nat), k + n = w.length → -1 ≤ prv ds k → (∀ k', k = k' + 1 → ∃ i, ds[k']? = some (.int i)) →
    (jd o (prv ds k) (w.drop k) (ds.drop k) = false ∧ forT (b__law_judge_1 w o (.tup ds)) ((List.range' k n).map fun (i : Nat) => (i : Int)) () = ret (.rt false)) ∨ (jd o (prv ds k) (w.drop k) (ds.drop k) = true ∧ forT (b__law_judge_1 w o (.tup ds)) ((List.range' k n).map fun (i : Nat) => (i : Int)) () = ret (.nx ()))
  | 0, k, hk, _, _ => by
    rw [List.drop_of_length_le (by omega), List.drop_of_length_le (by omega)]
    exact .inr ⟨rfl, rfl⟩
  | n + 1, k, hk, hv, hs => by
    have h1 : k < w.length := by omega
    have h2 : k < ds.length := by omega
    rw [List.drop_eq_getElem_cons h1, List.drop_eq_getElem_cons h2, List.range'_succ, List.map_cons]
    have ix := ixD_tupN h2
    have ixw : oIxW w (k : Int) = some [w[k]] := by simp [oIxW, atI_nat, h1]
    have hpk := hp _ (List.getElem_mem h2)
    have isE := law_is_int_ev hpk
    rcases hpk with e | ⟨b, e⟩ | ⟨i, e⟩
    · rw [e] at ix isE ⊢
      exact .inl ⟨rfl, forT_rt (by simp [b__law_judge_1, ix, isE, isI])⟩
    · rw [e] at ix isE ⊢
      exact .inl ⟨rfl, forT_rt (by simp [b__law_judge_1, ix, isE, isI])⟩
    · rw [e] at ix isE ⊢
      have pk : prv ds (k + 1) = i := by
        show (match ds[k]? with
          | some (.int i) => i
          | _ => -1) = i
        rw [List.getElem?_eq_getElem h2, e]
      by_cases z0 : 0 ≤ i
      · by_cases z1 : i < (o.length : Int)
        · obtain ⟨x, e1, e2⟩ := ixW_in (c := w[k]) z0 z1
          by_cases z2 : x = w[k]
          · -- the order
            by_cases z3 : prv ds k < i
            · have j : jd o (prv ds k) (w[k] :: w.drop (k + 1)) (.int i :: ds.drop (k + 1)) = jd o (prv ds (k + 1)) (w.drop (k + 1)) (ds.drop (k + 1)) := by
                rw [z2] at e2
                rw [jd, decide_eq_true z3, decide_eq_true z0, decide_eq_true z1, decide_eq_true e2, pk]; rfl
              have st : b__law_judge_1 w o (.tup ds) (k : Int) () = ret (.nx ()) := by
                cases k with
                | zero => 
                  have ix : ixD (.tup ds) (.int (0 : Int)) = some (.int i) := ix
                  have ixw : oIxW w (0 : Int) = some [w[0]] := ixw
                  simp [b__law_judge_1, ix, isE, isI, z0, z1, e1, ixw, z2]
                | succ k =>
                  obtain ⟨i', hi'⟩ := hs k rfl
                  have pv : prv ds (k + 1) = i' := prv_succ hi'
                  have ix2 : ixD (.tup ds) (.int (((k + 1 : Nat) : Int) - 1)) = some (.int i') := by
                    rw [show ((k + 1 : Nat) : Int) - 1 = (k : Int) from by omega, ixD_tupN (show k < ds.length by omega)]
                    rw [List.getElem?_eq_getElem (show k < ds.length by omega)] at hi'
                    exact hi'
                  have le : ¬ i ≤ i' := by omega
                  have gt : (0 : Int) < ((k + 1 : Nat) : Int) := by omega
                  generalize ((k + 1 : Nat) : Int) = K at *
                  simp only [b__law_judge_1, prd_ret, mp_ret, bnd_ret, bin_ret, ix, lft_some, isE, isI, notT_ret, orT_ret]
                  simp [z0, z1, e1, ixw, z2, ix2, le, gt]
              rw [j, forT_nx st]
              exact judge_loop hl hp n (k + 1) (by omega) (by rw [pk]; omega) fun k' hk' => by
                have : k' = k := by omega
                subst this
                exact ⟨i, by rw [List.getElem?_eq_getElem h2, e]⟩
            · refine .inl ⟨by simp [jd, z3], forT_rt ?_⟩
              cases k with
              | zero => exact absurd (show (-1 : Int) < i by omega) z3
              | succ k =>
                obtain ⟨i', hi'⟩ := hs k rfl
                have pv : prv ds (k + 1) = i' := prv_succ hi'
                have ix2 : ixD (.tup ds) (.int (((k + 1 : Nat) : Int) - 1)) = some (.int i') := by
                  rw [show ((k + 1 : Nat) : Int) - 1 = (k : Int) from by omega, ixD_tupN (show k < ds.length by omega)]
                  rw [List.getElem?_eq_getElem (show k < ds.length by omega)] at hi'
                  exact hi'
                have le : i ≤ i' := by omega
                simp only [b__law_judge_1, prd_ret, mp_ret, bnd_ret, bin_ret, ix, lft_some, isE, isI, notT_ret, orT_ret]
                have gt : (0 : Int) < ((k + 1 : Nat) : Int) := by omega
                generalize ((k + 1 : Nat) : Int) = K at *
                simp [z0, z1, e1, ixw, z2, ix2, le, gt]
          · refine .inl ⟨by simp [jd, e2, z2], forT_rt ?_⟩
            have z2' : (x == w[k]) = false := by simpa using z2
            simp [b__law_judge_1, ix, isE, isI, z0, z1, e1, ixw, z2']
        · refine .inl ⟨by simp [jd, z1], forT_rt ?_⟩
          simp [b__law_judge_1, ix, isE, isI, z0, z1]
      · refine .inl ⟨by simp [jd, z0], forT_rt ?_⟩
        simp [b__law_judge_1, ix, isE, isI, z0]
theorem law_judge_ev {w o : Wd} {th : D} (t : Th th) : t__law_judge w o th = ret (jdT w o th) := by
  rcases t with ⟨ds, rfl⟩ | ⟨ds, rfl, hn, hp⟩ | rfl | ⟨i, rfl⟩ | ⟨l, rfl⟩
  · simp [t__law_judge, jdT]
  · by_cases hl : ds.length = w.length
    · have r := rng1_nat (n := ds.length) (by omega)
      have L := judge_loop (o := o) hl hp ds.length 0 (by omega) (by show (-1 : Int) ≤ -1; omega) (fun k' h => by omega)
      rw [← List.range_eq_range', List.drop_zero, List.drop_zero] at L
      rw [hl] at r L
      have L : (jd o (-1) w ds = false ∧ _) ∨ (jd o (-1) w ds = true ∧ _) := L
      rcases L with ⟨q1, q2⟩ | ⟨q1, q2⟩
      · simp [t__law_judge, jdT, hl, r, q1, q2]
      · simp [t__law_judge, jdT, hl, r, q1, q2]
    · have hl' : ((ds.length : Int) == (w.length : Int)) = false := by simp; omega
      simp [t__law_judge, jdT, hl, hl']
  · simp [t__law_judge, jdT]
  · simp [t__law_judge, jdT]
  · simp [t__law_judge, jdT]
/-! ### told and due are the same -/
def dep : Nat → D → Bool
  | _, .non => true
  | _, .bl _ => true
  | _, .int _ => true
  | _, .str _ => true
  | n + 1, .tup ds => ds.all (dep n)
  | _, _ => false
def szz : Nat → D → Nat
  | n + 1, .tup ds => 1 + (ds.map (szz n)).sum
  | _, _ => 1
theorem dep_fit : ∀ (n : Nat) (d : D), dep n d = true → fit n d = true
  | 0, d, h => by cases d <;> simp [dep] at h <;> rfl
  | n + 1, d, h => by
    cases d with
    | tup ds =>
      rw [dep, List.all_eq_true] at h
      rw [fit, List.all_eq_true]
      exact fun d hd => dep_fit n d (h d hd)
    | non => rfl
    | bl b => rfl
    | int i => rfl
    | str l => rfl
    | _ => simp [dep] at h
theorem dep_up : ∀ (n : Nat) (d : D), dep n d = true → dep (n + 1) d = true ∧ szz (n + 1) d = szz n d
  | 0, d, h => by cases d <;> simp [dep] at h <;> exact ⟨rfl, rfl⟩
  | n + 1, d, h => by
    cases d with
    | tup ds =>
      rw [dep, List.all_eq_true] at h
      refine ⟨by rw [dep, List.all_eq_true]; exact fun d hd => (dep_up n d (h d hd)).1, ?_⟩
      rw [szz, szz]
      congr 2
      exact List.map_congr_left fun d hd => (dep_up n d (h d hd)).2
    | non => exact ⟨rfl, rfl⟩
    | bl b => exact ⟨rfl, rfl⟩
    | int i => exact ⟨rfl, rfl⟩
    | str l => exact ⟨rfl, rfl⟩
    | _ => simp [dep] at h
theorem szz_pos (n : Nat) (d : D) : 1 ≤ szz n d := by
  cases n <;> cases d <;> first | exact Nat.le_refl 1 | (rw [szz]; omega)
theorem sum_len {α : Type} {f : α → Nat} (h : ∀ a, 1 ≤ f a) : ∀ l : List α, l.length ≤ (l.map f).sum
  | [] => Nat.le_refl 0
  | a :: l => by
    rw [List.map_cons, List.sum_cons, List.length_cons]
    have := sum_len h l
    have := h a
    omega
theorem nq_bl {b : Bool} : dBo neO (.bl b) (.bl b) = some false := by
  unfold dBo; rw [o_ne eqk_B (by decide) b b _ rfl]; simp [asB]
theorem nq_int {b : Int} : dBo neO (.int b) (.int b) = some false := by
  unfold dBo; rw [o_ne eqk_I (by decide) b b _ rfl]; simp [asB]
theorem nq_str {b : Wd} : dBo neO (.str b) (.str b) = some false := by
  unfold dBo; rw [o_ne eqk_W (by decide) b b _ rfl]; simp [asB]
theorem same_q {n : Nat} (hn : n ≤ 60) {st : List (D × D)} (h : ∀ p ∈ st, p.1 = p.2 ∧ dep n p.1 = true) : q__law_same_1 st = ret (!st.isEmpty) := by
  have f : fit 64 (eL (e2 eA eA) st) = true := by
    show fit 64 (.lst (st.map (e2 eA eA))) = true
    rw [fit, List.all_eq_true]
    intro d hd
    obtain ⟨p, hp, rfl⟩ := List.mem_map.mp hd
    obtain ⟨e, d1⟩ := h p hp
    show fit 63 (.tup [p.1, p.2]) = true
    have g := fit_mono n 62 _ (by omega) (dep_fit n _ d1)
    rw [fit, ← e]
    simp [g]
  have f0 : fit 64 (eL (e2 eA eA) []) = true := rfl
  have : dBo neO (eL (e2 eA eA) st) (eL (e2 eA eA) []) = some (!st.isEmpty) := by
    unfold dBo neO eqF
    rw [f, f0]
    cases st <;> rfl
  simp [q__law_same_1, this]
theorem same_loop {n : Nat} (hn : n ≤ 60) : ∀ (m : Nat) (st : List (D × D)) (f : Nat), (∀ p ∈ st, p.1 = p.2 ∧ dep n p.1 = true) → (st.map fun p => szz n p.1).sum ≤ m → m ≤ 60000 → m < f → whT q__law_same_1 b__law_same_1 f st = ret (.nx [])
  | m, st, 0, _, _, _, hf => by omega
  | m, st, f + 1, h, hm, h6, hf => by
    have q := same_q hn h
    rcases List.eq_nil_or_concat st with rfl | ⟨st, p, rfl⟩
    · rw [whT_end q]
    · rw [List.concat_eq_append] at *
      have q : q__law_same_1 (st ++ [p]) = ret true := by
        rw [q, show (st ++ [p]).isEmpty = false from by cases st <;> rfl]; rfl
      obtain ⟨x, y⟩ := p
      obtain ⟨e, dp⟩ := h (x, y) (by simp)
      dsimp only at e dp
      subst e
      have hp := szz_pos n x
      rw [List.map_append, List.sum_append] at hm
      have hm1 : (st.map fun p => szz n p.1).sum + szz n x ≤ m := by simpa using hm
      match m, hm1 with
      | 0, hm1 => omega
      | m + 1, hm1 =>
      have pop : oPop (st ++ [(x, x)]) () = some (st, (x, x)) := by simp [oPop]
      have hs : ∀ p ∈ st, p.1 = p.2 ∧ dep n p.1 = true := fun p hp => h p (List.mem_append.mpr (.inl hp))
      have step : b__law_same_1 (st ++ [(x, x)]) = ret (.nx st) → whT q__law_same_1 b__law_same_1 (f + 1) (st ++ [(x, x)]) = ret (.nx []) := fun e => by
        rw [whT_nx q e]
        exact same_loop hn m st f hs (by omega) (by omega) (by omega)
      cases x with
      | non => exact step (by simp [b__law_same_1, pop, dBo, isF, asB])
      | bl b => exact step (by
          have i : dBo (isF false) (.bl b) .non = some false := rfl
          simp [b__law_same_1, pop, i, nq_bl])
      | int b => exact step (by
          have i : dBo (isF false) (.int b) .non = some false := rfl
          simp [b__law_same_1, pop, i, nq_int])
      | str b => exact step (by
          have i : dBo (isF false) (.str b) .non = some false := rfl
          simp [b__law_same_1, pop, i, nq_str])
      | tup ds =>
        cases n with
        | zero => simp [dep] at dp
        | succ n =>
        rw [dep, List.all_eq_true] at dp
        have e2 : szz (n + 1) (.tup ds) = 1 + (ds.map (szz (n + 1))).sum := by
          rw [szz]
          congr 2
          exact List.map_congr_left fun d hd => (dep_up n d (dp d hd)).2.symm
        rw [e2] at hm1
        have l1 := sum_len (szz_pos (n + 1)) ds
        have l2 := sum_len (f := fun p : D × D => szz (n + 1) p.1) (fun p => szz_pos (n + 1) p.1) st
        have r := rng1_nat (n := ds.length) (by omega)
        have c := lc_map (l := (List.range ds.length).map fun (i : Nat) => (i : Int)) (f := fun i : Int => mp (fun p : D × D × Unit => (p.1, p.2.1)) (prd (lft (ixD (D.tup ds) (D.int i))) (prd (lft (ixD (D.tup ds) (D.int i))) (ret ())))) (fun i => let d := (ds[i.toNat]?).getD .non; (d, d)) (by simp; omega) (fun i hi => by
          obtain ⟨k, hk, rfl⟩ := List.mem_map.mp hi
          have hk := List.mem_range.mp hk
          simp [ixD_tupN hk, hk])
        have c2 : ((List.range ds.length).map fun (i : Nat) => (i : Int)).map (fun i => let d := (ds[i.toNat]?).getD .non; (d, d)) = ds.map fun d => (d, d) := by
          refine List.ext_getElem? fun k => ?_
          by_cases hk : k < ds.length
          · simp [hk]
          · rw [List.getElem?_eq_none (by simp; omega), List.getElem?_eq_none (by simp; omega)]
        rw [c2] at c
        have x : oExt st (ds.map fun d => (d, d), ()) = some (st ++ ds.map fun d => (d, d), ()) := by
          unfold oExt
          rw [if_pos (by simp only [List.length_map]; omega)]
        have e3 : b__law_same_1 (st ++ [(.tup ds, .tup ds)]) = ret (.nx (st ++ ds.map fun d => (d, d))) := by
          simp only [b__law_same_1, un_ret, bnd_ret, pop, lft_some, db_tuple_tup, ifT_t, notT_ret, di_len_tup, bin_ret, oNe_ev, orT_ret, prd_ret, r, c, x, mp_ret]
          simp
        rw [whT_nx q e3]
        refine same_loop hn m _ f (fun p hp => ?_) ?_ (by omega) (by omega)
        · rcases List.mem_append.mp hp with hp | hp
          · exact hs p hp
          · obtain ⟨d, hd, rfl⟩ := List.mem_map.mp hp
            exact ⟨rfl, (dep_up n d (dp d hd)).1⟩
        · rw [List.map_append, List.sum_append, List.map_map]
          have : (ds.map ((fun p : D × D => szz (n + 1) p.1) ∘ fun d => (d, d))).sum = (ds.map (szz (n + 1))).sum := rfl
          rw [this]
          omega
      | lst ds => cases n <;> simp [dep] at dp
      | dic a b => cases n <;> simp [dep] at dp
      | deck => cases n <;> simp [dep] at dp
      | ext k => cases n <;> simp [dep] at dp
theorem law_same_ev {n : Nat} {d : D} (h : dep n d = true) (hn : n ≤ 60) (hz : szz n d ≤ 60000) : t__law_same d d = ret true := by
  have L := same_loop hn (szz n d) [(d, d)] whileFuel (fun p hp => by
    rw [List.mem_singleton.mp hp]; exact ⟨rfl, h⟩) (by simp) hz (by unfold whileFuel; omega)
  simp [t__law_same, L]
theorem same_bl {b : Bool} : t__law_same (.bl b) (.bl b) = ret true := law_same_ev (n := 0) rfl (by decide) (by simp [szz])
theorem same_int {b : Int} : t__law_same (.int b) (.int b) = ret true := law_same_ev (n := 0) rfl (by decide) (by simp [szz])
theorem same_row {r : Option (List Nat)} (h : ∀ x, r = some x → x.length ≤ 50000) : t__law_same (eO (eR D.int) (r.map toI)) (eO (eR D.int) (r.map toI)) = ret true := by
  cases r with
  | none => exact law_same_ev (n := 0) rfl (by decide) (by simp [szz])
  | some x =>
    refine law_same_ev (n := 1) ?_ (by decide) ?_
    · show dep 1 (.tup ((toI x).map D.int)) = true
      rw [dep, List.all_eq_true]
      intro d hd
      obtain ⟨i, _, rfl⟩ := List.mem_map.mp hd
      rfl
    · show szz 1 (.tup ((toI x).map D.int)) ≤ 60000
      rw [szz]
      have : ((toI x).map D.int).map (szz 0) = List.replicate x.length 1 := by
        rw [List.map_map, List.map_map]
        refine List.ext_getElem? fun k => ?_
        by_cases hk : k < x.length
        · simp [hk, szz]
        · rw [List.getElem?_eq_none (by simp; omega), List.getElem?_eq_none (by simp; omega)]
      rw [this]
      have := h x rfl
      simp
      omega
theorem same_two {a b : Option Wd} : t__law_same (.tup [eO D.str a, eO D.str b]) (.tup [eO D.str a, eO D.str b]) = ret true := by
  refine law_same_ev (n := 1) ?_ (by decide) ?_
  · cases a <;> cases b <;> rfl
  · cases a <;> cases b <;> simp [szz]
/-! ### things near a row -/
theorem th_ints {l : List Int} (h : l.length ≤ 60000) : Th (.tup (l.map D.int)) := .inr (.inl ⟨_, rfl, by simpa using h, fun x hx => by
  obtain ⟨i, _, rfl⟩ := List.mem_map.mp hx
  exact .inr (.inr ⟨i, rfl⟩)⟩)
theorem th_put {a c : List Int} {x : D} (h : a.length + c.length ≤ 50000) (hx : Pl x) : Th (.tup (a.map D.int ++ [x] ++ c.map D.int)) := .inr (.inl ⟨_, rfl, by simp; omega, fun y hy => by
  rcases List.mem_append.mp hy with hy | hy
  · rcases List.mem_append.mp hy with hy | hy
    · obtain ⟨i, _, rfl⟩ := List.mem_map.mp hy
      exact .inr (.inr ⟨i, rfl⟩)
    · rw [List.mem_singleton.mp hy]; exact hx
  · obtain ⟨i, _, rfl⟩ := List.mem_map.mp hy
    exact .inr (.inr ⟨i, rfl⟩)⟩)
theorem cutL_len {α : Type} {l : List α} {a b : Option Int} : (cutL l a b).length ≤ l.length := by
  unfold cutL
  rw [List.length_take, List.length_drop]
  omega
theorem cutL_mem {α : Type} {l : List α} {a b : Option Int} {x : α} (h : x ∈ cutL l a b) : x ∈ l := by
  unfold cutL at h
  exact List.mem_of_mem_drop (List.mem_of_mem_take h)
theorem near_loop {row : List Int} {at' : Int} (hr : row.length ≤ 100) : ∀ (xs acc : List D), acc.length + xs.length ≤ 1000 →
    forT (b__law_near_1 row at') xs acc = ret (.nx (acc ++ xs.map fun x => .tup ((cutL row none (some at')).map D.int ++ [x] ++ (cutL row (some (at' + 1)) none).map D.int)))
  | [], acc, _ => by simp
  | x :: xs, acc, h => by
    rw [List.length_cons] at h
    have l1 := cutL_len (l := row) (a := none) (b := some at')
    have l2 := cutL_len (l := row) (a := some (at' + 1)) (b := none)
    have a1 : addD (eR D.int (cutL row none (some at'))) (e1 eA x) = some (.tup ((cutL row none (some at')).map D.int ++ [x])) := by
      show (if _ then _ else _) = _
      rw [if_pos (by simp; omega)]
    have a2 : addD (.tup ((cutL row none (some at')).map D.int ++ [x])) (eR D.int (cutL row (some (at' + 1)) none)) = some (.tup ((cutL row none (some at')).map D.int ++ [x] ++ (cutL row (some (at' + 1)) none).map D.int)) := by
      show (if _ then _ else _) = _
      rw [if_pos (by simp; omega)]
    have x1 : oApp acc (.tup ((cutL row none (some at')).map D.int ++ [x] ++ (cutL row (some (at' + 1)) none).map D.int), ()) = some (acc ++ [.tup ((cutL row none (some at')).map D.int ++ [x] ++ (cutL row (some (at' + 1)) none).map D.int)], ()) := by
      unfold oApp
      rw [if_pos (by omega)]
    rw [forT_nx (st' := acc ++ [.tup ((cutL row none (some at')).map D.int ++ [x] ++ (cutL row (some (at' + 1)) none).map D.int)])]
    · rw [near_loop hr xs _ (by rw [List.length_append, List.length_singleton]; omega), List.append_assoc, List.map_cons, List.singleton_append]
    · simp only [b__law_near_1, sli_ret, mp_ret, oCut_ev, lft_some, prd_ret, bin_ret, oAdd_ev, a1, a2, un_ret, x1, bnd_ret]
theorem near_ok {row : List Int} {o : Wd} (hr : row.length ≤ 12) (ho : o.length ≤ 12) {s : DeckSt} (ok : s.Ok) : Ok1 (t__law_near () row o s) fun l => l.length ≤ 15 ∧ ∀ d ∈ l, Th d := by
  have e1 : oTo row = some row := by unfold oTo; rw [if_pos (by omega)]
  have e2 : ∀ x, oApd row [x] = some (row ++ [x]) := fun x => by
    unfold oApd; rw [if_pos (by simp; omega)]
  have h8 : ∀ d ∈ [eL D.int row, eR D.int (row ++ [0]), eR D.int (cutL row none (some (-1))), eR D.int row.reverse, D.non, D.int 0, D.str [], eR D.int (row ++ [(o.length : Int)])], Th d := fun d hd => by
    simp only [List.mem_cons, List.not_mem_nil, or_false] at hd
    rcases hd with rfl | rfl | rfl | rfl | rfl | rfl | rfl | rfl
    · exact .inl ⟨_, rfl⟩
    · exact th_ints (by simp; omega)
    · exact th_ints (by have := cutL_len (l := row) (a := none) (b := some (-1)); omega)
    · exact th_ints (by simp; omega)
    · exact .inr (.inr (.inl rfl))
    · exact .inr (.inr (.inr (.inl ⟨_, rfl⟩)))
    · exact .inr (.inr (.inr (.inr ⟨_, rfl⟩)))
    · exact th_ints (by simp; omega)
  by_cases z : row = []
  · have z' : (row == []) = true := by rw [z]; rfl
    have e : t__law_near () row o = ret [eL D.int row, eR D.int (row ++ [0]), eR D.int (cutL row none (some (-1))), eR D.int row.reverse, D.non, D.int 0, D.str [], eR D.int (row ++ [(o.length : Int)])] := by
      simp only [t__law_near, prd_ret, mp_ret, un_ret, bin_ret, e1, e2, lft_some, sli_ret, oCut_ev, oNeg_ev, oRev_ev, oLen_ev, oNe_ev, bnd_ret, z', ifT_ret]
      rfl
    rw [e]
    exact Ok1.mk ok ⟨Nat.le_of_ble_eq_true rfl, h8⟩
  · have z' : (row == []) = false := by simpa using z
    have hl : 0 < row.length := List.length_pos_iff.mpr z
    have e : t__law_near () row o = bnd (t_pick () (row.length : Int)) fun a => fin none (bnd (un oId (mp (fun p : D × D × D × D × D × D × D × Unit => ([p.1, p.2.1, p.2.2.1, p.2.2.2.1, p.2.2.2.2.1, p.2.2.2.2.2.1, p.2.2.2.2.2.2.1] : List D)) (prd (mp D.int (bin oAdd (bin atI (ret row) (ret a)) (ret (1 : Int)))) (prd (mp D.int (bin oSub (bin atI (ret row) (ret a)) (ret (1 : Int)))) (prd (mp D.int (un oNeg (ret (1 : Int)))) (prd (mp D.int (un oLen (ret o))) (prd (mp D.bl (ret true)) (prd (mp D.bl (ret false)) (prd (mp eN (ret ())) (ret ())))))))))) fun l => thn (forT (b__law_near_1 row a) l [eL D.int row, eR D.int (row ++ [0]), eR D.int (cutL row none (some (-1))), eR D.int row.reverse, D.non, D.int 0, D.str [], eR D.int (row ++ [(o.length : Int)])]) fun st88 => (mp .rt (ret st88))) := by
      simp only [t__law_near, prd_ret, mp_ret, un_ret, bin_ret, e1, e2, lft_some, sli_ret, oCut_ev, oNeg_ev, oRev_ev, oLen_ev, oNe_ev, bnd_ret, z', ifT_ret, Bool.not_false, if_true, fin_bnd]
    rw [e]
    refine Ok1.bind (t_pick1 ok (by omega) (by omega)) fun a s1 ok1 ⟨ha0, ha1⟩ => ?_
    obtain ⟨k, rfl⟩ := Int.eq_ofNat_of_zero_le ha0
    have hk : k < row.length := by omega
    have a1 : atI row (k : Int) = some row[k] := by rw [atI_nat, List.getElem?_eq_getElem hk]
    have L := near_loop (row := row) (at' := (k : Int)) (by omega) [D.int (row[k] + 1), D.int (row[k] - 1), D.int (-1), D.int (o.length : Int), D.bl true, D.bl false, D.non] [eL D.int row, eR D.int (row ++ [0]), eR D.int (cutL row none (some (-1))), eR D.int row.reverse, D.non, D.int 0, D.str [], eR D.int (row ++ [(o.length : Int)])] (Nat.le_of_ble_eq_true rfl)
    simp only [bin_ret, a1, lft_some, oAdd_ev, oSub_ev, mp_ret, oNeg_ev, un_ret, oLen_ev, prd_ret, oId_ev, bnd_ret, L, thn_nx, fin_rt]
    refine Ok1.mk ok1 ⟨Nat.le_of_ble_eq_true rfl, fun d hd => ?_⟩
    rcases List.mem_append.mp hd with hd | hd
    · exact h8 d hd
    · obtain ⟨x, hx, rfl⟩ := List.mem_map.mp hd
      have l1 := cutL_len (l := row) (a := none) (b := some (k : Int))
      have l2 := cutL_len (l := row) (a := some ((k : Int) + 1)) (b := none)
      refine th_put (by omega) ?_
      simp only [List.mem_cons, List.not_mem_nil, or_false] at hx
      rcases hx with rfl | rfl | rfl | rfl | rfl | rfl | rfl
      · exact .inr (.inr ⟨_, rfl⟩)
      · exact .inr (.inr ⟨_, rfl⟩)
      · exact .inr (.inr ⟨_, rfl⟩)
      · exact .inr (.inr ⟨_, rfl⟩)
      · exact .inr (.inl ⟨_, rfl⟩)
      · exact .inr (.inl ⟨_, rfl⟩)
      · exact .inl rfl
/-! ### told right -/
theorem forT_all {α β : Type} {body : α → Unit → M (Fl Unit β)} : ∀ {l : List α}, (∀ a ∈ l, body a () = ret (.nx ())) → forT body l () = ret (.nx ())
  | [], _ => rfl
  | a :: l, h => by rw [forT_nx (h a (.head _))]; exact forT_all fun b hb => h b (.tail _ hb)
def tailT (w o : Wd) (rows : List (List Int)) : M (Fl Unit Bool) := bnd (bnd (bin addD (mp (eL (eR D.int)) (lc (un oId (sli oCut (ret rows) (ret none) (mp some (ret (20 : Int))))) (fun a108 : (List Int) => (ret true)) fun a108 => (ret a108))) (mp (eL eA) (bnd (prd (ret ()) (prd (bin atI (bin oApd (ret rows) (mp (fun p : (List Int) × Unit => ([p.1] : List (List Int))) (prd (bin oRepR (mp (fun p : Int × Unit => ([p.1] : List Int)) (prd (ret (0 : Int)) (ret ()))) (un oLen (ret w))) (ret ())))) (ret (0 : Int))) (prd (ret o) (ret ())))) fun p : Unit × (List Int) × Wd × Unit => t__law_near p.1 p.2.1 p.2.2.1))) fun d => lft ((fL some) d)) fun things109 : (List D) => (bnd (un oId (ret things109)) fun l => thn (forT (b__law_told_right_1 w o) l ()) fun st110 => (mp .rt (ret true)))
theorem bin_mp2 {α β γ δ : Type} {op : β → γ → Option δ} {b : β} {m : M α} {f : α → γ} : bin op (ret b) (mp f m) = bnd m fun a => lft (op b (f a)) := by
  unfold mp; rw [bin_bnd2]; rfl
theorem mapO_some : ∀ l : List D, mapO some l = some l
  | [] => rfl
  | a :: l => by rw [mapO, mapO_some l]; rfl
theorem tail_ok {w o : Wd} (hw : isWd w) (ho : isWd o) {rows : List (List Int)} (hr : ∀ r ∈ rows, r.length ≤ 12) (hl : rows.length ≤ 60000) {s : DeckSt} (ok : s.Ok) : Ok1 (fin none (tailT w o rows) s) fun b => b = true := by
  have c := lc_map (l := cutL rows none (some 20)) (f := fun a => ret a) id (by have := cutL_len (l := rows) (a := none) (b := some 20); omega) fun a _ => rfl
  rw [List.map_id] at c
  have r0 : oRepR [(0 : Int)] (w.length : Int) = some (many (w.length : Int) [0]) := by
    unfold oRepR
    rw [if_pos]
    have := hw.1
    simp [okT]
    omega
  have m0 : (many (w.length : Int) [(0 : Int)]).length = w.length := by simp [many]
  have a0 : oApd rows [many (w.length : Int) [(0 : Int)]] = some (rows ++ [many (w.length : Int) [(0 : Int)]]) := by
    unfold oApd; rw [if_pos (by simp; omega)]
  obtain ⟨row, hrow, hrl⟩ : ∃ row, atI (rows ++ [many (w.length : Int) [(0 : Int)]]) 0 = some row ∧ row.length ≤ 12 := by
    cases rows with
    | nil => exact ⟨_, atI_nat (k := 0), by rw [m0]; exact hw.1⟩
    | cons r rows => exact ⟨r, atI_nat (k := 0), hr r (.head _)⟩
  have e : fin none (tailT w o rows) = bnd (t__law_near () row o) fun near => fin none (bnd (bnd (lft (addD (eL (eR D.int) (cutL rows none (some 20))) (eL eA near))) fun d => lft ((fL some) d)) fun things109 : (List D) => (bnd (un oId (ret things109)) fun l => thn (forT (b__law_told_right_1 w o) l ()) fun st110 => (mp .rt (ret true)))) := by
    simp only [tailT, sli_ret, mp_ret, oCut_ev, lft_some, un_ret, oId_ev, c, prd_ret, bin_ret, oLen_ev, r0, a0, hrow, bnd_ret, bin_mp2, bnd_bnd, fin_bnd]
  rw [e]
  refine Ok1.bind (near_ok hrl ho.1 ok) fun near s1 ok1 ⟨n1, n2⟩ => ?_
  have ad : addD (eL (eR D.int) (cutL rows none (some 20))) (eL eA near) = some (.lst ((cutL rows none (some 20)).map (eR D.int) ++ near.map eA)) := by
    show (if _ then _ else _) = _
    rw [if_pos]
    have := cutL_len (l := rows) (a := none) (b := some 20)
    simp
    omega
  have fl : fL some (.lst ((cutL rows none (some 20)).map (eR D.int) ++ near.map eA)) = some ((cutL rows none (some 20)).map (eR D.int) ++ near.map eA) := mapO_some _
  have L := forT_all (body := b__law_told_right_1 w o) (l := (cutL rows none (some 20)).map (eR D.int) ++ near.map eA) fun d hd => by
    have t : Th d := by
      rcases List.mem_append.mp hd with hd | hd
      · obtain ⟨r, hr', rfl⟩ := List.mem_map.mp hd
        have := hr r (cutL_mem hr')
        exact th_ints (by omega)
      · obtain ⟨x, hx, rfl⟩ := List.mem_map.mp hd
        exact n2 x hx
    simp [b__law_told_right_1, is_embedding_ev hw ho t, law_judge_ev t, same_bl]
  simp only [ad, lft_some, bnd_ret, fl, un_ret, oId_ev, L, thn_nx, mp_ret, fin_rt]
  exact Ok1.mk ok1 rfl
theorem lm_len {w o : Wd} {r : List Nat} (h : lmS 0 w o = some r) : r.length = w.length :=
  (lm_least (o := o) w 0 r (Nat.zero_le _) (by rw [List.drop_zero]; exact h)).1.len
theorem told_right_ok {w o : Wd} (hw : isWd w) (ho : isWd o) {rows : List (List Int)} (hr : ∀ r ∈ rows, r.length ≤ 12) (hl : rows.length ≤ 60000) {s : DeckSt} (ok : s.Ok) : Ok1 (t__law_told_right () w o rows s) fun b => b = true := by
  have w12 := hw.1
  have o12 := ho.1
  have E1 := law_left_ev (w := w) (o := o) (by omega) (by omega)
  have E2 := law_right_ev (w := w) (o := o) (by omega) (by omega)
  have E3 := is_subword_ev hw ho
  have E4 := leftmost_places_ev hw ho
  have E5 := rightmost_places_ev hw ho
  have E6 := ways_in_ev hw ho
  have E7 := law_ways_ev (w := w) (o := o) (by omega)
  have E8 := rest_behind_ev hw ho
  have E9 := rest_before_ev hw ho
  have S1 : t__law_same (eO (eR D.int) ((lmS 0 w o).map toI)) (eO (eR D.int) ((lmS 0 w o).map toI)) = ret true := same_row fun x hx => by
    have := lm_len hx; omega
  have S2 : t__law_same (eO (eR D.int) ((rmS w o).map toI)) (eO (eR D.int) ((rmS w o).map toI)) = ret true := same_row fun x hx => by
    have := (rm_most hx).1.len; omega
  have S3 := same_two (a := behind w o) (b := before w o)
  have key : t__law_told_right () w o rows = fin none (tailT w o rows) := by
    cases q : lmS 0 w o with
    | none =>
      have q2 : rmS w o = none := by
        have := rm_some (w := w) (o := o)
        rw [q] at this
        cases q2 : rmS w o with
        | none => rfl
        | some r => rw [q2] at this; cases this
      have b1 : behind w o = none := by unfold behind; rw [q]; rfl
      have b2 : before w o = none := by unfold before; rw [q2]; rfl
      rw [b1] at E8 S3
      rw [b2] at E9 S3
      rw [q] at E1 E3 E4 S1
      rw [q2] at E2 E5 S2
      have t0 : dC1 tupleD (eL eN [(), ()]) = some (.tup [eO D.str none, eO D.str none]) := rfl
      simp only [Option.map_none, eO_none] at S1 S2 S3 t0 E1 E2 E4 E5
      by_cases z : (w == []) = true
      · simp [t__law_told_right, E1, E2, E3, E4, E5, E6, E7, E8, E9, S1, S2, S3, same_bl, same_int, z, t0, tailT]
      · simp [t__law_told_right, E1, E2, E3, E4, E5, E6, E7, E8, E9, S1, S2, S3, same_bl, same_int, z, t0, tailT]
    | some r =>
      cases q2 : rmS w o with
      | none =>
        have := rm_some (w := w) (o := o)
        rw [q, q2] at this
        cases this
      | some r2 =>
      have hl1 := lm_len q
      have hl2 := (rm_most q2).1.len
      rw [q] at E1 E3 E4 S1
      rw [q2] at E2 E5 S2
      cases w with
      | nil =>
        have r0 : r = [] := List.length_eq_zero_iff.mp hl1
        have r20 : r2 = [] := List.length_eq_zero_iff.mp hl2
        subst r0; subst r20
        have b1 : behind [] o = some o := by unfold behind; rw [q]; rfl
        have b2 : before [] o = some o := by unfold before; rw [q2]; rfl
        rw [b1] at E8 S3
        rw [b2] at E9 S3
        have t0 : dC1 tupleD (eL D.str [o, o]) = some (.tup [eO D.str (some o), eO D.str (some o)]) := rfl
        simp only [List.map_nil, Option.map_some] at *
        simp only [t__law_told_right, prd_ret, mp_ret, bnd_ret, E1, E2, E3, E4, E5, E6, E7, E8, E9, S1, S2, S3, same_bl, same_int, t0, bin_ret, un_ret, lft_some, oIsNN_ev, oIsN_ev, Option.isSome_some, Option.isNone_some, notT_ret, orT_ret, andT_ret, oNe_ev, ifT_ret]
        simp only [eO_some] at S3 t0
        simp [t0, S3, tailT]
      | cons c w' =>
        rcases List.eq_nil_or_concat r with rfl | ⟨r', j, rfl⟩
        · simp at hl1
        · cases r2 with
          | nil => simp at hl2
          | cons j2 r2 =>
            rw [List.concat_eq_append] at *
            have b1 : behind (c :: w') o = some (cutL o (some ((j : Int) + 1)) none) := by unfold behind; rw [q]; simp
            have b2 : before (c :: w') o = some (cutL o none (some (j2 : Int))) := by unfold before; rw [q2]; rfl
            rw [b1] at E8 S3
            rw [b2] at E9 S3
            have a1 := atI_toI_last (r := r') (j := j)
            have a2 : atI (toI (j2 :: r2)) 0 = some (j2 : Int) := atI_nat (k := 0)
            have t0 : dC1 tupleD (eL D.str [cutL o (some ((j : Int) + 1)) none, cutL o none (some (j2 : Int))]) = some (.tup [eO D.str (some (cutL o (some ((j : Int) + 1)) none)), eO D.str (some (cutL o none (some (j2 : Int))))]) := rfl
            have zw : ((c :: w') == ([] : Wd)) = false := rfl
            simp only [Option.map_some] at *
            simp only [t__law_told_right, prd_ret, mp_ret, bnd_ret, E1, E2, E3, E4, E5, E6, E7, E8, E9, S1, S2, S3, same_bl, same_int, t0, bin_ret, un_ret, lft_some, oIsNN_ev, oIsN_ev, Option.isSome_some, Option.isNone_some, notT_ret, orT_ret, andT_ret, oNe_ev, zw, oNeg_ev, a1, a2, oAdd_ev, sli_ret, oCut_ev, Bool.not_true, Bool.not_false, ifT_t, ifT_f, thn_nx, fin_rt]
            simp only [eO_some] at S3 t0
            simp [t0, S3, tailT]
  rw [key]
  exact tail_ok hw ho hr hl ok
theorem bnd_id {α : Type} {m : M α} : Mir.bnd m (fun a => ret a) = m := funext fun s => by
  unfold Mir.bnd ret
  cases m s <;> rfl
theorem Ok1.bnd {α β : Type} {m : M α} {k : α → M β} {s : DeckSt} {P : α → Prop} {Q : β → Prop} (h : Ok1 (m s) P) (kk : ∀ a s, s.Ok → P a → Ok1 (k a s) Q) : Ok1 (Mir.bnd m k s) Q := Ok1.bind h kk
theorem Ok1.not_ {β : Type} {m : M Bool} {u v : M β} {s : DeckSt} {Q : β → Prop} (h : Ok1 (m s) fun b => b = true) (kk : ∀ s, s.Ok → Ok1 (v s) Q) : Ok1 (ifT (notT m) u v s) Q := by
  obtain ⟨a, s1, e, ok1, rfl⟩ := h
  have := kk s1 ok1
  have e2 : ifT (notT m) u v s = v s1 := by
    unfold ifT notT mp Mir.bnd
    rw [e]; rfl
  rw [e2]
  exact this
theorem Ok1.thn_ {σ σ' β : Type} {m : M (Fl σ β)} {k : σ → M (Fl σ' β)} {s : DeckSt} {st : σ} {Q : Fl σ' β → Prop} (h : Ok1 (m s) fun x => x = .nx st) (kk : ∀ s, s.Ok → Ok1 (k st s) Q) : Ok1 (thn m k s) Q := by
  obtain ⟨a, s1, e, ok1, rfl⟩ := h
  have e2 : thn m k s = k st s1 := by
    unfold thn Mir.bnd
    rw [e]; rfl
  rw [e2]
  exact kk s1 ok1
theorem Ok1.for_ {α β : Type} {body : α → Unit → M (Fl Unit β)} : ∀ {l : List α} {s : DeckSt}, s.Ok → (∀ a ∈ l, ∀ s : DeckSt, s.Ok → Ok1 (body a () s) fun x => x = .nx ()) → Ok1 (forT body l () s) fun x => x = .nx ()
  | [], s, ok, _ => Ok1.mk ok rfl
  | a :: l, s, ok, h => by
    obtain ⟨x, s1, e, ok1, rfl⟩ := h a (.head _) s ok
    have e2 : forT body (a :: l) () s = forT body l () s1 := by
      rw [forT]
      unfold Mir.bnd
      rw [e]; rfl
    rw [e2]
    exact Ok1.for_ ok1 fun b hb => h b (.tail _ hb)
theorem Ok1.lc_ {α β : Type} {f : α → M β} {Q : β → Prop} : ∀ {l : List α} {s : DeckSt}, s.Ok → (∀ a ∈ l, ∀ s : DeckSt, s.Ok → Ok1 (f a s) Q) → Ok1 (lcT (fun _ => ret true) f l s) fun ys => ys.length = l.length ∧ ∀ y ∈ ys, Q y
  | [], s, ok, _ => Ok1.mk ok ⟨rfl, fun y h => by cases h⟩
  | a :: l, s, ok, h => by
    rw [lcT, bnd_ret, if_pos rfl]
    refine Ok1.bnd (h a (.head _) s ok) fun b s1 ok1 hb => ?_
    refine Ok1.bnd (Ok1.lc_ ok1 fun b hb => h b (.tail _ hb)) fun bs s2 ok2 ⟨h1, h2⟩ => ?_
    exact Ok1.mk ok2 ⟨by simp [h1], fun y hy => by
      rcases List.mem_cons.mp hy with rfl | hy
      · exact hb
      · exact h2 y hy⟩
/-! ### drawn words -/
def isL (c : Nat) : Prop := c = 97 ∨ c = 98 ∨ c = 99
theorem isL_ix {j : Int} (h0 : 0 ≤ j) (h1 : j < 3) : ∃ c, oIxW ([97, 98, 99] : Wd) j = some [c] ∧ isL c := by
  have : j = 0 ∨ j = 1 ∨ j = 2 := by omega
  rcases this with rfl | rfl | rfl
  · exact ⟨97, rfl, .inl rfl⟩
  · exact ⟨98, rfl, .inr (.inl rfl)⟩
  · exact ⟨99, rfl, .inr (.inr rfl)⟩
theorem joinE : ∀ {ys : List Wd}, (∀ y ∈ ys, ∃ c, y = [c] ∧ isL c) → (joinL [] ys).length = ys.length ∧ ∀ c ∈ joinL [] ys, isL c
  | [], _ => ⟨rfl, fun c h => by cases h⟩
  | [y], h => by
    obtain ⟨c, rfl, hc⟩ := h y (.head _)
    exact ⟨rfl, fun d hd => by
      have : d = c := by simpa [joinL] using hd
      rw [this]; exact hc⟩
  | y :: z :: r, h => by
    obtain ⟨c, rfl, hc⟩ := h y (.head _)
    obtain ⟨h1, h2⟩ := joinE (ys := z :: r) fun y hy => h y (.tail _ hy)
    rw [joinL_cons]
    refine ⟨by simp at h1 ⊢; omega, fun d hd => ?_⟩
    rw [List.append_nil, List.singleton_append] at hd
    rcases List.mem_cons.mp hd with rfl | hd
    · exact hc
    · exact h2 d hd
theorem okJ {ys : List Wd} (h : ∀ y ∈ ys, ∃ c, y = [c] ∧ isL c) (hl : ys.length ≤ 1000) : okJoin [] ys = true := by
  unfold okJoin
  have : (ys.map (·.length)).sum = ys.length := by
    clear hl
    induction ys with
    | nil => rfl
    | cons y ys ih =>
      obtain ⟨c, rfl, _⟩ := h y (.head _)
      rw [List.map_cons, List.sum_cons, ih fun y hy => h y (.tail _ hy)]
      simp; omega
  rw [this]
  exact decide_eq_true (by simp; omega)
theorem word_ok {a m : Int} (ha : 1 ≤ a ∧ a ≤ 3) (m0 : 0 ≤ m) (m1 : m ≤ 12) {s : DeckSt} (ok : s.Ok) : Ok1 (t__law_word () a m s) fun w => (w.length : Int) ≤ m ∧ ∀ c ∈ w, isL c := by
  have e : t__law_word () a m = bnd (t_pick () (m + 1)) fun k => bnd (lc (lft (oRng1 (k, ()))) (fun _ => ret true) fun _ => bnd (t_pick () a) fun j => lft (oIxW [97, 98, 99] j)) fun ys => lft (oJoin [] (ys, ())) := by
    simp only [t__law_word, un, prd, bin, mp, lc, bnd_bnd, bnd_ret, fin_bnd, fin_rt, oAdd_ev, lft_some, bnd_id]
  rw [e]
  refine Ok1.bnd (t_pick1 ok (by omega) (by omega)) fun k s1 ok1 ⟨k0, k1⟩ => ?_
  obtain ⟨n, rfl⟩ := Int.eq_ofNat_of_zero_le k0
  have r := rng1_nat (n := n) (by omega)
  rw [r, lft_some]
  have L := Ok1.lc_ (f := fun _ : Int => bnd (t_pick () a) fun j => lft (oIxW [97, 98, 99] j)) (Q := fun y => ∃ c, y = [c] ∧ isL c) (l := (List.range n).map fun (i : Nat) => (i : Int)) ok1 fun _ _ s ok => by
    refine Ok1.bnd (t_pick1 ok (by omega) (by omega)) fun j s2 ok2 ⟨j0, j1⟩ => ?_
    obtain ⟨c, e, hc⟩ := isL_ix j0 (show j < 3 by omega)
    rw [e, lft_some]
    exact Ok1.mk ok2 ⟨c, rfl, hc⟩
  have L2 : Ok1 (lc (ret ((List.range n).map fun (i : Nat) => (i : Int))) (fun _ => ret true) (fun _ : Int => bnd (t_pick () a) fun j => lft (oIxW [97, 98, 99] j)) s1) fun ys => ys.length = n ∧ ∀ y ∈ ys, ∃ c, y = [c] ∧ isL c := by
    unfold lc
    rw [bnd_ret, if_pos (by simp; omega)]
    refine nox_ok (L.imp fun ys ⟨h1, h2⟩ => ⟨by simpa using h1, h2⟩)
  refine Ok1.bnd L2 fun ys s2 ok2 ⟨h1, h2⟩ => ?_
  obtain ⟨j1, j2⟩ := joinE h2
  have : oJoin [] (ys, ()) = some (joinL [] ys) := by
    unfold oJoin
    rw [if_pos (okJ h2 (by omega))]
  rw [this, lft_some]
  exact Ok1.mk ok2 ⟨by omega, j2⟩
/-! ### what is refused -/
@[simp] theorem tryT_ret {σ β : Type} {sub : Str → Str → Option Bool} {v : Fl σ β} {hs : List (Str × M (Fl σ β))} : tryT sub (ret v) hs = ret v := rfl
@[simp] theorem tryT_exc {σ β : Type} {sub : Str → Str → Option Bool} {c : Str} {hs : List (Str × M (Fl σ β))} : tryT sub (exc c) hs = hndT sub c hs := rfl
theorem hnd_t {σ β : Type} {sub : Str → Str → Option Bool} {c x : Str} {v : Fl σ β} {r : List (Str × M (Fl σ β))} (h : sub c x = some true) : hndT sub c ((x, ret v) :: r) = ret v := by
  rw [hndT, h]; rfl
theorem hnd_f {σ β : Type} {sub : Str → Str → Option Bool} {c x : Str} {m : M (Fl σ β)} {r : List (Str × M (Fl σ β))} (h : sub c x = some false) : hndT sub c ((x, m) :: r) = hndT sub c r := by
  rw [hndT, h]
theorem sub_ww : subF "BadWord" "BadWord" = some true := by decide +kernel
theorem sub_ow : subF "BadOther" "BadWord" = some false := by decide +kernel
theorem sub_oo : subF "BadOther" "BadOther" = some true := by decide +kernel
def sevn (i : Int) : Prop := i = 0 ∨ i = 1 ∨ i = 2 ∨ i = 3 ∨ i = 4 ∨ i = 5 ∨ i = 6
theorem refused_word {i : Int} (hi : sevn i) {b o : D} (h : t_is_word b = ret false) : t__law_refused i b o = ret [119, 111, 114, 100] := by
  have n : ∀ o, t_need_words b o = exc "BadWord" := fun o => by simp [t_need_words, t_need_word, h]
  rcases hi with rfl | rfl | rfl | rfl | rfl | rfl | rfl <;>
    simp [t__law_refused, t_is_subword, t_leftmost_places, t_rightmost_places, t_rest_behind, t_rest_before, t_ways_in, t_is_embedding, n, hnd_t sub_ww]
theorem refused_other {i : Int} (hi : sevn i) {w : Wd} {b : D} (hw : isWd w) (h : t_is_word b = ret false) : t__law_refused i (.str w) b = ret [111, 116, 104, 101, 114] := by
  have n : t_need_words (.str w) b = exc "BadOther" := by simp [t_need_words, t_need_word, h, is_word_str, isWd_iff.mpr hw]
  rcases hi with rfl | rfl | rfl | rfl | rfl | rfl | rfl <;>
    simp [t__law_refused, t_is_subword, t_leftmost_places, t_rightmost_places, t_rest_behind, t_rest_before, t_ways_in, t_is_embedding, n, hnd_f sub_ow, hnd_t sub_oo]
theorem refused_none {i : Int} (hi : sevn i) {w o : Wd} (hw : isWd w) (ho : isWd o) : t__law_refused i (.str w) (.str o) = ret [110, 111, 110, 101] := by
  have t : Th .non := .inr (.inr (.inl rfl))
  rcases hi with rfl | rfl | rfl | rfl | rfl | rfl | rfl <;>
    simp [t__law_refused, is_subword_ev hw ho, leftmost_places_ev hw ho, rightmost_places_ev hw ho, rest_behind_ev hw ho, rest_before_ev hw ho, ways_in_ev hw ho, is_embedding_ev hw ho t]
def bads : List D := [.non, .int 5, .str [97, 98, 99, 100], .str (List.replicate 13 97), .str [65], .str [32], .tup [.str [97]], .lst [.str [97], .str [98]], .str [97, 32, 98], .bl true]
theorem bads_no : ∀ b ∈ bads, t_is_word b = ret false := fun b hb => by
  unfold bads at hb
  simp only [List.mem_cons, List.not_mem_nil, or_false] at hb
  rcases hb with rfl | rfl | rfl | rfl | rfl | rfl | rfl | rfl | rfl | rfl
  · simp [t_is_word, t_is_word_of]
  · simp [t_is_word, t_is_word_of]
  · rw [is_word_str]; rfl
  · rw [is_word_str]; rfl
  · rw [is_word_str]; rfl
  · rw [is_word_str]; rfl
  · simp [t_is_word, t_is_word_of]
  · simp [t_is_word, t_is_word_of]
  · rw [is_word_str]; rfl
  · simp [t_is_word, t_is_word_of]
theorem isWd_of {w : Wd} {m : Int} (h : (w.length : Int) ≤ m ∧ ∀ c ∈ w, isL c) (hm : m ≤ 12) : isWd w := ⟨by omega, h.2⟩
theorem isWd_a {n : Nat} (h : n ≤ 12) : isWd (List.replicate n 97) := ⟨by simpa using h, fun c hc => .inl (List.mem_replicate.mp hc).2⟩
theorem rep_a {k : Nat} (h : k ≤ 12) : oRep ([97] : Wd) (k : Int) = some (List.replicate k 97) := by
  unfold oRep many
  rw [if_pos (by simp [okT]; omega)]
  simp
theorem turn_last {w o : Wd} {bad : D} (hw : isWd w) (ho : isWd o) (hb : bad ∈ bads) (i : Int) (hi : sevn i) : b_law_2 w o bad i () = ret (.nx ()) := by
  have h := bads_no bad hb
  simp [b_law_2, refused_word hi h, refused_other hi hw h, refused_none hi hw ho]
theorem turn_ok (s : DeckSt) (ok : s.Ok) : Ok1 (t_turn s) fun x => x = .nx () := by
  unfold t_turn
  have e1 : (bin oAdd (ret (1 : Int)) (bnd (prd (ret ()) (prd (ret (3 : Int)) (ret ()))) fun p : Unit × Int × Unit => t_pick p.1 p.2.1)) = bnd (t_pick () 3) fun k => ret (1 + k) := rfl
  rw [e1, bnd_bnd]
  refine Ok1.bnd (t_pick1 ok (by omega) (by omega)) fun k s1 ok1 ⟨k0, k1⟩ => ?_
  simp only [bnd_ret, prd_ret]
  refine Ok1.bnd (word_ok (by omega) (by omega) (by omega) ok1) fun w s2 ok2 w1 => ?_
  refine Ok1.bnd (word_ok (by omega) (by omega) (by omega) ok2) fun o s3 ok3 o1 => ?_
  have hw := isWd_of w1 (by omega)
  have ho := isWd_of o1 (by omega)
  have E0 := law_all_ev (w := w) (o := o) (by omega) (by omega)
  have E1 := law_left_ev (w := w) (o := o) (by omega) (by omega)
  have E7 := law_ways_ev (w := w) (o := o) (by omega)
  have E4 := leftmost_places_ev hw ho
  have E5 := rightmost_places_ev hw ho
  have c1 : ((allS o w).map toI == []) = ((lmS 0 w o).map toI).isNone := by
    cases q : lmS 0 w o with
    | none => rw [rows_nil.mpr q]; rfl
    | some r =>
      have : allS o w ≠ [] := fun z => by
        have := rows_nil.mp z
        rw [q] at this; cases this
      cases h : allS o w with
      | nil => exact absurd h this
      | cons x xs => rfl
  have c2 : ((((allS o w).map toI).length : Int) == (emb w o : Int)) = true := by
    rw [List.length_map, all_len]; simp
  have c3 : (andT (ret !((lmS 0 w o).map toI).isNone) (orT (bin oNe (mp some (lft (oMin1 (eR D.int) ((allS o w).map toI)))) (ret ((lmS 0 w o).map toI))) (bin oNe (mp some (lft (oMax1 (eR D.int) ((allS o w).map toI)))) (ret ((rmS w o).map toI))))) = ret false := by
    cases q : lmS 0 w o with
    | none => simp
    | some r =>
      have q2 : ∃ r2, rmS w o = some r2 := by
        have := rm_some (w := w) (o := o)
        rw [q] at this
        exact Option.isSome_iff_exists.mp this
      obtain ⟨r2, q2⟩ := q2
      simp only [q2, mp_ret, bin_ret, oNe_ev, lft_some, un_ret, rows_min q, rows_max q2, Option.map_some]
      simp
  have R1 : ∀ r ∈ (allS o w).map toI, r.length ≤ 12 := fun r hr => by
    obtain ⟨x, hx, rfl⟩ := List.mem_map.mp hr
    have := ((all_mem w x).mp hx).len
    rw [List.length_map]
    have := hw.1
    omega
  have R2 : ((allS o w).map toI).length ≤ 60000 := by
    rw [List.length_map, all_len]
    have := emb_le o w
    have h2 : 2 ^ o.length ≤ 2 ^ 8 := Nat.pow_le_pow_right (by decide) (by omega)
    have : (2 : Nat) ^ 8 = 256 := rfl
    omega
  simp only [E0, bnd_ret, E1, E7, E4, E5, prd_ret, mp_ret, bin_ret, oEq_ev, oNe_ev, lft_some, oIsN_ev, c1, un_ret, oLen_ev, c2, beq_self_eq_true, Bool.not_true, orT_ret, ifT_f, Bool.or_self, c3]
  refine Ok1.not_ (told_right_ok hw ho R1 R2 ok3) fun s4 ok4 => ?_
  refine Ok1.bnd (word_ok (by omega) (by omega) (by omega) ok4) fun l s5 ok5 l1 => ?_
  refine Ok1.bnd (word_ok (by omega) (by omega) (by omega) ok5) fun m s6 ok6 m1 => ?_
  have hl := isWd_of l1 (by omega)
  have hm := isWd_of m1 (by omega)
  have ix : oIxW ([97, 98, 99] : Wd) 0 = some [97] := rfl
  have ra := rep_a (k := l.length) hl.1
  have rb : oRep ([97] : Wd) (12 : Int) = some (List.replicate 12 97) := rep_a (k := 12) (by omega)
  simp only [ix, lft_some, bin_ret, ra, rb, prd_ret, mp_ret, un_ret, oLen_ev, oId_ev, bnd_ret]
  refine Ok1.thn_ (Ok1.for_ ok6 fun p hp s ok => ?_) fun s7 ok7 => ?_
  · have h2 : isWd p.1 ∧ isWd p.2 := by
      simp only [List.mem_cons, List.not_mem_nil, or_false] at hp
      rcases hp with rfl | rfl | rfl | rfl
      · exact ⟨hl, hm⟩
      · exact ⟨isWd_a hl.1, isWd_a (by omega)⟩
      · exact ⟨hm, hm⟩
      · exact ⟨⟨by simp, fun c hc => by cases hc⟩, hm⟩
    unfold b_law_1
    simp only [prd_ret, bnd_ret, mp_ret]
    exact Ok1.not_ (told_right_ok h2.1 h2.2 (fun r hr => by cases hr) (by simp) ok) fun s ok => Ok1.mk ok rfl
  · have r13 : oRep ([97] : Wd) (13 : Int) = some (List.replicate 13 97) := rfl
    have e2 : ∀ L : List D, (bin atI (ret L) (t_pick () 10)) = bnd (t_pick () 10) fun k => lft (atI L k) := fun L => rfl
    simp only [r13, lft_some, mp_ret, prd_ret, e2, bnd_bnd]
    refine Ok1.bnd (t_pick1 ok7 (by omega) (by omega)) fun k s8 ok8 ⟨k0, k1⟩ => ?_
    obtain ⟨j, rfl⟩ := Int.eq_ofNat_of_zero_le k0
    have hj : j < bads.length := by show j < 10; omega
    have ba : atI bads (j : Int) = some bads[j] := by rw [atI_nat, List.getElem?_eq_getElem hj]
    have hb := bads_no _ (List.getElem_mem hj)
    have ba2 : atI [eN (), D.int 5, D.str [97, 98, 99, 100], D.str (List.replicate 13 97), D.str [65], D.str [32], Mir.e1 D.str [97], eL D.str [[97], [98]], D.str [97, 32, 98], D.bl true] (j : Int) = some bads[j] := ba
    generalize hB : bads[j] = B at *
    have hBm : B ∈ bads := hB ▸ List.getElem_mem hj
    have g : ∀ d ∈ [D.str w, D.str o, D.str l, D.str m, D.str [97, 98, 99, 97, 98, 99, 97, 98, 99, 97, 98, 99]], t_is_word d = ret true := fun d hd => by
      simp only [List.mem_cons, List.not_mem_nil, or_false] at hd
      rcases hd with rfl | rfl | rfl | rfl | rfl
      · rw [is_word_str, isWd_iff.mpr hw]
      · rw [is_word_str, isWd_iff.mpr ho]
      · rw [is_word_str, isWd_iff.mpr hl]
      · rw [is_word_str, isWd_iff.mpr hm]
      · rw [is_word_str]; rfl
    have c := lc_map (l := [D.str w, D.str o, D.str l, D.str m, D.str [97, 98, 99, 97, 98, 99, 97, 98, 99, 97, 98, 99]]) (f := fun a : D => bin oEq (t_is_word a) (ret true)) (fun _ => true) (Nat.le_of_ble_eq_true rfl) fun d hd => by
      rw [g d hd]; rfl
    have r7 : oRng1 ((7 : Int), ()) = some [0, 1, 2, 3, 4, 5, 6] := rfl
    have fl := forT_all (body := b_law_2 w o B) (l := [0, 1, 2, 3, 4, 5, 6]) fun i hi => turn_last hw ho hBm i (by
      simp only [List.mem_cons, List.not_mem_nil, or_false] at hi
      exact hi)
    have al : oAll (List.map (fun _ => true) [D.str w, D.str o, D.str l, D.str m, D.str [97, 98, 99, 97, 98, 99, 97, 98, 99, 97, 98, 99]]) = some true := rfl
    simp only [ba2, lft_some, bnd_ret, un_ret, oId_ev, c, r7, fl, thn_nx, hb, bin_ret, oNe_ev, al]
    exact Ok1.mk ok8 rfl
theorem law_pure (st : DeckSt) (n : Nat) (ok : st.Ok) (hn : n ≤ 63) : ∃ s', d_law (rho0 N_law.length n) st = .rt (.bl true) s' :=
  law_pure_of (fun s ok => by
    obtain ⟨a, s', e, ok', rfl⟩ := turn_ok s ok
    exact ⟨s', e, ok'⟩) (rngs_ok (a := 2) (b := 4) (fun n st => rfl) (by decide) (by decide)) st n ok hn
/-! printed by tgen.py -/
def top (i : Nat) : Stmt := PySem.Challenge.pw_roadsworn_k01_words_and_embeddings.main.body.getD i (.Pass ⟨0, 0, 0, 0⟩)
abbrev s_is_word_of : Stmt := top 7
abbrev s_is_word : Stmt := top 8
abbrev s_need_word : Stmt := top 9
abbrev s_need_words : Stmt := top 10
abbrev s_leftmost_in : Stmt := top 11
abbrev s_rightmost_in : Stmt := top 12
abbrev s_lies_in : Stmt := top 13
abbrev s_is_subword : Stmt := top 14
abbrev s_leftmost_places : Stmt := top 15
abbrev s_rightmost_places : Stmt := top 16
abbrev s_is_embedding : Stmt := top 17
abbrev s_rest_behind : Stmt := top 18
abbrev s_rest_before : Stmt := top 19
abbrev s_ways_in : Stmt := top 20
abbrev s__law_deck : Stmt := top 22
abbrev s__law_pick : Stmt := top 23
abbrev s__law_same : Stmt := top 24
abbrev s__law_word : Stmt := top 25
abbrev s__law_is_int : Stmt := top 27
abbrev s__law_all : Stmt := top 28
abbrev s__law_left : Stmt := top 29
abbrev s__law_right : Stmt := top 30
abbrev s__law_ways : Stmt := top 31
abbrev s__law_judge : Stmt := top 32
abbrev s__law_near : Stmt := top 33
abbrev s__law_told_right : Stmt := top 34
abbrev s__law_refused : Stmt := top 35
abbrev s_law : Stmt := top 36
structure Txt (K : PySem.W.Frag) (mg : Str → Option Value) : Prop where
  n_all : mg "all" = none
  n_bool : mg "bool" = none
  n_int : mg "int" = none
  n_isinstance : mg "isinstance" = none
  n_len : mg "len" = none
  n_list : mg "list" = none
  n_max : mg "max" = none
  n_min : mg "min" = none
  n_range : mg "range" = none
  n_reversed : mg "reversed" = none
  n_str : mg "str" = none
  n_tuple : mg "tuple" = none
  n_zip : mg "zip" = none
  c_ALPHABET : ∃ t, mg "ALPHABET" = some (.str "abc" t)
  c_MOST_LETTERS : ∃ t, mg "MOST_LETTERS" = some (.int 12 t)
  e_BadOther : ∃ q, ErrOk K mg "BadOther" q
  e_BadWord : ∃ q, ErrOk K mg "BadWord" q
  sub : SubOk K mg subF
section
variable {P : Program} {w : World} {K : PySem.W.Frag} {mg : Str → Option Value} {base : Heap}
theorem sc__law_word : FnScope N__law_word ["deck", "letters", "most"] (defScope s__law_word) := ⟨rfl, rfl, rfl, by decide +kernel, rfl, by decide +kernel, by decide +kernel⟩
theorem ok__law_word (T : Txt K mg) (h__law_pick : Fn P w K mg base (PCk K) "_law_pick" 1 2 m__law_pick) {f : Addr} {fd : FuncData} (F : Fun K "_law_word" "_law_word" s__law_word f fd) : FnOk P w K mg base (L2.CX P w) 2 f fd ["deck", "letters", "most"] (spOf mg (PCk K) 3 m__law_word) := by
  exact fnok_mk0 (N := N__law_word) F sc__law_word fun cdv A outer s H E C pc hr => by exact (pbd_one (psd_ret (pd_join (pd_str [] (by rfl) ⟨by decide, by decide⟩) (pad_cons (pd_f (pf_lc (own := [("k", 3)]) (sc := []) (sa := []) rfl sc__law_word.nd (pid_rng1 T.n_range (pad_cons (pd_call h__law_pick pc hr (by decide) (takes_of rfl rfl rfl rfl) (pad_cons (pd_var 0) (pad_cons (pd_add (pd_var 2) pd_int) pad_nil)) (dLen_cons (dLen_cons dLen_nil))) pad_nil)) (blkOk_by (own := [("k", 3)]) (N := N__law_word) (sc := defScope s__law_word) (by decide +kernel)) (fun _ _ _ _ _ => (pgd_name 3 sc__law_word.nd)) (no_gN 3) (fun _ _ _ _ _ => ptsd_nil) (fun _ _ _ _ _ => (pd_ix (pd_str [97, 98, 99] (by rfl) ⟨by decide, by decide⟩) (pd_call h__law_pick pc hr (by decide) takes0 (pad_cons (pd_var 0) (pad_cons (pd_var 1) pad_nil)) (dLen_cons (dLen_cons dLen_nil))))))) pad_nil))))
theorem sc__law_all : FnScope N__law_all ["word", "other"] (defScope s__law_all) := ⟨rfl, rfl, rfl, by decide +kernel, rfl, by decide +kernel, by decide +kernel⟩
theorem ok__law_all (T : Txt K mg)  {f : Addr} {fd : FuncData} (F : Fun K "_law_all" "_law_all" s__law_all f fd) : FnOk P w K mg base (L2.CX P w) 1 f fd ["word", "other"] (spOf mg (PCk K) 2 m__law_all) := by
  exact fnok_mk0 (N := N__law_all) F sc__law_all fun cdv A outer s H E C pc hr => by exact (pbd_cons (psd_asg 2 sc__law_all.nd (pv_v (pd_f (pf_lst (pad_cons (pd_tup pad_nil) pad_nil)))))
  (pbd_forget [1, 2, 0] (pbd_cons (psd_for (passes_of rfl) rfl (pid_any (pd_var 0)) (pgd_name 3 sc__law_all.nd) (pbd_cons (psd_asg 4 sc__law_all.nd (pv_o (pf_lst pad_nil)))
  (pbd_forget [4, 1, 2, 3, 0] (pbd_cons (psd_for (passes_of rfl) rfl (pid_any (pd_var 2)) (pgd_name 5 sc__law_all.nd) (pbd_cons (psd_asg 6 sc__law_all.nd (pv_v (pd_if (ptd_c (k_ne hr.units) (pd_var 5) (pd_tup pad_nil)) (pd_add (pd_ix (pd_var 5) (pd_neg pd_int)) pd_int) pd_int)))
  (pbd_cons (psd_meth 4 PySem.F.slot_list_extend PySem.F.type_list_extend mt_extend md_ext (pad_cons (pd_f (pf_lc (own := [("place", 7)]) (sc := []) (sa := []) rfl sc__law_all.nd (pid_rng2 T.n_range (pad_cons (pd_var 6) (pad_cons (pd_len T.n_len (pad_cons (pd_var 1) pad_nil)) pad_nil))) (blkOk_by (own := [("place", 7)]) (N := N__law_all) (sc := defScope s__law_all) (by decide +kernel)) (fun _ _ _ _ _ => (pgd_name 7 sc__law_all.nd)) (no_gN 7) (fun _ _ _ _ _ => (ptsd_one (ptd_c (k_eq hr.units) (pd_ix (pd_var 1) (pd_var 7)) (pd_var 3)))) (fun _ _ _ _ _ => (pd_add (pd_var 5) (pd_tup (pad_cons (pd_var 7) pad_nil)))))) pad_nil))
  (pbd_forget [4, 1, 2, 3, 0] pbd_nil))))
  (pbd_cons (psd_asg 2 sc__law_all.nd (pv_v (pd_own 4)))
  (pbd_forget [1, 2, 0] pbd_nil))))))
  (pbd_one (psd_ret (pd_var 2))))))
theorem sc__law_left : FnScope N__law_left ["word", "other"] (defScope s__law_left) := ⟨rfl, rfl, rfl, by decide +kernel, rfl, by decide +kernel, by decide +kernel⟩
theorem ok__law_left (T : Txt K mg)  {f : Addr} {fd : FuncData} (F : Fun K "_law_left" "_law_left" s__law_left f fd) : FnOk P w K mg base (L2.CX P w) 1 f fd ["word", "other"] (spOf mg (PCk K) 2 m__law_left) := by
  exact fnok_mk0 (N := N__law_left) F sc__law_left fun cdv A outer s H E C pc hr => by exact (pbd_cons (psd_par 2 3 rfl sc__law_left.nd (pv_o (pf_lst pad_nil)) (pv_v pd_int))
  (pbd_forget [2, 1, 3, 0] (pbd_cons (psd_for (passes_of rfl) rfl (pid_any (pd_var 0)) (pgd_name 4 sc__law_left.nd) (pbd_cons (psd_setLc 5 (hv := (fun h => cte_f (ctv_v h))) (own := [("place", 6)]) (sc := []) (sa := []) rfl sc__law_left.nd (pid_rng2 T.n_range (pad_cons (pd_var 3) (pad_cons (pd_len T.n_len (pad_cons (pd_var 1) pad_nil)) pad_nil))) (blkOk_by (own := [("place", 6)]) (N := N__law_left) (sc := defScope s__law_left) (by decide +kernel)) (fun _ _ _ _ _ => (pgd_name 6 sc__law_left.nd)) (no_gN 6) (fun _ _ _ _ _ => (ptsd_one (ptd_c (k_eq hr.units) (pd_ix (pd_var 1) (pd_var 6)) (pd_var 4)))) (fun _ _ _ _ _ => (pd_var 6)))
  (pbd_cons (psd_if (ptd_c (k_eq hr.units) (pd_var 5) (pd_f (pf_lst pad_nil))) (pbd_one (psd_ret pd_non)) pbd_nil)
  (pbd_cons (psd_meth 2 PySem.F.slot_list_append PySem.F.type_list_append mt_append md_app (pad_cons (pd_ix (pd_var 5) pd_int) pad_nil))
  (pbd_cons (psd_asg 3 sc__law_left.nd (pv_v (pd_add (pd_ix (pd_var 5) pd_int) pd_int)))
  (pbd_forget [2, 1, 3, 0] pbd_nil))))))
  (pbd_one (psd_ret (pd_tuple T.n_tuple (pad_cons (pd_own 2) pad_nil)))))))
theorem sc__law_ways : FnScope N__law_ways ["word", "other"] (defScope s__law_ways) := ⟨rfl, rfl, rfl, by decide +kernel, rfl, by decide +kernel, by decide +kernel⟩
theorem ok__law_ways (T : Txt K mg)  {f : Addr} {fd : FuncData} (F : Fun K "_law_ways" "_law_ways" s__law_ways f fd) : FnOk P w K mg base (L2.CX P w) 1 f fd ["word", "other"] (spOf mg (PCk K) 2 m__law_ways) := by
  exact fnok_mk0 (N := N__law_ways) F sc__law_ways fun cdv A outer s H E C pc hr => by exact (pbd_cons (psd_asg 2 sc__law_ways.nd (pv_v (pd_rep (pd_f (pf_lst (pad_cons pd_int pad_nil))) (pd_add (pd_len T.n_len (pad_cons (pd_var 1) pad_nil)) pd_int))))
  (pbd_forget [2, 1, 0] (pbd_cons (psd_for (passes_of rfl) rfl (pid_any (pd_var 0)) (pgd_name 3 sc__law_ways.nd) (pbd_cons (psd_par 4 5 rfl sc__law_ways.nd (pv_o (pf_lst (pad_cons pd_int pad_nil))) (pv_v pd_int))
  (pbd_forget [2, 4, 1, 3, 5, 0] (pbd_cons (psd_for (passes_of rfl) rfl (pid_rng1 T.n_range (pad_cons (pd_len T.n_len (pad_cons (pd_var 1) pad_nil)) pad_nil)) (pgd_name 6 sc__law_ways.nd) (pbd_cons (psd_asg 5 sc__law_ways.nd (pv_v (pd_add (pd_var 5) (pd_if (ptd_c (k_eq hr.units) (pd_ix (pd_var 1) (pd_var 6)) (pd_var 3)) (pd_ix (pd_var 2) (pd_var 6)) pd_int))))
  (pbd_cons (psd_meth 4 PySem.F.slot_list_append PySem.F.type_list_append mt_append md_app (pad_cons (pd_var 5) pad_nil))
  (pbd_forget [2, 4, 1, 3, 5, 0] pbd_nil))))
  (pbd_cons (psd_asg 2 sc__law_ways.nd (pv_v (pd_own 4)))
  (pbd_forget [2, 1, 0] pbd_nil))))))
  (pbd_one (psd_ret (pd_ix (pd_var 2) (pd_neg pd_int)))))))
theorem sc_is_word_of : FnScope N_is_word_of ["letters", "thing", "most"] (defScope s_is_word_of) := ⟨rfl, rfl, rfl, by decide +kernel, rfl, by decide +kernel, by decide +kernel⟩
theorem ok_is_word_of (T : Txt K mg)  {f : Addr} {fd : FuncData} (F : Fun K "is_word_of" "is_word_of" s_is_word_of f fd) : FnOk P w K mg base (L2.CX P w) 1 f fd ["letters", "thing", "most"] (spOf mg (PCk K) 3 m_is_word_of) := by
  exact fnok_mk0 (N := N_is_word_of) F sc_is_word_of fun cdv A outer s H E C pc hr => by exact (pbd_cons (psd_if (ptd_w (pwd_or (ptd_not (ptd_tr (pd_isi "str" T.n_isinstance T.n_str (pd_var 1)))) (pwd_or1 (ptd_c k_gt (pd_len T.n_len (pad_cons (pd_var 1) pad_nil)) (pd_var 2))))) (pbd_one (psd_ret pd_bl)) pbd_nil)
  (pbd_one (psd_ret (pd_all rfl T.n_all (pad_cons (pd_f (pf_lc (own := [("letter", 3)]) (sc := []) (sa := []) rfl sc_is_word_of.nd (pid_any (pd_var 1)) (blkOk_by (own := [("letter", 3)]) (N := N_is_word_of) (sc := defScope s_is_word_of) (by decide +kernel)) (fun _ _ _ _ _ => (pgd_name 3 sc_is_word_of.nd)) (no_gN 3) (fun _ _ _ _ _ => ptsd_nil) (fun _ _ _ _ _ => (pd_c k_in (pd_var 3) (pd_sl (pd_gstr T.c_ALPHABET (by rfl) ⟨by decide, by decide⟩) part_none (part_some (pd_var 0))) (by rfl))))) pad_nil)))))
theorem sc_is_word : FnScope N_is_word ["thing"] (defScope s_is_word) := ⟨rfl, rfl, rfl, by decide +kernel, rfl, by decide +kernel, by decide +kernel⟩
theorem ok_is_word (T : Txt K mg) (h_is_word_of : Fn P w K mg base (PCk K) "is_word_of" 1 3 m_is_word_of) {f : Addr} {fd : FuncData} (F : Fun K "is_word" "is_word" s_is_word f fd) : FnOk P w K mg base (L2.CX P w) 2 f fd ["thing"] (spOf mg (PCk K) 1 m_is_word) := by
  exact fnok_mk0 (N := N_is_word) F sc_is_word fun cdv A outer s H E C pc hr => by exact (pbd_one (psd_ret (pd_call h_is_word_of pc hr (by decide) (takes_of rfl rfl rfl rfl) (pad_cons (pd_len T.n_len (pad_cons (pd_gstr T.c_ALPHABET (by rfl) ⟨by decide, by decide⟩) pad_nil)) (pad_cons (pd_var 0) (pad_cons (pd_gint T.c_MOST_LETTERS) pad_nil))) (dLen_cons (dLen_cons (dLen_cons dLen_nil))))))
theorem sc_need_word : FnScope N_need_word ["word"] (defScope s_need_word) := ⟨rfl, rfl, rfl, by decide +kernel, rfl, by decide +kernel, by decide +kernel⟩
theorem ok_need_word (T : Txt K mg) (h_is_word : Fn P w K mg base (PCk K) "is_word" 2 1 m_is_word) {f : Addr} {fd : FuncData} (F : Fun K "need_word" "need_word" s_need_word f fd) : FnOk P w K mg base (L2.CX P w) 3 f fd ["word"] (spOf mg (PCk K) 1 m_need_word) := by
  obtain ⟨q_BadWord, e_BadWord⟩ := T.e_BadWord
  exact fnok_mk0 (N := N_need_word) F sc_need_word fun cdv A outer s H E C pc hr => by exact (pbd_cons (psd_if (ptd_not (ptd_tr (pd_call h_is_word pc hr (by decide) (takes_of rfl rfl rfl rfl) (pad_cons (pd_var 0) pad_nil) (dLen_cons dLen_nil)))) (pbd_one (psd_raise e_BadWord rfl (takes_of rfl rfl rfl rfl))) pbd_nil)
  (pbd_forget [] pbd_nil))
theorem sc_need_words : FnScope N_need_words ["word", "other"] (defScope s_need_words) := ⟨rfl, rfl, rfl, by decide +kernel, rfl, by decide +kernel, by decide +kernel⟩
theorem ok_need_words (T : Txt K mg) (h_need_word : Fn P w K mg base (PCk K) "need_word" 3 1 m_need_word) (h_is_word : Fn P w K mg base (PCk K) "is_word" 2 1 m_is_word) {f : Addr} {fd : FuncData} (F : Fun K "need_words" "need_words" s_need_words f fd) : FnOk P w K mg base (L2.CX P w) 4 f fd ["word", "other"] (spOf mg (PCk K) 2 m_need_words) := by
  obtain ⟨q_BadOther, e_BadOther⟩ := T.e_BadOther
  exact fnok_mk0 (N := N_need_words) F sc_need_words fun cdv A outer s H E C pc hr => by exact (pbd_cons (psd_drop (pd_call h_need_word pc hr (by decide) (takes_of rfl rfl rfl rfl) (pad_cons (pd_var 0) pad_nil) (dLen_cons dLen_nil)))
  (pbd_cons (psd_if (ptd_not (ptd_tr (pd_call h_is_word pc hr (by decide) (takes_of rfl rfl rfl rfl) (pad_cons (pd_var 1) pad_nil) (dLen_cons dLen_nil)))) (pbd_one (psd_raise e_BadOther rfl (takes_of rfl rfl rfl rfl))) pbd_nil)
  (pbd_forget [] pbd_nil)))
theorem sc_leftmost_in : FnScope N_leftmost_in ["word", "other"] (defScope s_leftmost_in) := ⟨rfl, rfl, rfl, by decide +kernel, rfl, by decide +kernel, by decide +kernel⟩
theorem ok_leftmost_in (T : Txt K mg)  {f : Addr} {fd : FuncData} (F : Fun K "leftmost_in" "leftmost_in" s_leftmost_in f fd) : FnOk P w K mg base (L2.CX P w) 1 f fd ["word", "other"] (spOf mg (PCk K) 2 m_leftmost_in) := by
  exact fnok_mk0 (N := N_leftmost_in) F sc_leftmost_in fun cdv A outer s H E C pc hr => by exact (pbd_cons (psd_par 2 3 rfl sc_leftmost_in.nd (pv_o (pf_lst pad_nil)) (pv_v pd_int))
  (pbd_forget [2, 1, 3, 0] (pbd_cons (psd_for (passes_of rfl) rfl (pid_any (pd_var 0)) (pgd_name 4 sc_leftmost_in.nd) (pbd_cons (psd_asg 5 sc_leftmost_in.nd (pv_v (pd_find2 (pd_var 1) (pad_cons (pd_var 4) (pad_cons (pd_var 3) pad_nil)))))
  (pbd_cons (psd_if (ptd_c (k_ltA hr.units) (pd_var 5) pd_int) (pbd_one (psd_ret pd_non)) pbd_nil)
  (pbd_cons (psd_meth 2 PySem.F.slot_list_append PySem.F.type_list_append mt_append md_app (pad_cons (pd_var 5) pad_nil))
  (pbd_cons (psd_asg 3 sc_leftmost_in.nd (pv_v (pd_add (pd_var 5) pd_int)))
  (pbd_forget [2, 1, 3, 0] pbd_nil))))))
  (pbd_one (psd_ret (pd_own 2))))))
theorem sc_leftmost_places : FnScope N_leftmost_places ["word", "other"] (defScope s_leftmost_places) := ⟨rfl, rfl, rfl, by decide +kernel, rfl, by decide +kernel, by decide +kernel⟩
theorem ok_leftmost_places (T : Txt K mg) (h_need_words : Fn P w K mg base (PCk K) "need_words" 4 2 m_need_words) (h_leftmost_in : Fn P w K mg base (PCk K) "leftmost_in" 1 2 m_leftmost_in) {f : Addr} {fd : FuncData} (F : Fun K "leftmost_places" "leftmost_places" s_leftmost_places f fd) : FnOk P w K mg base (L2.CX P w) 5 f fd ["word", "other"] (spOf mg (PCk K) 2 m_leftmost_places) := by
  exact fnok_mk0 (N := N_leftmost_places) F sc_leftmost_places fun cdv A outer s H E C pc hr => by exact (pbd_cons (psd_drop (pd_call h_need_words pc hr (by decide) (takes_of rfl rfl rfl rfl) (pad_cons (pd_var 0) (pad_cons (pd_var 1) pad_nil)) (dLen_cons (dLen_cons dLen_nil))))
  (pbd_cons (psd_asg 2 sc_leftmost_places.nd (pv_v (pd_call h_leftmost_in pc hr (by decide) (takes_of rfl rfl rfl rfl) (pad_cons (pd_var 0) (pad_cons (pd_var 1) pad_nil)) (dLen_cons (dLen_cons dLen_nil)))))
  (pbd_one (psd_ret (pd_if (ptd_c k_is (pd_var 2) pd_non) pd_non (pd_tuple T.n_tuple (pad_cons (pd_var 2) pad_nil)))))))
theorem sc_rightmost_in : FnScope N_rightmost_in ["word", "other"] (defScope s_rightmost_in) := ⟨rfl, rfl, rfl, by decide +kernel, rfl, by decide +kernel, by decide +kernel⟩
theorem ok_rightmost_in (T : Txt K mg) (h_leftmost_in : Fn P w K mg base (PCk K) "leftmost_in" 1 2 m_leftmost_in) {f : Addr} {fd : FuncData} (F : Fun K "rightmost_in" "rightmost_in" s_rightmost_in f fd) : FnOk P w K mg base (L2.CX P w) 2 f fd ["word", "other"] (spOf mg (PCk K) 2 m_rightmost_in) := by
  exact fnok_mk0 (N := N_rightmost_in) F sc_rightmost_in fun cdv A outer s H E C pc hr => by exact (pbd_cons (psd_asg 2 sc_rightmost_in.nd (pv_v (pd_call h_leftmost_in pc hr (by decide) (takes_of rfl rfl rfl rfl) (pad_cons (pd_rev (pd_var 0)) (pad_cons (pd_rev (pd_var 1)) pad_nil)) (dLen_cons (dLen_cons dLen_nil)))))
  (pbd_cons (psd_if (ptd_c k_is (pd_var 2) pd_non) (pbd_one (psd_ret pd_non)) pbd_nil)
  (pbd_one (psd_ret (pd_f (pf_lc (own := [("place", 3)]) (sc := []) (sa := []) rfl sc_rightmost_in.nd (pid_rev T.n_reversed (pd_var 2)) (blkOk_by (own := [("place", 3)]) (N := N_rightmost_in) (sc := defScope s_rightmost_in) (by decide +kernel)) (fun _ _ _ _ _ => (pgd_name 3 sc_rightmost_in.nd)) (no_gN 3) (fun _ _ _ _ _ => ptsd_nil) (fun _ _ _ _ _ => (pd_sub (pd_sub (pd_len T.n_len (pad_cons (pd_var 1) pad_nil)) pd_int) (pd_var 3)))))))))
theorem sc_rightmost_places : FnScope N_rightmost_places ["word", "other"] (defScope s_rightmost_places) := ⟨rfl, rfl, rfl, by decide +kernel, rfl, by decide +kernel, by decide +kernel⟩
theorem ok_rightmost_places (T : Txt K mg) (h_need_words : Fn P w K mg base (PCk K) "need_words" 4 2 m_need_words) (h_rightmost_in : Fn P w K mg base (PCk K) "rightmost_in" 2 2 m_rightmost_in) {f : Addr} {fd : FuncData} (F : Fun K "rightmost_places" "rightmost_places" s_rightmost_places f fd) : FnOk P w K mg base (L2.CX P w) 5 f fd ["word", "other"] (spOf mg (PCk K) 2 m_rightmost_places) := by
  exact fnok_mk0 (N := N_rightmost_places) F sc_rightmost_places fun cdv A outer s H E C pc hr => by exact (pbd_cons (psd_drop (pd_call h_need_words pc hr (by decide) (takes_of rfl rfl rfl rfl) (pad_cons (pd_var 0) (pad_cons (pd_var 1) pad_nil)) (dLen_cons (dLen_cons dLen_nil))))
  (pbd_cons (psd_asg 2 sc_rightmost_places.nd (pv_v (pd_call h_rightmost_in pc hr (by decide) (takes_of rfl rfl rfl rfl) (pad_cons (pd_var 0) (pad_cons (pd_var 1) pad_nil)) (dLen_cons (dLen_cons dLen_nil)))))
  (pbd_one (psd_ret (pd_if (ptd_c k_is (pd_var 2) pd_non) pd_non (pd_tuple T.n_tuple (pad_cons (pd_var 2) pad_nil)))))))
theorem sc__law_right : FnScope N__law_right ["word", "other"] (defScope s__law_right) := ⟨rfl, rfl, rfl, by decide +kernel, rfl, by decide +kernel, by decide +kernel⟩
theorem ok__law_right (T : Txt K mg)  {f : Addr} {fd : FuncData} (F : Fun K "_law_right" "_law_right" s__law_right f fd) : FnOk P w K mg base (L2.CX P w) 1 f fd ["word", "other"] (spOf mg (PCk K) 2 m__law_right) := by
  exact fnok_mk0 (N := N__law_right) F sc__law_right fun cdv A outer s H E C pc hr => by exact (pbd_cons (psd_par 2 3 rfl sc__law_right.nd (pv_o (pf_lst pad_nil)) (pv_v (pd_len T.n_len (pad_cons (pd_var 1) pad_nil))))
  (pbd_forget [3, 2, 1, 0] (pbd_cons (psd_for (passes_of rfl) rfl (pid_any (pd_rev (pd_var 0))) (pgd_name 4 sc__law_right.nd) (pbd_cons (psd_setLc 5 (hv := (fun h => cte_f (ctv_v h))) (own := [("place", 6)]) (sc := []) (sa := []) rfl sc__law_right.nd (pid_rng1 T.n_range (pad_cons (pd_var 3) pad_nil)) (blkOk_by (own := [("place", 6)]) (N := N__law_right) (sc := defScope s__law_right) (by decide +kernel)) (fun _ _ _ _ _ => (pgd_name 6 sc__law_right.nd)) (no_gN 6) (fun _ _ _ _ _ => (ptsd_one (ptd_c (k_eq hr.units) (pd_ix (pd_var 1) (pd_var 6)) (pd_var 4)))) (fun _ _ _ _ _ => (pd_var 6)))
  (pbd_cons (psd_if (ptd_c (k_eq hr.units) (pd_var 5) (pd_f (pf_lst pad_nil))) (pbd_one (psd_ret pd_non)) pbd_nil)
  (pbd_cons (psd_asg 3 sc__law_right.nd (pv_v (pd_ix (pd_var 5) (pd_neg pd_int))))
  (pbd_cons (psd_meth 2 PySem.F.slot_list_append PySem.F.type_list_append mt_append md_app (pad_cons (pd_var 3) pad_nil))
  (pbd_forget [3, 2, 1, 0] pbd_nil))))))
  (pbd_one (psd_ret (pd_tuple T.n_tuple (pad_cons (pd_rev (pd_own 2)) pad_nil)))))))
theorem sc__law_same : FnScope N__law_same ["told", "due"] (defScope s__law_same) := ⟨rfl, rfl, rfl, by decide +kernel, rfl, by decide +kernel, by decide +kernel⟩
theorem ok__law_same (T : Txt K mg)  {f : Addr} {fd : FuncData} (F : Fun K "_law_same" "_law_same" s__law_same f fd) : FnOk P w K mg base (L2.CX P w) 1 f fd ["told", "due"] (spOf mg (PCk K) 2 m__law_same) := by
  exact fnok_mk0 (N := N__law_same) F sc__law_same fun cdv A outer s H E C pc hr => by exact (pbd_cons (psd_asg 2 sc__law_same.nd (pv_o (pf_lst (pad_cons (pd_tup (pad_cons (pd_var 0) (pad_cons (pd_var 1) pad_nil))) pad_nil))))
  (pbd_forget [2] (pbd_cons (psd_while whileFuel (passes_of rfl) (ptd_c (k_ne hr.units) (pd_own 2) (pd_f (pf_lst pad_nil))) (pbd_cons (psd_methA0 2 PySem.F.slot_list_pop PySem.F.type_list_pop mt_pop md_pop (pgd_tup 2 rfl (pgsd_cons (pgd_name 3 sc__law_same.nd) (pgsd_cons (pgd_name 4 sc__law_same.nd) pgsd_nil))))
  (pbd_cons (psd_if (ptd_tr (pd_isi "tuple" T.n_isinstance T.n_tuple (pd_var 4))) (pbd_cons (psd_if (ptd_w (pwd_or (ptd_not (ptd_tr (pd_isi "tuple" T.n_isinstance T.n_tuple (pd_var 3)))) (pwd_or1 (ptd_c (k_ne hr.units) (pd_len T.n_len (pad_cons (pd_var 3) pad_nil)) (pd_len T.n_len (pad_cons (pd_var 4) pad_nil)))))) (pbd_one (psd_ret pd_bl)) pbd_nil)
  (pbd_one (psd_meth 2 PySem.F.slot_list_extend PySem.F.type_list_extend mt_extend md_ext (pad_cons (pd_f (pf_lc (own := [("k", 5)]) (sc := []) (sa := []) rfl sc__law_same.nd (pid_rng1 T.n_range (pad_cons (pd_len T.n_len (pad_cons (pd_var 4) pad_nil)) pad_nil)) (blkOk_by (own := [("k", 5)]) (N := N__law_same) (sc := defScope s__law_same) (by decide +kernel)) (fun _ _ _ _ _ => (pgd_name 5 sc__law_same.nd)) (no_gN 5) (fun _ _ _ _ _ => ptsd_nil) (fun _ _ _ _ _ => (pd_tup (pad_cons (pd_ix (pd_var 3) (pd_var 5)) (pad_cons (pd_ix (pd_var 4) (pd_var 5)) pad_nil)))))) pad_nil)))) (pbd_one (psd_if (ptd_c k_is (pd_var 4) pd_non) (pbd_one (psd_if (ptd_c k_isnot (pd_var 3) pd_non) (pbd_one (psd_ret pd_bl)) pbd_nil)) (pbd_one (psd_if (ptd_tr (pd_isi "bool" T.n_isinstance T.n_bool (pd_var 4))) (pbd_one (psd_if (ptd_w (pwd_or (ptd_not (ptd_tr (pd_isi "bool" T.n_isinstance T.n_bool (pd_var 3)))) (pwd_or1 (ptd_c (k_ne hr.units) (pd_var 3) (pd_var 4))))) (pbd_one (psd_ret pd_bl)) pbd_nil)) (pbd_one (psd_if (ptd_tr (pd_isi "str" T.n_isinstance T.n_str (pd_var 4))) (pbd_one (psd_if (ptd_w (pwd_or (ptd_not (ptd_tr (pd_isi "str" T.n_isinstance T.n_str (pd_var 3)))) (pwd_or1 (ptd_c (k_ne hr.units) (pd_var 3) (pd_var 4))))) (pbd_one (psd_ret pd_bl)) pbd_nil)) (pbd_one (psd_if (ptd_w (pwd_or (ptd_not (ptd_tr (pd_isi "int" T.n_isinstance T.n_int (pd_var 3)))) (pwd_or (ptd_tr (pd_isi "bool" T.n_isinstance T.n_bool (pd_var 3))) (pwd_or1 (ptd_c (k_ne hr.units) (pd_var 3) (pd_var 4)))))) (pbd_one (psd_ret pd_bl)) pbd_nil)))))))))
  (pbd_forget [2] pbd_nil))))
  (pbd_one (psd_ret pd_bl)))))
theorem sc_lies_in : FnScope N_lies_in ["word", "other"] (defScope s_lies_in) := ⟨rfl, rfl, rfl, by decide +kernel, rfl, by decide +kernel, by decide +kernel⟩
theorem ok_lies_in (T : Txt K mg)  {f : Addr} {fd : FuncData} (F : Fun K "lies_in" "lies_in" s_lies_in f fd) : FnOk P w K mg base (L2.CX P w) 1 f fd ["word", "other"] (spOf mg (PCk K) 2 m_lies_in) := by
  exact fnok_mk0 (N := N_lies_in) F sc_lies_in fun cdv A outer s H E C pc hr => by exact (pbd_cons (psd_asg 2 sc_lies_in.nd (pv_v pd_int))
  (pbd_forget [1, 2, 0] (pbd_cons (psd_for (passes_of rfl) rfl (pid_any (pd_var 0)) (pgd_name 3 sc_lies_in.nd) (pbd_cons (psd_asg 2 sc_lies_in.nd (pv_v (pd_add (pd_find2 (pd_var 1) (pad_cons (pd_var 3) (pad_cons (pd_var 2) pad_nil))) pd_int)))
  (pbd_cons (psd_if (ptd_c (k_eq hr.units) (pd_var 2) pd_int) (pbd_one (psd_ret pd_bl)) pbd_nil)
  (pbd_forget [1, 2, 0] pbd_nil))))
  (pbd_one (psd_ret pd_bl)))))
theorem sc_is_subword : FnScope N_is_subword ["word", "other"] (defScope s_is_subword) := ⟨rfl, rfl, rfl, by decide +kernel, rfl, by decide +kernel, by decide +kernel⟩
theorem ok_is_subword (T : Txt K mg) (h_need_words : Fn P w K mg base (PCk K) "need_words" 4 2 m_need_words) (h_lies_in : Fn P w K mg base (PCk K) "lies_in" 1 2 m_lies_in) {f : Addr} {fd : FuncData} (F : Fun K "is_subword" "is_subword" s_is_subword f fd) : FnOk P w K mg base (L2.CX P w) 5 f fd ["word", "other"] (spOf mg (PCk K) 2 m_is_subword) := by
  exact fnok_mk0 (N := N_is_subword) F sc_is_subword fun cdv A outer s H E C pc hr => by exact (pbd_cons (psd_drop (pd_call h_need_words pc hr (by decide) (takes_of rfl rfl rfl rfl) (pad_cons (pd_var 0) (pad_cons (pd_var 1) pad_nil)) (dLen_cons (dLen_cons dLen_nil))))
  (pbd_one (psd_ret (pd_call h_lies_in pc hr (by decide) (takes_of rfl rfl rfl rfl) (pad_cons (pd_var 0) (pad_cons (pd_var 1) pad_nil)) (dLen_cons (dLen_cons dLen_nil))))))
theorem sc_ways_in : FnScope N_ways_in ["word", "other"] (defScope s_ways_in) := ⟨rfl, rfl, rfl, by decide +kernel, rfl, by decide +kernel, by decide +kernel⟩
theorem ok_ways_in (T : Txt K mg) (h_need_words : Fn P w K mg base (PCk K) "need_words" 4 2 m_need_words) {f : Addr} {fd : FuncData} (F : Fun K "ways_in" "ways_in" s_ways_in f fd) : FnOk P w K mg base (L2.CX P w) 5 f fd ["word", "other"] (spOf mg (PCk K) 2 m_ways_in) := by
  exact fnok_mk0 (N := N_ways_in) F sc_ways_in fun cdv A outer s H E C pc hr => by exact (pbd_cons (psd_drop (pd_call h_need_words pc hr (by decide) (takes_of rfl rfl rfl rfl) (pad_cons (pd_var 0) (pad_cons (pd_var 1) pad_nil)) (dLen_cons (dLen_cons dLen_nil))))
  (pbd_cons (psd_asg 2 sc_ways_in.nd (pv_o (pf_cat (pd_f (pf_lst (pad_cons pd_int pad_nil))) (pd_rep (pd_f (pf_lst (pad_cons pd_int pad_nil))) (pd_len T.n_len (pad_cons (pd_var 0) pad_nil))))))
  (pbd_forget [2, 1, 0] (pbd_cons (psd_for (passes_of rfl) rfl (pid_any (pd_var 1)) (pgd_name 3 sc_ways_in.nd) (pbd_forget [2, 3, 1, 0] (pbd_cons (psd_for (passes_of rfl) rfl (pid_rng3 T.n_range (pad_cons (pd_sub (pd_len T.n_len (pad_cons (pd_var 0) pad_nil)) pd_int) (pad_cons (pd_neg pd_int) (pad_cons (pd_neg pd_int) pad_nil)))) (pgd_name 4 sc_ways_in.nd) (pbd_cons (psd_if (ptd_c (k_eq hr.units) (pd_ix (pd_var 0) (pd_var 4)) (pd_var 3)) (pbd_one (psd_augo 2 (pd_add (pd_var 4) pd_int) (pd_ixo 2 (pd_var 4)))) pbd_nil)
  (pbd_forget [2, 3, 1, 0] pbd_nil)))
  (pbd_forget [2, 1, 0] pbd_nil))))
  (pbd_one (psd_ret (pd_ixo 2 (pd_neg pd_int))))))))
theorem sc_rest_before : FnScope N_rest_before ["word", "other"] (defScope s_rest_before) := ⟨rfl, rfl, rfl, by decide +kernel, rfl, by decide +kernel, by decide +kernel⟩
theorem ok_rest_before (T : Txt K mg) (h_need_words : Fn P w K mg base (PCk K) "need_words" 4 2 m_need_words) (h_rightmost_in : Fn P w K mg base (PCk K) "rightmost_in" 2 2 m_rightmost_in) {f : Addr} {fd : FuncData} (F : Fun K "rest_before" "rest_before" s_rest_before f fd) : FnOk P w K mg base (L2.CX P w) 5 f fd ["word", "other"] (spOf mg (PCk K) 2 m_rest_before) := by
  exact fnok_mk0 (N := N_rest_before) F sc_rest_before fun cdv A outer s H E C pc hr => by exact (pbd_cons (psd_drop (pd_call h_need_words pc hr (by decide) (takes_of rfl rfl rfl rfl) (pad_cons (pd_var 0) (pad_cons (pd_var 1) pad_nil)) (dLen_cons (dLen_cons dLen_nil))))
  (pbd_cons (psd_asg 2 sc_rest_before.nd (pv_v (pd_call h_rightmost_in pc hr (by decide) (takes_of rfl rfl rfl rfl) (pad_cons (pd_var 0) (pad_cons (pd_var 1) pad_nil)) (dLen_cons (dLen_cons dLen_nil)))))
  (pbd_cons (psd_if (ptd_c k_is (pd_var 2) pd_non) (pbd_one (psd_ret pd_non)) pbd_nil)
  (pbd_one (psd_ret (pd_if (ptd_c (k_eq hr.units) (pd_var 2) (pd_f (pf_lst pad_nil))) (pd_var 1) (pd_sl (pd_var 1) part_none (part_some (pd_ix (pd_var 2) pd_int)))))))))
theorem sc_rest_behind : FnScope N_rest_behind ["word", "other"] (defScope s_rest_behind) := ⟨rfl, rfl, rfl, by decide +kernel, rfl, by decide +kernel, by decide +kernel⟩
theorem ok_rest_behind (T : Txt K mg) (h_need_words : Fn P w K mg base (PCk K) "need_words" 4 2 m_need_words) (h_leftmost_in : Fn P w K mg base (PCk K) "leftmost_in" 1 2 m_leftmost_in) {f : Addr} {fd : FuncData} (F : Fun K "rest_behind" "rest_behind" s_rest_behind f fd) : FnOk P w K mg base (L2.CX P w) 5 f fd ["word", "other"] (spOf mg (PCk K) 2 m_rest_behind) := by
  exact fnok_mk0 (N := N_rest_behind) F sc_rest_behind fun cdv A outer s H E C pc hr => by exact (pbd_cons (psd_drop (pd_call h_need_words pc hr (by decide) (takes_of rfl rfl rfl rfl) (pad_cons (pd_var 0) (pad_cons (pd_var 1) pad_nil)) (dLen_cons (dLen_cons dLen_nil))))
  (pbd_cons (psd_asg 2 sc_rest_behind.nd (pv_v (pd_call h_leftmost_in pc hr (by decide) (takes_of rfl rfl rfl rfl) (pad_cons (pd_var 0) (pad_cons (pd_var 1) pad_nil)) (dLen_cons (dLen_cons dLen_nil)))))
  (pbd_cons (psd_if (ptd_c k_is (pd_var 2) pd_non) (pbd_one (psd_ret pd_non)) pbd_nil)
  (pbd_one (psd_ret (pd_if (ptd_c (k_eq hr.units) (pd_var 2) (pd_f (pf_lst pad_nil))) (pd_var 1) (pd_sl (pd_var 1) (part_some (pd_add (pd_ix (pd_var 2) (pd_neg pd_int)) pd_int)) part_none)))))))
theorem sc__law_near : FnScope N__law_near ["deck", "row", "other"] (defScope s__law_near) := ⟨rfl, rfl, rfl, by decide +kernel, rfl, by decide +kernel, by decide +kernel⟩
theorem ok__law_near (T : Txt K mg) (h__law_pick : Fn P w K mg base (PCk K) "_law_pick" 1 2 m__law_pick) {f : Addr} {fd : FuncData} (F : Fun K "_law_near" "_law_near" s__law_near f fd) : FnOk P w K mg base (L2.CX P w) 2 f fd ["deck", "row", "other"] (spOf mg (PCk K) 3 m__law_near) := by
  exact fnok_mk0 (N := N__law_near) F sc__law_near fun cdv A outer s H E C pc hr => by exact (pbd_cons (psd_asg 3 sc__law_near.nd (pv_o (pf_lst (pad_cons (pd_f (pf_list T.n_list (pd_var 1))) (pad_cons (pd_add (pd_var 1) (pd_tup (pad_cons pd_int pad_nil))) (pad_cons (pd_sl (pd_var 1) part_none (part_some (pd_neg pd_int))) (pad_cons (pd_rev (pd_var 1)) (pad_cons pd_non (pad_cons pd_int (pad_cons (pd_str [] (by rfl) ⟨by decide, by decide⟩) (pad_cons (pd_add (pd_var 1) (pd_tup (pad_cons (pd_len T.n_len (pad_cons (pd_var 2) pad_nil)) pad_nil))) pad_nil)))))))))))
  (pbd_cons (psd_if (ptd_c (k_ne hr.units) (pd_var 1) (pd_tup pad_nil)) (pbd_cons (psd_asg 4 sc__law_near.nd (pv_v (pd_call h__law_pick pc hr (by decide) (takes_of rfl rfl rfl rfl) (pad_cons (pd_var 0) (pad_cons (pd_len T.n_len (pad_cons (pd_var 1) pad_nil)) pad_nil)) (dLen_cons (dLen_cons dLen_nil)))))
  (pbd_forget [4, 3, 2, 1] (pbd_one (psd_for (passes_of rfl) rfl (pid_any (pd_f (pf_lst (pad_cons (pd_add (pd_ix (pd_var 1) (pd_var 4)) pd_int) (pad_cons (pd_sub (pd_ix (pd_var 1) (pd_var 4)) pd_int) (pad_cons (pd_neg pd_int) (pad_cons (pd_len T.n_len (pad_cons (pd_var 2) pad_nil)) (pad_cons pd_bl (pad_cons pd_bl (pad_cons pd_non pad_nil)))))))))) (pgd_name 5 sc__law_near.nd) (pbd_cons (psd_meth 3 PySem.F.slot_list_append PySem.F.type_list_append mt_append md_app (pad_cons (pd_add (pd_add (pd_sl (pd_var 1) part_none (part_some (pd_var 4))) (pd_tup (pad_cons (pd_var 5) pad_nil))) (pd_sl (pd_var 1) (part_some (pd_add (pd_var 4) pd_int)) part_none)) pad_nil))
  (pbd_forget [4, 3, 2, 1] pbd_nil)))))) pbd_nil)
  (pbd_one (psd_ret (pd_own 3)))))
theorem sc__law_is_int : FnScope N__law_is_int ["thing"] (defScope s__law_is_int) := ⟨rfl, rfl, rfl, by decide +kernel, rfl, by decide +kernel, by decide +kernel⟩
theorem ok__law_is_int (T : Txt K mg)  {f : Addr} {fd : FuncData} (F : Fun K "_law_is_int" "_law_is_int" s__law_is_int f fd) : FnOk P w K mg base (L2.CX P w) 1 f fd ["thing"] (spOf mg (PCk K) 1 m__law_is_int) := by
  exact fnok_mk0 (N := N__law_is_int) F sc__law_is_int fun cdv A outer s H E C pc hr => by exact (pbd_one (psd_ret (pd_and (pd_isi "int" T.n_isinstance T.n_int (pd_var 0)) (pd_one (pd_not (pd_isi "bool" T.n_isinstance T.n_bool (pd_var 0)))))))
theorem sc__law_judge : FnScope N__law_judge ["word", "other", "thing"] (defScope s__law_judge) := ⟨rfl, rfl, rfl, by decide +kernel, rfl, by decide +kernel, by decide +kernel⟩
theorem ok__law_judge (T : Txt K mg) (h__law_is_int : Fn P w K mg base (PCk K) "_law_is_int" 1 1 m__law_is_int) {f : Addr} {fd : FuncData} (F : Fun K "_law_judge" "_law_judge" s__law_judge f fd) : FnOk P w K mg base (L2.CX P w) 2 f fd ["word", "other", "thing"] (spOf mg (PCk K) 3 m__law_judge) := by
  exact fnok_mk0 (N := N__law_judge) F sc__law_judge fun cdv A outer s H E C pc hr => by exact (pbd_cons (psd_if (ptd_w (pwd_or (ptd_not (ptd_tr (pd_isi "tuple" T.n_isinstance T.n_tuple (pd_var 2)))) (pwd_or1 (ptd_c (k_ne hr.units) (pd_len T.n_len (pad_cons (pd_var 2) pad_nil)) (pd_len T.n_len (pad_cons (pd_var 0) pad_nil)))))) (pbd_one (psd_ret pd_bl)) pbd_nil)
  (pbd_forget [1, 2, 0] (pbd_cons (psd_for (passes_of rfl) rfl (pid_rng1 T.n_range (pad_cons (pd_len T.n_len (pad_cons (pd_var 2) pad_nil)) pad_nil)) (pgd_name 3 sc__law_judge.nd) (pbd_cons (psd_if (ptd_w (pwd_or (ptd_not (ptd_tr (pd_call h__law_is_int pc hr (by decide) (takes_of rfl rfl rfl rfl) (pad_cons (pd_ix (pd_var 2) (pd_var 3)) pad_nil) (dLen_cons dLen_nil)))) (pwd_or (ptd_not (ptd_chain k_le (k_ltA hr.units) pd_int (pd_ix (pd_var 2) (pd_var 3)) (pd_len T.n_len (pad_cons (pd_var 1) pad_nil)))) (pwd_or1 (ptd_c (k_ne hr.units) (pd_ix (pd_var 1) (pd_ix (pd_var 2) (pd_var 3))) (pd_ix (pd_var 0) (pd_var 3))))))) (pbd_one (psd_ret pd_bl)) pbd_nil)
  (pbd_cons (psd_if (ptd_w (pwd_and (ptd_c k_gt (pd_var 3) pd_int) (pwd_and1 (ptd_c k_le (pd_ix (pd_var 2) (pd_var 3)) (pd_ix (pd_var 2) (pd_sub (pd_var 3) pd_int)))))) (pbd_one (psd_ret pd_bl)) pbd_nil)
  (pbd_forget [1, 2, 0] pbd_nil))))
  (pbd_one (psd_ret pd_bl)))))
theorem sc_is_embedding : FnScope N_is_embedding ["word", "other", "thing"] (defScope s_is_embedding) := ⟨rfl, rfl, rfl, by decide +kernel, rfl, by decide +kernel, by decide +kernel⟩
theorem ok_is_embedding (T : Txt K mg) (h_need_words : Fn P w K mg base (PCk K) "need_words" 4 2 m_need_words) {f : Addr} {fd : FuncData} (F : Fun K "is_embedding" "is_embedding" s_is_embedding f fd) : FnOk P w K mg base (L2.CX P w) 5 f fd ["word", "other", "thing"] (spOf mg (PCk K) 3 m_is_embedding) := by
  exact fnok_mk0 (N := N_is_embedding) F sc_is_embedding fun cdv A outer s H E C pc hr => by exact (pbd_cons (psd_drop (pd_call h_need_words pc hr (by decide) (takes_of rfl rfl rfl rfl) (pad_cons (pd_var 0) (pad_cons (pd_var 1) pad_nil)) (dLen_cons (dLen_cons dLen_nil))))
  (pbd_cons (psd_if (ptd_w (pwd_or (ptd_not (ptd_tr (pd_isi "tuple" T.n_isinstance T.n_tuple (pd_var 2)))) (pwd_or1 (ptd_c (k_ne hr.units) (pd_len T.n_len (pad_cons (pd_var 2) pad_nil)) (pd_len T.n_len (pad_cons (pd_var 0) pad_nil)))))) (pbd_one (psd_ret pd_bl)) pbd_nil)
  (pbd_cons (psd_asg 3 sc_is_embedding.nd (pv_v (pd_neg pd_int)))
  (pbd_forget [3, 1, 2, 0] (pbd_cons (psd_for (passes_of rfl) rfl (pid_zipA T.n_zip (pad_cons (pd_var 0) (pad_cons (pd_var 2) pad_nil))) (pgd_tup 2 rfl (pgsd_cons (pgd_name 4 sc_is_embedding.nd) (pgsd_cons (pgd_name 5 sc_is_embedding.nd) pgsd_nil))) (pbd_cons (psd_if (ptd_w (pwd_or (ptd_not (ptd_tr (pd_isi "int" T.n_isinstance T.n_int (pd_var 5)))) (pwd_or (ptd_tr (pd_isi "bool" T.n_isinstance T.n_bool (pd_var 5))) (pwd_or1 (ptd_not (ptd_chain (k_ltA hr.units) (k_ltA hr.units) (pd_var 3) (pd_var 5) (pd_len T.n_len (pad_cons (pd_var 1) pad_nil)))))))) (pbd_one (psd_ret pd_bl)) pbd_nil)
  (pbd_cons (psd_if (ptd_c (k_ne hr.units) (pd_ix (pd_var 1) (pd_var 5)) (pd_var 4)) (pbd_one (psd_ret pd_bl)) pbd_nil)
  (pbd_cons (psd_asg 3 sc_is_embedding.nd (pv_v (pd_var 5)))
  (pbd_forget [3, 1, 2, 0] pbd_nil)))))
  (pbd_one (psd_ret pd_bl)))))))
theorem sc__law_told_right : FnScope N__law_told_right ["deck", "word", "other", "rows"] (defScope s__law_told_right) := ⟨rfl, rfl, rfl, by decide +kernel, rfl, by decide +kernel, by decide +kernel⟩
theorem ok__law_told_right (T : Txt K mg) (h__law_left : Fn P w K mg base (PCk K) "_law_left" 1 2 m__law_left) (h__law_right : Fn P w K mg base (PCk K) "_law_right" 1 2 m__law_right) (h__law_same : Fn P w K mg base (PCk K) "_law_same" 1 2 m__law_same) (h_is_subword : Fn P w K mg base (PCk K) "is_subword" 5 2 m_is_subword) (hk_leftmost_places_0_other_word : Fk P w K mg base (PCk K) "leftmost_places" 5 2 m_leftmost_places 0 ["other", "word"] [1, 0]) (h_rightmost_places : Fn P w K mg base (PCk K) "rightmost_places" 5 2 m_rightmost_places) (h__law_ways : Fn P w K mg base (PCk K) "_law_ways" 1 2 m__law_ways) (h_ways_in : Fn P w K mg base (PCk K) "ways_in" 5 2 m_ways_in) (hk_rest_before_0_word_other : Fk P w K mg base (PCk K) "rest_before" 5 2 m_rest_before 0 ["word", "other"] [0, 1]) (h_rest_behind : Fn P w K mg base (PCk K) "rest_behind" 5 2 m_rest_behind) (h__law_near : Fn P w K mg base (PCk K) "_law_near" 2 3 m__law_near) (h__law_judge : Fn P w K mg base (PCk K) "_law_judge" 2 3 m__law_judge) (h_is_embedding : Fn P w K mg base (PCk K) "is_embedding" 5 3 m_is_embedding) {f : Addr} {fd : FuncData} (F : Fun K "_law_told_right" "_law_told_right" s__law_told_right f fd) : FnOk P w K mg base (L2.CX P w) 6 f fd ["deck", "word", "other", "rows"] (spOf mg (PCk K) 4 m__law_told_right) := by
  exact fnok_mk0 (N := N__law_told_right) F sc__law_told_right fun cdv A outer s H E C pc hr => by exact (pbd_cons (psd_par 4 5 rfl sc__law_told_right.nd (pv_v (pd_call h__law_left pc hr (by decide) (takes_of rfl rfl rfl rfl) (pad_cons (pd_var 1) (pad_cons (pd_var 2) pad_nil)) (dLen_cons (dLen_cons dLen_nil)))) (pv_v (pd_call h__law_right pc hr (by decide) (takes_of rfl rfl rfl rfl) (pad_cons (pd_var 1) (pad_cons (pd_var 2) pad_nil)) (dLen_cons (dLen_cons dLen_nil)))))
  (pbd_cons (psd_if (ptd_w (pwd_or (ptd_not (ptd_tr (pd_call h__law_same pc hr (by decide) (takes_of rfl rfl rfl rfl) (pad_cons (pd_call h_is_subword pc hr (by decide) (takes_of rfl rfl rfl rfl) (pad_cons (pd_var 1) (pad_cons (pd_var 2) pad_nil)) (dLen_cons (dLen_cons dLen_nil))) (pad_cons (pd_c k_isnot (pd_var 4) pd_non) pad_nil)) (dLen_cons (dLen_cons dLen_nil))))) (pwd_or1 (ptd_not (ptd_tr (pd_call h__law_same pc hr (by decide) (takes_of rfl rfl rfl rfl) (pad_cons (pd_callk0 hk_leftmost_places_0_other_word pc hr (by decide) (takes_of rfl rfl rfl rfl) (pkd_cons (pd_var 2) (pkd_cons (pd_var 1) pkd_nil)) (dLen_cons (dLen_cons dLen_nil))) (pad_cons (pd_var 4) pad_nil)) (dLen_cons (dLen_cons dLen_nil)))))))) (pbd_one (psd_ret pd_bl)) pbd_nil)
  (pbd_cons (psd_if (ptd_w (pwd_or (ptd_not (ptd_tr (pd_call h__law_same pc hr (by decide) (takes_of rfl rfl rfl rfl) (pad_cons (pd_call h_rightmost_places pc hr (by decide) (takes_of rfl rfl rfl rfl) (pad_cons (pd_var 1) (pad_cons (pd_var 2) pad_nil)) (dLen_cons (dLen_cons dLen_nil))) (pad_cons (pd_var 5) pad_nil)) (dLen_cons (dLen_cons dLen_nil))))) (pwd_or1 (ptd_not (ptd_tr (pd_call h__law_same pc hr (by decide) (takes_of rfl rfl rfl rfl) (pad_cons (pd_call h_ways_in pc hr (by decide) (takes_of rfl rfl rfl rfl) (pad_cons (pd_var 1) (pad_cons (pd_var 2) pad_nil)) (dLen_cons (dLen_cons dLen_nil))) (pad_cons (pd_call h__law_ways pc hr (by decide) (takes_of rfl rfl rfl rfl) (pad_cons (pd_var 1) (pad_cons (pd_var 2) pad_nil)) (dLen_cons (dLen_cons dLen_nil))) pad_nil)) (dLen_cons (dLen_cons dLen_nil)))))))) (pbd_one (psd_ret pd_bl)) pbd_nil)
  (pbd_cons (psd_par 6 7 rfl sc__law_told_right.nd (pv_v (pd_var 2)) (pv_v (pd_var 2)))
  (pbd_cons (psd_if (ptd_w (pwd_and (ptd_c (k_ne hr.units) (pd_var 1) (pd_str [] (by rfl) ⟨by decide, by decide⟩)) (pwd_and1 (ptd_c k_isnot (pd_var 4) pd_non)))) (pbd_cons (psd_par 6 7 rfl sc__law_told_right.nd (pv_v (pd_sl (pd_var 2) (part_some (pd_add (pd_ix (pd_var 4) (pd_neg pd_int)) pd_int)) part_none)) (pv_v (pd_sl (pd_var 2) part_none (part_some (pd_ix (pd_var 5) pd_int)))))
  (pbd_forget [7, 6, 0, 4, 2, 3, 1] pbd_nil)) (pbd_forget [7, 6, 0, 4, 2, 3, 1] pbd_nil))
  (pbd_cons (psd_asg 8 sc__law_told_right.nd (pv_v (pd_if (ptd_c k_is (pd_var 4) pd_non) (pd_f (pf_lst (pad_cons pd_non (pad_cons pd_non pad_nil)))) (pd_f (pf_lst (pad_cons (pd_var 6) (pad_cons (pd_var 7) pad_nil)))))))
  (pbd_cons (psd_if (ptd_not (ptd_tr (pd_call h__law_same pc hr (by decide) (takes_of rfl rfl rfl rfl) (pad_cons (pd_tup (pad_cons (pd_call h_rest_behind pc hr (by decide) (takes_of rfl rfl rfl rfl) (pad_cons (pd_var 1) (pad_cons (pd_var 2) pad_nil)) (dLen_cons (dLen_cons dLen_nil))) (pad_cons (pd_callk0 hk_rest_before_0_word_other pc hr (by decide) (takes_of rfl rfl rfl rfl) (pkd_cons (pd_var 1) (pkd_cons (pd_var 2) pkd_nil)) (dLen_cons (dLen_cons dLen_nil))) pad_nil))) (pad_cons (pd_tuple T.n_tuple (pad_cons (pd_var 8) pad_nil)) pad_nil)) (dLen_cons (dLen_cons dLen_nil))))) (pbd_one (psd_ret pd_bl)) pbd_nil)
  (pbd_cons (psd_asg 9 sc__law_told_right.nd (pv_v (pd_add (pd_f (pf_lc (own := [("row", 11)]) (sc := []) (sa := []) rfl sc__law_told_right.nd (pid_any (pd_sl (pd_var 3) part_none (part_some pd_int))) (blkOk_by (own := [("row", 11)]) (N := N__law_told_right) (sc := defScope s__law_told_right) (by decide +kernel)) (fun _ _ _ _ _ => (pgd_name 11 sc__law_told_right.nd)) (no_gN 11) (fun _ _ _ _ _ => ptsd_nil) (fun _ _ _ _ _ => (pd_var 11)))) (pd_call h__law_near pc hr (by decide) (takes_of rfl rfl rfl rfl) (pad_cons (pd_var 0) (pad_cons (pd_ix (pd_add (pd_var 3) (pd_f (pf_lst (pad_cons (pd_rep (pd_tup (pad_cons pd_int pad_nil)) (pd_len T.n_len (pad_cons (pd_var 1) pad_nil))) pad_nil)))) pd_int) (pad_cons (pd_var 2) pad_nil))) (dLen_cons (dLen_cons (dLen_cons dLen_nil)))))))
  (pbd_forget [2, 9, 1] (pbd_cons (psd_for (passes_of rfl) rfl (pid_any (pd_var 9)) (pgd_name 10 sc__law_told_right.nd) (pbd_cons (psd_if (ptd_not (ptd_tr (pd_call h__law_same pc hr (by decide) (takes_of rfl rfl rfl rfl) (pad_cons (pd_call h_is_embedding pc hr (by decide) (takes_of rfl rfl rfl rfl) (pad_cons (pd_var 1) (pad_cons (pd_var 2) (pad_cons (pd_var 10) pad_nil))) (dLen_cons (dLen_cons (dLen_cons dLen_nil)))) (pad_cons (pd_call h__law_judge pc hr (by decide) (takes_of rfl rfl rfl rfl) (pad_cons (pd_var 1) (pad_cons (pd_var 2) (pad_cons (pd_var 10) pad_nil))) (dLen_cons (dLen_cons (dLen_cons dLen_nil)))) pad_nil)) (dLen_cons (dLen_cons dLen_nil))))) (pbd_one (psd_ret pd_bl)) pbd_nil)
  (pbd_forget [2, 9, 1] pbd_nil)))
  (pbd_one (psd_ret pd_bl))))))))))))
theorem sc__law_refused : FnScope N__law_refused ["which", "word", "other"] (defScope s__law_refused) := ⟨rfl, rfl, rfl, by decide +kernel, rfl, by decide +kernel, by decide +kernel⟩
theorem ok__law_refused (T : Txt K mg) (h_is_subword : Fn P w K mg base (PCk K) "is_subword" 5 2 m_is_subword) (h_leftmost_places : Fn P w K mg base (PCk K) "leftmost_places" 5 2 m_leftmost_places) (h_rightmost_places : Fn P w K mg base (PCk K) "rightmost_places" 5 2 m_rightmost_places) (h_rest_behind : Fn P w K mg base (PCk K) "rest_behind" 5 2 m_rest_behind) (h_rest_before : Fn P w K mg base (PCk K) "rest_before" 5 2 m_rest_before) (h_ways_in : Fn P w K mg base (PCk K) "ways_in" 5 2 m_ways_in) (h_is_embedding : Fn P w K mg base (PCk K) "is_embedding" 5 3 m_is_embedding) {f : Addr} {fd : FuncData} (F : Fun K "_law_refused" "_law_refused" s__law_refused f fd) : FnOk P w K mg base (L2.CX P w) 6 f fd ["which", "word", "other"] (spOf mg (PCk K) 3 m__law_refused) := by
  obtain ⟨q_BadOther, e_BadOther⟩ := T.e_BadOther
  obtain ⟨q_BadWord, e_BadWord⟩ := T.e_BadWord
  exact fnok_mk0 (N := N__law_refused) F sc__law_refused fun cdv A outer s H E C pc hr => by exact (pbd_cons (psd_asg 3 sc__law_refused.nd (pv_v (pd_str [110, 111, 110, 101] (by rfl) ⟨by decide, by decide⟩)))
  (pbd_forget [3, 2, 0, 1] (pbd_cons (psd_try rfl rfl (takes_of rfl rfl rfl rfl) T.sub (fun W1 pn1 xe1 tk1 po1 => (pbd_cons (psd_if (ptd_c (k_ltA hr.units) (pd_var 0) pd_int) (pbd_one (psd_asg 4 sc__law_refused.nd (pv_v (pd_if (ptd_c (k_eq hr.units) (pd_var 0) pd_int) (pd_call h_is_subword pc hr (by decide) tk1 (pad_cons (pd_var 1) (pad_cons (pd_var 2) pad_nil)) (dLen_cons (dLen_cons dLen_nil))) (pd_call h_leftmost_places pc hr (by decide) tk1 (pad_cons (pd_var 1) (pad_cons (pd_var 2) pad_nil)) (dLen_cons (dLen_cons dLen_nil))))))) (pbd_one (psd_if (ptd_c (k_ltA hr.units) (pd_var 0) pd_int) (pbd_one (psd_asg 4 sc__law_refused.nd (pv_v (pd_if (ptd_c (k_eq hr.units) (pd_var 0) pd_int) (pd_call h_rightmost_places pc hr (by decide) tk1 (pad_cons (pd_var 1) (pad_cons (pd_var 2) pad_nil)) (dLen_cons (dLen_cons dLen_nil))) (pd_call h_rest_behind pc hr (by decide) tk1 (pad_cons (pd_var 1) (pad_cons (pd_var 2) pad_nil)) (dLen_cons (dLen_cons dLen_nil))))))) (pbd_one (psd_if (ptd_c (k_ltA hr.units) (pd_var 0) pd_int) (pbd_one (psd_asg 4 sc__law_refused.nd (pv_v (pd_if (ptd_c (k_eq hr.units) (pd_var 0) pd_int) (pd_call h_rest_before pc hr (by decide) tk1 (pad_cons (pd_var 1) (pad_cons (pd_var 2) pad_nil)) (dLen_cons (dLen_cons dLen_nil))) (pd_call h_ways_in pc hr (by decide) tk1 (pad_cons (pd_var 1) (pad_cons (pd_var 2) pad_nil)) (dLen_cons (dLen_cons dLen_nil))))))) (pbd_one (psd_asg 4 sc__law_refused.nd (pv_v (pd_call h_is_embedding pc hr (by decide) tk1 (pad_cons (pd_var 1) (pad_cons (pd_var 2) (pad_cons pd_non pad_nil))) (dLen_cons (dLen_cons (dLen_cons dLen_nil))))))))))))
  (pbd_forget [3] pbd_nil))) (.cons e_BadWord.g rfl rfl (fun _ _ _ => (pbd_forget [] (pbd_cons (psd_asg 3 sc__law_refused.nd (pv_v (pd_str [119, 111, 114, 100] (by rfl) ⟨by decide, by decide⟩)))
  (pbd_forget [3] pbd_nil)))) (.cons e_BadOther.g rfl rfl (fun _ _ _ => (pbd_forget [] (pbd_cons (psd_asg 3 sc__law_refused.nd (pv_v (pd_str [111, 116, 104, 101, 114] (by rfl) ⟨by decide, by decide⟩)))
  (pbd_forget [3] pbd_nil)))) .nil)))
  (pbd_one (psd_ret (pd_var 3))))))
theorem sc_law : FnScope N_law ["script"] (defScope s_law) := ⟨rfl, rfl, rfl, by decide +kernel, rfl, by decide +kernel, by decide +kernel⟩
theorem ok_law (T : Txt K mg) (h__law_pick : Fn P w K mg base (PCk K) "_law_pick" 1 2 m__law_pick) (h__law_word : Fn P w K mg base (PCk K) "_law_word" 2 3 m__law_word) (h__law_all : Fn P w K mg base (PCk K) "_law_all" 1 2 m__law_all) (h__law_left : Fn P w K mg base (PCk K) "_law_left" 1 2 m__law_left) (h__law_ways : Fn P w K mg base (PCk K) "_law_ways" 1 2 m__law_ways) (h_leftmost_places : Fn P w K mg base (PCk K) "leftmost_places" 5 2 m_leftmost_places) (h_rightmost_places : Fn P w K mg base (PCk K) "rightmost_places" 5 2 m_rightmost_places) (h__law_told_right : Fn P w K mg base (PCk K) "_law_told_right" 6 4 m__law_told_right) (h_is_word : Fn P w K mg base (PCk K) "is_word" 2 1 m_is_word) (hk_is_word_0_thing : Fk P w K mg base (PCk K) "is_word" 2 1 m_is_word 0 ["thing"] [0]) (h__law_refused : Fn P w K mg base (PCk K) "_law_refused" 6 3 m__law_refused) (hG : True) (cdv : Value) (f : Addr) (A : Around) (outer : List PySem.Env) (s : Shared) (H : Hp) (E : XK) (C : Deck DeckSt) (pc : PCk K C) (hr : Room 6 (A.deeper (envOfC "law" (defScope s_law) s.heap.objs.size f cdv))) : PBd (cxOf (L2.CX P w) P w K mg base N_law "law" (defScope s_law) f cdv A outer s H E) C (fun cls d _ H => E cls d H) (defBody s_law).tail d_law := by
  exact (pbd_cons (psd_for (passes_of rfl) rfl (pid_rng1 T.n_range (pad_cons (pd_add pd_int (pd_min2 rfl T.n_min (pad_cons (pd_lenX pc T.n_len (pad_cons (pd_var 0) pad_nil)) (pad_cons pd_int pad_nil)))) pad_nil)) (pgd_name 2 sc_law.nd) (pbd_forget [1] (pbd_cons (psd_asg 3 sc_law.nd (pv_v (pd_add pd_int (pd_call h__law_pick pc hr (by decide) (takes_of rfl rfl rfl rfl) (pad_cons (pd_var 1) (pad_cons pd_int pad_nil)) (dLen_cons (dLen_cons dLen_nil))))))
  (pbd_cons (psd_par 4 5 rfl sc_law.nd (pv_v (pd_call h__law_word pc hr (by decide) (takes_of rfl rfl rfl rfl) (pad_cons (pd_var 1) (pad_cons (pd_var 3) (pad_cons pd_int pad_nil))) (dLen_cons (dLen_cons (dLen_cons dLen_nil))))) (pv_v (pd_call h__law_word pc hr (by decide) (takes_of rfl rfl rfl rfl) (pad_cons (pd_var 1) (pad_cons (pd_var 3) (pad_cons pd_int pad_nil))) (dLen_cons (dLen_cons (dLen_cons dLen_nil))))))
  (pbd_cons (psd_asg 6 sc_law.nd (pv_v (pd_call h__law_all pc hr (by decide) (takes_of rfl rfl rfl rfl) (pad_cons (pd_var 4) (pad_cons (pd_var 5) pad_nil)) (dLen_cons (dLen_cons dLen_nil)))))
  (pbd_cons (psd_if (ptd_w (pwd_or (ptd_c (k_ne hr.units) (pd_c (k_eq hr.units) (pd_var 6) (pd_f (pf_lst pad_nil))) (pd_c k_is (pd_call h__law_left pc hr (by decide) (takes_of rfl rfl rfl rfl) (pad_cons (pd_var 4) (pad_cons (pd_var 5) pad_nil)) (dLen_cons (dLen_cons dLen_nil))) pd_non)) (pwd_or1 (ptd_c (k_ne hr.units) (pd_len T.n_len (pad_cons (pd_var 6) pad_nil)) (pd_call h__law_ways pc hr (by decide) (takes_of rfl rfl rfl rfl) (pad_cons (pd_var 4) (pad_cons (pd_var 5) pad_nil)) (dLen_cons (dLen_cons dLen_nil))))))) (pbd_one (psd_ret pd_bl)) pbd_nil)
  (pbd_cons (psd_if (ptd_w (pwd_and (ptd_c (k_ne hr.units) (pd_var 6) (pd_f (pf_lst pad_nil))) (pwd_and1 (ptd_w (pwd_or (ptd_c (k_ne hr.units) (pd_min1 rfl (u66 hr) T.n_min (pad_cons (pd_var 6) pad_nil)) (pd_call h_leftmost_places pc hr (by decide) (takes_of rfl rfl rfl rfl) (pad_cons (pd_var 4) (pad_cons (pd_var 5) pad_nil)) (dLen_cons (dLen_cons dLen_nil)))) (pwd_or1 (ptd_c (k_ne hr.units) (pd_max1 rfl (u66 hr) T.n_max (pad_cons (pd_var 6) pad_nil)) (pd_call h_rightmost_places pc hr (by decide) (takes_of rfl rfl rfl rfl) (pad_cons (pd_var 4) (pad_cons (pd_var 5) pad_nil)) (dLen_cons (dLen_cons dLen_nil)))))))))) (pbd_one (psd_ret pd_bl)) pbd_nil)
  (pbd_cons (psd_if (ptd_not (ptd_tr (pd_call h__law_told_right pc hr (by decide) (takes_of rfl rfl rfl rfl) (pad_cons (pd_var 1) (pad_cons (pd_var 4) (pad_cons (pd_var 5) (pad_cons (pd_var 6) pad_nil)))) (dLen_cons (dLen_cons (dLen_cons (dLen_cons dLen_nil))))))) (pbd_one (psd_ret pd_bl)) pbd_nil)
  (pbd_cons (psd_par 7 8 rfl sc_law.nd (pv_v (pd_call h__law_word pc hr (by decide) (takes_of rfl rfl rfl rfl) (pad_cons (pd_var 1) (pad_cons (pd_var 3) (pad_cons pd_int pad_nil))) (dLen_cons (dLen_cons (dLen_cons dLen_nil))))) (pv_v (pd_call h__law_word pc hr (by decide) (takes_of rfl rfl rfl rfl) (pad_cons (pd_var 1) (pad_cons (pd_var 3) (pad_cons pd_int pad_nil))) (dLen_cons (dLen_cons (dLen_cons dLen_nil))))))
  (pbd_forget [1, 7, 8, 5, 4] (pbd_cons (psd_for (passes_of rfl) rfl (pid_any (pd_f (pf_lst (pad_cons (pd_tup (pad_cons (pd_var 7) (pad_cons (pd_var 8) pad_nil))) (pad_cons (pd_tup (pad_cons (pd_rep (pd_ix (pd_str [97, 98, 99] (by rfl) ⟨by decide, by decide⟩) pd_int) (pd_len T.n_len (pad_cons (pd_var 7) pad_nil))) (pad_cons (pd_rep (pd_ix (pd_str [97, 98, 99] (by rfl) ⟨by decide, by decide⟩) pd_int) pd_int) pad_nil))) (pad_cons (pd_tup (pad_cons (pd_var 8) (pad_cons (pd_var 8) pad_nil))) (pad_cons (pd_tup (pad_cons (pd_str [] (by rfl) ⟨by decide, by decide⟩) (pad_cons (pd_var 8) pad_nil))) pad_nil))))))) (pgd_tup 2 rfl (pgsd_cons (pgd_name 9 sc_law.nd) (pgsd_cons (pgd_name 10 sc_law.nd) pgsd_nil))) (pbd_cons (psd_if (ptd_not (ptd_tr (pd_call h__law_told_right pc hr (by decide) (takes_of rfl rfl rfl rfl) (pad_cons (pd_var 1) (pad_cons (pd_var 9) (pad_cons (pd_var 10) (pad_cons (pd_f (pf_lst pad_nil)) pad_nil)))) (dLen_cons (dLen_cons (dLen_cons (dLen_cons dLen_nil))))))) (pbd_one (psd_ret pd_bl)) pbd_nil)
  (pbd_forget [1, 7, 8, 5, 4] pbd_nil)))
  (pbd_cons (psd_asg 11 sc_law.nd (pv_v (pd_f (pf_lst (pad_cons (pd_var 4) (pad_cons (pd_var 5) (pad_cons (pd_var 7) (pad_cons (pd_var 8) (pad_cons (pd_str [97, 98, 99, 97, 98, 99, 97, 98, 99, 97, 98, 99] (by rfl) ⟨by decide, by decide⟩) pad_nil)))))))))
  (pbd_cons (psd_asg 12 sc_law.nd (pv_v (pd_ix (pd_f (pf_lst (pad_cons pd_non (pad_cons pd_int (pad_cons (pd_str [97, 98, 99, 100] (by rfl) ⟨by decide, by decide⟩) (pad_cons (pd_rep (pd_str [97] (by rfl) ⟨by decide, by decide⟩) pd_int) (pad_cons (pd_str [65] (by rfl) ⟨by decide, by decide⟩) (pad_cons (pd_str [32] (by rfl) ⟨by decide, by decide⟩) (pad_cons (pd_tup (pad_cons (pd_str [97] (by rfl) ⟨by decide, by decide⟩) pad_nil)) (pad_cons (pd_f (pf_lst (pad_cons (pd_str [97] (by rfl) ⟨by decide, by decide⟩) (pad_cons (pd_str [98] (by rfl) ⟨by decide, by decide⟩) pad_nil)))) (pad_cons (pd_str [97, 32, 98] (by rfl) ⟨by decide, by decide⟩) (pad_cons pd_bl pad_nil)))))))))))) (pd_call h__law_pick pc hr (by decide) (takes_of rfl rfl rfl rfl) (pad_cons (pd_var 1) (pad_cons pd_int pad_nil)) (dLen_cons (dLen_cons dLen_nil))))))
  (pbd_cons (psd_if (ptd_w (pwd_or (ptd_not (ptd_tr (pd_all rfl T.n_all (pad_cons (pd_f (pf_lc (own := [("one", 9)]) (sc := []) (sa := []) rfl sc_law.nd (pid_any (pd_var 11)) (blkOk_by (own := [("one", 9)]) (N := N_law) (sc := defScope s_law) (by decide +kernel)) (fun _ _ _ _ _ => (pgd_name 9 sc_law.nd)) (no_gN 9) (fun _ _ _ _ _ => ptsd_nil) (fun _ _ _ _ _ => (pd_c k_is (pd_call h_is_word pc hr (by decide) takes0 (pad_cons (pd_var 9) pad_nil) (dLen_cons dLen_nil)) pd_bl)))) pad_nil)))) (pwd_or1 (ptd_c k_isnot (pd_callk0 hk_is_word_0_thing pc hr (by decide) (takes_of rfl rfl rfl rfl) (pkd_cons (pd_var 12) pkd_nil) (dLen_cons dLen_nil)) pd_bl)))) (pbd_one (psd_ret pd_bl)) pbd_nil)
  (pbd_forget [12, 1, 5, 4] (pbd_cons (psd_for (passes_of rfl) rfl (pid_rng1 T.n_range (pad_cons pd_int pad_nil)) (pgd_name 13 sc_law.nd) (pbd_cons (psd_asg 14 sc_law.nd (pv_v (pd_f (pf_lst (pad_cons (pd_call h__law_refused pc hr (by decide) (takes_of rfl rfl rfl rfl) (pad_cons (pd_var 13) (pad_cons (pd_var 12) (pad_cons (pd_var 12) pad_nil))) (dLen_cons (dLen_cons (dLen_cons dLen_nil)))) (pad_cons (pd_call h__law_refused pc hr (by decide) (takes_of rfl rfl rfl rfl) (pad_cons (pd_var 13) (pad_cons (pd_var 12) (pad_cons (pd_var 4) pad_nil))) (dLen_cons (dLen_cons (dLen_cons dLen_nil)))) (pad_cons (pd_call h__law_refused pc hr (by decide) (takes_of rfl rfl rfl rfl) (pad_cons (pd_var 13) (pad_cons (pd_var 4) (pad_cons (pd_var 12) pad_nil))) (dLen_cons (dLen_cons (dLen_cons dLen_nil)))) (pad_cons (pd_call h__law_refused pc hr (by decide) (takes_of rfl rfl rfl rfl) (pad_cons (pd_var 13) (pad_cons (pd_var 4) (pad_cons (pd_var 5) pad_nil))) (dLen_cons (dLen_cons (dLen_cons dLen_nil)))) pad_nil))))))))
  (pbd_cons (psd_if (ptd_c (k_ne hr.units) (pd_var 14) (pd_f (pf_lst (pad_cons (pd_str [119, 111, 114, 100] (by rfl) ⟨by decide, by decide⟩) (pad_cons (pd_str [119, 111, 114, 100] (by rfl) ⟨by decide, by decide⟩) (pad_cons (pd_str [111, 116, 104, 101, 114] (by rfl) ⟨by decide, by decide⟩) (pad_cons (pd_str [110, 111, 110, 101] (by rfl) ⟨by decide, by decide⟩) pad_nil))))))) (pbd_one (psd_ret pd_bl)) pbd_nil)
  (pbd_forget [12, 1, 5, 4] pbd_nil))))
  (pbd_forget [1] pbd_nil)))))))))))))))))
  (pbd_one (psd_ret pd_bl)))
end
/-! the deck's two defs, by hand -/
section
variable {P : Program} {w : World} {K : PySem.W.Frag} {mg : Str → Option Value} {base : Heap}
theorem scPick : FnScope ["deck", "many", "cells", "cell", "found"] ["deck", "many"] (defScope s__law_pick) := ⟨rfl, rfl, rfl, by decide +kernel, rfl, by decide +kernel, by decide +kernel⟩
theorem ix2 {a b c : V} {i : Int} {v : V} (h : atI [a, b, c] i = some v) : atI [a, b, c] i = some v := h
theorem e60 : ((10 : Int) ^ (60 : Int).toNat) = 10 ^ 60 := rfl
theorem ok_pick {f : Addr} {fd : FuncData} (F : Fun K "_law_pick" "_law_pick" s__law_pick f fd) (hint : mg "int" = none) : FnOk P w K mg base (L2.CX P w) 1 f fd ["deck", "many"] spPick := by
  refine F.okX scPick (fun vs H Q E h => ?_) (fun cdv A outer s H vs Q E hr h => ?_)
  · obtain ⟨a0, c0, d, n, rfl, _⟩ := h
    rfl
  · obtain ⟨a0, c0, d, n, rfl, ok, ne, h0, hc, n0, n1, k⟩ := h
    have hu : (cxOf (L2.CX P w) P w K mg base ["deck", "many", "cells", "cell", "found"] "_law_pick" (defScope s__law_pick) f cdv A outer s H E).A.units + 64 < cLine := hr.units
    have pw : CPow 10 6 := ⟨by decide, by decide, by decide⟩
    have pw18 : CPow 10 18 := ⟨by decide, by decide, by decide⟩
    obtain ⟨tt, htt, hrd⟩ : ∃ tt, PSs (cxOf (L2.CX P w) P w K mg base ["deck", "many", "cells", "cell", "found"] "_law_pick" (defScope s__law_pick) f cdv A outer s H E) ((defBody s__law_pick).drop 2) tt ∧
        ∀ (H1 : Hp) (x : Option V), (∀ a, a ≠ a0 → a ≠ c0 → ∀ o, H a = some o → H1 a = some o) → H1 a0 = some (.lst [.ref c0, .int (pull d).dig, .int (pull d).mix]) → H1 c0 = some (.lst ((pull d).cells.map V.int)) →
          tt { nx := fun _ H' => Q .non H', rt := Q } [some (.ref a0), some (.int n), some (.ref c0), x, none] H1 := by
      refine ⟨_, pss_cons (ps_if (pt_cmpR op_ge (pe_ix ix_list (pv 0) pe_int (fun _ _ => rfl)) (pe_op op_pow pe_int pe_int) (nomark _))
        (pss_cons (ps_set (i := 4) scPick.nd rfl (Or.inl rfl) (pe_op op_mod (pe_callTy call_int1 rfl hint (by decide +kernel) (pa_cons (pe_ix ix_list (pv 0) pe_int (fun _ _ => rfl)) pa_nil)) (pv 1)))
        (pss_cons (ps_asg (pe_op op_fdiv (pe_ix ix_list (pv 0) pe_int (fun _ _ => rfl)) (pv 1)) (pg_sub (pv 0) pe_int set_list))
        (pss_one (ps_ret (pv 4))))) pss_nil)
        (pss_cons (ps_asg (pe_op op_mod (pe_callTy call_int1 rfl hint (by decide +kernel) (pa_cons (pe_op op_add (pe_op op_mul (pe_ix ix_list (pv 0) pe_int (fun _ _ => rfl)) pe_int) pe_int) pa_nil)) pe_int) (pg_sub (pv 0) pe_int set_list))
        (pss_one (ps_ret (pe_op op_mod (pe_callTy call_int1 rfl hint (by decide +kernel) (pa_cons (pe_op op_fdiv (pe_ix ix_list (pv 0) pe_int (fun _ _ => rfl)) pe_int) pa_nil)) (pv 1))))), ?_⟩
      intro H1 x kk g0 gc
      have c1 : atI [V.ref c0, V.int (pull d).dig, V.int (pull d).mix] 1 = some (V.int (pull d).dig) := rfl
      have c2 : atI [V.ref c0, V.int (pull d).dig, V.int (pull d).mix] 2 = some (V.int (pull d).mix) := rfl
      have ne' : c0 ≠ a0 := fun z => ne z.symm
      refine ⟨_, rfl, a0, _, 1, _, rfl, rfl, SqL.of g0, c1, 10, 6, rfl, rfl, pw, _, _, rfl, rfl, _, rfl, ?_⟩
      refine ite2 (fun h => ?_) (fun h => ?_)
      · have hd : (10 : Int) ^ 6 ≤ (pull d).dig := of_decide_eq_true h
        have ek : pickF d n = ((pull d).dig % n, { pull d with dig := (pull d).dig / n }) := by unfold pickF; rw [if_pos hd]
        rw [ek] at k
        refine ⟨_, rfl, a0, _, 1, _, rfl, rfl, SqL.of g0, c1, .inl ⟨_, rfl, _, rfl, _, _, rfl, rfl, n0, ?_⟩⟩
        refine ⟨_, rfl, a0, _, 1, _, rfl, rfl, SqL.of g0, c1, _, rfl, _, _, rfl, rfl, ⟨n0, n1⟩, _, rfl, a0, _, 1, 1, rfl, rfl, g0, rfl, _, rfl, ?_⟩
        refine k _ (fun a h1 h2 o e => by rw [upd_ne h1]; exact kk a h1 h2 o e) upd_same (by rw [upd_ne ne']; exact gc)
      · have hd : ¬ (10 : Int) ^ 6 ≤ (pull d).dig := fun z => h (decide_eq_true z)
        have ek : pickF d n = (((pull d).mix * 48271 + 11) % 2147483647 / 53 % n, { pull d with mix := ((pull d).mix * 48271 + 11) % 2147483647 }) := by unfold pickF; rw [if_neg hd]
        rw [ek] at k
        have pm := (pull_ok ok)
        have m0 := pm.m0
        have m1 := pm.m1
        refine ⟨_, rfl, a0, _, 2, _, rfl, rfl, SqL.of g0, c2, _, _, rfl, rfl, .inl ⟨by omega, by omega⟩, _, _, rfl, rfl, .inl ⟨_, rfl, _, _, rfl, rfl, (by show (0 : Int) < 2147483647; decide), _, rfl, a0, _, 2, 2, rfl, rfl, g0, rfl, ?_⟩⟩
        have g1 : (upd H1 a0 (.lst ([V.ref c0, V.int (pull d).dig, V.int (pull d).mix].set 2 (V.int (((pull d).mix * 48271 + 11) % 2147483647))))) a0 = some (.lst [V.ref c0, V.int (pull d).dig, V.int (((pull d).mix * 48271 + 11) % 2147483647)]) := upd_same
        have c3 : atI [V.ref c0, V.int (pull d).dig, V.int (((pull d).mix * 48271 + 11) % 2147483647)] 2 = some (V.int (((pull d).mix * 48271 + 11) % 2147483647)) := rfl
        refine ⟨_, rfl, a0, _, 2, _, rfl, rfl, SqL.of g1, c3, _, _, rfl, rfl, ⟨by decide, by decide⟩, .inl ⟨_, rfl, _, rfl, _, _, rfl, rfl, n0, ?_⟩⟩
        exact k _ (fun a h1 h2 o e => by rw [upd_ne h1]; exact kk a h1 h2 o e) upd_same (by rw [upd_ne ne']; exact gc)
    refine ⟨_, pss_cons (ps_set (i := 2) scPick.nd rfl (Or.inl rfl) (pe_ix ix_list (pv 0) pe_int (fun _ _ => rfl)))
      (pss_cons (ps_if (PW.pt (pw_and (pt_cmpR op_lt (pe_ix ix_list (pv 0) pe_int (fun _ _ => rfl)) (pe_op op_pow pe_int pe_int) (nomark _)) (pw_and1 (pt_cmpR (op_neD hu) (pv 2) (pe_lst pa_nil) (nomark _)))))
        (pss_cons (ps_set (i := 3) scPick.nd rfl (Or.inl rfl) (pe_bm PySem.F.plainAttrs_list PySem.F.slot_list_pop PySem.F.type_list_pop mt_popAt (pv 2) (pa_cons pe_int pa_nil)))
        (pss_one (ps_if (pt_cmpR op_ge (pv 3) (pe_op op_pow pe_int pe_int) (nomark _))
          (pss_one (ps_asg (pv 3) (pg_sub (pv 0) pe_int set_list)))
          (pss_one (ps_asg (pe_op op_mod (pe_callTy call_int1 rfl hint (by decide +kernel) (pa_cons (pe_op op_add (pe_op op_add (pe_op op_mul (pe_ix ix_list (pv 0) pe_int (fun _ _ => rfl)) pe_int) (pe_op op_mul (pe_op op_mod (pe_callTy call_int1 rfl hint (by decide +kernel) (pa_cons (pv 3) pa_nil)) pe_int) pe_int)) pe_int) pa_nil)) pe_int) (pg_sub (pv 0) pe_int set_list)))))) pss_nil)
      (by exact htt)), ?_⟩
    have c0' : atI [V.ref c0, V.int d.dig, V.int d.mix] 0 = some (V.ref c0) := rfl
    have c1 : atI [V.ref c0, V.int d.dig, V.int d.mix] 1 = some (V.int d.dig) := rfl
    have c2 : atI [V.ref c0, V.int d.dig, V.int d.mix] 2 = some (V.int d.mix) := rfl
    have ne' : c0 ≠ a0 := fun z => ne z.symm
    refine ⟨_, rfl, a0, _, 0, _, rfl, rfl, SqL.of h0, c0', ?_⟩
    refine ⟨_, rfl, a0, _, 1, _, rfl, rfl, SqL.of h0, c1, 10, 6, rfl, rfl, pw, _, _, rfl, rfl, _, rfl, ?_⟩
    refine ite2 (fun h => ?_) (fun h => ?_)
    rotate_left
    · have hd : ¬ d.dig < (10 : Int) ^ 6 := fun z => h (decide_eq_true z)
      have ep : pull d = d := by unfold pull; rw [if_neg hd]
      refine hrd H none (fun a _ _ o e => e) ?_ ?_
      · rw [ep]; exact h0
      · rw [ep]; exact hc
    have hd : d.dig < (10 : Int) ^ 6 := of_decide_eq_true h
    -- cells != []
    have dpc : ∀ H' : Hp, H' c0 = some (.lst (d.cells.map V.int)) → Dp K H' (.ref c0) (.list (d.cells.map PyData.int)) := fun H' e => .lst (.of e) (by
      have : ∀ l : List Int, DpAll K H' (l.map V.int) (l.map PyData.int) := by
        intro l
        induction l with
        | nil => exact .nil
        | cons x r ih => exact .cons (.int x) ih
      exact this _)
    have shp : SeqAt.shaped (.list (d.cells.map PyData.int)) = true := by
      have h1 : ∀ l : List Int, PyData.canLayAll0 (l.map PyData.int) = true ∧ PyData.depthAll (l.map PyData.int) = 0 := by
        intro l
        induction l with
        | nil => exact ⟨by simp [PyData.canLayAll0], by simp [PyData.depthAll]⟩
        | cons x r ih => exact ⟨by simp [PyData.canLayAll0, PyData.canLay0, ih.1], by simp [PyData.depthAll, PyData.depth, ih.2]⟩
      unfold SeqAt.shaped
      simp [PyData.canLay0, PyData.depth, h1]
    refine ⟨_, rfl, by show 0 ≤ sizeLine; exact Nat.zero_le _, fun p hp => ?_⟩
    have kc : (upd H p (.lst [])) c0 = some (.lst (d.cells.map V.int)) := by rw [upd_ne (ne_of_none hc hp)]; exact hc
    have k0 : (upd H p (.lst [])) a0 = some (.lst [V.ref c0, V.int d.dig, V.int d.mix]) := by rw [upd_ne (ne_of_none h0 hp)]; exact h0
    have ko : ∀ a, a ≠ a0 → a ≠ c0 → ∀ o, H a = some o → (upd H p (.lst [])) a = some o := fun a _ _ o e => by rw [upd_ne (ne_of_none e hp)]; exact e
    refine ⟨_, .list [], dpc _ kc, .lst (.of upd_same) .nil, shp, by decide +kernel, _, rfl, ?_⟩
    cases hcl : d.cells with
    | nil =>
      have ep : pull d = d := by unfold pull; rw [if_pos hd, hcl]
      refine if_false_of (by simp [PyData.eqv, PyData.eqvAll]) ?_
      refine hrd _ none ko ?_ ?_
      · rw [ep]; exact k0
      · rw [ep]; exact kc
    | cons c r =>
      refine if_true_of (by simp [PyData.eqv, PyData.eqvAll]) ?_
      rw [hcl] at kc
      have hcc := ok.cl c (by rw [hcl]; exact List.mem_cons_self)
      refine ⟨_, rfl, .inl ⟨rfl, _, SqL.of kc⟩, c0, _, 0, 0, _, rfl, rfl, kc, by decide, by decide, (PySem.seqIndex_of (by decide) (by simp)), rfl, ?_⟩
      have h0' : (upd (upd H p (.lst [])) c0 (.lst (((c :: r).map V.int).eraseIdx 0))) a0 = some (.lst [V.ref c0, V.int d.dig, V.int d.mix]) := by rw [upd_ne ne]; exact k0
      have hc' : (upd (upd H p (.lst [])) c0 (.lst (((c :: r).map V.int).eraseIdx 0))) c0 = some (.lst (r.map V.int)) := upd_same
      have ko' : ∀ a, a ≠ a0 → a ≠ c0 → ∀ o, H a = some o → (upd (upd H p (.lst [])) c0 (.lst (((c :: r).map V.int).eraseIdx 0))) a = some o := fun a h1 h2 o e => by rw [upd_ne h2]; exact ko a h1 h2 o e
      generalize (upd (upd H p (.lst [])) c0 (.lst (((c :: r).map V.int).eraseIdx 0))) = H2 at h0' hc' ko' ⊢
      refine ⟨_, rfl, 10, 18, rfl, rfl, pw18, _, _, rfl, rfl, _, rfl, ?_⟩
      refine ite2 (fun h => ?_) (fun h => ?_)
      · have hg : (10 : Int) ^ 18 ≤ c := of_decide_eq_true h
        have ep : pull d = { d with cells := r, dig := c } := by unfold pull; rw [if_pos hd, hcl]; dsimp only; rw [if_pos hg]
        refine ⟨_, rfl, _, rfl, a0, _, 1, 1, rfl, rfl, h0', rfl, ?_⟩
        refine hrd _ (some (.int c)) (fun a h1 h2 o e => by rw [upd_ne h1]; exact ko' a h1 h2 o e) ?_ ?_
        · rw [ep]; exact upd_same
        · rw [ep, upd_ne ne']; exact hc'
      · have hg : ¬ (10 : Int) ^ 18 ≤ c := fun z => h (decide_eq_true z)
        have ep : pull d = { d with cells := r, mix := (d.mix * 69621 + c % 2147483563 * 40014 + 3) % 2147483563 } := by unfold pull; rw [if_pos hd, hcl]; dsimp only; rw [if_neg hg]
        have m0 := ok.m0
        have m1 := ok.m1
        have q0 := Int.emod_nonneg c (b := 2147483563) (by omega)
        have q1 := Int.emod_lt_of_pos c (b := 2147483563) (by omega)
        refine ⟨_, rfl, a0, _, 2, _, rfl, rfl, SqL.of h0', c2, _, _, rfl, rfl, .inl ⟨by omega, by omega⟩, _, rfl, .inl ⟨_, rfl, _, _, rfl, rfl, (by show (0 : Int) < 2147483563; decide), _, _, rfl, rfl, .inl ⟨by omega, by omega⟩, _, _, rfl, rfl, _, _, rfl, rfl, .inl ⟨_, rfl, _, _, rfl, rfl, (by show (0 : Int) < 2147483563; decide), _, rfl, a0, _, 2, 2, rfl, rfl, h0', rfl, ?_⟩⟩⟩
        refine hrd _ (some (.int c)) (fun a h1 h2 o e => by rw [upd_ne h1]; exact ko' a h1 h2 o e) ?_ ?_
        · rw [ep]; exact upd_same
        · rw [ep, upd_ne ne']; exact hc'

theorem scDeck : FnScope ["script", "cell"] ["script"] (defScope s__law_deck) := ⟨rfl, rfl, rfl, by decide +kernel, rfl, by decide +kernel, by decide +kernel⟩
theorem cut63 {ns : List Int} (h : ns.length ≤ 63) : cutV (ns.map V.int) none (some 63) = ns.map V.int := by
  unfold cutV
  have e : HT.sIx (ns.map V.int).length (ns.map V.int).length (some 63) = ns.length := by
    rw [show (63 : Int) = ((63 : Nat) : Int) from rfl, HT.sIx_nat, List.length_map]
    omega
  rw [e]
  show ((ns.map V.int).drop 0).take (ns.length - 0) = _
  rw [List.drop_zero, Nat.sub_zero, List.take_of_length_le (by rw [List.length_map]; exact Nat.le_refl _)]
theorem ok_deck {f : Addr} {fd : FuncData} (F : Fun K "_law_deck" "_law_deck" s__law_deck f fd) (hint : mg "int" = none) : FnOk P w K mg base (L2.CX P w) 1 f fd ["script"] (spDeck K) := by
  refine F.okX scDeck (fun vs H Q E h => ?_) (fun cdv A outer s H vs Q E hr h => ?_)
  · obtain ⟨a, ns, rfl, _⟩ := h
    rfl
  · obtain ⟨a, ns, rfl, hS, hl, k⟩ := h
    have pw : CPow 10 60 := ⟨by decide, by decide, by decide⟩
    refine ⟨_, pss_one (ps_ret (pe_lst (pa_cons (pe_lc (own := [("cell", 1)]) (g := gName 1) (tt := tYes) rfl scDeck.nd (pi_list (pe_slice sl_list (pv 0) po_none (po_some pe_int))) (blkOk_by (N := ["script", "cell"]) (sc := defScope s__law_deck) (by decide +kernel))
      (fun _ _ _ _ _ => pg_name (i := 1) scDeck.nd rfl (Or.inl rfl)) (fun _ _ _ _ _ => pts_nil) (fun _ _ _ _ _ => pe_op op_mod (pe_callTy call_int1 rfl hint (by decide +kernel) (pa_cons (pv 1) pa_nil)) (pe_op op_pow pe_int pe_int))) (pa_cons pe_int (pa_cons pe_int pa_nil))))), ?_⟩
    refine ⟨_, rfl, 63, rfl, a, _, rfl, hS, fun q hq => ⟨q, rfl, ⟨_, SqL.of upd_same⟩, fun D hD => ?_⟩⟩
    rw [cut63 hl] at hD ⊢
    have hqD : q ≠ D := ne_of_none (H := upd H q (.lst (ns.map V.int))) upd_same hD
    have nD : H D = none := by
      rw [upd_ne (Ne.symm hqD)] at hD; exact hD
    refine lc_list (K := K) (a := q) (xs := ns.map V.int) (fun i H' => H' = upd (upd H q (.lst (ns.map V.int))) D (.lst (((ns.take i).map fun n => n % 10 ^ 60).map V.int))) rfl (fun i H' _ e => ?_) (fun i x H' hi e => ?_) (fun H' e => ?_)
    · subst e
      exact SqL.of (by rw [upd_ne hqD]; exact upd_same)
    · subst e
      rw [List.getElem?_map] at hi
      obtain ⟨z, hz, rfl⟩ := Option.map_eq_some_iff.mp hi
      have hlt : i < ns.length := (List.getElem?_eq_some_iff.mp hz).1
      refine ⟨rfl, _, rfl, .inl ⟨_, rfl, 10, 60, rfl, rfl, pw, _, _, rfl, rfl, (by show (0 : Int) < 10 ^ 60; decide), _, upd_same, ?_, ?_⟩⟩
      · rw [List.length_map, List.length_map, List.length_take, line_eq]; omega
      · show upd (upd (upd H q (.lst (ns.map V.int))) D (.lst (((ns.take i).map fun n => n % 10 ^ 60).map V.int))) D _ = _
        rw [upd_upd]
        have e2 : ns.take (i + 1) = ns.take i ++ [z] := by
          rw [List.take_add_one, hz]; rfl
        rw [e2, List.map_append, List.map_append]
        rfl
    · subst e
      rw [List.length_map, List.take_length]
      refine ⟨by show 3 ≤ sizeLine; decide, fun p hp => ?_⟩
      have npD : p ≠ D := fun z => by rw [z, upd_same] at hp; cases hp
      have npq : p ≠ q := fun z => by rw [z, upd_ne hqD, upd_same] at hp; cases hp
      have np : H p = none := by rw [upd_ne npD, upd_ne npq] at hp; exact hp
      refine k _ D p ⟨ns.map fun n => n % 10 ^ 60, 0, 6151⟩ (fun b o e => ?_) nD np npD ⟨by simpa using hl, fun x hx => ?_, (by show (0 : Int) ≤ 0; decide), (by show (0 : Int) < 10 ^ 60; decide), (by show (0 : Int) ≤ 6151; decide), (by show (6151 : Int) < 2147483647; decide)⟩ upd_same (by rw [upd_ne (Ne.symm npD)]; exact upd_same)
      · rw [upd_ne (ne_of_none e np), upd_ne (ne_of_none e nD), upd_ne (ne_of_none e hq)]; exact e
      · obtain ⟨n, _, rfl⟩ := List.mem_map.mp hx
        exact ⟨Int.emod_nonneg _ (by decide), Int.emod_lt_of_pos _ (by decide)⟩
end

theorem all_mk {l : PySem.W.OpenLaw} {w : World} {K : PySem.W.Frag} {h : Heap} {mg : Str → Option Value} {fa : Addr} (X : K.In h) (G : h.Ns mainGlobals mg) (hfa : mg "law" = some (.ref fa))
    {f0 : Addr} {oc0 : Value} {od0 an0 : Option Addr} {kV0 dc0 pm0 cd0 ct0 : Value} {sl0 : Array (Option Value)}
    {f1 : Addr} {oc1 : Value} {od1 an1 : Option Addr} {kV1 dc1 pm1 cd1 ct1 : Value} {sl1 : Array (Option Value)}
    {f2 : Addr} {oc2 : Value} {od2 an2 : Option Addr} {kV2 dc2 pm2 cd2 ct2 : Value} {sl2 : Array (Option Value)}
    {f3 : Addr} {oc3 : Value} {od3 an3 : Option Addr} {kV3 dc3 pm3 cd3 ct3 : Value} {sl3 : Array (Option Value)}
    {f4 : Addr} {oc4 : Value} {od4 an4 : Option Addr} {kV4 dc4 pm4 cd4 ct4 : Value} {sl4 : Array (Option Value)}
    {f5 : Addr} {oc5 : Value} {od5 an5 : Option Addr} {kV5 dc5 pm5 cd5 ct5 : Value} {sl5 : Array (Option Value)}
    {f6 : Addr} {oc6 : Value} {od6 an6 : Option Addr} {kV6 dc6 pm6 cd6 ct6 : Value} {sl6 : Array (Option Value)}
    {f7 : Addr} {oc7 : Value} {od7 an7 : Option Addr} {kV7 dc7 pm7 cd7 ct7 : Value} {sl7 : Array (Option Value)}
    {f8 : Addr} {oc8 : Value} {od8 an8 : Option Addr} {kV8 dc8 pm8 cd8 ct8 : Value} {sl8 : Array (Option Value)}
    {f9 : Addr} {oc9 : Value} {od9 an9 : Option Addr} {kV9 dc9 pm9 cd9 ct9 : Value} {sl9 : Array (Option Value)}
    {f10 : Addr} {oc10 : Value} {od10 an10 : Option Addr} {kV10 dc10 pm10 cd10 ct10 : Value} {sl10 : Array (Option Value)}
    {f11 : Addr} {oc11 : Value} {od11 an11 : Option Addr} {kV11 dc11 pm11 cd11 ct11 : Value} {sl11 : Array (Option Value)}
    {f12 : Addr} {oc12 : Value} {od12 an12 : Option Addr} {kV12 dc12 pm12 cd12 ct12 : Value} {sl12 : Array (Option Value)}
    {f13 : Addr} {oc13 : Value} {od13 an13 : Option Addr} {kV13 dc13 pm13 cd13 ct13 : Value} {sl13 : Array (Option Value)}
    {f14 : Addr} {oc14 : Value} {od14 an14 : Option Addr} {kV14 dc14 pm14 cd14 ct14 : Value} {sl14 : Array (Option Value)}
    {f15 : Addr} {oc15 : Value} {od15 an15 : Option Addr} {kV15 dc15 pm15 cd15 ct15 : Value} {sl15 : Array (Option Value)}
    {f16 : Addr} {oc16 : Value} {od16 an16 : Option Addr} {kV16 dc16 pm16 cd16 ct16 : Value} {sl16 : Array (Option Value)}
    {f17 : Addr} {oc17 : Value} {od17 an17 : Option Addr} {kV17 dc17 pm17 cd17 ct17 : Value} {sl17 : Array (Option Value)}
    {f18 : Addr} {oc18 : Value} {od18 an18 : Option Addr} {kV18 dc18 pm18 cd18 ct18 : Value} {sl18 : Array (Option Value)}
    {f19 : Addr} {oc19 : Value} {od19 an19 : Option Addr} {kV19 dc19 pm19 cd19 ct19 : Value} {sl19 : Array (Option Value)}
    {f20 : Addr} {oc20 : Value} {od20 an20 : Option Addr} {kV20 dc20 pm20 cd20 ct20 : Value} {sl20 : Array (Option Value)}
    {f21 : Addr} {oc21 : Value} {od21 an21 : Option Addr} {kV21 dc21 pm21 cd21 ct21 : Value} {sl21 : Array (Option Value)}
    {f22 : Addr} {oc22 : Value} {od22 an22 : Option Addr} {kV22 dc22 pm22 cd22 ct22 : Value} {sl22 : Array (Option Value)}
    {f23 : Addr} {oc23 : Value} {od23 an23 : Option Addr} {kV23 dc23 pm23 cd23 ct23 : Value} {sl23 : Array (Option Value)}
    {f24 : Addr} {oc24 : Value} {od24 an24 : Option Addr} {kV24 dc24 pm24 cd24 ct24 : Value} {sl24 : Array (Option Value)}
    {f25 : Addr} {oc25 : Value} {od25 an25 : Option Addr} {kV25 dc25 pm25 cd25 ct25 : Value} {sl25 : Array (Option Value)}
    {f26 : Addr} {oc26 : Value} {od26 an26 : Option Addr} {kV26 dc26 pm26 cd26 ct26 : Value} {sl26 : Array (Option Value)}
    {f27 : Addr} {oc27 : Value} {od27 an27 : Option Addr} {kV27 dc27 pm27 cd27 ct27 : Value} {sl27 : Array (Option Value)}
    {cv0 : Value}
    {e0 : Addr}
    {e1 : Addr}
    (a0 : PySem.W.nsIn K mainGlobals "_law_deck" = some (some (.ref f0))) (l0 : K.lookup f0 = some ⟨oc0, od0, .func (PySem.W.fnOf "_law_deck" "_law_deck" (defArgs s__law_deck) (defBody s__law_deck) (defScope s__law_deck) .none kV0 dc0 pm0 an0 cd0 ct0), sl0⟩) (c0 : PySem.W.codeIn K cd0 "_law_deck" = true) (k0 : PySem.W.keepIn K (.ref f0) = true)
    (a1 : PySem.W.nsIn K mainGlobals "_law_pick" = some (some (.ref f1))) (l1 : K.lookup f1 = some ⟨oc1, od1, .func (PySem.W.fnOf "_law_pick" "_law_pick" (defArgs s__law_pick) (defBody s__law_pick) (defScope s__law_pick) .none kV1 dc1 pm1 an1 cd1 ct1), sl1⟩) (c1 : PySem.W.codeIn K cd1 "_law_pick" = true) (k1 : PySem.W.keepIn K (.ref f1) = true)
    (a2 : PySem.W.nsIn K mainGlobals "_law_word" = some (some (.ref f2))) (l2 : K.lookup f2 = some ⟨oc2, od2, .func (PySem.W.fnOf "_law_word" "_law_word" (defArgs s__law_word) (defBody s__law_word) (defScope s__law_word) .none kV2 dc2 pm2 an2 cd2 ct2), sl2⟩) (c2 : PySem.W.codeIn K cd2 "_law_word" = true) (k2 : PySem.W.keepIn K (.ref f2) = true)
    (a3 : PySem.W.nsIn K mainGlobals "_law_all" = some (some (.ref f3))) (l3 : K.lookup f3 = some ⟨oc3, od3, .func (PySem.W.fnOf "_law_all" "_law_all" (defArgs s__law_all) (defBody s__law_all) (defScope s__law_all) .none kV3 dc3 pm3 an3 cd3 ct3), sl3⟩) (c3 : PySem.W.codeIn K cd3 "_law_all" = true) (k3 : PySem.W.keepIn K (.ref f3) = true)
    (a4 : PySem.W.nsIn K mainGlobals "_law_left" = some (some (.ref f4))) (l4 : K.lookup f4 = some ⟨oc4, od4, .func (PySem.W.fnOf "_law_left" "_law_left" (defArgs s__law_left) (defBody s__law_left) (defScope s__law_left) .none kV4 dc4 pm4 an4 cd4 ct4), sl4⟩) (c4 : PySem.W.codeIn K cd4 "_law_left" = true) (k4 : PySem.W.keepIn K (.ref f4) = true)
    (a5 : PySem.W.nsIn K mainGlobals "_law_ways" = some (some (.ref f5))) (l5 : K.lookup f5 = some ⟨oc5, od5, .func (PySem.W.fnOf "_law_ways" "_law_ways" (defArgs s__law_ways) (defBody s__law_ways) (defScope s__law_ways) .none kV5 dc5 pm5 an5 cd5 ct5), sl5⟩) (c5 : PySem.W.codeIn K cd5 "_law_ways" = true) (k5 : PySem.W.keepIn K (.ref f5) = true)
    (a6 : PySem.W.nsIn K mainGlobals "is_word_of" = some (some (.ref f6))) (l6 : K.lookup f6 = some ⟨oc6, od6, .func (PySem.W.fnOf "is_word_of" "is_word_of" (defArgs s_is_word_of) (defBody s_is_word_of) (defScope s_is_word_of) .none kV6 dc6 pm6 an6 cd6 ct6), sl6⟩) (c6 : PySem.W.codeIn K cd6 "is_word_of" = true) (k6 : PySem.W.keepIn K (.ref f6) = true)
    (a7 : PySem.W.nsIn K mainGlobals "is_word" = some (some (.ref f7))) (l7 : K.lookup f7 = some ⟨oc7, od7, .func (PySem.W.fnOf "is_word" "is_word" (defArgs s_is_word) (defBody s_is_word) (defScope s_is_word) .none kV7 dc7 pm7 an7 cd7 ct7), sl7⟩) (c7 : PySem.W.codeIn K cd7 "is_word" = true) (k7 : PySem.W.keepIn K (.ref f7) = true)
    (a8 : PySem.W.nsIn K mainGlobals "need_word" = some (some (.ref f8))) (l8 : K.lookup f8 = some ⟨oc8, od8, .func (PySem.W.fnOf "need_word" "need_word" (defArgs s_need_word) (defBody s_need_word) (defScope s_need_word) .none kV8 dc8 pm8 an8 cd8 ct8), sl8⟩) (c8 : PySem.W.codeIn K cd8 "need_word" = true) (k8 : PySem.W.keepIn K (.ref f8) = true)
    (a9 : PySem.W.nsIn K mainGlobals "need_words" = some (some (.ref f9))) (l9 : K.lookup f9 = some ⟨oc9, od9, .func (PySem.W.fnOf "need_words" "need_words" (defArgs s_need_words) (defBody s_need_words) (defScope s_need_words) .none kV9 dc9 pm9 an9 cd9 ct9), sl9⟩) (c9 : PySem.W.codeIn K cd9 "need_words" = true) (k9 : PySem.W.keepIn K (.ref f9) = true)
    (a10 : PySem.W.nsIn K mainGlobals "leftmost_in" = some (some (.ref f10))) (l10 : K.lookup f10 = some ⟨oc10, od10, .func (PySem.W.fnOf "leftmost_in" "leftmost_in" (defArgs s_leftmost_in) (defBody s_leftmost_in) (defScope s_leftmost_in) .none kV10 dc10 pm10 an10 cd10 ct10), sl10⟩) (c10 : PySem.W.codeIn K cd10 "leftmost_in" = true) (k10 : PySem.W.keepIn K (.ref f10) = true)
    (a11 : PySem.W.nsIn K mainGlobals "leftmost_places" = some (some (.ref f11))) (l11 : K.lookup f11 = some ⟨oc11, od11, .func (PySem.W.fnOf "leftmost_places" "leftmost_places" (defArgs s_leftmost_places) (defBody s_leftmost_places) (defScope s_leftmost_places) .none kV11 dc11 pm11 an11 cd11 ct11), sl11⟩) (c11 : PySem.W.codeIn K cd11 "leftmost_places" = true) (k11 : PySem.W.keepIn K (.ref f11) = true)
    (a12 : PySem.W.nsIn K mainGlobals "rightmost_in" = some (some (.ref f12))) (l12 : K.lookup f12 = some ⟨oc12, od12, .func (PySem.W.fnOf "rightmost_in" "rightmost_in" (defArgs s_rightmost_in) (defBody s_rightmost_in) (defScope s_rightmost_in) .none kV12 dc12 pm12 an12 cd12 ct12), sl12⟩) (c12 : PySem.W.codeIn K cd12 "rightmost_in" = true) (k12 : PySem.W.keepIn K (.ref f12) = true)
    (a13 : PySem.W.nsIn K mainGlobals "rightmost_places" = some (some (.ref f13))) (l13 : K.lookup f13 = some ⟨oc13, od13, .func (PySem.W.fnOf "rightmost_places" "rightmost_places" (defArgs s_rightmost_places) (defBody s_rightmost_places) (defScope s_rightmost_places) .none kV13 dc13 pm13 an13 cd13 ct13), sl13⟩) (c13 : PySem.W.codeIn K cd13 "rightmost_places" = true) (k13 : PySem.W.keepIn K (.ref f13) = true)
    (a14 : PySem.W.nsIn K mainGlobals "_law_right" = some (some (.ref f14))) (l14 : K.lookup f14 = some ⟨oc14, od14, .func (PySem.W.fnOf "_law_right" "_law_right" (defArgs s__law_right) (defBody s__law_right) (defScope s__law_right) .none kV14 dc14 pm14 an14 cd14 ct14), sl14⟩) (c14 : PySem.W.codeIn K cd14 "_law_right" = true) (k14 : PySem.W.keepIn K (.ref f14) = true)
    (a15 : PySem.W.nsIn K mainGlobals "_law_same" = some (some (.ref f15))) (l15 : K.lookup f15 = some ⟨oc15, od15, .func (PySem.W.fnOf "_law_same" "_law_same" (defArgs s__law_same) (defBody s__law_same) (defScope s__law_same) .none kV15 dc15 pm15 an15 cd15 ct15), sl15⟩) (c15 : PySem.W.codeIn K cd15 "_law_same" = true) (k15 : PySem.W.keepIn K (.ref f15) = true)
    (a16 : PySem.W.nsIn K mainGlobals "lies_in" = some (some (.ref f16))) (l16 : K.lookup f16 = some ⟨oc16, od16, .func (PySem.W.fnOf "lies_in" "lies_in" (defArgs s_lies_in) (defBody s_lies_in) (defScope s_lies_in) .none kV16 dc16 pm16 an16 cd16 ct16), sl16⟩) (c16 : PySem.W.codeIn K cd16 "lies_in" = true) (k16 : PySem.W.keepIn K (.ref f16) = true)
    (a17 : PySem.W.nsIn K mainGlobals "is_subword" = some (some (.ref f17))) (l17 : K.lookup f17 = some ⟨oc17, od17, .func (PySem.W.fnOf "is_subword" "is_subword" (defArgs s_is_subword) (defBody s_is_subword) (defScope s_is_subword) .none kV17 dc17 pm17 an17 cd17 ct17), sl17⟩) (c17 : PySem.W.codeIn K cd17 "is_subword" = true) (k17 : PySem.W.keepIn K (.ref f17) = true)
    (a18 : PySem.W.nsIn K mainGlobals "ways_in" = some (some (.ref f18))) (l18 : K.lookup f18 = some ⟨oc18, od18, .func (PySem.W.fnOf "ways_in" "ways_in" (defArgs s_ways_in) (defBody s_ways_in) (defScope s_ways_in) .none kV18 dc18 pm18 an18 cd18 ct18), sl18⟩) (c18 : PySem.W.codeIn K cd18 "ways_in" = true) (k18 : PySem.W.keepIn K (.ref f18) = true)
    (a19 : PySem.W.nsIn K mainGlobals "rest_before" = some (some (.ref f19))) (l19 : K.lookup f19 = some ⟨oc19, od19, .func (PySem.W.fnOf "rest_before" "rest_before" (defArgs s_rest_before) (defBody s_rest_before) (defScope s_rest_before) .none kV19 dc19 pm19 an19 cd19 ct19), sl19⟩) (c19 : PySem.W.codeIn K cd19 "rest_before" = true) (k19 : PySem.W.keepIn K (.ref f19) = true)
    (a20 : PySem.W.nsIn K mainGlobals "rest_behind" = some (some (.ref f20))) (l20 : K.lookup f20 = some ⟨oc20, od20, .func (PySem.W.fnOf "rest_behind" "rest_behind" (defArgs s_rest_behind) (defBody s_rest_behind) (defScope s_rest_behind) .none kV20 dc20 pm20 an20 cd20 ct20), sl20⟩) (c20 : PySem.W.codeIn K cd20 "rest_behind" = true) (k20 : PySem.W.keepIn K (.ref f20) = true)
    (a21 : PySem.W.nsIn K mainGlobals "_law_near" = some (some (.ref f21))) (l21 : K.lookup f21 = some ⟨oc21, od21, .func (PySem.W.fnOf "_law_near" "_law_near" (defArgs s__law_near) (defBody s__law_near) (defScope s__law_near) .none kV21 dc21 pm21 an21 cd21 ct21), sl21⟩) (c21 : PySem.W.codeIn K cd21 "_law_near" = true) (k21 : PySem.W.keepIn K (.ref f21) = true)
    (a22 : PySem.W.nsIn K mainGlobals "_law_is_int" = some (some (.ref f22))) (l22 : K.lookup f22 = some ⟨oc22, od22, .func (PySem.W.fnOf "_law_is_int" "_law_is_int" (defArgs s__law_is_int) (defBody s__law_is_int) (defScope s__law_is_int) .none kV22 dc22 pm22 an22 cd22 ct22), sl22⟩) (c22 : PySem.W.codeIn K cd22 "_law_is_int" = true) (k22 : PySem.W.keepIn K (.ref f22) = true)
    (a23 : PySem.W.nsIn K mainGlobals "_law_judge" = some (some (.ref f23))) (l23 : K.lookup f23 = some ⟨oc23, od23, .func (PySem.W.fnOf "_law_judge" "_law_judge" (defArgs s__law_judge) (defBody s__law_judge) (defScope s__law_judge) .none kV23 dc23 pm23 an23 cd23 ct23), sl23⟩) (c23 : PySem.W.codeIn K cd23 "_law_judge" = true) (k23 : PySem.W.keepIn K (.ref f23) = true)
    (a24 : PySem.W.nsIn K mainGlobals "is_embedding" = some (some (.ref f24))) (l24 : K.lookup f24 = some ⟨oc24, od24, .func (PySem.W.fnOf "is_embedding" "is_embedding" (defArgs s_is_embedding) (defBody s_is_embedding) (defScope s_is_embedding) .none kV24 dc24 pm24 an24 cd24 ct24), sl24⟩) (c24 : PySem.W.codeIn K cd24 "is_embedding" = true) (k24 : PySem.W.keepIn K (.ref f24) = true)
    (a25 : PySem.W.nsIn K mainGlobals "_law_told_right" = some (some (.ref f25))) (l25 : K.lookup f25 = some ⟨oc25, od25, .func (PySem.W.fnOf "_law_told_right" "_law_told_right" (defArgs s__law_told_right) (defBody s__law_told_right) (defScope s__law_told_right) .none kV25 dc25 pm25 an25 cd25 ct25), sl25⟩) (c25 : PySem.W.codeIn K cd25 "_law_told_right" = true) (k25 : PySem.W.keepIn K (.ref f25) = true)
    (a26 : PySem.W.nsIn K mainGlobals "_law_refused" = some (some (.ref f26))) (l26 : K.lookup f26 = some ⟨oc26, od26, .func (PySem.W.fnOf "_law_refused" "_law_refused" (defArgs s__law_refused) (defBody s__law_refused) (defScope s__law_refused) .none kV26 dc26 pm26 an26 cd26 ct26), sl26⟩) (c26 : PySem.W.codeIn K cd26 "_law_refused" = true) (k26 : PySem.W.keepIn K (.ref f26) = true)
    (a27 : PySem.W.nsIn K mainGlobals "law" = some (some (.ref f27))) (l27 : K.lookup f27 = some ⟨oc27, od27, .func (PySem.W.fnOf "law" "law" (defArgs s_law) (defBody s_law) (defScope s_law) .none kV27 dc27 pm27 an27 cd27 ct27), sl27⟩) (c27 : PySem.W.codeIn K cd27 "law" = true) (k27 : PySem.W.keepIn K (.ref f27) = true)
    (z0 : PySem.W.nsIn K mainGlobals "all" = some none)
    (z1 : PySem.W.nsIn K mainGlobals "bool" = some none)
    (z2 : PySem.W.nsIn K mainGlobals "int" = some none)
    (z3 : PySem.W.nsIn K mainGlobals "isinstance" = some none)
    (z4 : PySem.W.nsIn K mainGlobals "len" = some none)
    (z5 : PySem.W.nsIn K mainGlobals "list" = some none)
    (z6 : PySem.W.nsIn K mainGlobals "max" = some none)
    (z7 : PySem.W.nsIn K mainGlobals "min" = some none)
    (z8 : PySem.W.nsIn K mainGlobals "range" = some none)
    (z9 : PySem.W.nsIn K mainGlobals "reversed" = some none)
    (z10 : PySem.W.nsIn K mainGlobals "str" = some none)
    (z11 : PySem.W.nsIn K mainGlobals "tuple" = some none)
    (z12 : PySem.W.nsIn K mainGlobals "zip" = some none)
    (vs0 : PySem.W.nsIn K mainGlobals "ALPHABET" = some (some cv0)) (vt0 : ∃ t, cv0 = .str "abc" t)
    (v1 : ∃ t, PySem.W.nsIn K mainGlobals "MOST_LETTERS" = some (some (.int 12 t)))
    (ea0 : PySem.W.nsIn K mainGlobals "BadOther" = some (some (.ref e0))) (ex0 : PySem.W.excIn K e0 [.type "ValueError", .type "Exception", .type "BaseException", .type "object"] "ValueError.__new__" = true) (ek0 : PySem.W.keepIn K (.ref e0) = true) (eb0 : PySem.W.subIn K (.ref e0) (.type "BaseException") = some true) (et0 : PySem.W.typeIn K (.ref e0) = some (.type "type")) (ei0 : PySem.W.isClsIn K e0 = true)
    (ea1 : PySem.W.nsIn K mainGlobals "BadWord" = some (some (.ref e1))) (ex1 : PySem.W.excIn K e1 [.type "ValueError", .type "Exception", .type "BaseException", .type "object"] "ValueError.__new__" = true) (ek1 : PySem.W.keepIn K (.ref e1) = true) (eb1 : PySem.W.subIn K (.ref e1) (.type "BaseException") = some true) (et1 : PySem.W.typeIn K (.ref e1) = some (.type "type")) (ei1 : PySem.W.isClsIn K e1 = true)
    (su0_0 : PySem.W.subIn K (.ref e0) (.ref e0) = some true)
    (su0_1 : PySem.W.subIn K (.ref e0) (.ref e1) = some false)
    (su1_0 : PySem.W.subIn K (.ref e1) (.ref e0) = some false)
    (su1_1 : PySem.W.subIn K (.ref e1) (.ref e1) = some true) :
    ∃ fd : FuncData, (∀ (s : Shared) (v : Value), BindsTo s fd ⟨[v], []⟩ [("script", v)]) ∧ ∀ base : Heap, K.In base → base.Ns mainGlobals mg → FnOk l.prog w K mg base (L2.CX l.prog w) 7 fa fd ["script"] (spLaw K) := by
  have e := hfa.symm.trans (PySem.W.mg_of X G a27)
  cases e
  have E0 : ErrOk K mg "BadOther" e0 := ⟨PySem.W.mg_of X G ea0, ex0, ek0, eb0, et0, ei0⟩
  have E1 : ErrOk K mg "BadWord" e1 := ⟨PySem.W.mg_of X G ea1, ex1, ek1, eb1, et1, ei1⟩
  have T : Txt K mg := ⟨PySem.W.mg_none_of X G z0, PySem.W.mg_none_of X G z1, PySem.W.mg_none_of X G z2, PySem.W.mg_none_of X G z3, PySem.W.mg_none_of X G z4, PySem.W.mg_none_of X G z5, PySem.W.mg_none_of X G z6, PySem.W.mg_none_of X G z7, PySem.W.mg_none_of X G z8, PySem.W.mg_none_of X G z9, PySem.W.mg_none_of X G z10, PySem.W.mg_none_of X G z11, PySem.W.mg_none_of X G z12, (by obtain ⟨t, e⟩ := vt0; subst e; exact ⟨t, PySem.W.mg_of X G vs0⟩), (by obtain ⟨t, e⟩ := v1; exact ⟨t, PySem.W.mg_of X G e⟩), ⟨e0, E0⟩, ⟨e1, E1⟩, subT_ok (all_cons ⟨e0, e0, E0.g, E0.g, exm_pair E0 su0_0⟩ (all_cons ⟨e0, e1, E0.g, E1.g, exm_pair E1 su0_1⟩ (all_cons ⟨e1, e0, E1.g, E0.g, exm_pair E0 su1_0⟩ (all_cons ⟨e1, e1, E1.g, E1.g, exm_pair E1 su1_1⟩ all_nil))))⟩
  have F0 := fun_mk (st := s__law_deck) l0 c0 k0
  have b0 := F0.binds (ps := ["script"]) fun _ _ _ _ _ _ us hl => match us, hl with | [_], _ => rfl
  have m0 := PySem.W.mg_of X G a0
  have F1 := fun_mk (st := s__law_pick) l1 c1 k1
  have b1 := F1.binds (ps := ["deck", "many"]) fun _ _ _ _ _ _ us hl => match us, hl with | [_, _], _ => rfl
  have m1 := PySem.W.mg_of X G a1
  have F2 := fun_mk (st := s__law_word) l2 c2 k2
  have b2 := F2.binds (ps := ["deck", "letters", "most"]) fun _ _ _ _ _ _ us hl => match us, hl with | [_, _, _], _ => rfl
  have m2 := PySem.W.mg_of X G a2
  have F3 := fun_mk (st := s__law_all) l3 c3 k3
  have b3 := F3.binds (ps := ["word", "other"]) fun _ _ _ _ _ _ us hl => match us, hl with | [_, _], _ => rfl
  have m3 := PySem.W.mg_of X G a3
  have F4 := fun_mk (st := s__law_left) l4 c4 k4
  have b4 := F4.binds (ps := ["word", "other"]) fun _ _ _ _ _ _ us hl => match us, hl with | [_, _], _ => rfl
  have m4 := PySem.W.mg_of X G a4
  have F5 := fun_mk (st := s__law_ways) l5 c5 k5
  have b5 := F5.binds (ps := ["word", "other"]) fun _ _ _ _ _ _ us hl => match us, hl with | [_, _], _ => rfl
  have m5 := PySem.W.mg_of X G a5
  have F6 := fun_mk (st := s_is_word_of) l6 c6 k6
  have b6 := F6.binds (ps := ["letters", "thing", "most"]) fun _ _ _ _ _ _ us hl => match us, hl with | [_, _, _], _ => rfl
  have m6 := PySem.W.mg_of X G a6
  have F7 := fun_mk (st := s_is_word) l7 c7 k7
  have b7 := F7.binds (ps := ["thing"]) fun _ _ _ _ _ _ us hl => match us, hl with | [_], _ => rfl
  have m7 := PySem.W.mg_of X G a7
  have F8 := fun_mk (st := s_need_word) l8 c8 k8
  have b8 := F8.binds (ps := ["word"]) fun _ _ _ _ _ _ us hl => match us, hl with | [_], _ => rfl
  have m8 := PySem.W.mg_of X G a8
  have F9 := fun_mk (st := s_need_words) l9 c9 k9
  have b9 := F9.binds (ps := ["word", "other"]) fun _ _ _ _ _ _ us hl => match us, hl with | [_, _], _ => rfl
  have m9 := PySem.W.mg_of X G a9
  have F10 := fun_mk (st := s_leftmost_in) l10 c10 k10
  have b10 := F10.binds (ps := ["word", "other"]) fun _ _ _ _ _ _ us hl => match us, hl with | [_, _], _ => rfl
  have m10 := PySem.W.mg_of X G a10
  have F11 := fun_mk (st := s_leftmost_places) l11 c11 k11
  have b11 := F11.binds (ps := ["word", "other"]) fun _ _ _ _ _ _ us hl => match us, hl with | [_, _], _ => rfl
  have m11 := PySem.W.mg_of X G a11
  have F12 := fun_mk (st := s_rightmost_in) l12 c12 k12
  have b12 := F12.binds (ps := ["word", "other"]) fun _ _ _ _ _ _ us hl => match us, hl with | [_, _], _ => rfl
  have m12 := PySem.W.mg_of X G a12
  have F13 := fun_mk (st := s_rightmost_places) l13 c13 k13
  have b13 := F13.binds (ps := ["word", "other"]) fun _ _ _ _ _ _ us hl => match us, hl with | [_, _], _ => rfl
  have m13 := PySem.W.mg_of X G a13
  have F14 := fun_mk (st := s__law_right) l14 c14 k14
  have b14 := F14.binds (ps := ["word", "other"]) fun _ _ _ _ _ _ us hl => match us, hl with | [_, _], _ => rfl
  have m14 := PySem.W.mg_of X G a14
  have F15 := fun_mk (st := s__law_same) l15 c15 k15
  have b15 := F15.binds (ps := ["told", "due"]) fun _ _ _ _ _ _ us hl => match us, hl with | [_, _], _ => rfl
  have m15 := PySem.W.mg_of X G a15
  have F16 := fun_mk (st := s_lies_in) l16 c16 k16
  have b16 := F16.binds (ps := ["word", "other"]) fun _ _ _ _ _ _ us hl => match us, hl with | [_, _], _ => rfl
  have m16 := PySem.W.mg_of X G a16
  have F17 := fun_mk (st := s_is_subword) l17 c17 k17
  have b17 := F17.binds (ps := ["word", "other"]) fun _ _ _ _ _ _ us hl => match us, hl with | [_, _], _ => rfl
  have m17 := PySem.W.mg_of X G a17
  have F18 := fun_mk (st := s_ways_in) l18 c18 k18
  have b18 := F18.binds (ps := ["word", "other"]) fun _ _ _ _ _ _ us hl => match us, hl with | [_, _], _ => rfl
  have m18 := PySem.W.mg_of X G a18
  have F19 := fun_mk (st := s_rest_before) l19 c19 k19
  have b19 := F19.binds (ps := ["word", "other"]) fun _ _ _ _ _ _ us hl => match us, hl with | [_, _], _ => rfl
  have m19 := PySem.W.mg_of X G a19
  have F20 := fun_mk (st := s_rest_behind) l20 c20 k20
  have b20 := F20.binds (ps := ["word", "other"]) fun _ _ _ _ _ _ us hl => match us, hl with | [_, _], _ => rfl
  have m20 := PySem.W.mg_of X G a20
  have F21 := fun_mk (st := s__law_near) l21 c21 k21
  have b21 := F21.binds (ps := ["deck", "row", "other"]) fun _ _ _ _ _ _ us hl => match us, hl with | [_, _, _], _ => rfl
  have m21 := PySem.W.mg_of X G a21
  have F22 := fun_mk (st := s__law_is_int) l22 c22 k22
  have b22 := F22.binds (ps := ["thing"]) fun _ _ _ _ _ _ us hl => match us, hl with | [_], _ => rfl
  have m22 := PySem.W.mg_of X G a22
  have F23 := fun_mk (st := s__law_judge) l23 c23 k23
  have b23 := F23.binds (ps := ["word", "other", "thing"]) fun _ _ _ _ _ _ us hl => match us, hl with | [_, _, _], _ => rfl
  have m23 := PySem.W.mg_of X G a23
  have F24 := fun_mk (st := s_is_embedding) l24 c24 k24
  have b24 := F24.binds (ps := ["word", "other", "thing"]) fun _ _ _ _ _ _ us hl => match us, hl with | [_, _, _], _ => rfl
  have m24 := PySem.W.mg_of X G a24
  have F25 := fun_mk (st := s__law_told_right) l25 c25 k25
  have b25 := F25.binds (ps := ["deck", "word", "other", "rows"]) fun _ _ _ _ _ _ us hl => match us, hl with | [_, _, _, _], _ => rfl
  have m25 := PySem.W.mg_of X G a25
  have F26 := fun_mk (st := s__law_refused) l26 c26 k26
  have b26 := F26.binds (ps := ["which", "word", "other"]) fun _ _ _ _ _ _ us hl => match us, hl with | [_, _, _], _ => rfl
  have m26 := PySem.W.mg_of X G a26
  have F27 := fun_mk (st := s_law) l27 c27 k27
  have b27 := F27.binds (ps := ["script"]) fun _ _ _ _ _ _ us hl => match us, hl with | [_], _ => rfl
  have m27 := PySem.W.mg_of X G a27
  refine ⟨PySem.W.fnOf "law" "law" (defArgs s_law) (defBody s_law) (defScope s_law) .none kV27 dc27 pm27 an27 cd27 ct27, fun s v => .of_eq rfl, fun base _ _ => ?_⟩
  have h__law_pick := (fn_pick (P := l.prog) (w := w) (base := base) (ok_pick F1 T.n_int) m1 k1 b1)
  have o2 := ok__law_word (P := l.prog) (w := w) (base := base) T h__law_pick F2
  have h__law_word := fn_ofok o2 m2 k2 b2
  have o3 := ok__law_all (P := l.prog) (w := w) (base := base) T  F3
  have h__law_all := fn_ofok o3 m3 k3 b3
  have o4 := ok__law_left (P := l.prog) (w := w) (base := base) T  F4
  have h__law_left := fn_ofok o4 m4 k4 b4
  have o5 := ok__law_ways (P := l.prog) (w := w) (base := base) T  F5
  have h__law_ways := fn_ofok o5 m5 k5 b5
  have o6 := ok_is_word_of (P := l.prog) (w := w) (base := base) T  F6
  have h_is_word_of := fn_ofok o6 m6 k6 b6
  have o7 := ok_is_word (P := l.prog) (w := w) (base := base) T h_is_word_of F7
  have h_is_word := fn_ofok o7 m7 k7 b7
  have hk_is_word_0_thing := fk_ofok (a := 0) (ks := ["thing"]) (is := [0]) o7 m7 k7 (kbn_mk F7 fun _ _ _ _ _ _ us ws h1 h2 => match us, ws, h1, h2 with | [], [_], _, _ => rfl)
  have o8 := ok_need_word (P := l.prog) (w := w) (base := base) T h_is_word F8
  have h_need_word := fn_ofok o8 m8 k8 b8
  have o9 := ok_need_words (P := l.prog) (w := w) (base := base) T h_need_word h_is_word F9
  have h_need_words := fn_ofok o9 m9 k9 b9
  have o10 := ok_leftmost_in (P := l.prog) (w := w) (base := base) T  F10
  have h_leftmost_in := fn_ofok o10 m10 k10 b10
  have o11 := ok_leftmost_places (P := l.prog) (w := w) (base := base) T h_need_words h_leftmost_in F11
  have h_leftmost_places := fn_ofok o11 m11 k11 b11
  have hk_leftmost_places_0_other_word := fk_ofok (a := 0) (ks := ["other", "word"]) (is := [1, 0]) o11 m11 k11 (kbn_mk F11 fun _ _ _ _ _ _ us ws h1 h2 => match us, ws, h1, h2 with | [], [_, _], _, _ => rfl)
  have o12 := ok_rightmost_in (P := l.prog) (w := w) (base := base) T h_leftmost_in F12
  have h_rightmost_in := fn_ofok o12 m12 k12 b12
  have o13 := ok_rightmost_places (P := l.prog) (w := w) (base := base) T h_need_words h_rightmost_in F13
  have h_rightmost_places := fn_ofok o13 m13 k13 b13
  have o14 := ok__law_right (P := l.prog) (w := w) (base := base) T  F14
  have h__law_right := fn_ofok o14 m14 k14 b14
  have o15 := ok__law_same (P := l.prog) (w := w) (base := base) T  F15
  have h__law_same := fn_ofok o15 m15 k15 b15
  have o16 := ok_lies_in (P := l.prog) (w := w) (base := base) T  F16
  have h_lies_in := fn_ofok o16 m16 k16 b16
  have o17 := ok_is_subword (P := l.prog) (w := w) (base := base) T h_need_words h_lies_in F17
  have h_is_subword := fn_ofok o17 m17 k17 b17
  have o18 := ok_ways_in (P := l.prog) (w := w) (base := base) T h_need_words F18
  have h_ways_in := fn_ofok o18 m18 k18 b18
  have o19 := ok_rest_before (P := l.prog) (w := w) (base := base) T h_need_words h_rightmost_in F19
  have h_rest_before := fn_ofok o19 m19 k19 b19
  have hk_rest_before_0_word_other := fk_ofok (a := 0) (ks := ["word", "other"]) (is := [0, 1]) o19 m19 k19 (kbn_mk F19 fun _ _ _ _ _ _ us ws h1 h2 => match us, ws, h1, h2 with | [], [_, _], _, _ => rfl)
  have o20 := ok_rest_behind (P := l.prog) (w := w) (base := base) T h_need_words h_leftmost_in F20
  have h_rest_behind := fn_ofok o20 m20 k20 b20
  have o21 := ok__law_near (P := l.prog) (w := w) (base := base) T h__law_pick F21
  have h__law_near := fn_ofok o21 m21 k21 b21
  have o22 := ok__law_is_int (P := l.prog) (w := w) (base := base) T  F22
  have h__law_is_int := fn_ofok o22 m22 k22 b22
  have o23 := ok__law_judge (P := l.prog) (w := w) (base := base) T h__law_is_int F23
  have h__law_judge := fn_ofok o23 m23 k23 b23
  have o24 := ok_is_embedding (P := l.prog) (w := w) (base := base) T h_need_words F24
  have h_is_embedding := fn_ofok o24 m24 k24 b24
  have o25 := ok__law_told_right (P := l.prog) (w := w) (base := base) T h__law_left h__law_right h__law_same h_is_subword hk_leftmost_places_0_other_word h_rightmost_places h__law_ways h_ways_in hk_rest_before_0_word_other h_rest_behind h__law_near h__law_judge h_is_embedding F25
  have h__law_told_right := fn_ofok o25 m25 k25 b25
  have o26 := ok__law_refused (P := l.prog) (w := w) (base := base) T h_is_subword h_leftmost_places h_rightmost_places h_rest_behind h_rest_before h_ways_in h_is_embedding F26
  have h__law_refused := fn_ofok o26 m26 k26 b26
  exact law_mk (k := 6) F27 sc_law (ok_deck F0 T.n_int) m0 k0 b0 rfl (by decide) (by decide)
    (fun cdv A outer s H E hr => ⟨_, ps_set (i := 1) sc_law.nd rfl (Or.inl rfl) (pe_callS (ok_deck F0 T.n_int) (hr.mono (by decide)) rfl m0 k0 b0 (fun σ => passAt (W := fun cls d _ H => E cls d H) (takes_of rfl rfl rfl rfl) σ) (pa_cons (pv 0) pa_nil)), fun σ H1 D h => h⟩)
    (fun cdv A outer s H E C pc hr => ok_law T h__law_pick h__law_word h__law_all h__law_left h__law_ways h_leftmost_places h_rightmost_places h__law_told_right h_is_word hk_is_word_0_thing h__law_refused trivial cdv _ A outer s H E C pc hr)
    law_pure
end Mir
open PySem PySem.W PyProof.Rows
set_option maxRecDepth 100000 in
set_option maxHeartbeats 0 in
theorem PySem.Challenge.cw_roadsworn_k01_words_and_embeddings_holds : PySem.Challenge.rw_roadsworn_k01_words_and_embeddings.Holds := by
  w_on; o_law; k_head; (case hw => w_witness2)
  k_fill
  refine Mir.walk_law (l := PySem.Challenge.rw_roadsworn_k01_words_and_embeddings) 7 rfl rfl ⟨rfl, by decide, by decide⟩ (fun w h Y => PySem.W.kIn_of Y) ?F
  case F =>
    intro w mg fa h KX G hmg
    refine' Mir.all_mk KX G hmg ?a0 ?l0 ?c0 ?k0 ?a1 ?l1 ?c1 ?k1 ?a2 ?l2 ?c2 ?k2 ?a3 ?l3 ?c3 ?k3 ?a4 ?l4 ?c4 ?k4 ?a5 ?l5 ?c5 ?k5 ?a6 ?l6 ?c6 ?k6 ?a7 ?l7 ?c7 ?k7 ?a8 ?l8 ?c8 ?k8 ?a9 ?l9 ?c9 ?k9 ?a10 ?l10 ?c10 ?k10 ?a11 ?l11 ?c11 ?k11 ?a12 ?l12 ?c12 ?k12 ?a13 ?l13 ?c13 ?k13 ?a14 ?l14 ?c14 ?k14 ?a15 ?l15 ?c15 ?k15 ?a16 ?l16 ?c16 ?k16 ?a17 ?l17 ?c17 ?k17 ?a18 ?l18 ?c18 ?k18 ?a19 ?l19 ?c19 ?k19 ?a20 ?l20 ?c20 ?k20 ?a21 ?l21 ?c21 ?k21 ?a22 ?l22 ?c22 ?k22 ?a23 ?l23 ?c23 ?k23 ?a24 ?l24 ?c24 ?k24 ?a25 ?l25 ?c25 ?k25 ?a26 ?l26 ?c26 ?k26 ?a27 ?l27 ?c27 ?k27 ?z0 ?z1 ?z2 ?z3 ?z4 ?z5 ?z6 ?z7 ?z8 ?z9 ?z10 ?z11 ?z12 ?vs0 ?vt0 ?v1 ?ea0 ?ex0 ?ek0 ?eb0 ?et0 ?ei0 ?ea1 ?ex1 ?ek1 ?eb1 ?et1 ?ei1 ?su0_0 ?su0_1 ?su1_0 ?su1_1
    (case a0 => k_is)
    (case l0 => k_is)
    (case c0 => k_is)
    (case k0 => k_is)
    (case a1 => k_is)
    (case l1 => k_is)
    (case c1 => k_is)
    (case k1 => k_is)
    (case a2 => k_is)
    (case l2 => k_is)
    (case c2 => k_is)
    (case k2 => k_is)
    (case a3 => k_is)
    (case l3 => k_is)
    (case c3 => k_is)
    (case k3 => k_is)
    (case a4 => k_is)
    (case l4 => k_is)
    (case c4 => k_is)
    (case k4 => k_is)
    (case a5 => k_is)
    (case l5 => k_is)
    (case c5 => k_is)
    (case k5 => k_is)
    (case a6 => k_is)
    (case l6 => k_is)
    (case c6 => k_is)
    (case k6 => k_is)
    (case a7 => k_is)
    (case l7 => k_is)
    (case c7 => k_is)
    (case k7 => k_is)
    (case a8 => k_is)
    (case l8 => k_is)
    (case c8 => k_is)
    (case k8 => k_is)
    (case a9 => k_is)
    (case l9 => k_is)
    (case c9 => k_is)
    (case k9 => k_is)
    (case a10 => k_is)
    (case l10 => k_is)
    (case c10 => k_is)
    (case k10 => k_is)
    (case a11 => k_is)
    (case l11 => k_is)
    (case c11 => k_is)
    (case k11 => k_is)
    (case a12 => k_is)
    (case l12 => k_is)
    (case c12 => k_is)
    (case k12 => k_is)
    (case a13 => k_is)
    (case l13 => k_is)
    (case c13 => k_is)
    (case k13 => k_is)
    (case a14 => k_is)
    (case l14 => k_is)
    (case c14 => k_is)
    (case k14 => k_is)
    (case a15 => k_is)
    (case l15 => k_is)
    (case c15 => k_is)
    (case k15 => k_is)
    (case a16 => k_is)
    (case l16 => k_is)
    (case c16 => k_is)
    (case k16 => k_is)
    (case a17 => k_is)
    (case l17 => k_is)
    (case c17 => k_is)
    (case k17 => k_is)
    (case a18 => k_is)
    (case l18 => k_is)
    (case c18 => k_is)
    (case k18 => k_is)
    (case a19 => k_is)
    (case l19 => k_is)
    (case c19 => k_is)
    (case k19 => k_is)
    (case a20 => k_is)
    (case l20 => k_is)
    (case c20 => k_is)
    (case k20 => k_is)
    (case a21 => k_is)
    (case l21 => k_is)
    (case c21 => k_is)
    (case k21 => k_is)
    (case a22 => k_is)
    (case l22 => k_is)
    (case c22 => k_is)
    (case k22 => k_is)
    (case a23 => k_is)
    (case l23 => k_is)
    (case c23 => k_is)
    (case k23 => k_is)
    (case a24 => k_is)
    (case l24 => k_is)
    (case c24 => k_is)
    (case k24 => k_is)
    (case a25 => k_is)
    (case l25 => k_is)
    (case c25 => k_is)
    (case k25 => k_is)
    (case a26 => k_is)
    (case l26 => k_is)
    (case c26 => k_is)
    (case k26 => k_is)
    (case a27 => k_is)
    (case l27 => k_is)
    (case c27 => k_is)
    (case k27 => k_is)
    (case z0 => k_is)
    (case z1 => k_is)
    (case z2 => k_is)
    (case z3 => k_is)
    (case z4 => k_is)
    (case z5 => k_is)
    (case z6 => k_is)
    (case z7 => k_is)
    (case z8 => k_is)
    (case z9 => k_is)
    (case z10 => k_is)
    (case z11 => k_is)
    (case z12 => k_is)
    (case vs0 => k_is)
    (case vt0 => exact ⟨_, rfl⟩)
    (case v1 => apply Exists.intro; k_is)
    (case ea0 => k_is)
    (case ex0 => k_exc)
    (case ek0 => k_is)
    (case eb0 => k_is)
    (case et0 => k_is)
    (case ei0 => k_is)
    (case ea1 => k_is)
    (case ex1 => k_exc)
    (case ek1 => k_is)
    (case eb1 => k_is)
    (case et1 => k_is)
    (case ei1 => k_is)
    (case su0_0 => k_is)
    (case su0_1 => k_is)
    (case su1_0 => k_is)
    (case su1_1 => k_is)
#print axioms PySem.Challenge.cw_roadsworn_k01_words_and_embeddings_holds
