import PyProof.Rows.All
import Wide.All
import OpenK.AllK
import Wide.FinOn
import HandS.ForMost
import HandS.Exc
import HandS.TupAny
import HandS.Wide
import HandS.Style
import HandS.Flow
import HandS.WordsExc
import HandS.ExcOwn
import HandS.Iter
import HandS.Zip
import HandS.More
import HandS.WordsDict
import HandS.TupLen
import HandS.SetFor
import KE.GoesEnum
import HandS.Small
import HandS.Deep
import HandS.IsInst
import HandS.SortInts
import HandS.TupMul
import HandS.HeadHook1
import HandS.Words
import HandS.Ends
import HandS.EndBits
import HandS.Head0
import HandS.Head1
import HandS.Head2
import HandS.HeadEnd
import KE.DataMinMax
import KE.KStateDown
import PySem.Challenge.RW_wholeyard_k74_whole_turned_points
set_option Elab.async false
set_option linter.all false
set_option maxRecDepth 100000
set_option maxHeartbeats 4000000
/-! PuA: a layer of plain data over HandS: data, how the heap bears them, what a step of an expression keeps. -/
namespace Pu
open PySem PySem.Spec PyProof.Rows L2

/-! ### plain data -/
inductive D where
  | non
  | bl (b : Bool)
  | int (i : Int)
  | str (x : Str)
  | tup (xs : List D)
  | lst (xs : List D)
  | fzl (xs : List D)
  | dct (t : Bool) (kvs : List (D × D))
  | obj (c : Str) (fs : List (Str × D))
  | fn (x : Str)

abbrev En := List (Option D)
abbrev SS := List (Option V)

/-- an int or a text as a key -/
def kD : Key → D
  | .inl i => .int i
  | .inr x => .str x
/-- a tuple of such -/
def ksD (ks : List Key) : D := .tup (ks.map kD)

/-- what of a text the data lean on: its own objects, its names -/
structure Txt where
  K : PySem.W.Frag
  mg : Str → Option Value
abbrev tx (X : Cx) : Txt := ⟨X.K, X.mg⟩
instance : Coe Cx Txt := ⟨tx⟩
/-! ### what the heap bears -/
abbrev Fz := Addr → Prop
/-- a tuple, a list that stays -/
def FT (F : Fz) (H : Hp) (a : Addr) (vs : List V) : Prop := F a ∧ H a = some (.tup vs)
def FL (F : Fz) (H : Hp) (a : Addr) (vs : List V) : Prop := F a ∧ H a = some (.lst vs)
/-- the script: a locked list -/
def FS (X : Txt) (F : Fz) (H : Hp) (a : Addr) (vs : List V) : Prop := (F a ∧ Rd H a (.lst vs)) ∨
  ∃ (o : Obj) (its : Array Value) (n : Nat), X.K.lookup a = some o ∧ o.cls = .type "list" ∧ o.dict = none ∧ o.data = .seq its n ∧ its.size ≤ sizeLine ∧ Vals vs its.toList
/-- a dict's content: keys as data -/
inductive DctO : HO → Bool → List (D × V) → Prop
  | k (kvs : List (Key × V)) : DctO (.dK kvs) false (kvs.map fun p => (kD p.1, p.2))
  | t (kvs : List (List Key × V)) : DctO (.dT kvs) true (kvs.map fun p => (ksD p.1, p.2))
mutual
inductive Rep (X : Txt) (F : Fz) (H : Hp) : V → D → Prop
  | non : Rep X F H .non .non
  | bl (b : Bool) : Rep X F H (.bl b) (.bl b)
  | int (i : Int) : Rep X F H (.int i) (.int i)
  | str (x : Str) : Rep X F H (.str x) (.str x)
  | tup {a : Addr} {vs : List V} {ds : List D} : FT F H a vs → Reps X F H vs ds → Rep X F H (.ref a) (.tup ds)
  | lst {a : Addr} {vs : List V} {ds : List D} : FL F H a vs → Reps X F H vs ds → Rep X F H (.ref a) (.lst ds)
  | fzl {a : Addr} {vs : List V} {ds : List D} : FS X F H a vs → Reps X F H vs ds → Rep X F H (.ref a) (.fzl ds)
  | dct {a : Addr} {o : HO} {t : Bool} {kvs : List (D × V)} {es : List (D × D)} : F a → H a = some o → DctO o t kvs → RepK X F H kvs es → Rep X F H (.ref a) (.dct t es)
  | obj {a C dx : Addr} {c : Str} {fs : List (Str × V)} {gs : List (Str × D)} : F a → H a = some (.ins C dx fs) → X.mg c = some (.ref C) → RepF X F H fs gs → Rep X F H (.ref a) (.obj c gs)
  | fn {a : Addr} {x : Str} : X.mg x = some (.ref a) → Rep X F H (.ref a) (.fn x)
inductive Reps (X : Txt) (F : Fz) (H : Hp) : List V → List D → Prop
  | nil : Reps X F H [] []
  | cons {v : V} {vs : List V} {d : D} {ds : List D} : Rep X F H v d → Reps X F H vs ds → Reps X F H (v :: vs) (d :: ds)
inductive RepK (X : Txt) (F : Fz) (H : Hp) : List (D × V) → List (D × D) → Prop
  | nil : RepK X F H [] []
  | cons {k d : D} {v : V} {vs : List (D × V)} {ds : List (D × D)} : Rep X F H v d → RepK X F H vs ds → RepK X F H ((k, v) :: vs) ((k, d) :: ds)
inductive RepF (X : Txt) (F : Fz) (H : Hp) : List (Str × V) → List (Str × D) → Prop
  | nil : RepF X F H [] []
  | cons {k : Str} {d : D} {v : V} {vs : List (Str × V)} {ds : List (Str × D)} : Rep X F H v d → RepF X F H vs ds → RepF X F H ((k, v) :: vs) ((k, d) :: ds)
end

/-- what is frozen stays -/
structure Keep (F : Fz) (H : Hp) (F' : Fz) (H' : Hp) : Prop where
  sub : ∀ a, F a → F' a
  at_ : ∀ a o, F a → H a = some o → H' a = some o
theorem Keep.refl {F : Fz} {H : Hp} : Keep F H F H := ⟨fun _ h => h, fun _ _ _ h => h⟩
theorem Keep.trans {F F1 F2 : Fz} {H H1 H2 : Hp} (a : Keep F H F1 H1) (b : Keep F1 H1 F2 H2) : Keep F H F2 H2 :=
  ⟨fun x h => b.sub x (a.sub x h), fun x o h e => b.at_ x o (a.sub x h) (a.at_ x o h e)⟩
theorem Keep.rd {F F' : Fz} {H H' : Hp} (k : Keep F H F' H') {a : Addr} {u : HO} (f : F a) (r : Rd H a u) : Rd H' a u := by
  rcases r with r | ⟨o, r⟩
  · exact .inl (k.at_ a _ f r)
  · exact .inr ⟨o, k.at_ a _ f r⟩
section
variable {X : Txt} {F F' : Fz} {H H' : Hp}
theorem FT.keep (k : Keep F H F' H') {a : Addr} {vs : List V} (h : FT F H a vs) : FT F' H' a vs := ⟨k.sub a h.1, k.at_ a _ h.1 h.2⟩
theorem FS.keep (k : Keep F H F' H') {a : Addr} {vs : List V} (h : FS X F H a vs) : FS X F' H' a vs := by
  rcases h with ⟨f, r⟩ | h
  · exact .inl ⟨k.sub a f, k.rd f r⟩
  · exact .inr h
theorem FL.keep (k : Keep F H F' H') {a : Addr} {vs : List V} (h : FL F H a vs) : FL F' H' a vs := ⟨k.sub a h.1, k.at_ a _ h.1 h.2⟩
theorem FT.sq {K : PySem.W.Frag} {a : Addr} {vs : List V} (h : FT F H a vs) : SqT K H a vs := .inl (.inl h.2)
theorem FS.sq {a : Addr} {vs : List V} (h : FS X F H a vs) : SqL X.K H a vs := h.imp (fun x => x.2) id
theorem FL.sq {a : Addr} {vs : List V} (h : FL F H a vs) : SqL X.K H a vs := .inl (.inl h.2)
mutual
theorem Rep.keep (k : Keep F H F' H') : ∀ (d : D) {v : V}, Rep X F H v d → Rep X F' H' v d
  | .non, _, h => by cases h; exact .non
  | .bl b, _, h => by cases h; exact .bl b
  | .int i, _, h => by cases h; exact .int i
  | .str x, _, h => by cases h; exact .str x
  | .tup ds, _, h => by
    cases h with
    | tup a r => exact .tup (a.keep k) (Reps.keep k ds r)
  | .lst ds, _, h => by
    cases h with
    | lst a r => exact .lst (a.keep k) (Reps.keep k ds r)
  | .fzl ds, _, h => by
    cases h with
    | fzl a r => exact .fzl (a.keep k) (Reps.keep k ds r)
  | .dct t es, _, h => by
    cases h with
    | dct f e o r => exact .dct (k.sub _ f) (k.at_ _ _ f e) o (RepK.keep k es r)
  | .obj c gs, _, h => by
    cases h with
    | obj f e o r => exact .obj (k.sub _ f) (k.at_ _ _ f e) o (RepF.keep k gs r)
  | .fn x, _, h => by
    cases h with
    | fn e => exact .fn e
theorem Reps.keep (k : Keep F H F' H') : ∀ (ds : List D) {vs : List V}, Reps X F H vs ds → Reps X F' H' vs ds
  | [], _, h => by cases h; exact .nil
  | d :: ds, _, h => by
    cases h with
    | cons a r => exact .cons (Rep.keep k d a) (Reps.keep k ds r)
theorem RepK.keep (k : Keep F H F' H') : ∀ (ds : List (D × D)) {vs : List (D × V)}, RepK X F H vs ds → RepK X F' H' vs ds
  | [], _, h => by cases h; exact .nil
  | (key, d) :: ds, _, h => by
    cases h with
    | cons a r => exact .cons (Rep.keep k d a) (RepK.keep k ds r)
theorem RepF.keep (k : Keep F H F' H') : ∀ (ds : List (Str × D)) {vs : List (Str × V)}, RepF X F H vs ds → RepF X F' H' vs ds
  | [], _, h => by cases h; exact .nil
  | (key, d) :: ds, _, h => by
    cases h with
    | cons a r => exact .cons (Rep.keep k d a) (RepF.keep k ds r)
end
theorem Reps.len : ∀ {vs : List V} {ds : List D}, Reps X F H vs ds → vs.length = ds.length
  | [], _, h => by cases h; rfl
  | _ :: vs, _, h => by
    cases h with
    | cons a r => simp [Reps.len r]
theorem Reps.get : ∀ {vs : List V} {ds : List D} {i : Nat} {v : V}, Reps X F H vs ds → vs[i]? = some v → ∃ d, ds[i]? = some d ∧ Rep X F H v d
  | [], _, _, _, h, e => by cases h; simp at e
  | _ :: vs, _, 0, v, h, e => by
    cases h with
    | cons a r => simp at e; subst e; exact ⟨_, rfl, a⟩
  | _ :: vs, _, i + 1, v, h, e => by
    cases h with
    | cons a r =>
      obtain ⟨d, q, p⟩ := Reps.get (i := i) r (by simpa using e)
      exact ⟨d, by simpa using q, p⟩
theorem Reps.getD : ∀ {vs : List V} {ds : List D} {i : Nat} {d : D}, Reps X F H vs ds → ds[i]? = some d → ∃ v, vs[i]? = some v ∧ Rep X F H v d
  | [], _, _, _, h, e => by cases h; simp at e
  | _ :: vs, _, 0, v, h, e => by
    cases h with
    | cons a r => simp at e; subst e; exact ⟨_, rfl, a⟩
  | _ :: vs, _, i + 1, v, h, e => by
    cases h with
    | cons a r =>
      obtain ⟨d, q, p⟩ := Reps.getD (i := i) r (by simpa using e)
      exact ⟨d, by simpa using q, p⟩
theorem Reps.app : ∀ {vs ws : List V} {ds es : List D}, Reps X F H vs ds → Reps X F H ws es → Reps X F H (vs ++ ws) (ds ++ es)
  | [], _, _, _, h, q => by cases h; exact q
  | _ :: vs, _, _, _, h, q => by
    cases h with
    | cons a r => exact .cons a (Reps.app r q)
theorem Reps.set {x : V} {d : D} (hx : Rep X F H x d) : ∀ {vs : List V} {ds : List D} (i : Nat), Reps X F H vs ds → Reps X F H (vs.set i x) (ds.set i d)
  | [], _, _, h => by cases h; exact .nil
  | _ :: vs, _, 0, h => by
    cases h with
    | cons a r => exact .cons hx r
  | _ :: vs, _, i + 1, h => by
    cases h with
    | cons a r => exact .cons a (Reps.set hx i r)
theorem Reps.drop : ∀ {vs : List V} {ds : List D} (i : Nat), Reps X F H vs ds → Reps X F H (vs.drop i) (ds.drop i)
  | [], _, i, h => by cases h; simp; exact .nil
  | _ :: vs, _, 0, h => by simpa using h
  | _ :: vs, _, i + 1, h => by
    cases h with
    | cons a r => simpa using Reps.drop i r
theorem Reps.take : ∀ {vs : List V} {ds : List D} (i : Nat), Reps X F H vs ds → Reps X F H (vs.take i) (ds.take i)
  | [], _, i, h => by cases h; simp; exact .nil
  | _ :: vs, _, 0, h => by simp; exact .nil
  | _ :: vs, _, i + 1, h => by
    cases h with
    | cons a r => simpa using Reps.cons a (Reps.take i r)
theorem Reps.rev : ∀ {vs : List V} {ds : List D}, Reps X F H vs ds → Reps X F H vs.reverse ds.reverse
  | [], _, h => by cases h; exact .nil
  | _ :: vs, _, h => by
    cases h with
    | cons a r => simpa using Reps.app (Reps.rev r) (.cons a .nil)
end

/-! ### slots -/
/-- a slot's kind: frozen data, an own list or dict (flat), the caller's own one at p -/
inductive Kd where
  | fz | ow | io (p : Addr)
/-- an own list or dict whose items are frozen -/
inductive Flat (X : Txt) (F : Fz) (H : Hp) : Addr → D → Prop
  | lst {a : Addr} {vs : List V} {ds : List D} : H a = some (.lst vs) → Reps X F H vs ds → Flat X F H a (.lst ds)
  | dct {a : Addr} {o : HO} {t : Bool} {kvs : List (D × V)} {es : List (D × D)} : H a = some o → DctO o t kvs → RepK X F H kvs es → Flat X F H a (.dct t es)
theorem Flat.tr {X : Txt} {F : Fz} {H : Hp} {a : Addr} {d : D} (h : Flat X F H a d) : ∃ o, H a = some o ∧ Mut (some o) := by
  cases h with
  | lst e _ => exact ⟨_, e, trivial⟩
  | dct e o _ => exact ⟨_, e, by cases o <;> trivial⟩
theorem Flat.keep {X : Txt} {F F' : Fz} {H H' : Hp} {a : Addr} {d : D} (k : Keep F H F' H') (ha : ∀ o, H a = some o → H' a = some o) (h : Flat X F H a d) : Flat X F' H' a d := by
  cases h with
  | lst e r => exact .lst (ha _ e) (Reps.keep k _ r)
  | dct e o r => exact .dct (ha _ e) o (RepK.keep k _ r)
/-- frozen -/
theorem Flat.rep {X : Txt} {F : Fz} {H : Hp} {a : Addr} {d : D} (f : F a) (h : Flat X F H a d) : Rep X F H (.ref a) d := by
  cases h with
  | lst e r => exact .lst ⟨f, e⟩ r
  | dct e o r => exact .dct f e o r

inductive Slot (X : Txt) (F : Fz) (H : Hp) : Kd → Option V → Option D → List Addr → Prop
  | no (k : Kd) (hk : ∀ p, k ≠ .io p) (s : Option V) : Slot X F H k s none []
  | fz {v : V} {d : D} : Rep X F H v d → Slot X F H .fz (some v) (some d) []
  | ow {a : Addr} {d : D} : Flat X F H a d → Slot X F H .ow (some (.ref a)) (some d) [a]
  | io {a : Addr} {d : D} : Flat X F H a d → Slot X F H (.io a) (some (.ref a)) (some d) [a]
inductive Slots (X : Txt) (F : Fz) (H : Hp) : List Kd → SS → En → List Addr → Prop
  | nil : Slots X F H [] [] [] []
  | cons {k : Kd} {s : Option V} {r : Option D} {A : List Addr} {ks : List Kd} {σ : SS} {ρ : En} {O : List Addr} : Slot X F H k s r A → Slots X F H ks σ ρ O → Slots X F H (k :: ks) (s :: σ) (r :: ρ) (A ++ O)
/-- the state: slots, own things apart from one another and from the frozen -/
structure Stt (X : Txt) (F : Fz) (H : Hp) (κ : List Kd) (σ : SS) (ρ : En) (O : List Addr) : Prop where
  sl : Slots X F H κ σ ρ O
  nd : O.Nodup
  ap : ∀ a ∈ O, ¬ F a
  /-- what is frozen is tracked -/
  tr : ∀ a, F a → ∃ o, H a = some o
/-- a step: O what may change -/
structure Stp (F : Fz) (H : Hp) (O : List Addr) (F' : Fz) (H' : Hp) (O' : List Addr) : Prop where
  f1 : ∀ a, F a → F' a
  f2 : ∀ a, F' a → F a ∨ a ∈ O ∨ H a = none
  h1 : ∀ a o, H a = some o → a ∉ O → H' a = some o
  h2 : ∀ a o, H a = some o → ∃ o', H' a = some o'
  o1 : ∀ a ∈ O', a ∈ O ∨ H a = none
theorem Stp.refl {F : Fz} {H : Hp} {O : List Addr} : Stp F H O F H O := ⟨fun _ h => h, fun _ h => .inl h, fun _ _ h _ => h, fun _ o h => ⟨o, h⟩, fun _ h => .inl h⟩
theorem Stp.none {F F' : Fz} {H H' : Hp} {O O' : List Addr} (a : Stp F H O F' H' O') {b : Addr} (h : H' b = none) : H b = none := by
  cases e : H b with
  | none => rfl
  | some o =>
    obtain ⟨o', e'⟩ := a.h2 b o e
    rw [h] at e'; cases e'
theorem Stp.trans {F F1 F2 : Fz} {H H1 H2 : Hp} {O O1 O2 : List Addr} (a : Stp F H O F1 H1 O1) (b : Stp F1 H1 O1 F2 H2 O2) : Stp F H O F2 H2 O2 where
  f1 := fun x h => b.f1 x (a.f1 x h)
  f2 := fun x h => by
    rcases b.f2 x h with h | h | h
    · exact a.f2 x h
    · rcases a.o1 x h with h | h
      · exact .inr (.inl h)
      · exact .inr (.inr h)
    · exact .inr (.inr (a.none h))
  h1 := fun x o e n => b.h1 x o (a.h1 x o e n) fun h => by
    rcases a.o1 x h with h | h
    · exact n h
    · rw [h] at e; cases e
  h2 := fun x o e => by
    obtain ⟨o1, e1⟩ := a.h2 x o e
    exact b.h2 x o1 e1
  o1 := fun x h => by
    rcases b.o1 x h with h | h
    · exact a.o1 x h
    · exact .inr (a.none h)
theorem Stp.keep {X : Txt} {F F' : Fz} {H H' : Hp} {O O' : List Addr} {κ : List Kd} {σ : SS} {ρ : En} (s : Stt X F H κ σ ρ O) (a : Stp F H O F' H' O') : Keep F H F' H' :=
  ⟨a.f1, fun x o f e => a.h1 x o e fun h => s.ap x h f⟩

section
variable {X : Txt} {F F' : Fz} {H H' : Hp} {κ : List Kd} {σ : SS} {ρ : En} {O : List Addr}
theorem Slot.keep {k : Kd} {s : Option V} {r : Option D} {A : List Addr} (q : Keep F H F' H') (ha : ∀ a ∈ A, ∀ o, H a = some o → H' a = some o) (h : Slot X F H k s r A) : Slot X F' H' k s r A := by
  cases h with
  | no k hk s => exact .no k hk s
  | fz r => exact .fz (Rep.keep q _ r)
  | ow f => exact .ow (f.keep q (ha _ (List.mem_singleton.mpr rfl)))
  | io f => exact .io (f.keep q (ha _ (List.mem_singleton.mpr rfl)))
theorem Slots.keep (q : Keep F H F' H') : ∀ {κ : List Kd} {σ : SS} {ρ : En} {O : List Addr}, (∀ a ∈ O, ∀ o, H a = some o → H' a = some o) → Slots X F H κ σ ρ O → Slots X F' H' κ σ ρ O
  | _, _, _, _, _, .nil => .nil
  | _, _, _, _, ha, .cons a r => .cons (a.keep q fun x hx => ha x (List.mem_append_left _ hx)) (Slots.keep q (fun x hx => ha x (List.mem_append_right _ hx)) r)
theorem Slots.lens : ∀ {κ : List Kd} {σ : SS} {ρ : En} {O : List Addr}, Slots X F H κ σ ρ O → κ.length = ρ.length ∧ σ.length = ρ.length
  | _, _, _, _, .nil => ⟨rfl, rfl⟩
  | _, _, _, _, .cons a r => by
    obtain ⟨p, q⟩ := Slots.lens r
    exact ⟨by simp [p], by simp [q]⟩
/-- the slot at i, and the rest -/
theorem Slots.at_ : ∀ {κ : List Kd} {σ : SS} {ρ : En} {O : List Addr} {i : Nat} {k : Kd}, Slots X F H κ σ ρ O → κ[i]? = some k → ∃ s r A, σ[i]? = some s ∧ ρ[i]? = some r ∧ Slot X F H k s r A ∧ ∀ a ∈ A, a ∈ O
  | _, _, _, _, _, _, .nil, e => by simp at e
  | _, _, _, _, 0, _, .cons a r, e => by
    simp at e; subst e
    exact ⟨_, _, _, rfl, rfl, a, fun x hx => List.mem_append_left _ hx⟩
  | _, _, _, _, i + 1, _, .cons a r, e => by
    obtain ⟨s, r', A, h1, h2, h3, h4⟩ := Slots.at_ (i := i) r (by simpa using e)
    exact ⟨s, r', A, by simpa using h1, by simpa using h2, h3, fun x hx => List.mem_append_right _ (h4 x hx)⟩
/-- a slot is set anew: what it owned is given up, what the new one owns comes -/
theorem Slots.put {k' : Kd} {s' : Option V} {r' : Option D} {B : List Addr} (hn : Slot X F H k' s' r' B) : ∀ {κ : List Kd} {σ : SS} {ρ : En} {O : List Addr} (i : Nat), Slots X F H κ σ ρ O → i < ρ.length → B.Nodup → (∀ b ∈ B, b ∉ O) → O.Nodup →
    ∃ O', Slots X F H (κ.set i k') (σ.set i s') (ρ.set i r') O' ∧ O'.Nodup ∧ ∀ a ∈ O', a ∈ O ∨ a ∈ B
  | _, _, _, _, i, .nil, hi, _, _, _ => by simp at hi
  | _, _, _, _, 0, .cons (A := A) (O := O) a r, _, nB, dis, nO => by
    refine ⟨B ++ O, .cons hn r, ?_, fun x hx => ?_⟩
    · refine List.nodup_append.mpr ⟨nB, (List.nodup_append.mp nO).2.1, fun x hx y hy e => ?_⟩
      subst e
      exact dis x hx (List.mem_append_right _ hy)
    · rcases List.mem_append.mp hx with h | h
      · exact .inr h
      · exact .inl (List.mem_append_right _ h)
  | _, _, _, _, i + 1, .cons (A := A) (O := O) a r, hi, nB, dis, nO => by
    obtain ⟨nA, nO', dj⟩ := List.nodup_append.mp nO
    obtain ⟨O', h1, h2, h3⟩ := Slots.put hn i r (by simpa using hi) nB (fun b hb h => dis b hb (List.mem_append_right _ h)) nO'
    refine ⟨A ++ O', .cons a h1, ?_, fun x hx => ?_⟩
    · refine List.nodup_append.mpr ⟨nA, h2, fun x hx y hy e => ?_⟩
      subst e
      rcases h3 x hy with h | h
      · exact dj x hx x h rfl
      · exact dis x h (List.mem_append_left _ hx)
    · rcases List.mem_append.mp hx with h | h
      · exact .inl (List.mem_append_left _ h)
      · rcases h3 x h with h | h
        · exact .inl (List.mem_append_right _ h)
        · exact .inr h
end
end Pu

set_option maxHeartbeats 4000000
/-! PuB: outcomes over plain data, the judgements, names, constants, operators. -/
namespace Pu
open PySem PySem.Spec PyProof.Rows L2

/-! ### outcomes -/
/-- an exception: its class, its own attributes -/
structure Ex where
  c : Str
  fs : List (Str × D)
inductive Fl where
  | nx | bk | ct | rt (d : D)
inductive Out (α : Type) where
  | ok (a : α) (ρ : En)
  | ex (x : Ex) (ρ : En)
  | bad
def Out.bind {α β : Type} (r : Out α) (k : α → En → Out β) : Out β := match r with
  | .ok a ρ => k a ρ
  | .ex x ρ => .ex x ρ
  | .bad => .bad
abbrev Fe := En → Out D
abbrev Fb := En → Out Bool
abbrev Fa := En → Out (List D)
abbrev Fs := En → Out Fl
def Out.of {α : Type} (o : Option α) (ρ : En) : Out α := match o with
  | some a => .ok a ρ
  | none => .bad

/-! ### how a value stands -/
inductive Md where
  | val | bor | own
  deriving DecidableEq
def Rv (X : Txt) (F : Fz) (H : Hp) (O : List Addr) (H0 : Hp) : Md → V → D → Prop
  | .val, v, d => Rep X F H v d
  | .bor, v, d => Rep X F H v d ∨ ∃ a, v = .ref a ∧ Flat X F H a d
  | .own, v, d => ∃ a, v = .ref a ∧ Flat X F H a d ∧ ¬ F a ∧ a ∉ O ∧ H0 a = none
abbrev Bo (X : Txt) (F : Fz) (H : Hp) (v : V) (d : D) : Prop := Rep X F H v d ∨ ∃ a, v = .ref a ∧ Flat X F H a d
theorem Rv.bo {X : Txt} {F : Fz} {H H0 : Hp} {O : List Addr} {b : Md} {v : V} {d : D} (h : Rv X F H O H0 b v d) : Bo X F H v d := by
  cases b with
  | val => exact .inl h
  | bor => exact h
  | own =>
    obtain ⟨a, e, f, _⟩ := h
    exact .inr ⟨a, e, f⟩
/-- new things alone: the rest as it was -/
structure Ext (F : Fz) (H : Hp) (F' : Fz) (H' : Hp) : Prop where
  f1 : ∀ a, F a → F' a
  f2 : ∀ a, F' a → F a ∨ H a = none
  h1 : ∀ a o, H a = some o → H' a = some o
  tr : ∀ a, F' a → F a ∨ ∃ o, H' a = some o
theorem Ext.refl {F : Fz} {H : Hp} : Ext F H F H := ⟨fun _ h => h, fun _ h => .inl h, fun _ _ h => h, fun _ h => .inl h⟩
theorem Ext.none {F F' : Fz} {H H' : Hp} (x : Ext F H F' H') {b : Addr} (h : H' b = none) : H b = none := by
  cases e : H b with
  | none => rfl
  | some o =>
    have e' := x.h1 b o e
    rw [h] at e'; cases e'
theorem Ext.trans {F F1 F2 : Fz} {H H1 H2 : Hp} (a : Ext F H F1 H1) (b : Ext F1 H1 F2 H2) : Ext F H F2 H2 where
  f1 := fun x h => b.f1 x (a.f1 x h)
  f2 := fun x h => by
    rcases b.f2 x h with h | h
    · exact a.f2 x h
    · exact .inr (a.none h)
  h1 := fun x o e => b.h1 x o (a.h1 x o e)
  tr := fun x h => by
    rcases b.tr x h with h | h
    · rcases a.tr x h with h | ⟨o, h⟩
      · exact .inl h
      · exact .inr ⟨o, b.h1 x o h⟩
    · exact .inr h
theorem Ext.stp {F F' : Fz} {H H' : Hp} (x : Ext F H F' H') {O : List Addr} : Stp F H O F' H' O :=
  ⟨x.f1, fun a h => (x.f2 a h).imp id .inr, fun a o h _ => x.h1 a o h, fun a o h => ⟨o, x.h1 a o h⟩, fun _ h => .inl h⟩
theorem Ext.keep {F F' : Fz} {H H' : Hp} (x : Ext F H F' H') : Keep F H F' H' := ⟨x.f1, fun a o _ h => x.h1 a o h⟩
theorem Slots.tracked {X : Txt} {F : Fz} {H : Hp} : ∀ {κ : List Kd} {σ : SS} {ρ : En} {O : List Addr}, Slots X F H κ σ ρ O → ∀ a ∈ O, ∃ o, H a = some o ∧ Mut (some o)
  | _, _, _, _, .nil, _, h => by simp at h
  | _, _, _, _, .cons s r, x, h => by
    rcases List.mem_append.mp h with h | h
    · cases s with
      | no => simp at h
      | fz => simp at h
      | ow f => simp at h; subst h; exact f.tr
      | io f => simp at h; subst h; exact f.tr
    · exact Slots.tracked r x h
theorem Stt.ext {X : Txt} {F F' : Fz} {H H' : Hp} {κ : List Kd} {σ : SS} {ρ : En} {O : List Addr} (s : Stt X F H κ σ ρ O) (x : Ext F H F' H') : Stt X F' H' κ σ ρ O where
  sl := s.sl.keep x.keep fun a _ o h => x.h1 a o h
  nd := s.nd
  ap := fun a h f => by
    rcases x.f2 a f with f | e
    · exact s.ap a h f
    · obtain ⟨o, q, _⟩ := s.sl.tracked a h
      rw [e] at q; cases q
  tr := fun a f => by
    rcases x.tr a f with f | h
    · obtain ⟨o, h⟩ := s.tr a f
      exact ⟨o, x.h1 a o h⟩
    · exact h

/-- the callers' own things stay where they are -/
def Io (κ' κ : List Kd) : Prop := κ'.length = κ.length ∧ ∀ (i : Nat) (p : Addr), κ[i]? = some (.io p) → κ'[i]? = some (.io p)
theorem Io.refl {κ : List Kd} : Io κ κ := ⟨rfl, fun _ _ h => h⟩
theorem Io.trans {κ κ1 κ2 : List Kd} (b : Io κ2 κ1) (a : Io κ1 κ) : Io κ2 κ := ⟨b.1.trans a.1, fun i p h => b.2 i p (a.2 i p h)⟩

inductive XRep (X : Txt) (F : Fz) (H : Hp) : Ex → Value → Option Addr → Prop
  | bare {c : Str} {C : Addr} : X.mg c = some (.ref C) → XRep X F H ⟨c, []⟩ (.ref C) none
  | with_ {c : Str} {C dx : Addr} {fs : List (Str × V)} {gs : List (Str × D)} : X.mg c = some (.ref C) → F dx → H dx = some (.xd fs) → RepF X F H fs gs → XRep X F H ⟨c, gs⟩ (.ref C) (some dx)
/-- what is wanted of an exception -/
def PostX (X : Txt) (W : WX) (κ : List Kd) (x : Ex) (ρ : En) (F : Fz) (H : Hp) (σ : SS) (O : List Addr) : Prop :=
  ∀ cls d F' H' O' κ', Io κ' κ → Stp F H O F' H' O' → Stt X F' H' κ' σ ρ O' → XRep X F' H' x cls d → W cls d σ H'
def Pur (p : Bool) (H : Hp) (O : List Addr) (H' : Hp) (O' : List Addr) : Prop := p = true → (∀ a o, H a = some o → H' a = some o) ∧ O' = O
def PostE (X : Txt) (W : WX) (κ κ' : List Kd) (p : Bool) (b : Md) (r : Out D) (F : Fz) (H : Hp) (σ : SS) (O : List Addr) (Q : VK) : Prop := match r with
  | .bad => False
  | .ok d ρ' => ∀ v F' H' O', Stp F H O F' H' O' → Stt X F' H' κ' σ ρ' O' → Pur p H O H' O' → Rv X F' H' O' H b v d → Q v H'
  | .ex x ρ' => PostX X W κ x ρ' F H σ O
structure DE (X : Cx) (W : WX) (κ : List Kd) (e : Expr) (κ' : List Kd) (p : Bool) (b : Md) (f : Fe) : Prop where
  ex : ∃ t : TE, PE X e t ∧ ∀ F H σ ρ O Q, Stt X F H κ σ ρ O → PostE X W κ κ' p b (f ρ) F H σ O Q → t σ H Q
  io : Io κ' κ
def PostT (X : Txt) (W : WX) (κ κ' : List Kd) (p : Bool) (r : Out Bool) (F : Fz) (H : Hp) (σ : SS) (O : List Addr) (Q : Bool → Hp → Prop) : Prop := match r with
  | .bad => False
  | .ok c ρ' => ∀ F' H' O', Stp F H O F' H' O' → Stt X F' H' κ' σ ρ' O' → Pur p H O H' O' → Q c H'
  | .ex x ρ' => PostX X W κ x ρ' F H σ O
structure DT (X : Cx) (W : WX) (κ : List Kd) (e : Expr) (κ' : List Kd) (p : Bool) (f : Fb) : Prop where
  ex : ∃ t : TT, PT X e t ∧ ∀ F H σ ρ O Q, Stt X F H κ σ ρ O → PostT X W κ κ' p (f ρ) F H σ O Q → t σ H Q
  io : Io κ' κ
/-- .. of an and, an or, whatever its whole is -/
structure DW (X : Cx) (W : WX) (κ : List Kd) (e : Expr) (κ' : List Kd) (p : Bool) (f : Fb) : Prop where
  ex : ∃ t : TT, PW X e t ∧ ∀ F H σ ρ O Q, Stt X F H κ σ ρ O → PostT X W κ κ' p (f ρ) F H σ O Q → t σ H Q
  io : Io κ' κ
inductive Rvs (X : Txt) (F : Fz) (H : Hp) (O : List Addr) (H0 : Hp) : List Md → List V → List D → Prop
  | nil : Rvs X F H O H0 [] [] []
  | cons {b : Md} {bs : List Md} {v : V} {vs : List V} {d : D} {ds : List D} : Rv X F H O H0 b v d → Rvs X F H O H0 bs vs ds → Rvs X F H O H0 (b :: bs) (v :: vs) (d :: ds)
def PostA (X : Txt) (W : WX) (κ κ' : List Kd) (p : Bool) (bs : List Md) (r : Out (List D)) (F : Fz) (H : Hp) (σ : SS) (O : List Addr) (Q : List V → Hp → Prop) : Prop := match r with
  | .bad => False
  | .ok ds ρ' => ∀ vs F' H' O', Stp F H O F' H' O' → Stt X F' H' κ' σ ρ' O' → Pur p H O H' O' → Rvs X F' H' O' H bs vs ds → Q vs H'
  | .ex x ρ' => PostX X W κ x ρ' F H σ O
structure DA (X : Cx) (W : WX) (κ : List Kd) (es : List Expr) (κ' : List Kd) (p : Bool) (bs : List Md) (f : Fa) : Prop where
  ex : ∃ t : TA, PA X es t ∧ ∀ F H σ ρ O Q, Stt X F H κ σ ρ O → PostA X W κ κ' p bs (f ρ) F H σ O Q → t σ H Q
  io : Io κ' κ

section
variable {X : Cx} {W : WX} {κ κ' κ1 κ2 : List Kd} {p p1 p2 : Bool} {b b1 b2 : Md} {F F' F1 : Fz} {H H' H1 : Hp} {σ : SS} {ρ ρ' : En} {O O' O1 : List Addr}
theorem PostX.after {x : Ex} (h : PostX X W κ x ρ F H σ O) (s : Stp F H O F1 H1 O1) (i : Io κ1 κ) : PostX X W κ1 x ρ F1 H1 σ O1 :=
  fun cls d F' H' O' κ' i' s' t r => h cls d F' H' O' κ' (i'.trans i) (s.trans s') t r
theorem Pur.refl : Pur p H O H O := fun _ => ⟨fun _ _ h => h, rfl⟩
theorem Pur.trans {H2 : Hp} {O2 : List Addr} (a : Pur p1 H O H1 O1) (b : Pur p2 H1 O1 H2 O2) : Pur (p1 && p2) H O H2 O2 := fun h => by
  obtain ⟨h1, h2⟩ := Bool.and_eq_true_iff.mp h
  obtain ⟨x1, rfl⟩ := a h1
  obtain ⟨x2, rfl⟩ := b h2
  exact ⟨fun q o e => x2 q o (x1 q o e), rfl⟩
theorem Pur.ext (x : Ext F H F' H') : Pur p H O H' O := fun _ => ⟨x.h1, rfl⟩
/-- a held value through a later step -/
theorem Rv.held {H0 : Hp} {v : V} {d : D} (s : Stt X F H κ σ ρ O) (a : Stp F H O F' H' O') (q : b = .bor → ∀ a o, H a = some o → H' a = some o) (h : Rv X F H O H0 b v d) : Rv X F' H' O' H0 b v d := by
  have k := a.keep s
  cases b with
  | val => exact Rep.keep k _ h
  | bor =>
    rcases h with h | ⟨x, e, f⟩
    · exact .inl (Rep.keep k _ h)
    · exact .inr ⟨x, e, f.keep k (q rfl x)⟩
  | own =>
    obtain ⟨x, e, f, nF, nO, n0⟩ := h
    obtain ⟨o, ho, _⟩ := f.tr
    refine ⟨x, e, f.keep k fun o' e' => a.h1 x o' e' nO, fun z => ?_, fun z => ?_, n0⟩
    · rcases a.f2 x z with z | z | z
      · exact nF z
      · exact nO z
      · rw [ho] at z; cases z
    · rcases a.o1 x z with z | z
      · exact nO z
      · rw [ho] at z; cases z
theorem Rv.old {H0 H00 : Hp} {v : V} {d : D} (q : ∀ a, H0 a = none → H00 a = none) (h : Rv X F H O H0 b v d) : Rv X F H O H00 b v d := by
  cases b with
  | val => exact h
  | bor => exact h
  | own =>
    obtain ⟨x, e, f, nF, nO, n0⟩ := h
    exact ⟨x, e, f, nF, nO, q x n0⟩
theorem Rvs.old {H0 H00 : Hp} (q : ∀ a, H0 a = none → H00 a = none) : ∀ {bs : List Md} {vs : List V} {ds : List D}, Rvs X F H O H0 bs vs ds → Rvs X F H O H00 bs vs ds
  | _, _, _, .nil => .nil
  | _, _, _, .cons a r => .cons (a.old q) (Rvs.old q r)

/-! ### names and constants -/
def eVar (i : Nat) : Fe := fun ρ => match ρ[i]? with
  | some (some d) => .ok d ρ
  | _ => .bad
def eC (d : D) : Fe := fun ρ => .ok d ρ
/-- the kind at a place is frozen -/
theorem de_var {i : Nat} {x : Str} {pos : Pos} (hk : κ[i]? = some .fz) (hN : X.N[i]? = some x := by rfl) (hv : Vis X.env.scope x := by first | exact Or.inl rfl | exact Or.inr (Or.inl rfl) | exact Or.inr (Or.inr rfl))
    (hd : (x == ("__debug__" : Str)) = false := by decide) (hcd : (x == ("__classdict__" : Str)) = false := by decide) : DE X W κ (.Name x pos) κ true .val (eVar i) := by
  refine ⟨⟨tVar i, pv i hN hv hd hcd, fun F H σ ρ O Q s h => ?_⟩, Io.refl⟩
  obtain ⟨sv, r, A, h1, h2, h3, h4⟩ := s.sl.at_ hk
  unfold eVar at h
  rw [h2] at h
  cases h3 with
  | no => exact h.elim
  | fz q => exact ⟨_, h1, h _ _ _ _ Stp.refl s Pur.refl q⟩
/-- an own list or dict, read where it stands -/
theorem de_bor {i : Nat} {x : Str} {pos : Pos} {k : Kd} (hk : κ[i]? = some k) (hN : X.N[i]? = some x := by rfl) (hv : Vis X.env.scope x := by first | exact Or.inl rfl | exact Or.inr (Or.inl rfl) | exact Or.inr (Or.inr rfl))
    (hd : (x == ("__debug__" : Str)) = false := by decide) (hcd : (x == ("__classdict__" : Str)) = false := by decide) : DE X W κ (.Name x pos) κ true .bor (eVar i) := by
  refine ⟨⟨tVar i, pv i hN hv hd hcd, fun F H σ ρ O Q s h => ?_⟩, Io.refl⟩
  obtain ⟨sv, r, A, h1, h2, h3, h4⟩ := s.sl.at_ hk
  unfold eVar at h
  rw [h2] at h
  cases h3 with
  | no => exact h.elim
  | fz q => exact ⟨_, h1, h _ _ _ _ Stp.refl s Pur.refl (.inl q)⟩
  | ow q => exact ⟨_, h1, h _ _ _ _ Stp.refl s Pur.refl (.inr ⟨_, rfl, q⟩)⟩
  | io q => exact ⟨_, h1, h _ _ _ _ Stp.refl s Pur.refl (.inr ⟨_, rfl, q⟩)⟩
/-- an own thing frozen -/
theorem frz {H : Hp} {O : List Addr} {a : Addr} {d : D} {i : Nat} {v : V} (s : Stt X F H κ σ ρ O) (hk : κ[i]? = some .ow) (hs : σ[i]? = some (some v)) (hr : ρ[i]? = some (some d)) :
    ∃ F' O', Stp F H O F' H O' ∧ Stt X F' H (κ.set i .fz) σ ρ O' ∧ Rep X F' H v d := by
  obtain ⟨sv, r, A, h1, h2, h3, h4⟩ := s.sl.at_ hk
  rw [hs] at h1; cases h1
  rw [hr] at h2; cases h2
  cases h3 with
  | ow f =>
    rename_i a
    have aO : a ∈ O := h4 a (List.mem_singleton.mpr rfl)
    have k : Keep F H (fun x => F x ∨ x = a) H := ⟨fun _ h => .inl h, fun _ _ _ h => h⟩
    have rp : Rep X (fun x => F x ∨ x = a) H (.ref a) d := Flat.rep (.inr rfl) (f.keep k fun _ h => h)
    have sl : Slots X (fun x => F x ∨ x = a) H κ σ ρ O := s.sl.keep k fun _ _ _ h => h
    obtain ⟨hi, _⟩ := List.getElem?_eq_some_iff.mp hr
    have gone : ∀ {κ : List Kd} {σ : SS} {ρ : En} {O : List Addr} (i : Nat), Slots X (fun x => F x ∨ x = a) H κ σ ρ O → κ[i]? = some .ow → σ[i]? = some (some (.ref a)) → ρ[i]? = some (some d) → O.Nodup →
        ∃ O', Slots X (fun x => F x ∨ x = a) H (κ.set i .fz) σ ρ O' ∧ O'.Nodup ∧ (∀ x ∈ O', x ∈ O) ∧ a ∉ O' := by
      intro κ σ ρ O i q
      induction q generalizing i with
      | nil => intro e; simp at e
      | @cons k s r A ks σ ρ O c q ih =>
        intro e1 e2 e3 nd
        obtain ⟨nA, nO, dj⟩ := List.nodup_append.mp nd
        cases i with
        | zero =>
          simp at e1 e2 e3
          subst e1 e2 e3
          cases c with
          | ow f' => exact ⟨O, .cons (A := []) (.fz rp) q, nO, fun x hx => List.mem_append_right _ hx, fun z => dj a (List.mem_singleton.mpr rfl) a z rfl⟩
        | succ i =>
          obtain ⟨O', q1, q2, q3, q4⟩ := ih i (by simpa using e1) (by simpa using e2) (by simpa using e3) nO
          have aO : a ∈ O := by
            obtain ⟨s', r', A', z1, _, z3, z4⟩ := q.at_ (i := i) (by simpa using e1)
            have z1' : σ[i]? = some s' := z1
            rw [show σ[i]? = some (some (V.ref a)) by simpa using e2] at z1'
            cases z1'
            cases z3 with
            | no =>
              rename_i z2
              rw [show ρ[i]? = some (some d) by simpa using e3] at z2
              cases z2
            | ow _ => exact z4 a (List.mem_singleton.mpr rfl)
          refine ⟨A ++ O', .cons c q1, List.nodup_append.mpr ⟨nA, q2, fun x hx y hy e => dj x hx y (q3 y hy) e⟩, fun x hx => ?_, fun z => ?_⟩
          · rcases List.mem_append.mp hx with h | h
            · exact List.mem_append_left _ h
            · exact List.mem_append_right _ (q3 x h)
          · rcases List.mem_append.mp z with h | h
            · exact dj a h a aO rfl
            · exact q4 h
    obtain ⟨O', q1, q2, q3, q4⟩ := gone i sl hk hs hr s.nd
    refine ⟨fun x => F x ∨ x = a, O', ⟨fun _ h => .inl h, fun x h => h.elim .inl fun e => .inr (.inl (e ▸ aO)), fun _ _ h _ => h, fun _ o h => ⟨o, h⟩, fun x h => .inl (q3 x h)⟩, ⟨q1, q2, fun x h z => ?_, fun x z => ?_⟩, rp⟩
    · rcases z with z | z
      · exact s.ap x (q3 x h) z
      · exact q4 (z ▸ h)
    · rcases z with z | z
      · exact s.tr x z
      · obtain ⟨o, ho, _⟩ := f.tr
        exact ⟨o, z ▸ ho⟩
theorem Io.set_fz {i : Nat} (h : κ[i]? = some .ow) : Io (κ.set i .fz) κ := ⟨by simp, fun j p e => by
  by_cases c : i = j
  · subst c; rw [h] at e; cases e
  · rw [List.getElem?_set_ne c]; exact e⟩
theorem de_frz {i : Nat} {x : Str} {pos : Pos} (hk : κ[i]? = some .ow) (hN : X.N[i]? = some x := by rfl) (hv : Vis X.env.scope x := by first | exact Or.inl rfl | exact Or.inr (Or.inl rfl) | exact Or.inr (Or.inr rfl))
    (hd : (x == ("__debug__" : Str)) = false := by decide) (hcd : (x == ("__classdict__" : Str)) = false := by decide) (hκ : κ.set i .fz = κ' := by rfl) : DE X W κ (.Name x pos) κ' false .val (eVar i) := by
  subst hκ
  refine ⟨⟨tVar i, pv i hN hv hd hcd, fun F H σ ρ O Q s h => ?_⟩, Io.set_fz hk⟩
  obtain ⟨sv, r, A, h1, h2, h3, h4⟩ := s.sl.at_ hk
  unfold eVar at h
  rw [h2] at h
  cases h3 with
  | no => exact h.elim
  | ow q =>
    rename_i a d
    obtain ⟨F', O', q1, q2, q3⟩ := frz (a := a) s hk h1 h2
    exact ⟨_, h1, h _ _ _ _ q1 q2 (fun z => nomatch z) q3⟩

theorem de_int {i j pos} : DE X W κ (.Constant (.int i) j pos) κ true .val (eC (.int i)) :=
  ⟨⟨_, pe_int, fun F H σ ρ O Q s h => h _ _ _ _ Stp.refl s Pur.refl (.int i)⟩, Io.refl⟩
theorem de_bl {c j pos} : DE X W κ (.Constant (.bool c) j pos) κ true .val (eC (.bl c)) :=
  ⟨⟨_, pe_bl, fun F H σ ρ O Q s h => h _ _ _ _ Stp.refl s Pur.refl (.bl c)⟩, Io.refl⟩
theorem de_non {j pos} : DE X W κ (.Constant .none j pos) κ true .val (eC .non) :=
  ⟨⟨_, pe_non, fun F H σ ρ O Q s h => h _ _ _ _ Stp.refl s Pur.refl .non⟩, Io.refl⟩
theorem de_str {x j pos} : DE X W κ (.Constant (.str x) j pos) κ true .val (eC (.str x)) :=
  ⟨⟨_, pe_str, fun F H σ ρ O Q s h => h _ _ _ _ Stp.refl s Pur.refl (.str x)⟩, Io.refl⟩
/-- a def of the module as a value -/
theorem de_fn {x : Str} {a : Addr} {pos : Pos} (hg : Gl X x) (hm : X.mg x = some (.ref a)) (hd : (x == ("__debug__" : Str)) = false := by decide) : DE X W κ (.Name x pos) κ true .val (eC (.fn x)) :=
  ⟨⟨_, pe_glob (v := .ref a) hg hm rfl hd, fun F H σ ρ O Q s h => h _ _ _ _ Stp.refl s Pur.refl (.fn hm)⟩, Io.refl⟩
/-- a constant of the module: an int, a text -/
theorem de_gint {x : Str} {i : Int} {pos : Pos} (hg : Gl X x) (hm : ∃ t, X.mg x = some (.int i t)) (hd : (x == ("__debug__" : Str)) = false := by decide) : DE X W κ (.Name x pos) κ true .val (eC (.int i)) := by
  obtain ⟨t, hm⟩ := hm
  exact ⟨⟨_, pe_glob (v := .int i) hg hm ⟨t, rfl⟩ hd, fun F H σ ρ O Q s h => h _ _ _ _ Stp.refl s Pur.refl (.int i)⟩, Io.refl⟩
theorem de_gstr {x z : Str} {pos : Pos} (hg : Gl X x) (hm : ∃ t, X.mg x = some (.str z t)) (hd : (x == ("__debug__" : Str)) = false := by decide) : DE X W κ (.Name x pos) κ true .val (eC (.str z)) := by
  obtain ⟨t, hm⟩ := hm
  exact ⟨⟨_, pe_glob (v := .str z) hg hm ⟨t, rfl⟩ hd, fun F H σ ρ O Q s h => h _ _ _ _ Stp.refl s Pur.refl (.str z)⟩, Io.refl⟩

/-! ### one way of standing for another -/
theorem de_weak {e : Expr} {f : Fe} (h : DE X W κ e κ' p b f) : DE X W κ e κ' false b f := by
  obtain ⟨⟨t, pt, ht⟩, io⟩ := h
  refine ⟨⟨t, pt, fun F H σ ρ O Q s q => ht F H σ ρ O Q s ?_⟩, io⟩
  cases hf : f ρ with
  | bad => rw [hf] at q; exact q
  | ex x ρ' => rw [hf] at q; exact q
  | ok d ρ' =>
    rw [hf] at q
    exact fun v F' H' O' st s' pu r => q v F' H' O' st s' (fun z => nomatch z) r
/-- the new thing is frozen -/
theorem de_val {e : Expr} {f : Fe} (h : DE X W κ e κ' p .own f) : DE X W κ e κ' p .val f := by
  obtain ⟨⟨t, pt, ht⟩, io⟩ := h
  refine ⟨⟨t, pt, fun F H σ ρ O Q s q => ht F H σ ρ O Q s ?_⟩, io⟩
  cases hf : f ρ with
  | bad => rw [hf] at q; exact q
  | ex x ρ' => rw [hf] at q; exact q
  | ok d ρ' =>
    rw [hf] at q
    rintro v F' H' O' st s' pu ⟨a, rfl, fl, nF, nO, n0⟩
    have k : Keep F' H' (fun x => F' x ∨ x = a) H' := ⟨fun _ h => .inl h, fun _ _ _ h => h⟩
    refine q _ (fun x => F' x ∨ x = a) H' O' ⟨fun x h => .inl (st.f1 x h), fun x h => h.elim (st.f2 x) fun e => .inr (.inr (e ▸ n0)), st.h1, st.h2, st.o1⟩ ⟨s'.sl.keep k fun _ _ _ h => h, s'.nd, fun x h z => z.elim (s'.ap x h) fun e => nO (e ▸ h), fun x z => z.elim (s'.tr x) fun e => ?_⟩ pu
      (Flat.rep (.inr rfl) (fl.keep k fun _ h => h))
    obtain ⟨o, ho, _⟩ := fl.tr
    exact ⟨o, e ▸ ho⟩
theorem de_tobor {e : Expr} {f : Fe} (h : DE X W κ e κ' p b f) : DE X W κ e κ' p .bor f := by
  obtain ⟨⟨t, pt, ht⟩, io⟩ := h
  refine ⟨⟨t, pt, fun F H σ ρ O Q s q => ht F H σ ρ O Q s ?_⟩, io⟩
  cases hf : f ρ with
  | bad => rw [hf] at q; exact q
  | ex x ρ' => rw [hf] at q; exact q
  | ok d ρ' =>
    rw [hf] at q
    exact fun v F' H' O' st s' pu r => q v F' H' O' st s' pu r.bo
end
end Pu

set_option maxHeartbeats 4000000
/-! PuC: operators over plain data. -/
namespace Pu
open PySem PySem.Spec PyProof.Rows L2

/-! ### what a borrowed value is -/
section
variable {X : Txt} {F F' : Fz} {H H' : Hp} {v : V} {ds : List D}
theorem Bo.int {i : Int} (h : Bo X F H v (.int i)) : v = .int i := by
  rcases h with h | ⟨a, _, f⟩
  · cases h; rfl
  · cases f
theorem Bo.bl {i : Bool} (h : Bo X F H v (.bl i)) : v = .bl i := by
  rcases h with h | ⟨a, _, f⟩
  · cases h; rfl
  · cases f
theorem Bo.str {i : Str} (h : Bo X F H v (.str i)) : v = .str i := by
  rcases h with h | ⟨a, _, f⟩
  · cases h; rfl
  · cases f
theorem Bo.non (h : Bo X F H v .non) : v = .non := by
  rcases h with h | ⟨a, _, f⟩
  · cases h; rfl
  · cases f
theorem Bo.lst (h : Bo X F H v (.lst ds)) : ∃ a vs, v = .ref a ∧ H a = some (.lst vs) ∧ Reps X F H vs ds := by
  rcases h with h | ⟨a, e, f⟩
  · cases h with
    | lst q r => exact ⟨_, _, rfl, q.2, r⟩
  · cases f with
    | lst q r => exact ⟨_, _, e, q, r⟩
theorem Bo.tup (h : Bo X F H v (.tup ds)) : ∃ a vs, v = .ref a ∧ FT F H a vs ∧ Reps X F H vs ds := by
  rcases h with h | ⟨a, e, f⟩
  · cases h with
    | tup q r => exact ⟨_, _, rfl, q, r⟩
  · cases f
theorem Bo.fzl (h : Bo X F H v (.fzl ds)) : ∃ a vs, v = .ref a ∧ FS X F H a vs ∧ Reps X F H vs ds := by
  rcases h with h | ⟨a, e, f⟩
  · cases h with
    | fzl q r => exact ⟨_, _, rfl, q, r⟩
  · cases f
theorem Bo.dct {t : Bool} {es : List (D × D)} (h : Bo X F H v (.dct t es)) : ∃ a o kvs, v = .ref a ∧ H a = some o ∧ DctO o t kvs ∧ RepK X F H kvs es := by
  rcases h with h | ⟨a, e, f⟩
  · cases h with
    | dct q r o k => exact ⟨_, _, _, rfl, r, o, k⟩
  · cases f with
    | dct q o k => exact ⟨_, _, _, e, q, o, k⟩
theorem Bo.sc {d : D} (h : Bo X F H v d) (hd : ∀ a, v ≠ .ref a) : Rep X F H v d := by
  rcases h with h | ⟨a, e, f⟩
  · exact h
  · exact absurd e (hd a)
end

/-! ### the data of the library, for == -/
mutual
def toP : D → PyData
  | .non => .none
  | .bl b => .bool b
  | .int i => .int i
  | .str x => .str x
  | .tup xs => .tuple (toPs xs)
  | .lst xs => .list (toPs xs)
  | .fzl _ => .dict []
  | .dct _ _ => .dict []
  | .obj _ _ => .dict []
  | .fn _ => .dict []
def toPs : List D → List PyData
  | [] => []
  | x :: xs => toP x :: toPs xs
end
def eqv (d e : D) : Bool := PyData.eqv (toP d) (toP e)
def shp (d : D) : Bool := SeqAt.shaped (toP d)
theorem canLay_mem {xs : List D} : ∀ {d : D}, d ∈ xs → (PyData.canLayAll0 (toPs xs)) = true → (toP d).canLay0 = true := by
  induction xs with
  | nil => intro d h; cases h
  | cons x xs ih =>
    intro d h e
    have e' : ((toP x).canLay0 && PyData.canLayAll0 (toPs xs)) = true := e
    obtain ⟨e1, e2⟩ := Bool.and_eq_true_iff.mp e'
    rcases List.mem_cons.mp h with h | h
    · subst h; exact e1
    · exact ih h e2
mutual
theorem Rep.dp {X : Txt} {F : Fz} {H : Hp} : ∀ (d : D) {v : V}, Rep X F H v d → (toP d).canLay0 = true → Dp X.K H v (toP d)
  | .non, _, h, _ => by cases h; exact .non
  | .bl b, _, h, _ => by cases h; exact .bl b
  | .int i, _, h, _ => by cases h; exact .int i
  | .str x, _, h, _ => by cases h; exact .str x
  | .tup ds, _, h, c => by
    cases h with
    | tup a r => exact .tup a.sq (Reps.dp ds r c)
  | .lst ds, _, h, c => by
    cases h with
    | lst a r => exact .lst a.sq (Reps.dp ds r c)
  | .fzl _, _, _, c => nomatch (show false = true from c)
  | .dct _ _, _, _, c => nomatch (show false = true from c)
  | .obj _ _, _, _, c => nomatch (show false = true from c)
  | .fn _, _, _, c => nomatch (show false = true from c)
theorem Reps.dp {X : Txt} {F : Fz} {H : Hp} : ∀ (ds : List D) {vs : List V}, Reps X F H vs ds → PyData.canLayAll0 (toPs ds) = true → DpAll X.K H vs (toPs ds)
  | [], _, h, _ => by cases h; exact .nil
  | d :: ds, _, h, c => by
    obtain ⟨c1, c2⟩ := Bool.and_eq_true_iff.mp (show ((toP d).canLay0 && PyData.canLayAll0 (toPs ds)) = true from c)
    cases h with
    | cons a r => exact .cons (Rep.dp d a c1) (Reps.dp ds r c2)
end
theorem Bo.dp {X : Txt} {F : Fz} {H : Hp} {d : D} {v : V} (h : Bo X F H v d) (c : (toP d).canLay0 = true) : Dp X.K H v (toP d) := by
  rcases h with h | ⟨a, e, f⟩
  · exact Rep.dp d h c
  · subst e
    cases f with
    | lst q r => exact .lst (.inl (.inl q)) (Reps.dp _ r c)
    | dct _ _ _ => exact nomatch (show false = true from c)

/-! ### operators -/
/-- how a result of an operator stands -/
def RvN (X : Txt) (F : Fz) (H : Hp) (F' : Fz) (H' : Hp) : Md → V → D → Prop
  | .own, v, d => F' = F ∧ ∃ a, v = .ref a ∧ Flat X F' H' a d ∧ H a = none
  | _, v, d => Rep X F' H' v d
/-- an operator on values does g on data -/
def DOp (X : Cx) (f : Value → Value → Sem Value) (g : D → D → Option D) (b : Md) : Prop :=
  ∃ r, OpR X f r ∧ ∀ F H x y d e z Q, (∀ a, F a → ∃ o, H a = some o) → Bo X F H x d → Bo X F H y e → g d e = some z → (∀ v F' H', Ext F H F' H' → RvN X F H F' H' b v z → Q v H') → r x y H Q
/-- two operations, one after the other -/
theorem DOp.or {X : Cx} {f : Value → Value → Sem Value} {g g' h : D → D → Option D} {b : Md} (a : DOp X f g b) (a' : DOp X f g' b) (hh : ∀ d e z, h d e = some z → g d e = some z ∨ g' d e = some z) : DOp X f h b := by
  obtain ⟨r, o, k⟩ := a
  obtain ⟨r', o', k'⟩ := a'
  refine ⟨_, OpR.or o o', fun F H x y d e z Q tr hx hy hg hq => ?_⟩
  rcases hh d e z hg with q | q
  · exact .inl (k F H x y d e z Q tr hx hy q hq)
  · exact .inr (k' F H x y d e z Q tr hx hy q hq)
section
variable {X : Cx} {F F' : Fz} {H H' : Hp}
theorem Ext.new {a : Addr} {o : HO} (h : H a = Option.none) : Ext F H F (upd H a o) :=
  ⟨fun _ h => h, fun _ h => .inl h, fun b u e => by rw [upd_ne (ne_of_none e h)]; exact e, fun _ h => .inl h⟩
theorem Ext.newF {a : Addr} {o : HO} (h : H a = Option.none) : Ext F H (fun b => F b ∨ b = a) (upd H a o) :=
  ⟨fun _ h => .inl h, fun b q => q.elim .inl fun e => .inr (e ▸ h), fun b u e => by rw [upd_ne (ne_of_none e h)]; exact e, fun b q => q.elim .inl fun e => .inr ⟨o, by rw [e, upd_same]⟩⟩
/-- a new list, a new tuple -/
theorem new_lst {a : Addr} {vs : List V} {ds : List D} (h : H a = none) (r : Reps X F H vs ds) : RvN X F H F (upd H a (.lst vs)) .own (.ref a) (.lst ds) :=
  ⟨rfl, a, rfl, .lst upd_same (Reps.keep (Ext.new h).keep _ r), h⟩
theorem new_lstF {a : Addr} {vs : List V} {ds : List D} (h : H a = none) (r : Reps X F H vs ds) : Rep X (fun b => F b ∨ b = a) (upd H a (.lst vs)) (.ref a) (.lst ds) :=
  .lst ⟨.inr rfl, upd_same⟩ (Reps.keep (Ext.newF h).keep _ r)
theorem new_tup {a : Addr} {vs : List V} {ds : List D} (h : H a = none) (r : Reps X F H vs ds) : Rep X (fun b => F b ∨ b = a) (upd H a (.tup vs)) (.ref a) (.tup ds) :=
  .tup ⟨.inr rfl, upd_same⟩ (Reps.keep (Ext.newF h).keep _ r)

/-- ints to a scalar -/
theorem dop_int {f : Value → Value → Sem Value} {C : Int → Int → Prop} {g : Int → Int → V} {k : Int → Int → D} {c : Int → Int → Bool} (o : OpR X f (rI C g)) (hc : ∀ i j, c i j = true → C i j) (hk : ∀ F H i j, Rep X F H (g i j) (k i j)) :
    DOp X f (fun d e => match d, e with
      | .int i, .int j => if c i j then some (k i j) else none
      | _, _ => none) .val := by
  refine ⟨_, o, fun F H x y d e z Q tr hx hy hg hq => ?_⟩
  dsimp only at hg
  split at hg
  · rename_i i j
    split at hg
    · cases hg
      exact ⟨i, j, hx.int, hy.int, hc i j ‹_›, hq _ F H Ext.refl (hk F H i j)⟩
    · cases hg
  · cases hg
theorem dop_int0 {f : Value → Value → Sem Value} {g : Int → Int → V} {k : Int → Int → D} (o : OpR X f (rI0 g)) (hk : ∀ F H i j, Rep X F H (g i j) (k i j)) :
    DOp X f (fun d e => match d, e with
      | .int i, .int j => some (k i j)
      | _, _ => none) .val := by
  refine ⟨_, o, fun F H x y d e z Q tr hx hy hg hq => ?_⟩
  dsimp only at hg
  split at hg
  · rename_i i j
    cases hg
    exact ⟨i, j, hx.int, hy.int, hq _ F H Ext.refl (hk F H i j)⟩
  · cases hg
def int2 (k : Int → Int → D) : D → D → Option D := fun d e => match d, e with
  | .int i, .int j => some (k i j)
  | _, _ => none
def subD : D → D → Option D := int2 fun i j => .int (i - j)
def ltD : D → D → Option D := int2 fun i j => .bl (decide (i < j))
def leD : D → D → Option D := int2 fun i j => .bl (decide (i ≤ j))
def gtD : D → D → Option D := int2 fun i j => .bl (decide (j < i))
def geD : D → D → Option D := int2 fun i j => .bl (decide (j ≤ i))
theorem dop_sub : DOp X (binaryOp .Sub) subD .val := dop_int0 op_sub fun _ _ _ _ => .int _
theorem dop_lt : DOp X (compareOp .Lt) ltD .val := dop_int0 op_lt fun _ _ _ _ => .bl _
theorem dop_le : DOp X (compareOp .LtE) leD .val := dop_int0 op_le fun _ _ _ _ => .bl _
theorem dop_gt : DOp X (compareOp .Gt) gtD .val := dop_int0 op_gt fun _ _ _ _ => .bl _
theorem dop_ge : DOp X (compareOp .GtE) geD .val := dop_int0 op_ge fun _ _ _ _ => .bl _
/-- a product's size -/
def mulOk (i j : Int) : Bool := decide (i.natAbs < 18446744073709551616) || (decide (j.natAbs < 18446744073709551616) || decide (i.natAbs.log2 + j.natAbs.log2 < 1000000))
theorem op_mulA : OpR X (binaryOp .Mult) (rI (fun i j => mulOk i j = true) fun i j => .int (i * j)) := opI fun i j _ _ _ _ _ hc q => by
  refine mul_int q ?_
  rcases Bool.or_eq_true_iff.mp hc with h | h
  · exact CMul.ok (.inl ⟨by have := of_decide_eq_true h; omega, by have := of_decide_eq_true h; omega⟩)
  · rcases Bool.or_eq_true_iff.mp h with h | h
    · exact CMul.ok (.inr ⟨by have := of_decide_eq_true h; omega, by have := of_decide_eq_true h; omega⟩)
    · exact CMulW.ok (show i.natAbs.log2 + j.natAbs.log2 < 1000000 from of_decide_eq_true h)
/-- a divisor's size -/
def divOk (j : Int) : Bool := j != 0 && decide (j.natAbs.log2 < 9000)
theorem op_fdivA : OpR X (binaryOp .FloorDiv) (rI (fun _ j => divOk j = true) fun i j => .int (i.fdiv j)) := opI fun i j _ _ _ _ _ hc q => by
  obtain ⟨h1, h2⟩ := Bool.and_eq_true_iff.mp hc
  exact floordiv_int (by simpa using h1) q (.inl (PyProof.noPylong_of_log2 (of_decide_eq_true h2)))
def mulI : D → D → Option D := fun d e => match d, e with
  | .int i, .int j => if mulOk i j then some (.int (i * j)) else none
  | _, _ => none
def fdivD : D → D → Option D := fun d e => match d, e with
  | .int i, .int j => if divOk j then some (.int (i.fdiv j)) else none
  | _, _ => none
def modD : D → D → Option D := fun d e => match d, e with
  | .int i, .int j => if j != 0 then some (.int (i.fmod j)) else none
  | _, _ => none
theorem dop_mulI : DOp X (binaryOp .Mult) mulI .val := dop_int op_mulA (fun _ _ h => h) fun _ _ _ _ => .int _
theorem dop_fdiv : DOp X (binaryOp .FloorDiv) fdivD .val := dop_int (c := fun _ j => divOk j) op_fdivA (fun _ _ h => h) fun _ _ _ _ => .int _
theorem dop_mod : DOp X (binaryOp .Mod) modD .val := dop_int (c := fun _ j => j != 0) op_modN (fun _ j h => by simpa using h) fun _ _ _ _ => .int _

/-! ### + -/
def addI : D → D → Option D := int2 fun i j => .int (i + j)
theorem dop_addI : DOp X (binaryOp .Add) addI .val := dop_int0 op_add fun _ _ _ _ => .int _
def addS : D → D → Option D := fun d e => match d, e with
  | .str x, .str y => if x.length + y.length ≤ sizeLine then some (.str (x ++ y)) else none
  | _, _ => none
theorem dop_addS : DOp X (binaryOp .Add) addS .val := by
  refine ⟨_, op_add_str, fun F H x y d e z Q tr hx hy hg hq => ?_⟩
  unfold addS at hg
  split at hg
  · rename_i i j
    split at hg
    · cases hg
      exact ⟨i, j, hx.str, hy.str, ‹_›, hq _ F H Ext.refl (.str _)⟩
    · cases hg
  · cases hg
def addL : D → D → Option D := fun d e => match d, e with
  | .lst xs, .lst ys => if xs.length + ys.length ≤ sizeLine then some (.lst (xs ++ ys)) else none
  | _, _ => none
theorem dop_addL : DOp X (binaryOp .Add) addL .own := by
  refine ⟨_, op_cat, fun F H x y d e z Q tr hx hy hg hq => ?_⟩
  unfold addL at hg
  split at hg
  · rename_i xs ys
    split at hg
    · cases hg
      obtain ⟨a, vs, rfl, ha, ra⟩ := hx.lst
      obtain ⟨b, ws, rfl, hb, rb⟩ := hy.lst
      exact ⟨a, b, vs, ws, rfl, rfl, ha, hb, by rw [ra.len, rb.len]; assumption, fun p hp => hq _ F _ (Ext.new hp) (new_lst hp (ra.app rb))⟩
    · cases hg
  · cases hg
def addT : D → D → Option D := fun d e => match d, e with
  | .tup xs, .tup ys => if xs.length + ys.length ≤ sizeLine then some (.tup (xs ++ ys)) else none
  | _, _ => none
theorem dop_addT : DOp X (binaryOp .Add) addT .val := by
  refine ⟨_, op_catA, fun F H x y d e z Q tr hx hy hg hq => ?_⟩
  unfold addT at hg
  split at hg
  · rename_i xs ys
    split at hg
    · cases hg
      obtain ⟨a, vs, rfl, ha, ra⟩ := hx.tup
      obtain ⟨b, ws, rfl, hb, rb⟩ := hy.tup
      refine ⟨a, b, vs, ws, rfl, rfl, ha.sq, hb.sq, by rw [ra.len, rb.len]; assumption, fun e => ?_, fun _ e => ?_, fun _ _ p hp => hq _ _ _ (Ext.newF hp) (new_tup hp (ra.app rb))⟩
      · subst e
        cases ra
        exact hq _ F H Ext.refl (.tup hb rb)
      · subst e
        cases rb
        exact hq _ F H Ext.refl (by rw [List.append_nil]; exact .tup ha ra)
    · cases hg
  · cases hg
/-- a new list, frozen at once -/
theorem DOp.frz {f : Value → Value → Sem Value} {g : D → D → Option D} (h : DOp X f g .own) : DOp X f g .val := by
  obtain ⟨r, o, k⟩ := h
  refine ⟨r, o, fun F H x y d e z Q tr hx hy hg hq => k F H x y d e z Q tr hx hy hg fun v F' H' x' q => ?_⟩
  obtain ⟨rfl, a, rfl, fl, na⟩ := q
  have kk : Keep F' H' (fun b => F' b ∨ b = a) H' := ⟨fun _ h => .inl h, fun _ _ _ h => h⟩
  obtain ⟨o', ho, _⟩ := fl.tr
  exact hq _ (fun b => F' b ∨ b = a) H' ⟨fun _ h => .inl h, fun b q => q.elim .inl fun e => .inr (e ▸ na), x'.h1, fun b q => q.elim .inl fun e => .inr ⟨o', e ▸ ho⟩⟩ (Flat.rep (.inr rfl) (fl.keep kk fun _ h => h))
/-- x + y of all kinds -/
def addD : D → D → Option D := fun d e => match d, e with
  | .int i, .int j => some (.int (i + j))
  | .str x, .str y => if x.length + y.length ≤ sizeLine then some (.str (x ++ y)) else none
  | .lst xs, .lst ys => if xs.length + ys.length ≤ sizeLine then some (.lst (xs ++ ys)) else none
  | .tup xs, .tup ys => if xs.length + ys.length ≤ sizeLine then some (.tup (xs ++ ys)) else none
  | _, _ => none
theorem dop_add : DOp X (binaryOp .Add) addD .val := by
  refine DOp.or (g' := fun d e => (addL d e).or (addT d e)) (DOp.or (h := fun d e => (addI d e).or (addS d e)) dop_addI dop_addS fun d e z h => ?_) (DOp.or dop_addL.frz dop_addT fun d e z h => ?_) fun d e z h => ?_
  · cases q : addI d e with
    | none => rw [q] at h; exact .inr h
    | some u => rw [q] at h; exact .inl h
  · cases q : addL d e with
    | none => rw [q] at h; exact .inr h
    | some u => rw [q] at h; exact .inl h
  · unfold addD at h
    split at h
    · exact .inl h
    · exact .inl h
    · refine .inr ?_
      show (addL _ _).or _ = _
      rw [show addL (.lst _) (.lst _) = some z from h]
      rfl
    · exact .inr h
    · cases h

/-! ### ==, != -/
theorem eq_lens {f : Value → Value → Sem Value} {g : Bool → Bool} (hL : ∀ (s : Shared) (l b : Addr) (i1 i2 : Array Value) (Q : Value → Shared → Prop), s.heap.IsList l i1 → s.heap.IsList b i2 → (i1.size != i2.size) = true → Q (.bool (g false)) s → wpAny (model X.prog X.w) X.A (f (.ref l) (.ref b)) Q X.xe s) :
    OpR X f (fun x y H Q => ∃ a b vs ws, x = .ref a ∧ y = .ref b ∧ H a = some (.lst vs) ∧ H b = some (.lst ws) ∧ vs.length ≠ ws.length ∧ Q (.bl (g false)) H) := by
  intro pins s σ H x y v u Q I rx ry h
  obtain ⟨a, b, vs, ws, rfl, rfl, ha, hb, hn, q⟩ := h
  cases rx
  cases ry
  obtain ⟨its, r1, p1, _⟩ := I.list (.inl (.inl ha))
  obtain ⟨its2, r2, p2, _⟩ := I.list (.inl (.inl hb))
  have e1 := r1.length
  have e2 := r2.length
  exact hL s a b _ _ _ p1.isList p2.isList (by simp; omega) ⟨.bl _, H, I, rfl, q⟩
/-- one of the two tuples is empty -/
theorem eq_nilT {f : Value → Value → Sem Value} {g : Bool → Bool} (hL : ∀ (s : Shared) (l b : Addr) (i1 i2 : Array Value) (Q : Value → Shared → Prop), s.heap.IsTuple l i1 → s.heap.IsTuple b i2 → (i1.size = 0 ∨ i2.size = 0) → Q (.bool (g (i1.size == i2.size))) s → wpAny (model X.prog X.w) X.A (f (.ref l) (.ref b)) Q X.xe s) :
    OpR X f (fun x y H Q => ∃ a b vs ws, x = .ref a ∧ y = .ref b ∧ SqT X.K H a vs ∧ SqT X.K H b ws ∧ (vs.length = 0 ∨ ws.length = 0) ∧ Q (.bl (g (vs.length == ws.length))) H) := by
  intro pins s σ H x y v u Q I rx ry h
  obtain ⟨a, b, vs, ws, rfl, rfl, ha, hb, hn, q⟩ := h
  cases rx
  cases ry
  obtain ⟨its, r1, p1, _⟩ := I.tuple ha
  obtain ⟨its2, r2, p2, _⟩ := I.tuple hb
  have e1 := r1.length
  have e2 := r2.length
  refine hL s a b _ _ _ p1 p2 (by rw [List.size_toArray, List.size_toArray]; omega) ⟨.bl _, H, I, ?_, q⟩
  show Value.bool _ = Value.bool _
  simp [e1, e2]
def eqL (g : Bool → Bool) : D → D → Option D := fun d e => match d, e with
  | .lst xs, .lst ys => if xs.length = ys.length then none else some (.bl (g false))
  | _, _ => none
def eqT (g : Bool → Bool) : D → D → Option D := fun d e => match d, e with
  | .tup xs, .tup ys => if xs.length = 0 ∨ ys.length = 0 then some (.bl (g (xs.length == ys.length))) else none
  | _, _ => none
def eqP (g : Bool → Bool) : D → D → Option D := fun d e => if shp d && shp e then some (.bl (g (eqv d e))) else none
def scalD : D → D → Bool
  | .non, .non => true | .non, .int _ => true | .int _, .non => true | .non, .bl _ => true | .bl _, .non => true | .non, .str _ => true | .str _, .non => true
  | .int _, .int _ => true | .bl _, .bl _ => true | .str _, .str _ => true
  | .int _, .str _ => true | .str _, .int _ => true | .bl _, .str _ => true | .str _, .bl _ => true
  | _, _ => false
def eqS (g : Bool → Bool) : D → D → Option D := fun d e => if scalD d e then some (.bl (g (eqv d e))) else none
/-- == of data: texts and ints of any size; lists of unlike lengths, an empty tuple; else data at any depth -/
def eqG (g : Bool → Bool) : D → D → Option D := fun d e => (eqS g d e).or ((eqL g d e).or ((eqT g d e).or (eqP g d e)))
def eqD : D → D → Option D := eqG id
def neD : D → D → Option D := eqG not
theorem dop_eqP (hu : X.A.units + 64 < cLine) : DOp X (compareOp .Eq) (eqP id) .val := by
  refine ⟨_, op_eqD hu, fun F H x y d e z Q tr hx hy hg hq => ?_⟩
  unfold eqP at hg
  split at hg
  · rename_i hs
    cases hg
    obtain ⟨s1, s2⟩ := Bool.and_eq_true_iff.mp hs
    exact ⟨_, _, hx.dp (SeqAt.canLay_of_shaped s1), hy.dp (SeqAt.canLay_of_shaped s2), s1, s2, hq _ F H Ext.refl (.bl _)⟩
  · cases hg
theorem dop_neP (hu : X.A.units + 64 < cLine) : DOp X (compareOp .NotEq) (eqP not) .val := by
  refine ⟨_, op_neD hu, fun F H x y d e z Q tr hx hy hg hq => ?_⟩
  unfold eqP at hg
  split at hg
  · rename_i hs
    cases hg
    obtain ⟨s1, s2⟩ := Bool.and_eq_true_iff.mp hs
    exact ⟨_, _, hx.dp (SeqAt.canLay_of_shaped s1), hy.dp (SeqAt.canLay_of_shaped s2), s1, s2, hq _ F H Ext.refl (.bl _)⟩
  · cases hg
theorem dop_eqL {f : Value → Value → Sem Value} {g : Bool → Bool} (hL : ∀ (s : Shared) (l b : Addr) (i1 i2 : Array Value) (Q : Value → Shared → Prop), s.heap.IsList l i1 → s.heap.IsList b i2 → (i1.size != i2.size) = true → Q (.bool (g false)) s → wpAny (model X.prog X.w) X.A (f (.ref l) (.ref b)) Q X.xe s) : DOp X f (eqL g) .val := by
  refine ⟨_, eq_lens hL, fun F H x y d e z Q tr hx hy hg hq => ?_⟩
  unfold eqL at hg
  split at hg
  · split at hg
    · cases hg
    · cases hg
      obtain ⟨a, vs, rfl, ha, ra⟩ := hx.lst
      obtain ⟨b, ws, rfl, hb, rb⟩ := hy.lst
      exact ⟨a, b, vs, ws, rfl, rfl, ha, hb, by rw [ra.len, rb.len]; assumption, hq _ F H Ext.refl (.bl _)⟩
  · cases hg
theorem dop_eqT {f : Value → Value → Sem Value} {g : Bool → Bool} (hL : ∀ (s : Shared) (l b : Addr) (i1 i2 : Array Value) (Q : Value → Shared → Prop), s.heap.IsTuple l i1 → s.heap.IsTuple b i2 → (i1.size = 0 ∨ i2.size = 0) → Q (.bool (g (i1.size == i2.size))) s → wpAny (model X.prog X.w) X.A (f (.ref l) (.ref b)) Q X.xe s) : DOp X f (eqT g) .val := by
  refine ⟨_, eq_nilT hL, fun F H x y d e z Q tr hx hy hg hq => ?_⟩
  unfold eqT at hg
  split at hg
  · split at hg
    · cases hg
      obtain ⟨a, vs, rfl, ha, ra⟩ := hx.tup
      obtain ⟨b, ws, rfl, hb, rb⟩ := hy.tup
      exact ⟨a, b, vs, ws, rfl, rfl, ha.sq, hb.sq, by rw [ra.len, rb.len]; assumption, hq _ F H Ext.refl (by rw [ra.len, rb.len]; exact .bl _)⟩
    · cases hg
  · cases hg
theorem eqv_scal {X : Txt} {F : Fz} {H : Hp} {x y : V} {d e : D} (hs : scalD d e = true) (hx : Bo X F H x d) (hy : Bo X F H y e) : scal x y = true ∧ eqv d e = decide (x = y) := by
  have rx : Rep X F H x d := by
    rcases hx with h | ⟨a, _, f⟩
    · exact h
    · cases f <;> cases e <;> cases hs
  have ry : Rep X F H y e := by
    rcases hy with h | ⟨a, _, f⟩
    · exact h
    · cases f <;> cases d <;> cases hs
  cases d <;> cases e <;> first | (cases hs; done) | skip
  all_goals (cases rx; cases ry; refine ⟨rfl, ?_⟩; simp [eqv, toP, PyData.eqv])
  all_goals (rw [Bool.eq_iff_iff]; simp)
theorem dop_eqS : DOp X (compareOp .Eq) (eqS id) .val := by
  refine ⟨_, op_eq, fun F H x y d e z Q tr hx hy hg hq => ?_⟩
  unfold eqS at hg
  split at hg
  · cases hg
    obtain ⟨h1, h2⟩ := eqv_scal ‹_› hx hy
    exact ⟨h1, hq _ F H Ext.refl (by rw [h2]; exact .bl _)⟩
  · cases hg
theorem dop_neS : DOp X (compareOp .NotEq) (eqS not) .val := by
  refine ⟨_, op_ne, fun F H x y d e z Q tr hx hy hg hq => ?_⟩
  unfold eqS at hg
  split at hg
  · cases hg
    obtain ⟨h1, h2⟩ := eqv_scal ‹_› hx hy
    exact ⟨h1, hq _ F H Ext.refl (by rw [h2]; exact .bl _)⟩
  · cases hg
theorem or_some {α : Type} {a b : Option α} {z : α} (h : a.or b = some z) : a = some z ∨ b = some z := by
  cases a with
  | none => exact .inr h
  | some u => exact .inl h
theorem dop_eq (hu : X.A.units + 64 < cLine) : DOp X (compareOp .Eq) eqD .val := by
  have h0 : X.A.units < cLine := by omega
  refine DOp.or dop_eqS (DOp.or (dop_eqL fun s l b i1 i2 Q a1 a2 h q => SeqAt.eq_list_lengthsAt a1 a2 h h0 q) (DOp.or (dop_eqT fun s l b i1 i2 Q a1 a2 h q => ?_) (dop_eqP hu) fun _ _ _ => or_some) fun _ _ _ => or_some) fun _ _ _ => or_some
  refine SeqAt.eq_tupleAt (e := fun _ => true) a1 a2 h0 (fun j h1 h2 => by omega) ?_
  have e : min i1.size i2.size = 0 := by omega
  rw [e]
  exact q
theorem dop_ne (hu : X.A.units + 64 < cLine) : DOp X (compareOp .NotEq) neD .val := by
  have h0 : X.A.units < cLine := by omega
  refine DOp.or dop_neS (DOp.or (dop_eqL fun s l b i1 i2 Q a1 a2 h q => SeqAt.RcNeAt.lists_lengths a1 a2 h h0 _ _ _ _ q) (DOp.or (dop_eqT fun s l b i1 i2 Q a1 a2 h q => ?_) (dop_neP hu) fun _ _ _ => or_some) fun _ _ _ => or_some) fun _ _ _ => or_some
  refine SeqAt.RcNeAt.tuples (e := fun _ => true) a1 a2 h0 (fun j h1 h2 => by omega) _ _ _ _ ?_
  have e : min i1.size i2.size = 0 := by omega
  rw [e]
  exact q
/-! ### is None -/
def isN : D → Bool
  | .non => true
  | _ => false
theorem Rep.isN {F : Fz} {H : Hp} {v : V} {d : D} (h : Rep X F H v d) : decide (v = .non) = isN d := by
  cases h <;> simp [Pu.isN]
def isD : D → D → Option D := fun d e => match e with
  | .non => some (.bl (isN d))
  | .bl b => (match d with
    | .bl c => some (.bl (b == c))
    | _ => some (.bl false))
  | _ => none
end
end Pu

set_option maxHeartbeats 4000000
/-! PuD: expressions over plain data. -/
namespace Pu
open PySem PySem.Spec PyProof.Rows L2
section
variable {X : Cx} {W : WX} {κ κ' κ1 κ2 κ3 : List Kd} {p p1 p2 p3 : Bool} {b b1 b2 b3 : Md} {F F' F1 : Fz} {H H' H1 : Hp} {σ : SS} {ρ ρ' : En} {O O' O1 : List Addr} {a c e : Expr} {pos : Pos}
abbrev SemE (X : Cx) (W : WX) (κ κ' : List Kd) (p : Bool) (b : Md) (t : TE) (f : Fe) : Prop := ∀ F H σ ρ O Q, Stt X F H κ σ ρ O → PostE X W κ κ' p b (f ρ) F H σ O Q → t σ H Q
abbrev SemT (X : Cx) (W : WX) (κ κ' : List Kd) (p : Bool) (t : TT) (f : Fb) : Prop := ∀ F H σ ρ O Q, Stt X F H κ σ ρ O → PostT X W κ κ' p (f ρ) F H σ O Q → t σ H Q
abbrev SemA (X : Cx) (W : WX) (κ κ' : List Kd) (p : Bool) (bs : List Md) (t : TA) (f : Fa) : Prop := ∀ F H σ ρ O Q, Stt X F H κ σ ρ O → PostA X W κ κ' p bs (f ρ) F H σ O Q → t σ H Q
theorem Pur.same (h : Pur p H O H' O') (e : p = true) : ∀ a o, H a = some o → H' a = some o := (h e).1
/-- what an outcome asks, by its end -/
def Fin {α : Type} (X : Txt) (W : WX) (κ : List Kd) (F : Fz) (H : Hp) (σ : SS) (O : List Addr) (r : Out α) (K : α → En → Prop) : Prop := match r with
  | .bad => False
  | .ok d ρ' => K d ρ'
  | .ex x ρ' => PostX X W κ x ρ' F H σ O
theorem two {ta tb : TE} {fa fb : Fe} (hta : SemE X W κ κ1 p1 b1 ta fa) (htb : SemE X W κ1 κ2 p2 b2 tb fb) (io : Io κ1 κ) (hm : b1 = .bor → p2 = true) {R : V → V → Hp → Prop} (s : Stt X F H κ σ ρ O)
    (h : Fin X W κ F H σ O (fa ρ) fun d ρ1 => Fin X W κ F H σ O (fb ρ1) fun e ρ2 => ∀ x y F' H' O', Stp F H O F' H' O' → Stt X F' H' κ2 σ ρ2 O' → Pur (p1 && p2) H O H' O' → Rv X F' H' O' H b1 x d → Rv X F' H' O' H b2 y e → R x y H') :
    ta σ H fun x H1 => tb σ H1 fun y H2 => R x y H2 := by
  refine hta F H σ ρ O _ s ?_
  unfold PostE
  cases ea : fa ρ with
  | bad => rw [ea] at h; exact h
  | ex x ρ1 => rw [ea] at h; exact h
  | ok d ρ1 =>
    rw [ea] at h
    intro v F1 H1 O1 st1 s1 pu1 r1
    refine htb F1 H1 σ ρ1 O1 _ s1 ?_
    unfold PostE
    have h' : Fin X W κ F H σ O (fb ρ1) fun e ρ2 => ∀ x y F' H' O', Stp F H O F' H' O' → Stt X F' H' κ2 σ ρ2 O' → Pur (p1 && p2) H O H' O' → Rv X F' H' O' H b1 x d → Rv X F' H' O' H b2 y e → R x y H' := h
    cases eb : fb ρ1 with
    | bad => rw [eb] at h'; exact h'
    | ex x ρ2 => rw [eb] at h'; exact PostX.after h' st1 io
    | ok e ρ2 =>
      rw [eb] at h'
      intro u F2 H2 O2 st2 s2 pu2 r2
      refine h' v u F2 H2 O2 (st1.trans st2) s2 (pu1.trans pu2) (r1.held s1 st2 fun z => pu2.same (hm z)) (r2.old fun q => st1.none)
def eBin (g : D → D → Option D) (fa fb : Fe) : Fe := fun ρ => (fa ρ).bind fun d ρ1 => (fb ρ1).bind fun e ρ2 => Out.of (g d e) ρ2
theorem fin_bin {fa fb : Fe} {g : D → D → Option D} {Q : VK} {K : D → D → D → En → Prop} (h : PostE X W κ κ2 p b (eBin g fa fb ρ) F H σ O Q)
    (hK : ∀ d e z ρ2, g d e = some z → PostE X W κ κ2 p b (.ok z ρ2) F H σ O Q → K d e z ρ2) :
    Fin X W κ F H σ O (fa ρ) fun d ρ1 => Fin X W κ F H σ O (fb ρ1) fun e ρ2 => ∃ z, g d e = some z ∧ K d e z ρ2 := by
  unfold eBin Out.bind at h
  cases ea : fa ρ with
  | bad => rw [ea] at h; exact h
  | ex x ρ1 => rw [ea] at h; exact h
  | ok d ρ1 =>
    rw [ea] at h
    dsimp only at h
    show Fin X W κ F H σ O (fb ρ1) _
    cases eb : fb ρ1 with
    | bad => rw [eb] at h; exact h
    | ex x ρ1 => rw [eb] at h; exact h
    | ok e ρ2 =>
      rw [eb] at h
      dsimp only at h
      show ∃ z, _
      cases eg : g d e with
      | none => simp only [eg, Out.of] at h; exact h.elim
      | some z =>
        simp only [eg, Out.of] at h
        exact ⟨z, rfl, hK d e z ρ2 eg h⟩
theorem Fin.imp {α : Type} {r : Out α} {K K' : α → En → Prop} (h : Fin X W κ F H σ O r K) (q : ∀ a ρ, K a ρ → K' a ρ) : Fin X W κ F H σ O r K' := by
  cases r with
  | bad => exact h
  | ex x ρ1 => exact h
  | ok d ρ1 => exact q _ _ h
/-- the end of an operator: its result in the state -/
theorem res_of {x y : V} {d e z : D} {ρ2 : En} {g : D → D → Option D} {Q : VK} {p : Bool} (hq : PostE X W κ κ2 p b (.ok z ρ2) F H σ O Q) (st : Stp F H O F' H' O') (s : Stt X F' H' κ2 σ ρ2 O') (pu : Pur p H O H' O') :
    ∀ v F2 H2, Ext F' H' F2 H2 → RvN X F' H' F2 H2 b v z → Q v H2 := fun v F2 H2 x r => by
  refine hq v F2 H2 O' (st.trans x.stp) (s.ext x) ?_ ?_
  · intro e
    obtain ⟨q1, q2⟩ := pu e
    exact ⟨fun a o h => x.h1 a o (q1 a o h), q2⟩
  · cases b with
    | val => exact r
    | bor => exact .inl r
    | own =>
      obtain ⟨rfl, a, rfl, f, na⟩ := r
      have hn : H a = none := st.none na
      refine ⟨a, rfl, f, fun z => ?_, fun z => ?_, hn⟩
      · obtain ⟨o, ho⟩ := s.tr a z
        rw [na] at ho; cases ho
      · obtain ⟨o, ho, _⟩ := s.sl.tracked a z
        rw [na] at ho; cases ho
theorem de_binG {t : TE → TE → TE} {e : Expr} {f : Value → Value → Sem Value} {g : D → D → Option D} {fa fb : Fe} (ho : DOp X f g b3) (ha : DE X W κ a κ1 p1 b1 fa) (hb : DE X W κ1 c κ2 p2 b2 fb) (hm : b1 = .bor → p2 = true)
    (mk : ∀ r ta tb, OpR X f r → PE X a ta → PE X c tb → PE X e (tOp r ta tb)) : DE X W κ e κ2 (p1 && p2) b3 (eBin g fa fb) := by
  obtain ⟨⟨ta, pa, hta⟩, i1⟩ := ha
  obtain ⟨⟨tb, pb, htb⟩, i2⟩ := hb
  obtain ⟨r, o, k⟩ := ho
  refine ⟨⟨tOp r ta tb, mk r ta tb o pa pb, fun F H σ ρ O Q s h => ?_⟩, i2.trans i1⟩
  refine two hta htb i1 hm s ?_
  refine (fin_bin h fun d e z ρ2 hg hq => (⟨hg, hq⟩ : g d e = some z ∧ _)).imp fun d ρ1 h1 => h1.imp fun e ρ2 h2 => ?_
  obtain ⟨z, hg, _, hq⟩ := h2
  intro x y F' H' O' st s' pu rx ry
  exact k F' H' x y d e z Q s'.tr rx.bo ry.bo hg (res_of (x := x) (y := y) (d := d) (e := e) (g := g) hq st s' pu)
theorem de_bin {op : Operator} {g : D → D → Option D} {fa fb : Fe} (ho : DOp X (binaryOp op) g b3) (ha : DE X W κ a κ1 p1 b1 fa) (hb : DE X W κ1 c κ2 p2 b2 fb) (hm : b1 = .bor → p2 = true := by first | exact (fun _ => rfl) | exact (fun h => nomatch h)) :
    DE X W κ (.BinOp a op c pos) κ2 (p1 && p2) b3 (eBin g fa fb) := de_binG (t := fun x _ => x) ho ha hb hm fun r ta tb o pa pb => pe_op o pa pb
theorem de_cmp {op : CmpOp} {g : D → D → Option D} {fa fb : Fe} (ho : DOp X (compareOp op) g b3) (ha : DE X W κ a κ1 p1 b1 fa) (hb : DE X W κ1 c κ2 p2 b2 fb) (hm : b1 = .bor → p2 = true := by first | exact (fun _ => rfl) | exact (fun h => nomatch h)) (hn : behindInMarks op c = false := by first | exact nomark _ | rfl) :
    DE X W κ (.Compare a [op] [c] pos) κ2 (p1 && p2) b3 (eBin g fa fb) := de_binG (t := fun x _ => x) ho ha hb hm fun r ta tb o pa pb => pe_cmpR o pa pb hn
/-- a value's outcome as a test -/
def tst (f : Fe) : Fb := fun ρ => (f ρ).bind fun d ρ1 => match d with
  | .bl c => .ok c ρ1
  | _ => .bad
theorem post_tst {f : Fe} {Q : Bool → Hp → Prop} (h : PostT X W κ κ2 p (tst f ρ) F H σ O Q) : PostE X W κ κ2 p b (f ρ) F H σ O fun x H' => ∃ k, x = .bl k ∧ Q k H' := by
  unfold tst Out.bind at h
  unfold PostE
  cases ea : f ρ with
  | bad => rw [ea] at h; exact h
  | ex x ρ1 => rw [ea] at h; exact h
  | ok d ρ1 =>
    rw [ea] at h
    intro v F' H' O' st s' pu r
    cases d with
    | bl c => exact ⟨c, r.bo.bl, h F' H' O' st s' pu⟩
    | _ => exact h.elim
theorem dt_cmp {op : CmpOp} {g : D → D → Option D} {fa fb : Fe} (ho : DOp X (compareOp op) g .val) (ha : DE X W κ a κ1 p1 b1 fa) (hb : DE X W κ1 c κ2 p2 b2 fb) (hm : b1 = .bor → p2 = true := by first | exact (fun _ => rfl) | exact (fun h => nomatch h)) (hn : behindInMarks op c = false := by first | exact nomark _ | rfl) :
    DT X W κ (.Compare a [op] [c] pos) κ2 (p1 && p2) (tst (eBin g fa fb)) := by
  obtain ⟨⟨ta, pa, hta⟩, i1⟩ := ha
  obtain ⟨⟨tb, pb, htb⟩, i2⟩ := hb
  obtain ⟨r, o, k⟩ := ho
  refine ⟨⟨_, pt_cmpR o pa pb hn, fun F H σ ρ O Q s h => ?_⟩, i2.trans i1⟩
  refine two hta htb i1 hm s ?_
  refine (fin_bin (b := .val) (post_tst h) fun d e z ρ2 hg hq => (⟨hg, hq⟩ : g d e = some z ∧ _)).imp fun d ρ1 h1 => h1.imp fun e ρ2 h2 => ?_
  obtain ⟨z, hg, _, hq⟩ := h2
  intro x y F' H' O' st s' pu rx ry
  exact k F' H' x y d e z _ s'.tr rx.bo ry.bo hg (res_of (x := x) (y := y) (d := d) (e := e) (g := g) hq st s' pu)
theorem dt_val {f : Fe} (h : DE X W κ e κ' p b f) (he : ∀ whole, isTrue e X.env whole = (do let v ← whole; standAt e.pos; holding [v] (truthy v)) := by intro _; rfl) : DT X W κ e κ' p (tst f) := by
  obtain ⟨⟨t, pe, ht⟩, io⟩ := h
  exact ⟨⟨tB t, pt_val pe he, fun F H σ ρ O Q s q => ht F H σ ρ O _ s (post_tst q)⟩, io⟩
/-! ### a < b < c -/
def eChain (g g' : D → D → Option D) (fa fb fc : Fe) : Fe := fun ρ => (fa ρ).bind fun d ρ1 => (fb ρ1).bind fun e ρ2 => match g d e with
  | some (.bl true) => (fc ρ2).bind fun u ρ3 => Out.of (g' e u) ρ3
  | some (.bl false) => .ok (.bl false) ρ2
  | _ => .bad
theorem chain_sem {ta tb tc : TE} {fa fb fc : Fe} {f f' : Value → Value → Sem Value} {r r' : R2} {g g' : D → D → Option D} (hta : SemE X W κ κ p1 b1 ta fa) (htb : SemE X W κ κ p2 b2 tb fb) (htc : SemE X W κ κ p3 b3 tc fc) (hm : b1 = .bor → p2 = true) (hm2 : b2 = .bor → p3 = true)
    (k : ∀ F H x y d e z Q, (∀ a, F a → ∃ o, H a = some o) → Bo X F H x d → Bo X F H y e → g d e = some z → (∀ v F' H', Ext F H F' H' → RvN X F H F' H' .val v z → Q v H') → r x y H Q)
    (k' : ∀ F H x y d e z Q, (∀ a, F a → ∃ o, H a = some o) → Bo X F H x d → Bo X F H y e → g' d e = some z → (∀ v F' H', Ext F H F' H' → RvN X F H F' H' .val v z → Q v H') → r' x y H Q) {Q : VK}
    (s : Stt X F H κ σ ρ O) (h : PostE X W κ κ (p1 && p2 && p3) .val (eChain g g' fa fb fc ρ) F H σ O Q) : tChain r r' ta tb tc σ H Q := by
  refine two hta htb Io.refl hm s ?_
  unfold eChain Out.bind at h
  cases ea : fa ρ with
  | bad => rw [ea] at h; exact h
  | ex x ρ1 => rw [ea] at h; exact h
  | ok d ρ1 =>
    rw [ea] at h
    dsimp only at h
    show Fin X W κ F H σ O (fb ρ1) _
    cases eb : fb ρ1 with
    | bad => rw [eb] at h; exact h
    | ex x ρ1 => rw [eb] at h; exact h
    | ok e ρ2 =>
      rw [eb] at h
      dsimp only at h
      intro x y F' H' O' st s' pu rx ry
      have puF : ∀ {p : Bool} {q : Bool}, p = true → (p && q) = true → q = true := fun h1 h2 => (Bool.and_eq_true_iff.mp h2).2
      cases eg : g d e with
      | none => simp only [eg] at h; exact h.elim
      | some z =>
        cases z with
        | bl q =>
          simp only [eg] at h
          refine k F' H' x y d e _ _ s'.tr rx.bo ry.bo eg fun v F2 H2 x2 rv => ?_
          cases (show Rep X F2 H2 v (.bl q) from rv)
          refine ⟨q, rfl, ?_⟩
          cases q with
          | false =>
            rw [if_neg Bool.false_ne_true]
            refine h (.bl false) F2 H2 O' (st.trans x2.stp) (s'.ext x2) (fun e => ?_) (.bl false)
            obtain ⟨e1, _⟩ := Bool.and_eq_true_iff.mp e
            obtain ⟨q1, q2⟩ := pu e1
            exact ⟨fun a o h => x2.h1 a o (q1 a o h), q2⟩
          | true =>
            rw [if_pos rfl]
            have hs2 := s'.ext x2
            have st2 := st.trans x2.stp
            refine htc F2 H2 σ ρ2 O' _ hs2 ?_
            unfold PostE
            cases ec : fc ρ2 with
            | bad => simp only [ec] at h; exact h
            | ex x ρ3 => simp only [ec] at h; exact PostX.after h st2 Io.refl
            | ok u ρ3 =>
              simp only [ec] at h
              intro w F3 H3 O3 st3 s3 pu3 rw'
              cases eg' : g' e u with
              | none => simp only [eg', Out.of] at h; exact h.elim
              | some z =>
                simp only [eg', Out.of] at h
                have ry2 : Rv X F3 H3 O3 H b2 y e := (ry.held s' (x2.stp (O := O')) fun _ => x2.h1).held hs2 st3 fun z => pu3.same (hm2 z)
                refine k' F3 H3 y w e u z _ s3.tr ry2.bo rw'.bo eg' (res_of (x := x) (y := y) (d := d) (e := e) (g := g) (b := .val) h (st2.trans st3) s3 (fun e => ?_))
                obtain ⟨e1, e3⟩ := Bool.and_eq_true_iff.mp e
                obtain ⟨q1, q2⟩ := pu e1
                obtain ⟨q3, q4⟩ := pu3 e3
                exact ⟨fun a o h => q3 a o (x2.h1 a o (q1 a o h)), q4.trans q2⟩
        | _ => simp only [eg] at h; exact h.elim
theorem de_chain {op op' : CmpOp} {g g' : D → D → Option D} {fa fb fc : Fe} {cc : Expr} (ho : DOp X (compareOp op) g .val) (ho' : DOp X (compareOp op') g' .val) (ha : DE X W κ a κ p1 b1 fa) (hb : DE X W κ c κ p2 b2 fb) (hc : DE X W κ cc κ p3 b3 fc)
    (hm : b1 = .bor → p2 = true := by first | exact (fun _ => rfl) | exact (fun h => nomatch h)) (hm2 : b2 = .bor → p3 = true := by first | exact (fun _ => rfl) | exact (fun h => nomatch h)) (hl : lastMarks [op, op'] [c, cc] = false := by with_unfolding_all rfl) :
    DE X W κ (.Compare a [op, op'] [c, cc] pos) κ (p1 && p2 && p3) .val (eChain g g' fa fb fc) := by
  obtain ⟨⟨ta, pa, hta⟩, i1⟩ := ha
  obtain ⟨⟨tb, pb, htb⟩, i2⟩ := hb
  obtain ⟨⟨tc, pc, htc⟩, i3⟩ := hc
  obtain ⟨r, o, k⟩ := ho
  obtain ⟨r', o', k'⟩ := ho'
  exact ⟨⟨_, pe_chain o o' pa pb pc hl, fun F H σ ρ O Q s h => chain_sem (f := compareOp op) (f' := compareOp op') hta htb htc hm hm2 k k' s h⟩, Io.refl⟩
theorem dt_chain {op op' : CmpOp} {g g' : D → D → Option D} {fa fb fc : Fe} {cc : Expr} (ho : DOp X (compareOp op) g .val) (ho' : DOp X (compareOp op') g' .val) (ha : DE X W κ a κ p1 b1 fa) (hb : DE X W κ c κ p2 b2 fb) (hc : DE X W κ cc κ p3 b3 fc)
    (hm : b1 = .bor → p2 = true := by first | exact (fun _ => rfl) | exact (fun h => nomatch h)) (hm2 : b2 = .bor → p3 = true := by first | exact (fun _ => rfl) | exact (fun h => nomatch h)) (hl : lastMarks [op, op'] [c, cc] = false := by with_unfolding_all rfl) :
    DT X W κ (.Compare a [op, op'] [c, cc] pos) κ (p1 && p2 && p3) (tst (eChain g g' fa fb fc)) := by
  obtain ⟨⟨ta, pa, hta⟩, i1⟩ := ha
  obtain ⟨⟨tb, pb, htb⟩, i2⟩ := hb
  obtain ⟨⟨tc, pc, htc⟩, i3⟩ := hc
  obtain ⟨r, o, k⟩ := ho
  obtain ⟨r', o', k'⟩ := ho'
  exact ⟨⟨_, pt_chain o o' pa pb pc hl, fun F H σ ρ O Q s h => chain_sem (f := compareOp op) (f' := compareOp op') hta htb htc hm hm2 k k' s (post_tst h)⟩, Io.refl⟩

/-! ### and, or, not, if -/
def bAnd (f g : Fb) : Fb := fun ρ => (f ρ).bind fun c ρ1 => if c then g ρ1 else .ok false ρ1
def bOr (f g : Fb) : Fb := fun ρ => (f ρ).bind fun c ρ1 => if c then .ok true ρ1 else g ρ1
def bNot (f : Fb) : Fb := fun ρ => (f ρ).bind fun c ρ1 => .ok (!c) ρ1
theorem PostT.step {f : Out Bool} {Q : Bool → Hp → Prop} {q : Bool} (h : PostT X W κ κ2 (p && q) f F H σ O Q) (st : Stp F H O F1 H1 O1) (pu : Pur p H O H1 O1) (io : Io κ1 κ) : PostT X W κ1 κ2 q f F1 H1 σ O1 Q := by
  cases f with
  | bad => exact h
  | ex x ρ' => exact PostX.after h st io
  | ok c ρ' => exact fun F' H' O' st' s' pu' => h F' H' O' (st.trans st') s' (pu.trans pu')
theorem PostE.step {f : Out D} {Q : VK} {q : Bool} (h : PostE X W κ κ2 (p && q) b f F H σ O Q) (st : Stp F H O F1 H1 O1) (pu : Pur p H O H1 O1) (io : Io κ1 κ) : PostE X W κ1 κ2 q b f F1 H1 σ O1 Q := by
  cases f with
  | bad => exact h
  | ex x ρ' => exact PostX.after h st io
  | ok c ρ' => exact fun v F' H' O' st' s' pu' r => h v F' H' O' (st.trans st') s' (pu.trans pu') (r.old fun q => st.none)
theorem PostT.true {f : Out Bool} {Q : Bool → Hp → Prop} (h : PostT X W κ κ2 (p && q) f F H σ O Q) : PostT X W κ κ2 (p && (q && true)) f F H σ O Q := by
  rw [Bool.and_true]; exact h
theorem dw_one {op : BoolOp} {f : Fb} (h : DT X W κ a κ' p f) : DW X W κ (.BoolOp op [a] pos) κ' p f := by
  obtain ⟨⟨t, pt, ht⟩, io⟩ := h
  cases op with
  | And => exact ⟨⟨t, pw_and1 pt, ht⟩, io⟩
  | Or => exact ⟨⟨t, pw_or1 pt, ht⟩, io⟩
theorem dw_and {rest : List Expr} {f g : Fb} (ha : DT X W κ a κ p1 f) (hb : DW X W κ (.BoolOp .And (c :: rest) pos) κ p2 g) : DW X W κ (.BoolOp .And (a :: c :: rest) pos) κ (p1 && p2) (bAnd f g) := by
  obtain ⟨⟨ta, pa, hta⟩, i1⟩ := ha
  obtain ⟨⟨tb, pb, htb⟩, i2⟩ := hb
  refine ⟨⟨_, pw_and pa pb, fun F H σ ρ O Q s h => hta F H σ ρ O _ s ?_⟩, Io.refl⟩
  unfold bAnd Out.bind at h
  unfold PostT
  cases ea : f ρ with
  | bad => rw [ea] at h; exact h
  | ex x ρ1 => rw [ea] at h; exact h
  | ok c ρ1 =>
    rw [ea] at h
    intro F1 H1 O1 st s1 pu
    cases c with
    | true => exact htb F1 H1 σ ρ1 O1 _ s1 (PostT.step h st pu Io.refl)
    | false => exact h F1 H1 O1 st s1 fun e => pu (Bool.and_eq_true_iff.mp e).1
theorem dw_or {rest : List Expr} {f g : Fb} (ha : DT X W κ a κ p1 f) (hb : DW X W κ (.BoolOp .Or (c :: rest) pos) κ p2 g) : DW X W κ (.BoolOp .Or (a :: c :: rest) pos) κ (p1 && p2) (bOr f g) := by
  obtain ⟨⟨ta, pa, hta⟩, i1⟩ := ha
  obtain ⟨⟨tb, pb, htb⟩, i2⟩ := hb
  refine ⟨⟨_, pw_or pa pb, fun F H σ ρ O Q s h => hta F H σ ρ O _ s ?_⟩, Io.refl⟩
  unfold bOr Out.bind at h
  unfold PostT
  cases ea : f ρ with
  | bad => rw [ea] at h; exact h
  | ex x ρ1 => rw [ea] at h; exact h
  | ok c ρ1 =>
    rw [ea] at h
    intro F1 H1 O1 st s1 pu
    cases c with
    | false => exact htb F1 H1 σ ρ1 O1 _ s1 (PostT.step h st pu Io.refl)
    | true => exact h F1 H1 O1 st s1 fun e => pu (Bool.and_eq_true_iff.mp e).1
theorem dt_w {f : Fb} (h : DW X W κ a κ' p f) : DT X W κ a κ' p f := by
  obtain ⟨⟨t, pt, ht⟩, io⟩ := h
  exact ⟨⟨t, pt.pt, ht⟩, io⟩
theorem dt_not {f : Fb} (h : DT X W κ a κ' p f) : DT X W κ (.UnaryOp .Not a pos) κ' p (bNot f) := by
  obtain ⟨⟨t, pt, ht⟩, io⟩ := h
  refine ⟨⟨_, pt_not pt, fun F H σ ρ O Q s h => ht F H σ ρ O _ s ?_⟩, io⟩
  unfold bNot Out.bind at h
  unfold PostT
  cases ea : f ρ with
  | bad => rw [ea] at h; exact h
  | ex x ρ1 => rw [ea] at h; exact h
  | ok c ρ1 => rw [ea] at h; exact h
/-- as values -/
def eAnd (f g : Fe) : Fe := fun ρ => (f ρ).bind fun d ρ1 => match d with
  | .bl true => g ρ1
  | .bl false => .ok (.bl false) ρ1
  | _ => .bad
def eOr (f g : Fe) : Fe := fun ρ => (f ρ).bind fun d ρ1 => match d with
  | .bl true => .ok (.bl true) ρ1
  | .bl false => g ρ1
  | _ => .bad
def eNot (f : Fe) : Fe := fun ρ => (f ρ).bind fun d ρ1 => match d with
  | .bl c => .ok (.bl (!c)) ρ1
  | _ => .bad
theorem de_one {op : BoolOp} {f : Fe} (h : DE X W κ a κ' p b f) : DE X W κ (.BoolOp op [a] pos) κ' p b f := by
  obtain ⟨⟨t, pt, ht⟩, io⟩ := h
  exact ⟨⟨t, pe_one pt, ht⟩, io⟩
theorem de_and {rest : List Expr} {f g : Fe} (ha : DE X W κ a κ p1 b1 f) (hb : DE X W κ (.BoolOp .And (c :: rest) pos) κ p2 .val g) : DE X W κ (.BoolOp .And (a :: c :: rest) pos) κ (p1 && p2) .val (eAnd f g) := by
  obtain ⟨⟨ta, pa, hta⟩, i1⟩ := ha
  obtain ⟨⟨tb, pb, htb⟩, i2⟩ := hb
  refine ⟨⟨_, pe_and pa pb, fun F H σ ρ O Q s h => hta F H σ ρ O _ s ?_⟩, Io.refl⟩
  unfold eAnd Out.bind at h
  unfold PostE
  cases ea : f ρ with
  | bad => rw [ea] at h; exact h
  | ex x ρ1 => rw [ea] at h; exact h
  | ok d ρ1 =>
    rw [ea] at h
    intro v F1 H1 O1 st s1 pu r
    cases d with
    | bl c =>
      refine ⟨c, r.bo.bl, ?_⟩
      cases c with
      | true => exact htb F1 H1 σ ρ1 O1 _ s1 (PostE.step h st pu Io.refl)
      | false => exact h _ F1 H1 O1 st s1 (fun e => pu (Bool.and_eq_true_iff.mp e).1) (.bl false)
    | _ => exact h.elim
theorem de_or {rest : List Expr} {f g : Fe} (ha : DE X W κ a κ p1 b1 f) (hb : DE X W κ (.BoolOp .Or (c :: rest) pos) κ p2 .val g) : DE X W κ (.BoolOp .Or (a :: c :: rest) pos) κ (p1 && p2) .val (eOr f g) := by
  obtain ⟨⟨ta, pa, hta⟩, i1⟩ := ha
  obtain ⟨⟨tb, pb, htb⟩, i2⟩ := hb
  refine ⟨⟨_, pe_or pa pb, fun F H σ ρ O Q s h => hta F H σ ρ O _ s ?_⟩, Io.refl⟩
  unfold eOr Out.bind at h
  unfold PostE
  cases ea : f ρ with
  | bad => rw [ea] at h; exact h
  | ex x ρ1 => rw [ea] at h; exact h
  | ok d ρ1 =>
    rw [ea] at h
    intro v F1 H1 O1 st s1 pu r
    cases d with
    | bl c =>
      refine ⟨c, r.bo.bl, ?_⟩
      cases c with
      | false => exact htb F1 H1 σ ρ1 O1 _ s1 (PostE.step h st pu Io.refl)
      | true => exact h _ F1 H1 O1 st s1 (fun e => pu (Bool.and_eq_true_iff.mp e).1) (.bl true)
    | _ => exact h.elim
theorem de_not {f : Fe} (h : DE X W κ a κ' p b f) : DE X W κ (.UnaryOp .Not a pos) κ' p .val (eNot f) := by
  obtain ⟨⟨t, pt, ht⟩, io⟩ := h
  refine ⟨⟨_, pe_not pt, fun F H σ ρ O Q s h => ht F H σ ρ O _ s ?_⟩, io⟩
  unfold eNot Out.bind at h
  unfold PostE
  cases ea : f ρ with
  | bad => rw [ea] at h; exact h
  | ex x ρ1 => rw [ea] at h; exact h
  | ok d ρ1 =>
    rw [ea] at h
    intro v F1 H1 O1 st s1 pu r
    cases d with
    | bl c => exact ⟨c, r.bo.bl, h _ F1 H1 O1 st s1 pu (.bl _)⟩
    | _ => exact h.elim
def eIf (t : Fb) (f g : Fe) : Fe := fun ρ => (t ρ).bind fun c ρ1 => if c then f ρ1 else g ρ1
theorem de_if {t : Fb} {f g : Fe} (hc : DT X W κ c κ1 p1 t) (ha : DE X W κ1 a κ2 p2 b f) (hb : DE X W κ1 e κ2 p2 b g) : DE X W κ (.IfExp c a e pos) κ2 (p1 && p2) b (eIf t f g) := by
  obtain ⟨⟨tc, pc, htc⟩, i0⟩ := hc
  obtain ⟨⟨ta, pa, hta⟩, i1⟩ := ha
  obtain ⟨⟨tb, pb, htb⟩, i2⟩ := hb
  refine ⟨⟨_, pe_ifExp pc pa pb, fun F H σ ρ O Q s h => htc F H σ ρ O _ s ?_⟩, i1.trans i0⟩
  unfold eIf Out.bind at h
  unfold PostT
  cases ea : t ρ with
  | bad => rw [ea] at h; exact h
  | ex x ρ1 => rw [ea] at h; exact h
  | ok c ρ1 =>
    rw [ea] at h
    intro F1 H1 O1 st s1 pu
    cases c with
    | true => exact hta F1 H1 σ ρ1 O1 _ s1 (PostE.step h st pu i0)
    | false => exact htb F1 H1 σ ρ1 O1 _ s1 (PostE.step h st pu i0)
/-- -a -/
def eNeg (f : Fe) : Fe := fun ρ => (f ρ).bind fun d ρ1 => match d with
  | .int i => .ok (.int (-i)) ρ1
  | _ => .bad
theorem de_neg {f : Fe} (h : DE X W κ a κ' p b f) : DE X W κ (.UnaryOp .USub a pos) κ' p .val (eNeg f) := by
  obtain ⟨⟨t, pt, ht⟩, io⟩ := h
  refine ⟨⟨_, pe_un un_neg pt, fun F H σ ρ O Q s h => ht F H σ ρ O _ s ?_⟩, io⟩
  unfold eNeg Out.bind at h
  unfold PostE
  cases ea : f ρ with
  | bad => rw [ea] at h; exact h
  | ex x ρ1 => rw [ea] at h; exact h
  | ok d ρ1 =>
    rw [ea] at h
    intro v F1 H1 O1 st s1 pu r
    cases d with
    | int c => exact ⟨c, r.bo.int, h _ F1 H1 O1 st s1 pu (.int _)⟩
    | _ => exact h.elim

/-! ### argument lists, displays -/
def aNil : Fa := fun ρ => .ok [] ρ
def aCons (f : Fe) (g : Fa) : Fa := fun ρ => (f ρ).bind fun d ρ1 => (g ρ1).bind fun ds ρ2 => .ok (d :: ds) ρ2
theorem da_nil : DA X W κ [] κ true [] aNil := ⟨⟨tNil, pa_nil, fun F H σ ρ O Q s h => h [] F H O Stp.refl s Pur.refl .nil⟩, Io.refl⟩
theorem da_cons {es : List Expr} {bs : List Md} {f : Fe} {g : Fa} (ha : DE X W κ e κ1 p1 b f) (hr : DA X W κ1 es κ2 p2 bs g) (hm : b = .bor → p2 = true := by first | exact (fun _ => rfl) | exact (fun h => nomatch h))
    (hs : starEach (e :: es) X.env = (false, eval e X.env) :: starEach es X.env := by rfl) : DA X W κ (e :: es) κ2 (p1 && p2) (b :: bs) (aCons f g) := by
  obtain ⟨⟨ta, pa, hta⟩, i1⟩ := ha
  obtain ⟨⟨tb, pb, htb⟩, i2⟩ := hr
  refine ⟨⟨_, pa_cons pa pb hs, fun F H σ ρ O Q s h => hta F H σ ρ O _ s ?_⟩, i2.trans i1⟩
  unfold aCons Out.bind at h
  unfold PostE
  cases ea : f ρ with
  | bad => rw [ea] at h; exact h
  | ex x ρ1 => rw [ea] at h; exact h
  | ok d ρ1 =>
    rw [ea] at h
    intro v F1 H1 O1 st s1 pu r
    refine htb F1 H1 σ ρ1 O1 _ s1 ?_
    unfold PostA
    simp only at h
    cases eb : g ρ1 with
    | bad => rw [eb] at h; exact h
    | ex x ρ2 => rw [eb] at h; exact PostX.after h st i1
    | ok ds ρ2 =>
      rw [eb] at h
      intro vs F2 H2 O2 st2 s2 pu2 r2
      exact h (v :: vs) F2 H2 O2 (st.trans st2) s2 (pu.trans pu2) (.cons (r.held s1 st2 fun z => pu2.same (hm z)) (r2.old fun q => st.none))
theorem Rvs.bos {H0 : Hp} : ∀ {bs : List Md} {vs : List V} {ds : List D}, Rvs X F H O H0 bs vs ds → Paired (Bo X F H) vs ds
  | _, _, _, .nil => .nil
  | _, _, _, .cons a r => .cons a.bo (Rvs.bos r)
theorem Rvs.reps {H0 : Hp} {bs : List Md} {vs : List V} {ds : List D} (hb : ∀ b ∈ bs, b = Md.val) (h : Rvs X F H O H0 bs vs ds) : Reps X F H vs ds := by
  induction h with
  | nil => exact .nil
  | cons a r ih =>
    have e := hb _ List.mem_cons_self
    subst e
    exact .cons a (ih fun b h => hb b (List.mem_cons_of_mem _ h))
def eTup (g : Fa) : Fe := fun ρ => (g ρ).bind fun ds ρ1 => if ds.length ≤ sizeLine then .ok (.tup ds) ρ1 else .bad
def eLst (g : Fa) : Fe := fun ρ => (g ρ).bind fun ds ρ1 => if ds.length ≤ sizeLine then .ok (.lst ds) ρ1 else .bad
theorem de_tup {es : List Expr} {bs : List Md} {g : Fa} {x1} (h : DA X W κ es κ' p bs g) (hb : ∀ b ∈ bs, b = Md.val := by decide) : DE X W κ (.Tuple es x1 pos) κ' p .val (eTup g) := by
  obtain ⟨⟨t, pt, ht⟩, io⟩ := h
  refine ⟨⟨_, pe_tup pt, fun F H σ ρ O Q s h => ht F H σ ρ O _ s ?_⟩, io⟩
  unfold eTup Out.bind at h
  unfold PostA
  cases ea : g ρ with
  | bad => rw [ea] at h; exact h
  | ex x ρ1 => rw [ea] at h; exact h
  | ok ds ρ1 =>
    rw [ea] at h
    intro vs F1 H1 O1 st s1 pu r
    have rp := r.reps hb
    simp only at h
    split at h
    · refine ⟨by rw [rp.len]; assumption, fun a hp => ?_⟩
      exact res_of (x := .non) (y := .non) (d := .non) (e := .non) (g := fun _ _ => none) (b := .val) h st s1 pu _ _ _ (Ext.newF hp) (new_tup hp rp)
    · exact h.elim
theorem de_lst {es : List Expr} {bs : List Md} {g : Fa} (h : DA X W κ es κ' p bs g) (hb : ∀ b ∈ bs, b = Md.val := by decide) : DE X W κ (.List es pos) κ' p .own (eLst g) := by
  obtain ⟨⟨t, pt, ht⟩, io⟩ := h
  refine ⟨⟨_, pe_lst pt, fun F H σ ρ O Q s h => ht F H σ ρ O _ s ?_⟩, io⟩
  unfold eLst Out.bind at h
  unfold PostA
  cases ea : g ρ with
  | bad => rw [ea] at h; exact h
  | ex x ρ1 => rw [ea] at h; exact h
  | ok ds ρ1 =>
    rw [ea] at h
    intro vs F1 H1 O1 st s1 pu r
    have rp := r.reps hb
    simp only at h
    split at h
    · refine ⟨by rw [rp.len]; assumption, fun a hp => ?_⟩
      exact res_of (x := .non) (y := .non) (d := .non) (e := .non) (g := fun _ _ => none) (b := .own) h st s1 pu _ _ _ (Ext.new hp) (new_lst hp rp)
    · exact h.elim

/-! ### built-ins -/
def DCall (X : Cx) (f : Value) (g : List D → Option D) (b : Md) : Prop :=
  ∃ r, CallR X f r ∧ ∀ F H vs ds z Q, (∀ a, F a → ∃ o, H a = some o) → Paired (Bo X F H) vs ds → g ds = some z → (∀ v F' H', Ext F H F' H' → RvN X F H F' H' b v z → Q v H') → r vs H Q
def eCall (g : List D → Option D) (fa : Fa) : Fe := fun ρ => (fa ρ).bind fun ds ρ1 => Out.of (g ds) ρ1
theorem callG {g : List D → Option D} {fa : Fa} {ta : TA} {r : List V → Hp → VK → Prop} {bs : List Md} (hta : SemA X W κ κ' p bs ta fa)
    (k : ∀ F H vs ds z Q, (∀ a, F a → ∃ o, H a = some o) → Paired (Bo X F H) vs ds → g ds = some z → (∀ v F' H', Ext F H F' H' → RvN X F H F' H' b v z → Q v H') → r vs H Q) :
    SemE X W κ κ' p b (tCB r ta) (eCall g fa) := fun F H σ ρ O Q s h => hta F H σ ρ O _ s (by
  unfold eCall Out.bind at h
  unfold PostA
  cases ea : fa ρ with
  | bad => rw [ea] at h; exact h
  | ex x ρ1 => rw [ea] at h; exact h
  | ok ds ρ1 =>
    rw [ea] at h
    intro vs F1 H1 O1 st s1 pu rv
    cases eg : g ds with
    | none => simp only [eg, Out.of] at h; exact h.elim
    | some z =>
      simp only [eg, Out.of] at h
      exact k F1 H1 vs ds z Q s1.tr rv.bos eg (res_of (x := .non) (y := .non) (d := .non) (e := .non) (g := fun _ _ => none) h st s1 pu))
theorem de_callB {id : String} {x : Str} {pp : Pos} {es : List Expr} {g : List D → Option D} {fa : Fa} {bs : List Md} (hc : DCall X (.builtin id) g b) (hm : X.mg x = none) (hg : Gl X x) (hv : bootBuiltins x = some (.builtin id)) (ha : DA X W κ (e :: es) κ' p bs fa)
    (hn : x ≠ "__name__" := by decide) (hdb : (x == ("__debug__" : Str)) = false := by decide) (he : starEach (e :: es) X.env = (false, eval e X.env) :: starEach es X.env := by rfl) (hpl : (backTo pos (starEach es X.env)).any (·.1) = false := by rfl) :
    DE X W κ (.Call (.Name x pp) (e :: es) [] pos) κ' p b (eCall g fa) := by
  obtain ⟨⟨ta, pa, hta⟩, io⟩ := ha
  obtain ⟨r, o, k⟩ := hc
  exact ⟨⟨_, pe_callB o hg hm hv pa hn hdb he hpl, callG hta k⟩, io⟩
theorem de_callTy {T : String} {x : Str} {pp : Pos} {es : List Expr} {g : List D → Option D} {fa : Fa} {bs : List Md} (hc : DCall X (.type T) g b) (hm : X.mg x = none) (hg : Gl X x) (hv : bootBuiltins x = some (.type T)) (ha : DA X W κ (e :: es) κ' p bs fa)
    (hn : x ≠ "__name__" := by decide) (hdb : (x == ("__debug__" : Str)) = false := by decide) (he : starEach (e :: es) X.env = (false, eval e X.env) :: starEach es X.env := by rfl) (hpl : (backTo pos (starEach es X.env)).any (·.1) = false := by rfl) :
    DE X W κ (.Call (.Name x pp) (e :: es) [] pos) κ' p b (eCall g fa) := by
  obtain ⟨⟨ta, pa, hta⟩, io⟩ := ha
  obtain ⟨r, o, k⟩ := hc
  exact ⟨⟨_, pe_callTy o hg hm hv pa hn hdb he hpl, callG hta k⟩, io⟩

/-! ### subscripts -/
def DIx (X : Cx) (g : D → D → Option D) (b : Md) : Prop :=
  ∃ r, IxR X r ∧ ∀ F H x y d e z Q, (∀ a, F a → ∃ o, H a = some o) → Bo X F H x d → Bo X F H y e → g d e = some z → (∀ v F' H', Ext F H F' H' → RvN X F H F' H' b v z → Q v H') → r x y H Q
theorem de_ix {g : D → D → Option D} {fa fb : Fe} (ho : DIx X g b3) (ha : DE X W κ a κ1 p1 b1 fa) (hb : DE X W κ1 c κ2 p2 b2 fb) (hm : b1 = .bor → p2 = true := by first | exact (fun _ => rfl) | exact (fun h => nomatch h)) (hs : PlainIx c := by exact fun _ _ => rfl) :
    DE X W κ (.Subscript a c pos) κ2 (p1 && p2) b3 (eBin g fa fb) := by
  obtain ⟨⟨ta, pa, hta⟩, i1⟩ := ha
  obtain ⟨⟨tb, pb, htb⟩, i2⟩ := hb
  obtain ⟨r, o, k⟩ := ho
  refine ⟨⟨tOp r ta tb, pe_ix o pa pb hs, fun F H σ ρ O Q s h => ?_⟩, i2.trans i1⟩
  refine two hta htb i1 hm s ?_
  refine (fin_bin h fun d e z ρ2 hg hq => (⟨hg, hq⟩ : g d e = some z ∧ _)).imp fun d ρ1 h1 => h1.imp fun e ρ2 h2 => ?_
  obtain ⟨z, hg, _, hq⟩ := h2
  intro x y F' H' O' st s' pu rx ry
  exact k F' H' x y d e z Q s'.tr rx.bo ry.bo hg (res_of (x := x) (y := y) (d := d) (e := e) (g := g) hq st s' pu)
def ixD : D → D → Option D := fun d e => match d, e with
  | .lst xs, .int i => atI xs i
  | .fzl xs, .int i => atI xs i
  | .tup xs, .int i => atI xs i
  | .str z, .int i => if z.length ≤ sizeLine then (atI z.cps.toList i).map fun c => .str ⟨#[c]⟩ else none
  | _, _ => none
theorem atI_reps {vs : List V} {ds : List D} {i : Int} {z : D} (r : Reps X F H vs ds) (h : atI ds i = some z) : ∃ v, atI vs i = some v ∧ Rep X F H v z := by
  unfold atI at h ⊢
  rw [r.len]
  cases e : ixN ds.length i with
  | none => rw [e] at h; cases h
  | some j =>
    rw [e] at h
    exact r.getD h
theorem dix : DIx X ixD .val := by
  refine ⟨_, ix_seq, fun F H x y d e z Q tr hx hy hg hq => ?_⟩
  unfold ixD at hg
  split at hg
  · obtain ⟨a, vs, rfl, ha, ra⟩ := hx.lst
    obtain ⟨v, hv, rv⟩ := atI_reps ra hg
    exact .inl ⟨a, vs, _, v, rfl, hy.int, .inl (.inl ha), hv, hq v F H Ext.refl rv⟩
  · obtain ⟨a, vs, rfl, ha, ra⟩ := hx.fzl
    obtain ⟨v, hv, rv⟩ := atI_reps ra hg
    exact .inl ⟨a, vs, _, v, rfl, hy.int, ha.sq, hv, hq v F H Ext.refl rv⟩
  · obtain ⟨a, vs, rfl, ha, ra⟩ := hx.tup
    obtain ⟨v, hv, rv⟩ := atI_reps ra hg
    exact .inr (.inl ⟨a, vs, _, v, rfl, hy.int, ha.sq, hv, hq v F H Ext.refl rv⟩)
  · rename_i z' i
    split at hg
    · cases ec : atI z'.cps.toList i with
      | none => rw [ec] at hg; cases hg
      | some c =>
        rw [ec] at hg
        cases hg
        exact .inr (.inr ⟨z', i, c, hx.str, hy.int, ‹_›, ec, hq _ F H Ext.refl (.str _)⟩)
    · cases hg
  · cases hg

/-! ### slices -/
def cutD (xs : List D) (lo hi : Option Int) : List D := (xs.drop (HT.sIx xs.length 0 lo)).take (HT.sIx xs.length xs.length hi - HT.sIx xs.length 0 lo)
theorem cut_reps {vs : List V} {ds : List D} (r : Reps X F H vs ds) (lo hi : Option Int) : Reps X F H (cutV vs lo hi) (cutD ds lo hi) := by
  unfold cutV cutD
  rw [r.len]
  exact (r.drop _).take _
def slD (d : D) (lo hi : Option Int) : Option D := match d with
  | .lst xs => some (.lst (cutD xs lo hi))
  | .tup xs => some (.tup (cutD xs lo hi))
  | .str z => if z.length ≤ sizeLine then some (.str (cutS z lo hi)) else none
  | _ => none
def part (f : Option Fe) : En → Out (Option Int) := match f with
  | none => fun ρ => .ok none ρ
  | some f => fun ρ => (f ρ).bind fun d ρ1 => match d with
    | .int i => .ok (some i) ρ1
    | _ => .bad
def eSl (f : Fe) (l u : Option Fe) : Fe := fun ρ => (f ρ).bind fun d ρ1 => (part l ρ1).bind fun lo ρ2 => (part u ρ2).bind fun hi ρ3 => Out.of (slD d lo hi) ρ3
/-- a part of a slice (it changes nothing) -/
structure DO (X : Cx) (W : WX) (κ : List Kd) (e : Option Expr) (f : Option Fe) : Prop where
  ex : ∃ t : TO, PO X e t ∧ ∀ F H σ ρ O Q, Stt X F H κ σ ρ O → Fin X W κ F H σ O (part f ρ) (fun o ρ' => ∀ F' H' O', Stp F H O F' H' O' → Stt X F' H' κ σ ρ' O' → Pur true H O H' O' → Q o H') → t σ H Q
theorem do_none : DO X W κ none none := ⟨⟨_, po_none, fun F H σ ρ O Q s h => h F H O Stp.refl s Pur.refl⟩⟩
theorem do_some {f : Fe} (h : DE X W κ e κ p b f) (hp : p = true := by rfl) : DO X W κ (some e) (some f) := by
  subst hp
  obtain ⟨⟨t, pe, ht⟩, io⟩ := h
  refine ⟨⟨_, po_some pe, fun F H σ ρ O Q s h => ht F H σ ρ O _ s ?_⟩⟩
  unfold part Out.bind at h
  unfold PostE
  cases ea : f ρ with
  | bad => simp only [ea] at h; exact h
  | ex x ρ1 => simp only [ea] at h; exact h
  | ok d ρ1 =>
    simp only [ea] at h
    intro v F1 H1 O1 st s1 pu r
    cases d with
    | int i => exact ⟨i, r.bo.int, h F1 H1 O1 st s1 pu⟩
    | _ => exact h.elim
def DSl (X : Cx) (g : D → Option Int → Option Int → Option D) (b : Md) : Prop :=
  ∃ r, SlR X r ∧ ∀ F H x d lo hi z Q, (∀ a, F a → ∃ o, H a = some o) → Bo X F H x d → g d lo hi = some z → (∀ v F' H', Ext F H F' H' → RvN X F H F' H' b v z → Q v H') → r x lo hi H Q
def slL (d : D) (lo hi : Option Int) : Option D := match d with
  | .lst xs => some (.lst (cutD xs lo hi))
  | _ => none
theorem dslL : DSl X slL .own := by
  refine ⟨_, sl_list, fun F H x d lo hi z Q tr hx hg hq => ?_⟩
  unfold slL at hg
  split at hg
  · cases hg
    obtain ⟨a, vs, rfl, ha, ra⟩ := hx.lst
    exact ⟨a, vs, rfl, .inl (.inl ha), fun p hp => hq _ F _ (Ext.new hp) (new_lst hp (cut_reps ra lo hi))⟩
  · cases hg
theorem dsl : DSl X slD .val := by
  refine ⟨_, SlR.or sl_list (SlR.or sl_tupA sl_str), fun F H x d lo hi z Q tr hx hg hq => ?_⟩
  unfold slD at hg
  split at hg
  · cases hg
    obtain ⟨a, vs, rfl, ha, ra⟩ := hx.lst
    exact .inl ⟨a, vs, rfl, .inl (.inl ha), fun p hp => hq _ _ _ (Ext.newF hp) (new_lstF hp (cut_reps ra lo hi))⟩
  · cases hg
    obtain ⟨a, vs, rfl, ha, ra⟩ := hx.tup
    refine .inr (.inl ⟨a, vs, rfl, ha.sq, fun hw => ?_, fun _ p hp => hq _ _ _ (Ext.newF hp) (new_tup hp (cut_reps ra lo hi))⟩)
    refine hq _ F H Ext.refl (.tup ha ?_)
    have e : cutV vs lo hi = vs := by
      unfold cutV
      rw [hw.1, hw.2, Nat.sub_zero, List.drop_zero, List.take_length]
    rw [← e]
    exact cut_reps ra lo hi
  · split at hg
    · cases hg
      exact .inr (.inr ⟨_, hx.str, ‹_›, hq _ F H Ext.refl (.str _)⟩)
    · cases hg
  · cases hg
def eSlG (g : D → Option Int → Option Int → Option D) (f : Fe) (l u : Option Fe) : Fe := fun ρ => (f ρ).bind fun d ρ1 => (part l ρ1).bind fun lo ρ2 => (part u ρ2).bind fun hi ρ3 => Out.of (g d lo hi) ρ3
theorem de_sl {g : D → Option Int → Option Int → Option D} {f : Fe} {l u : Option Fe} {lo hi : Option Expr} {q2 : Pos} (ho : DSl X g b3) (ha : DE X W κ a κ p1 b1 f) (hl : DO X W κ lo l) (hu : DO X W κ hi u) :
    DE X W κ (.Subscript a (.Slice lo hi none q2) pos) κ p1 b3 (eSlG g f l u) := by
  obtain ⟨⟨ta, pa, hta⟩, i1⟩ := ha
  obtain ⟨⟨tl, pl, htl⟩⟩ := hl
  obtain ⟨⟨tu, pu', htu⟩⟩ := hu
  obtain ⟨r, o, k⟩ := ho
  refine ⟨⟨_, pe_slice o pa pl pu', fun F H σ ρ O Q s h => hta F H σ ρ O _ s ?_⟩, i1⟩
  unfold eSlG Out.bind at h
  unfold PostE
  cases ea : f ρ with
  | bad => simp only [ea] at h; exact h
  | ex x ρ1 => simp only [ea] at h; exact h
  | ok d ρ1 =>
    simp only [ea] at h
    intro v F1 H1 O1 st1 s1 pu1 r1
    refine htl F1 H1 σ ρ1 O1 _ s1 ?_
    cases el : part l ρ1 with
    | bad => simp only [el] at h; exact h
    | ex x ρ2 => simp only [el] at h; exact PostX.after h st1 i1
    | ok lo ρ2 =>
      simp only [el] at h
      intro F2 H2 O2 st2 s2 pu2
      refine htu F2 H2 σ ρ2 O2 _ s2 ?_
      cases eu : part u ρ2 with
      | bad => simp only [eu] at h; exact h
      | ex x ρ3 => simp only [eu] at h; exact PostX.after h (st1.trans st2) i1
      | ok hi ρ3 =>
        simp only [eu] at h
        intro F3 H3 O3 st3 s3 pu3
        cases eg : g d lo hi with
        | none => simp only [eg, Out.of] at h; exact h.elim
        | some z =>
          simp only [eg, Out.of] at h
          have rx := (r1.held s1 st2 fun _ => pu2.same rfl).held s2 st3 fun _ => pu3.same rfl
          refine k F3 H3 v d lo hi z Q s3.tr rx.bo eg (res_of (x := .non) (y := .non) (d := .non) (e := .non) (g := fun _ _ => none) h ((st1.trans st2).trans st3) s3 fun e => ?_)
          have q := (pu1.trans (pu2.trans pu3)) (by rw [e]; rfl)
          exact q
/-- xs[::-1] of a list -/
def eRev (f : Fe) : Fe := fun ρ => (f ρ).bind fun d ρ1 => match d with
  | .lst xs => .ok (.lst xs.reverse) ρ1
  | _ => .bad
theorem de_rev {f : Fe} {kk : Nat} {q1 q2 q3 : Pos} (h : DE X W κ a κ' p b f) : DE X W κ (.Subscript a (.Slice none none (some (.UnaryOp .USub (.Constant (.int 1) kk q1) q2)) q3) pos) κ' p .own (eRev f) := by
  obtain ⟨⟨t, pt, ht⟩, io⟩ := h
  refine ⟨⟨_, pe_revL pt, fun F H σ ρ O Q s h => ht F H σ ρ O _ s ?_⟩, io⟩
  unfold eRev Out.bind at h
  unfold PostE
  cases ea : f ρ with
  | bad => rw [ea] at h; exact h
  | ex x ρ1 => rw [ea] at h; exact h
  | ok d ρ1 =>
    rw [ea] at h
    intro v F1 H1 O1 st s1 pu r
    cases d with
    | lst xs =>
      obtain ⟨a, vs, rfl, ha, ra⟩ := r.bo.lst
      exact ⟨a, vs, rfl, .inl (.inl ha), fun q hq => res_of (x := .non) (y := .non) (d := .non) (e := .non) (g := fun _ _ => none) (b := .own) h st s1 pu _ _ _ (Ext.new hq) (new_lst hq ra.rev)⟩
    | _ => exact h.elim
end
end Pu

set_option maxHeartbeats 4000000
/-! PuE: statements over plain data. -/
namespace Pu
open PySem PySem.Spec PyProof.Rows L2

def fzK : Kd → Bool
  | .fz => true
  | _ => false
theorem kd_ne {k : Kd} (h : fzK k = false) : k ≠ .fz := fun e => by
  subst e
  cases h
/-! ### an own thing is changed -/
section
variable {X : Txt} {F F' : Fz} {H H' : Hp} {κ κ' : List Kd} {σ : SS} {ρ : En} {O : List Addr}
theorem Slots.updS {a : Addr} {d' : D} {o : HO} (hF : ¬ F a) (fl : Flat X F (upd H a o) a d') : ∀ {κ : List Kd} {σ : SS} {ρ : En} {O : List Addr} (i : Nat) {k : Kd} {d : D}, Slots X F H κ σ ρ O → O.Nodup → κ[i]? = some k → (k ≠ .fz) → σ[i]? = some (some (.ref a)) → ρ[i]? = some (some d) →
    Slots X F (upd H a o) κ σ (ρ.set i (some d')) O ∧ a ∈ O := by
  intro κ σ ρ O i k d q
  have kp : Keep F H F (upd H a o) := ⟨fun _ h => h, fun b u f e => by
    have hb : b ≠ a := fun z => hF (z ▸ f)
    rw [upd_ne hb]; exact e⟩
  induction q generalizing i with
  | nil => intro _ e; simp at e
  | @cons k' s r A ks σ ρ O c q ih =>
    intro nd e1 hk e2 e3
    obtain ⟨nA, nO, dj⟩ := List.nodup_append.mp nd
    cases i with
    | zero =>
      simp at e1 e2 e3
      subst e1 e2 e3
      cases c with
      | fz => exact absurd rfl hk
      | ow f' =>
        refine ⟨.cons (.ow fl) (q.keep kp fun b hb u e => ?_), List.mem_append_left _ (List.mem_singleton.mpr rfl)⟩
        have hn : b ≠ a := fun z => dj a (List.mem_singleton.mpr rfl) b hb z.symm
        rw [upd_ne hn]; exact e
      | io f' =>
        refine ⟨.cons (.io fl) (q.keep kp fun b hb u e => ?_), List.mem_append_left _ (List.mem_singleton.mpr rfl)⟩
        have hn : b ≠ a := fun z => dj a (List.mem_singleton.mpr rfl) b hb z.symm
        rw [upd_ne hn]; exact e
    | succ i =>
      obtain ⟨q1, q2⟩ := ih i nO (by simpa using e1) hk (by simpa using e2) (by simpa using e3)
      refine ⟨.cons (c.keep kp fun b hb u e => ?_) q1, List.mem_append_right _ q2⟩
      have hn : b ≠ a := fun z => dj b hb a q2 z
      rw [upd_ne hn]; exact e
theorem own_at {i : Nat} {k : Kd} {a : Addr} {d : D} (s : Stt X F H κ σ ρ O) (hk : κ[i]? = some k) (k0 : k ≠ .fz) (hr : ρ[i]? = some (some d)) : ∃ a, σ[i]? = some (some (.ref a)) ∧ Flat X F H a d ∧ a ∈ O := by
  obtain ⟨sv, r, A, h1, h2, h3, h4⟩ := s.sl.at_ hk
  rw [hr] at h2; cases h2
  cases h3 with
  | fz => exact absurd rfl k0
  | ow f => exact ⟨_, h1, f, h4 _ (List.mem_singleton.mpr rfl)⟩
  | io f => exact ⟨_, h1, f, h4 _ (List.mem_singleton.mpr rfl)⟩
theorem Stt.updS {i : Nat} {k : Kd} {a : Addr} {d d' : D} {o : HO} (s : Stt X F H κ σ ρ O) (hk : κ[i]? = some k) (k0 : k ≠ .fz) (hs : σ[i]? = some (some (.ref a))) (hr : ρ[i]? = some (some d)) (fl : Flat X F (upd H a o) a d') :
    Stt X F (upd H a o) κ σ (ρ.set i (some d')) O ∧ Stp F H O F (upd H a o) O := by
  obtain ⟨a', h1, f, aO⟩ := own_at (a := a) s hk k0 hr
  rw [hs] at h1; cases h1
  have hF := s.ap a aO
  obtain ⟨q1, _⟩ := s.sl.updS hF fl i s.nd hk k0 hs hr
  refine ⟨⟨q1, s.nd, s.ap, fun b f => ?_⟩, ⟨fun _ h => h, fun _ h => .inl h, fun b u e n => ?_, fun b u e => ?_, fun _ h => .inl h⟩⟩
  · obtain ⟨u, hu⟩ := s.tr b f
    have hb : b ≠ a := fun z => hF (z ▸ f)
    exact ⟨u, by rw [upd_ne hb]; exact hu⟩
  · have hb : b ≠ a := fun z => n (z ▸ aO)
    rw [upd_ne hb]; exact e
  · by_cases hb : b = a
    · exact ⟨o, by rw [hb, upd_same]⟩
    · exact ⟨u, by rw [upd_ne hb]; exact e⟩
/-- a slot is set: to something frozen, to a new own thing -/
theorem Stt.setF {i : Nat} {k : Kd} {v : V} {d : D} (s : Stt X F H κ σ ρ O) (hk : κ[i]? = some k) (r : Rep X F H v d) : ∃ O', Stt X F H (κ.set i .fz) (σ.set i (some v)) (ρ.set i (some d)) O' ∧ ∀ a ∈ O', a ∈ O := by
  obtain ⟨hi, _⟩ := List.getElem?_eq_some_iff.mp hk
  obtain ⟨O', q1, q2, q3⟩ := s.sl.put (.fz r) i (by rw [← s.sl.lens.1]; exact hi) List.nodup_nil (fun _ h => nomatch h) s.nd
  have q3' : ∀ a ∈ O', a ∈ O := fun a h => (q3 a h).elim id fun h => nomatch h
  exact ⟨O', ⟨q1, q2, fun a h => s.ap a (q3' a h), s.tr⟩, q3'⟩
theorem Stt.setO {i : Nat} {k : Kd} {a : Addr} {d : D} (s : Stt X F H κ σ ρ O) (hk : κ[i]? = some k) (f : Flat X F H a d) (nF : ¬ F a) (nO : a ∉ O) : ∃ O', Stt X F H (κ.set i .ow) (σ.set i (some (.ref a))) (ρ.set i (some d)) O' ∧ ∀ b ∈ O', b ∈ O ∨ b = a := by
  obtain ⟨hi, _⟩ := List.getElem?_eq_some_iff.mp hk
  obtain ⟨O', q1, q2, q3⟩ := s.sl.put (.ow f) i (by rw [← s.sl.lens.1]; exact hi) (by simp) (fun b h z => nO (List.mem_singleton.mp h ▸ z)) s.nd
  have q3' : ∀ b ∈ O', b ∈ O ∨ b = a := fun b h => (q3 b h).imp id fun h => List.mem_singleton.mp h
  exact ⟨O', ⟨q1, q2, fun b h => (q3' b h).elim (s.ap b) fun e => e ▸ nF, s.tr⟩, q3'⟩
end
theorem Stp.less {F : Fz} {H : Hp} {O O' : List Addr} (h : ∀ a ∈ O', a ∈ O) : Stp F H O F H O' := ⟨fun _ h => h, fun _ h => .inl h, fun _ _ h _ => h, fun _ o h => ⟨o, h⟩, fun a q => .inl (h a q)⟩

/-! ### statements -/
def PostXS (X : Txt) (W : WX) (κ : List Kd) (x : Ex) (ρ : En) (F : Fz) (H : Hp) (O : List Addr) : Prop :=
  ∀ cls d F' H' O' κ' σ', Io κ' κ → Stp F H O F' H' O' → Stt X F' H' κ' σ' ρ O' → XRep X F' H' x cls d → W cls d σ' H'
def PostR (X : Txt) (rm : Md) (κ : List Kd) (d : D) (ρ : En) (F : Fz) (H : Hp) (O : List Addr) (rt : VK) : Prop :=
  ∀ v F' H' O' κ' σ', Io κ' κ → Stp F H O F' H' O' → Stt X F' H' κ' σ' ρ O' → Rv X F' H' O' H rm v d → rt v H'
def PostN (X : Txt) (κ' : List Kd) (ρ : En) (F : Fz) (H : Hp) (O : List Addr) (nx : SS → Hp → Prop) : Prop :=
  ∀ F' H' O' σ', Stp F H O F' H' O' → Stt X F' H' κ' σ' ρ O' → nx σ' H'
def PostS (X : Txt) (W : WX) (rm : Md) (κ κn κb κc : List Kd) (r : Out Fl) (F : Fz) (H : Hp) (O : List Addr) (E : Ends) : Prop := match r with
  | .bad => False
  | .ex x ρ => PostXS X W κ x ρ F H O
  | .ok .nx ρ => PostN X κn ρ F H O E.nx
  | .ok .bk ρ => PostN X κb ρ F H O E.bk
  | .ok .ct ρ => PostN X κc ρ F H O E.ct
  | .ok (.rt d) ρ => PostR X rm κ d ρ F H O E.rt
structure DS (X : Cx) (W : WX) (rm : Md) (κb κc κ : List Kd) (st : Stmt) (κn : List Kd) (f : Fs) : Prop where
  ex : ∃ t : TS, PS X st t ∧ ∀ F H σ ρ O E, Stt X F H κ σ ρ O → PostS X W rm κ κn κb κc (f ρ) F H O E → t E σ H
  io : Io κn κ
structure DB (X : Cx) (W : WX) (rm : Md) (κb κc κ : List Kd) (st : List Stmt) (κn : List Kd) (f : Fs) : Prop where
  ex : ∃ t : TS, PSs X st t ∧ ∀ F H σ ρ O E, Stt X F H κ σ ρ O → PostS X W rm κ κn κb κc (f ρ) F H O E → t E σ H
  io : Io κn κ
section
variable {X : Cx} {W : WX} {rm : Md} {κ κ' κ1 κ2 κ3 κn κb κc : List Kd} {p p1 p2 p3 : Bool} {b b1 b2 b3 : Md} {F F' F1 : Fz} {H H' H1 : Hp} {σ : SS} {ρ ρ' : En} {O O' O1 : List Addr} {a c e : Expr} {pos : Pos} {st : Stmt} {sts : List Stmt} {E : Ends}
theorem PostXS.one {x : Ex} (h : PostXS X W κ x ρ F H O) : PostX X W κ x ρ F H σ O := fun cls d F' H' O' κ' io st s r => h cls d F' H' O' κ' σ io st s r
theorem PostXS.after {x : Ex} (h : PostXS X W κ x ρ F H O) (s : Stp F H O F1 H1 O1) (i : Io κ1 κ) : PostXS X W κ1 x ρ F1 H1 O1 := fun cls d F' H' O' κ' σ' i' s' t r => h cls d F' H' O' κ' σ' (i'.trans i) (s.trans s') t r
theorem PostR.after {d : D} {rt : VK} (h : PostR X rm κ d ρ F H O rt) (s : Stp F H O F1 H1 O1) (i : Io κ1 κ) : PostR X rm κ1 d ρ F1 H1 O1 rt := fun v F' H' O' κ' σ' i' s' t r => h v F' H' O' κ' σ' (i'.trans i) (s.trans s') t (r.old fun q => s.none)
theorem PostN.after {nx : SS → Hp → Prop} (h : PostN X κ' ρ F H O nx) (s : Stp F H O F1 H1 O1) : PostN X κ' ρ F1 H1 O1 nx := fun F' H' O' σ' s' t => h F' H' O' σ' (s.trans s') t
theorem PostS.after {r : Out Fl} (h : PostS X W rm κ κn κb κc r F H O E) (s : Stp F H O F1 H1 O1) (i : Io κ1 κ) : PostS X W rm κ1 κn κb κc r F1 H1 O1 E := by
  cases r with
  | bad => exact h
  | ex x ρ => exact PostXS.after h s i
  | ok f ρ =>
    cases f with
    | nx => exact PostN.after h s
    | bk => exact PostN.after h s
    | ct => exact PostN.after h s
    | rt d => exact PostR.after h s i
def sNx : Fs := fun ρ => .ok .nx ρ
def sSeq (f g : Fs) : Fs := fun ρ => match f ρ with
  | .ok .nx ρ1 => g ρ1
  | r => r
theorem db_nil : DB X W rm κb κc κ [] κ sNx := ⟨⟨_, pss_nil, fun F H σ ρ O E s h => h F H O σ Stp.refl s⟩, Io.refl⟩
theorem db_cons {f g : Fs} (h1 : DS X W rm κb κc κ st κ1 f) (h2 : DB X W rm κb κc κ1 sts κ2 g) : DB X W rm κb κc κ (st :: sts) κ2 (sSeq f g) := by
  obtain ⟨⟨t1, p1, k1⟩, i1⟩ := h1
  obtain ⟨⟨t2, p2, k2⟩, i2⟩ := h2
  refine ⟨⟨_, pss_cons p1 p2, fun F H σ ρ O E s h => k1 F H σ ρ O _ s ?_⟩, i2.trans i1⟩
  unfold sSeq at h
  cases ea : f ρ with
  | bad => rw [ea] at h; exact h
  | ex x ρ1 => rw [ea] at h; exact h
  | ok q ρ1 =>
    rw [ea] at h
    cases q with
    | nx => exact fun F' H' O' σ' st' s' => k2 F' H' σ' ρ1 O' E s' (PostS.after h st' i1)
    | bk => exact h
    | ct => exact h
    | rt d => exact h
theorem db_one {f : Fs} (h : DS X W rm κb κc κ st κ1 f) : DB X W rm κb κc κ [st] κ1 f := by
  obtain ⟨⟨t1, p1, k1⟩, i1⟩ := h
  exact ⟨⟨_, pss_one p1, k1⟩, i1⟩
/-- the kinds behind a block that never comes to its end -/
def FlN (f : Fs) : Prop := ∀ ρ ρ', f ρ ≠ .ok .nx ρ'
/-- freeze an own slot between two statements -/
theorem ds_pass : DS X W rm κb κc κ (.Pass pos) κ sNx := ⟨⟨_, ps_pass, fun F H σ ρ O E s h => h F H O σ Stp.refl s⟩, Io.refl⟩
def sBk : Fs := fun ρ => .ok .bk ρ
def sCt : Fs := fun ρ => .ok .ct ρ
theorem ds_break (hk : κb = κ) (io : Io κn κ) : DS X W rm κb κc κ (.Break pos) κn sBk := ⟨⟨_, ps_break, fun F H σ ρ O E s h => h F H O σ Stp.refl (hk ▸ s)⟩, io⟩
theorem ds_continue (hk : κc = κ) (io : Io κn κ) : DS X W rm κb κc κ (.Continue pos) κn sCt := ⟨⟨_, ps_continue, fun F H σ ρ O E s h => h F H O σ Stp.refl (hk ▸ s)⟩, io⟩
/-- own slots given up behind a statement -/
inductive Wk : List Kd → List Kd → Prop
  | nil : Wk [] []
  | same {k : Kd} {ks ls : List Kd} : Wk ks ls → Wk (k :: ks) (k :: ls)
  | frz {ks ls : List Kd} : Wk ks ls → Wk (.ow :: ks) (.fz :: ls)
theorem Wk.refl : ∀ κ : List Kd, Wk κ κ
  | [] => .nil
  | _ :: r => .same (Wk.refl r)
theorem Wk.io {ks ls : List Kd} (h : Wk ks ls) : Io ls ks := by
  induction h with
  | nil => exact Io.refl
  | same h ih =>
    refine ⟨by simp [ih.1], ?_⟩
    intro i p e
    cases i with
    | zero => exact e
    | succ i => simpa using ih.2 i p (by simpa using e)
  | frz h ih =>
    refine ⟨by simp [ih.1], ?_⟩
    intro i p e
    cases i with
    | zero => cases e
    | succ i => simpa using ih.2 i p (by simpa using e)
theorem Slots.wk {X : Txt} {F : Fz} {H : Hp} : ∀ {ks ls : List Kd}, Wk ks ls → ∀ {σ : SS} {ρ : En} {O : List Addr}, Slots X F H ks σ ρ O → O.Nodup → (∀ a ∈ O, ∃ o, H a = some o) →
    ∃ (G O' : List Addr), (∀ a ∈ G, a ∈ O) ∧ Slots X (fun a => F a ∨ a ∈ G) H ls σ ρ O' ∧ O'.Nodup ∧ (∀ a ∈ O', a ∈ O) ∧ (∀ a ∈ O', a ∉ G) := by
  intro ks ls h
  induction h with
  | nil =>
    intro σ ρ O q nd tr
    cases q
    exact ⟨[], [], (by simp), .nil, List.nodup_nil, (by simp), (by simp)⟩
  | same h ih =>
    intro σ ρ O q nd tr
    cases q with
    | cons c q =>
      rename_i s r A σ ρ O
      obtain ⟨nA, nO, dj⟩ := List.nodup_append.mp nd
      obtain ⟨G, O', g1, g2, g3, g4, g5⟩ := ih q nO fun a ha => tr a (List.mem_append_right _ ha)
      have kp : Keep F H (fun a => F a ∨ a ∈ G) H := ⟨fun _ h => .inl h, fun _ _ _ h => h⟩
      refine ⟨G, A ++ O', fun a h => List.mem_append_right _ (g1 a h), .cons (c.keep kp fun _ _ _ h => h) g2, List.nodup_append.mpr ⟨nA, g3, fun x hx y hy e => dj x hx y (g4 y hy) e⟩, fun a h => ?_, fun a h z => ?_⟩
      · rcases List.mem_append.mp h with h | h
        · exact List.mem_append_left _ h
        · exact List.mem_append_right _ (g4 a h)
      · rcases List.mem_append.mp h with h | h
        · exact dj a h a (g1 a z) rfl
        · exact g5 a h z
  | frz h ih =>
    intro σ ρ O q nd tr
    cases q with
    | cons c q =>
      rename_i s r A σ ρ O
      obtain ⟨nA, nO, dj⟩ := List.nodup_append.mp nd
      obtain ⟨G, O', g1, g2, g3, g4, g5⟩ := ih q nO fun a ha => tr a (List.mem_append_right _ ha)
      have kp : Keep F H (fun a => F a ∨ a ∈ A ++ G) H := ⟨fun _ h => .inl h, fun _ _ _ h => h⟩
      have k2 : Keep (fun a => F a ∨ a ∈ G) H (fun a => F a ∨ a ∈ A ++ G) H := ⟨fun _ h => h.imp id (List.mem_append_right _), fun _ _ _ h => h⟩
      refine ⟨A ++ G, O', fun a h => ?_, ?_, g3, fun a h => List.mem_append_right _ (g4 a h), fun a h z => ?_⟩
      · rcases List.mem_append.mp h with h | h
        · exact List.mem_append_left _ h
        · exact List.mem_append_right _ (g1 a h)
      · have g2' := g2.keep k2 fun _ _ _ h => h
        cases c with
        | no => exact Slots.cons (A := []) (.no .fz (fun _ h => nomatch h) _) g2'
        | ow f => exact Slots.cons (A := []) (.fz (Flat.rep (.inr (List.mem_append_left _ (List.mem_singleton.mpr rfl))) (f.keep kp fun _ h => h))) g2'
      · rcases List.mem_append.mp z with z | z
        · exact dj a z a (g4 a h) rfl
        · exact g5 a h z
theorem Stt.wk {X : Txt} {F : Fz} {H : Hp} {ks ls : List Kd} {σ : SS} {ρ : En} {O : List Addr} (h : Wk ks ls) (s : Stt X F H ks σ ρ O) : ∃ F' O', Stp F H O F' H O' ∧ Stt X F' H ls σ ρ O' := by
  obtain ⟨G, O', g1, g2, g3, g4, g5⟩ := s.sl.wk h s.nd fun a ha => (s.sl.tracked a ha).imp fun _ q => q.1
  refine ⟨_, O', ⟨fun _ h => .inl h, fun a h => h.elim .inl fun q => .inr (.inl (g1 a q)), fun _ _ h _ => h, fun _ o h => ⟨o, h⟩, fun a h => .inl (g4 a h)⟩, ⟨g2, g3, fun a h z => z.elim (s.ap a (g4 a h)) (g5 a h), fun a z => z.elim (s.tr a) fun q => ?_⟩⟩
  obtain ⟨o, ho, _⟩ := s.sl.tracked a (g1 a q)
  exact ⟨o, ho⟩
theorem ds_wk {f : Fs} (h : DS X W rm κb κc κ st κ1 f) (w : Wk κ1 κ2) : DS X W rm κb κc κ st κ2 f := by
  obtain ⟨⟨t1, p1, k1⟩, i1⟩ := h
  refine ⟨⟨_, p1, fun F H σ ρ O E s h => k1 F H σ ρ O E s ?_⟩, w.io.trans i1⟩
  cases ea : f ρ with
  | bad => rw [ea] at h; exact h
  | ex x ρ1 => rw [ea] at h; exact h
  | ok q ρ1 =>
    rw [ea] at h
    cases q with
    | nx =>
      intro F' H' O' σ' st' s'
      obtain ⟨F2, O2, q1, q2⟩ := s'.wk w
      exact h F2 H' O2 σ' (st'.trans q1) q2
    | bk => exact h
    | ct => exact h
    | rt d => exact h
theorem db_wk {f : Fs} (h : DB X W rm κb κc κ sts κ1 f) (w : Wk κ1 κ2) : DB X W rm κb κc κ sts κ2 f := by
  obtain ⟨⟨t1, p1, k1⟩, i1⟩ := h
  refine ⟨⟨_, p1, fun F H σ ρ O E s h => k1 F H σ ρ O E s ?_⟩, w.io.trans i1⟩
  cases ea : f ρ with
  | bad => rw [ea] at h; exact h
  | ex x ρ1 => rw [ea] at h; exact h
  | ok q ρ1 =>
    rw [ea] at h
    cases q with
    | nx =>
      intro F' H' O' σ' st' s'
      obtain ⟨F2, O2, q1, q2⟩ := s'.wk w
      exact h F2 H' O2 σ' (st'.trans q1) q2
    | bk => exact h
    | ct => exact h
    | rt d => exact h
/-- own slots given up ahead of a block -/
theorem db_pre {f : Fs} (h : DB X W rm κb κc κ1 sts κ2 f) (w : Wk κ κ1) : DB X W rm κb κc κ sts κ2 f := by
  obtain ⟨⟨t1, p1, k1⟩, i1⟩ := h
  refine ⟨⟨_, p1, fun F H σ ρ O E s h => ?_⟩, i1.trans w.io⟩
  obtain ⟨F2, O2, q1, q2⟩ := s.wk w
  exact k1 F2 H σ ρ O2 E q2 (PostS.after h q1 w.io)

/-! ### an expression for what it does; return -/
def sDo (f : Fe) : Fs := fun ρ => (f ρ).bind fun _ ρ1 => .ok .nx ρ1
theorem ds_expr {f : Fe} (h : DE X W κ e κ' p b f) (hs : swapsWith e none pos.line X.env = pure false := by rfl) : DS X W rm κb κc κ (.Expr e pos) κ' (sDo f) := by
  obtain ⟨⟨t, pt, ht⟩, io⟩ := h
  refine ⟨⟨_, ps_expr pt hs, fun F H σ ρ O E s h => ht F H σ ρ O _ s ?_⟩, io⟩
  unfold sDo Out.bind at h
  unfold PostE
  cases ea : f ρ with
  | bad => rw [ea] at h; exact h
  | ex x ρ1 => rw [ea] at h; exact PostXS.one h
  | ok d ρ1 =>
    rw [ea] at h
    exact fun v F' H' O' st s' pu r => h F' H' O' σ st s'
def sRt (f : Fe) : Fs := fun ρ => (f ρ).bind fun d ρ1 => .ok (.rt d) ρ1
theorem ds_ret {f : Fe} (h : DE X W κ e κ' p rm f) (io2 : Io κn κ) : DS X W rm κb κc κ (.Return (some e) pos) κn (sRt f) := by
  obtain ⟨⟨t, pt, ht⟩, io⟩ := h
  refine ⟨⟨_, ps_ret pt, fun F H σ ρ O E s h => ht F H σ ρ O _ s ?_⟩, io2⟩
  unfold sRt Out.bind at h
  unfold PostE
  cases ea : f ρ with
  | bad => rw [ea] at h; exact h
  | ex x ρ1 => rw [ea] at h; exact PostXS.one h
  | ok d ρ1 =>
    rw [ea] at h
    exact fun v F' H' O' st s' pu r => h v F' H' O' κ' σ io st s' r
/-! ### if -/
def sIf (t : Fb) (f g : Fs) : Fs := fun ρ => (t ρ).bind fun c ρ1 => if c then f ρ1 else g ρ1
theorem ds_if {t : Fb} {f g : Fs} {ss : List Stmt} (hc : DT X W κ c κ1 p t) (ha : DB X W rm κb κc κ1 sts κn f) (hb : DB X W rm κb κc κ1 ss κn g) : DS X W rm κb κc κ (.If c sts ss pos) κn (sIf t f g) := by
  obtain ⟨⟨tc, pc, htc⟩, i0⟩ := hc
  obtain ⟨⟨ta, pa, hta⟩, i1⟩ := ha
  obtain ⟨⟨tb, pb, htb⟩, i2⟩ := hb
  refine ⟨⟨_, ps_if pc pa pb, fun F H σ ρ O E s h => htc F H σ ρ O _ s ?_⟩, i1.trans i0⟩
  unfold sIf Out.bind at h
  unfold PostT
  cases ea : t ρ with
  | bad => rw [ea] at h; exact h
  | ex x ρ1 => rw [ea] at h; exact PostXS.one h
  | ok c ρ1 =>
    rw [ea] at h
    intro F1 H1 O1 st s1 pu
    cases c with
    | true =>
      rw [if_pos rfl]
      exact hta F1 H1 σ ρ1 O1 E s1 (PostS.after h st i0)
    | false =>
      rw [if_neg Bool.false_ne_true]
      exact htb F1 H1 σ ρ1 O1 E s1 (PostS.after h st i0)
/-- code that is never come to -/
def sNever : Fs := fun _ => .bad
theorem ds_never (io : Io κn κ) : DS X W rm κb κc κ st κn sNever := ⟨⟨_, ps_never, fun F H σ ρ O E s h => h.elim⟩, io⟩
theorem db_never (io : Io κn κ) : DB X W rm κb κc κ sts κn sNever := ⟨⟨_, pss_never, fun F H σ ρ O E s h => h.elim⟩, io⟩

/-! ### targets -/
abbrev Tg := D → En → Option En
structure DG (X : Cx) (κ : List Kd) (tg : Expr) (κ' : List Kd) (h : Tg) (js : List Nat) : Prop where
  ex : ∃ g : TG, PG X tg g ∧ ∀ F H σ ρ O v d ρ' (Q : SS → Hp → Prop), Stt X F H κ σ ρ O → Rep X F H v d → h d ρ = some ρ' → (∀ σ' O', (∀ a ∈ O', a ∈ O) → Stt X F H κ' σ' ρ' O' → ((∀ j, j ∉ js → σ'[j]? = σ[j]?) ∧ σ'.length = σ.length) → Q σ' H) → g v σ H Q
  io : Io κ' κ
abbrev Tgs := List D → En → Option En
structure DGs (X : Cx) (κ : List Kd) (ts : List Expr) (κ' : List Kd) (h : Tgs) (js : List Nat) : Prop where
  ex : ∃ g : TGs, PGs X ts g ∧ ∀ F H σ ρ O vs ds ρ' (Q : SS → Hp → Prop), Stt X F H κ σ ρ O → Reps X F H vs ds → h ds ρ = some ρ' → (∀ σ' O', (∀ a ∈ O', a ∈ O) → Stt X F H κ' σ' ρ' O' → ((∀ j, j ∉ js → σ'[j]? = σ[j]?) ∧ σ'.length = σ.length) → Q σ' H) → g vs σ H Q
  io : Io κ' κ
def tgN (i : Nat) : Tg := fun d ρ => some (ρ.set i (some d))
def tgsNil : Tgs := fun ds ρ => match ds with
  | [] => some ρ
  | _ => none
def tgsCons (f : Tg) (g : Tgs) : Tgs := fun ds ρ => match ds with
  | d :: ds => (f d ρ).bind (g ds)
  | [] => none
def tgT (g : Tgs) : Tg := fun d ρ => match d with
  | .tup ds => g ds ρ
  | _ => none
def notIo : Option Kd → Bool
  | some (.io _) => false
  | some _ => true
  | none => false
theorem Io.set {i : Nat} {k : Kd} (h : notIo κ[i]? = true) : Io (κ.set i k) κ := ⟨by simp, fun j p e => by
  by_cases c : i = j
  · subst c
    rw [e] at h
    cases h
  · rw [List.getElem?_set_ne c]; exact e⟩
theorem dg_name {i : Nat} {x : Str} {px : Pos} (hk : notIo κ[i]? = true := by rfl) (hN : X.N.Nodup) (hi : X.N[i]? = some x := by rfl) (hx : Loc X.env.scope x := by first | exact Or.inl rfl | exact Or.inr rfl)
    (hf : X.fn x = true ∨ X.env.scope.names.lookup x = some .local := by first | exact .inl rfl | exact .inr rfl | assumption) (hκ : κ.set i .fz = κ' := by rfl) : DG X κ (.Name x px) κ' (tgN i) [i] := by
  subst hκ
  refine ⟨⟨_, pg_name hN hi hx hf, fun F H σ ρ O v d ρ' Q s r h q => ?_⟩, Io.set hk⟩
  cases h
  cases e : κ[i]? with
  | none => rw [e] at hk; cases hk
  | some k =>
    obtain ⟨O', s', ho⟩ := s.setF e r
    exact q _ O' ho s' ⟨fun j hj => List.getElem?_set_ne (fun z => hj (by simp [z])), by simp⟩
theorem dgs_nil : DGs X κ [] κ tgsNil [] := by
  refine ⟨⟨_, pgs_nil, fun F H σ ρ O vs ds ρ' Q s r h q => ?_⟩, Io.refl⟩
  cases r with
  | nil =>
    cases h
    exact ⟨rfl, q σ O (fun _ h => h) s ⟨fun _ _ => rfl, rfl⟩⟩
  | cons _ _ => cases h
theorem dgs_cons {es : List Expr} {f : Tg} {g : Tgs} {js ks : List Nat} (h1 : DG X κ e κ1 f js) (h2 : DGs X κ1 es κ2 g ks) (hs : (assignEach (e :: es) X.env).map (·.2) = assign e X.env :: (assignEach es X.env).map (·.2) := by rfl) : DGs X κ (e :: es) κ2 (tgsCons f g) (js ++ ks) := by
  obtain ⟨⟨t1, p1, k1⟩, i1⟩ := h1
  obtain ⟨⟨t2, p2, k2⟩, i2⟩ := h2
  refine ⟨⟨_, pgs_cons p1 p2 hs, fun F H σ ρ O vs ds ρ' Q s r h q => ?_⟩, i2.trans i1⟩
  cases r with
  | nil => cases h
  | cons ra rr =>
    rename_i v vs d ds
    have h : (f d ρ).bind (g ds) = some ρ' := h
    cases ef : f d ρ with
    | none => rw [ef] at h; cases h
    | some ρ1 =>
      rw [ef] at h
      refine ⟨v, vs, rfl, k1 F H σ ρ O v d ρ1 _ s ra ef fun σ1 O1 o1 s1 c1 => ?_⟩
      exact k2 F H σ1 ρ1 O1 vs ds ρ' Q s1 rr h fun σ2 O2 o2 s2 c2 => q σ2 O2 (fun a ha => o1 a (o2 a ha)) s2
        ⟨fun j hj => (c2.1 j fun z => hj (List.mem_append_right _ z)).trans (c1.1 j fun z => hj (List.mem_append_left _ z)), c2.2.trans c1.2⟩
/-- a target list's length -/
inductive TgsLen : Nat → Tgs → Prop
  | nil : TgsLen 0 tgsNil
  | cons {n : Nat} {f : Tg} {g : Tgs} : TgsLen n g → TgsLen (n + 1) (tgsCons f g)
theorem TgsLen.ok {n : Nat} {g : Tgs} (h : TgsLen n g) : ∀ ds ρ ρ', g ds ρ = some ρ' → ds.length = n := by
  induction h with
  | nil =>
    intro ds ρ ρ' e
    cases ds with
    | nil => rfl
    | cons _ _ => cases e
  | @cons n f g h ih =>
    intro ds ρ ρ' e
    cases ds with
    | nil => cases e
    | cons d ds =>
      have e : (f d ρ).bind (g ds) = some ρ' := e
      cases ef : f d ρ with
      | none => rw [ef] at e; cases e
      | some ρ1 =>
        rw [ef] at e
        rw [List.length_cons, ih ds ρ1 ρ' e]
theorem dg_tup {es : List Expr} {kk : Nat} {g : Tgs} {n : Nat} {js : List Nat} (hc : X.calm = true) (h : DGs X κ es κ' g js) (hn : (assignEach es X.env).length = n := by rfl) (hst : (assignEach es X.env).findIdx? (·.1) = none := by rfl) (hl : ∀ ds ρ ρ', g ds ρ = some ρ' → ds.length = n := by exact TgsLen.ok (by repeat (first | exact TgsLen.nil | refine TgsLen.cons ?_))) :
    DG X κ (.Tuple es kk pos) κ' (tgT g) js := by
  obtain ⟨⟨t, pt, k⟩, i1⟩ := h
  refine ⟨⟨_, pg_tup hc pt hn hst, fun F H σ ρ O v d ρ' Q s r h q => ?_⟩, i1⟩
  cases d with
  | tup ds =>
    obtain ⟨a, vs, rfl, ha, ra⟩ := Bo.tup (.inl r)
    exact ⟨a, vs, rfl, ha.sq, by rw [ra.len]; exact hl ds ρ ρ' h, k F H σ ρ O vs ds ρ' Q s ra h q⟩
  | _ => cases h
def sAsg (f : Fe) (g : Tg) : Fs := fun ρ => (f ρ).bind fun d ρ1 => match g d ρ1 with
  | some ρ2 => .ok .nx ρ2
  | none => .bad
theorem ds_asg {tg : Expr} {f : Fe} {g : Tg} {js : List Nat} (he : DE X W κ e κ1 p .val f) (hg : DG X κ1 tg κ2 g js) (hs : swapsWithSole [tg] e pos.line X.env = pure false := by rfl) (hw : swappedStores [tg] e X.env = pure none := by rfl)
    (h1 : (assignEach [tg] X.env).map (·.2) = [assign tg X.env] := by rfl) : DS X W rm κb κc κ (.Assign [tg] e pos) κ2 (sAsg f g) := by
  obtain ⟨⟨t, pt, ht⟩, io⟩ := he
  obtain ⟨⟨t2, p2, k2⟩, i2⟩ := hg
  refine ⟨⟨_, ps_asg pt p2 hs hw h1, fun F H σ ρ O E s h => ht F H σ ρ O _ s ?_⟩, i2.trans io⟩
  unfold sAsg Out.bind at h
  unfold PostE
  cases ea : f ρ with
  | bad => rw [ea] at h; exact h
  | ex x ρ1 => rw [ea] at h; exact PostXS.one h
  | ok d ρ1 =>
    rw [ea] at h
    intro v F' H' O' st s' pu r
    dsimp only at h
    cases eg : g d ρ1 with
    | none => rw [eg] at h; exact h.elim
    | some ρ2 =>
      rw [eg] at h
      exact k2 F' H' σ ρ1 O' v d ρ2 _ s' r eg fun σ' O2 ho s2 _ => h F' H' O2 σ' (st.trans (Stp.less ho)) s2
def sSet (i : Nat) (f : Fe) : Fs := fun ρ => (f ρ).bind fun d ρ1 => .ok .nx (ρ1.set i (some d))
/-- x = e: frozen; a new own thing -/
theorem ds_set {i : Nat} {x : Str} {px : Pos} {f : Fe} (he : DE X W κ e κ1 p .val f) (hN : X.N.Nodup) (hk : notIo κ1[i]? = true := by rfl) (hi : X.N[i]? = some x := by rfl) (hx : Loc X.env.scope x := by first | exact Or.inl rfl | exact Or.inr rfl)
    (hs : swapsWith e (some (.Name x px)) pos.line X.env = pure false := by rfl) (hf : X.fn x = true ∨ X.env.scope.names.lookup x = some .local := by first | exact .inl rfl | exact .inr rfl | assumption) 
    (hκ : κ1.set i .fz = κn := by rfl) : DS X W rm κb κc κ (.Assign [.Name x px] e pos) κn (sSet i f) := by
  subst hκ
  obtain ⟨⟨t, pt, ht⟩, io⟩ := he
  refine ⟨⟨_, ps_set hN hi hx pt hs hf, fun F H σ ρ O E s h => ht F H σ ρ O _ s ?_⟩, (Io.set hk).trans io⟩
  unfold sSet Out.bind at h
  unfold PostE
  cases ea : f ρ with
  | bad => rw [ea] at h; exact h
  | ex x ρ1 => rw [ea] at h; exact PostXS.one h
  | ok d ρ1 =>
    rw [ea] at h
    intro v F' H' O' st s' pu r
    cases e : κ1[i]? with
    | none => rw [e] at hk; cases hk
    | some k =>
      obtain ⟨O2, s2, ho⟩ := s'.setF e r
      exact h F' H' O2 _ (st.trans (Stp.less ho)) s2
theorem ds_own {i : Nat} {x : Str} {px : Pos} {f : Fe} (he : DE X W κ e κ1 p .own f) (hN : X.N.Nodup) (hk : notIo κ1[i]? = true := by rfl) (hi : X.N[i]? = some x := by rfl) (hx : Loc X.env.scope x := by first | exact Or.inl rfl | exact Or.inr rfl)
    (hs : swapsWith e (some (.Name x px)) pos.line X.env = pure false := by rfl) (hf : X.fn x = true ∨ X.env.scope.names.lookup x = some .local := by first | exact .inl rfl | exact .inr rfl | assumption) 
    (hκ : κ1.set i .ow = κn := by rfl) : DS X W rm κb κc κ (.Assign [.Name x px] e pos) κn (sSet i f) := by
  subst hκ
  obtain ⟨⟨t, pt, ht⟩, io⟩ := he
  refine ⟨⟨_, ps_set hN hi hx pt hs hf, fun F H σ ρ O E s h => ht F H σ ρ O _ s ?_⟩, (Io.set hk).trans io⟩
  unfold sSet Out.bind at h
  unfold PostE
  cases ea : f ρ with
  | bad => rw [ea] at h; exact h
  | ex x ρ1 => rw [ea] at h; exact PostXS.one h
  | ok d ρ1 =>
    rw [ea] at h
    rintro v F' H' O' st s' pu ⟨a, rfl, fl, nF, nO, n0⟩
    cases e : κ1[i]? with
    | none => rw [e] at hk; cases hk
    | some k =>
      obtain ⟨O2, s2, ho⟩ := s'.setO e fl nF nO
      refine h F' H' O2 _ ⟨st.f1, st.f2, st.h1, st.h2, fun b hb => ?_⟩ s2
      rcases ho b hb with q | q
      · exact st.o1 b q
      · exact .inr (q ▸ n0)
/-- a, b = e1, e2 (two local names): each frozen or a new own thing -/
def mdK : Md → Kd
  | .own => .ow
  | _ => .fz
def sPar (i j : Nat) (f g : Fe) : Fs := fun ρ => (f ρ).bind fun d ρ1 => (g ρ1).bind fun e ρ2 => .ok .nx ((ρ2.set i (some d)).set j (some e))
theorem setM {i : Nat} {k : Kd} {v : V} {d : D} {H0 : Hp} {m : Md} (s : Stt X F H κ σ ρ O) (hk : κ[i]? = some k) (hm : m ≠ .bor) (r : Rv X F H O H0 m v d) : ∃ O', Stt X F H (κ.set i (mdK m)) (σ.set i (some v)) (ρ.set i (some d)) O' ∧ ∀ a ∈ O', a ∈ O ∨ (H0 a = none ∧ v = .ref a ∧ m = .own) := by
  cases m with
  | val =>
    obtain ⟨O', q1, q2⟩ := s.setF hk r
    exact ⟨O', q1, fun a h => .inl (q2 a h)⟩
  | bor => exact absurd rfl hm
  | own =>
    obtain ⟨a, rfl, fl, nF, nO, n0⟩ := r
    obtain ⟨O', q1, q2⟩ := s.setO hk fl nF nO
    exact ⟨O', q1, fun b h => (q2 b h).imp id fun (q : b = a) => ⟨by rw [q]; exact n0, by rw [q], rfl⟩⟩
theorem ds_par {i j : Nat} {x y : Str} {u w : Expr} {px py pt pt2 : Pos} {kt k2 : Nat} {f g : Fe} (hu : DE X W κ u κ1 p1 b1 f) (hw : DE X W κ1 w κ2 p2 b2 g) (hN : X.N.Nodup) (hc : X.calm = true := by rfl) (hb1 : b1 ≠ .bor := by decide) (hb2 : b2 ≠ .bor := by decide)
    (hij : i ≠ j := by decide) (hki : notIo κ2[i]? = true := by rfl) (hkj : notIo κ2[j]? = true := by rfl) (hi : X.N[i]? = some x := by rfl) (hj : X.N[j]? = some y := by rfl) (hx : X.env.scope.names.lookup x = some .local := by rfl) (hy : X.env.scope.names.lookup y = some .local := by rfl)
    (hm : b1 = .own → b2 = .own → True := by exact fun _ _ => trivial)
    (h1 : starEach [u, w] X.env = (false, eval u X.env) :: starEach [w] X.env := by rfl) (h2 : starEach [w] X.env = (false, eval w X.env) :: starEach [] X.env := by rfl)
    (hsw : swappedStores [.Tuple [.Name x px, .Name y py] kt pt] (.Tuple [u, w] k2 pt2) X.env = pure (some [x, y]) := by rfl) (hs : swapsWithSole [.Tuple [.Name x px, .Name y py] kt pt] (.Tuple [u, w] k2 pt2) pos.line X.env = pure false := by rfl) 
    (hκ : (κ2.set i (mdK b1)).set j (mdK b2) = κn := by rfl) : DS X W rm κb κc κ (.Assign [.Tuple [.Name x px, .Name y py] kt pt] (.Tuple [u, w] k2 pt2) pos) κn (sPar i j f g) := by
  subst hκ
  obtain ⟨⟨t1, q1, k1⟩, i1⟩ := hu
  obtain ⟨⟨t2, q2, k2'⟩, i2⟩ := hw
  have hkj' : notIo (κ2.set i (mdK b1))[j]? = true := by rw [List.getElem?_set_ne hij]; exact hkj
  refine ⟨⟨_, ps_par hc hN hi hj hij hx hy (pa_cons q1 (pa_cons q2 pa_nil h2) h1) hsw hs, fun F H σ ρ O E s h => k1 F H σ ρ O _ s ?_⟩, ((Io.set hkj').trans (Io.set hki)).trans (i2.trans i1)⟩
  unfold sPar Out.bind at h
  unfold PostE
  cases ea : f ρ with
  | bad => simp only [ea] at h; exact h
  | ex x ρ1 => simp only [ea] at h; exact PostXS.one h
  | ok d ρ1 =>
    simp only [ea] at h
    intro v F1 H1 O1 st1 s1 pu1 r1
    refine k2' F1 H1 σ ρ1 O1 _ s1 ?_
    unfold PostE
    cases eb : g ρ1 with
    | bad => simp only [eb] at h; exact h
    | ex x ρ1 => simp only [eb] at h; exact (PostXS.one h).after st1 i1
    | ok e ρ2 =>
      simp only [eb] at h
      intro v2 F2 H2 O2 st2 s2 pu2 r2
      refine ⟨v, v2, rfl, ?_⟩
      have r1' := r1.held s1 st2 (fun z => absurd z hb1)
      cases ei : κ2[i]? with
      | none => rw [ei] at hki; cases hki
      | some ki =>
        obtain ⟨O3, s3, ho3⟩ := setM s2 ei hb1 r1'
        have ej : ∃ kj, (κ2.set i (mdK b1))[j]? = some kj := by
          rw [List.getElem?_set_ne hij]
          cases ej : κ2[j]? with
          | none => rw [ej] at hkj; cases hkj
          | some kj => exact ⟨kj, rfl⟩
        obtain ⟨kj, ej⟩ := ej
        have r2' : Rv X F2 H2 O3 H1 b2 v2 e := by
          cases b2 with
          | val => exact r2
          | bor => exact r2
          | own =>
            obtain ⟨a2, rfl, fl2, nF2, nO2, n2⟩ := r2
            refine ⟨a2, rfl, fl2, nF2, fun z => ?_, n2⟩
            rcases ho3 a2 z with z | ⟨z1, z2, z3⟩
            · exact nO2 z
            · subst z3
              obtain ⟨a1, e1, fl1, _⟩ := r1
              rw [z2] at e1
              cases e1
              obtain ⟨o, ho, _⟩ := fl1.tr
              rw [n2] at ho; cases ho
        obtain ⟨O4, s4, ho4⟩ := setM s3 ej hb2 r2'
        refine h F2 H2 O4 _ ⟨(st1.trans st2).f1, (st1.trans st2).f2, (st1.trans st2).h1, (st1.trans st2).h2, fun a ha => ?_⟩ s4
        rcases ho4 a ha with q | ⟨q, _, _⟩
        · rcases ho3 a q with q | ⟨q, _, _⟩
          · exact (st1.trans st2).o1 a q
          · exact .inr q
        · exact .inr (st1.none q)
end
end Pu

set_option maxHeartbeats 4000000
/-! PuF: loops and comprehensions over plain data. -/
namespace Pu
open PySem PySem.Spec PyProof.Rows L2

/-! ### readings that do not lean on the context -/
def canE (X : Txt) (W : WX) (κ κ' : List Kd) (p : Bool) (b : Md) (f : Fe) : TE := fun σ H Q => ∃ F ρ O, Stt X F H κ σ ρ O ∧ PostE X W κ κ' p b (f ρ) F H σ O Q
def canT (X : Txt) (W : WX) (κ κ' : List Kd) (p : Bool) (f : Fb) : TT := fun σ H Q => ∃ F ρ O, Stt X F H κ σ ρ O ∧ PostT X W κ κ' p (f ρ) F H σ O Q
def canG (X : Txt) (κ κ' : List Kd) (h : Tg) (js : List Nat) : TG := fun v σ H Q => ∃ F ρ O d ρ', Stt X F H κ σ ρ O ∧ Rep X F H v d ∧ h d ρ = some ρ' ∧ ∀ σ' O', (∀ a ∈ O', a ∈ O) → Stt X F H κ' σ' ρ' O' → ((∀ j, j ∉ js → σ'[j]? = σ[j]?) ∧ σ'.length = σ.length) → Q σ' H
section
variable {X : Cx} {W : WX} {rm : Md} {κ κ' κ1 κ2 κ3 κn κb κc : List Kd} {p p1 p2 p3 : Bool} {b b1 b2 b3 : Md} {F F' F1 : Fz} {H H' H1 : Hp} {σ : SS} {ρ ρ' : En} {O O' O1 : List Addr} {a c e : Expr} {pos : Pos} {st : Stmt} {sts : List Stmt} {E : Ends}
theorem DE.can {f : Fe} (h : DE X W κ e κ' p b f) : PE X e (canE X W κ κ' p b f) := by
  obtain ⟨⟨t, pt, ht⟩, io⟩ := h
  exact ⟨fun pins s σ H Q I ⟨F, ρ, O, st, q⟩ => pt.run pins s σ H Q I (ht F H σ ρ O Q st q)⟩
theorem DT.can {f : Fb} (h : DT X W κ e κ' p f) : PT X e (canT X W κ κ' p f) := by
  obtain ⟨⟨t, pt, ht⟩, io⟩ := h
  exact ⟨fun pins s σ H Q I ⟨F, ρ, O, st, q⟩ => pt.run pins s σ H Q I (ht F H σ ρ O Q st q)⟩
theorem DG.can {h : Tg} {js : List Nat} (g : DG X κ e κ' h js) : PG X e (canG X κ κ' h js) := by
  obtain ⟨⟨t, pt, ht⟩, io⟩ := g
  exact ⟨fun pins s σ H v u Q I r ⟨F, ρ, O, d, ρ', st, rp, e, q⟩ => pt.run pins s σ H v u Q I r (ht F H σ ρ O v d ρ' Q st rp e q)⟩

/-! ### what is walked -/
/-- the iterator J gives the items ds, whatever is done to what is not frozen -/
def Src (X : Txt) (F1 : Fz) (H1 : Hp) (J : It) (ds : List D) : Prop := ∀ F H, Keep F1 H1 F H → (∀ a, F a → ∃ o, H a = some o) → ∀ i,
  (i < ds.length → J.go i H ∧ ∀ x H', J.yld i H x H' → ∃ F', Ext F H F' H' ∧ ∃ d, ds[i]? = some d ∧ Rep X F' H' x d) ∧ (ds.length ≤ i → J.stop i H)
def PostI (X : Txt) (W : WX) (κ κ' : List Kd) (r : Out (List D)) (F : Fz) (H : Hp) (σ : SS) (O : List Addr) (R : It → Hp → Prop) : Prop := match r with
  | .bad => False
  | .ex x ρ' => PostX X W κ x ρ' F H σ O
  | .ok ds ρ' => ∀ J F' H' O', Stp F H O F' H' O' → Stt X F' H' κ' σ ρ' O' → Src X F' H' J ds → R J H'
structure DI (X : Cx) (W : WX) (κ : List Kd) (tg e : Expr) (κ' : List Kd) (f : Fa) : Prop where
  ex : ∃ wi : TI, PI X tg e wi ∧ ∀ F H σ ρ O R, Stt X F H κ σ ρ O → PostI X W κ κ' (f ρ) F H σ O R → wi σ H R
  io : Io κ' κ
def canI (X : Txt) (W : WX) (κ κ' : List Kd) (f : Fa) : TI := fun σ H R => ∃ F ρ O, Stt X F H κ σ ρ O ∧ PostI X W κ κ' (f ρ) F H σ O R
theorem DI.can {tg : Expr} {f : Fa} (h : DI X W κ tg e κ' f) : PI X tg e (canI X W κ κ' f) := by
  obtain ⟨⟨t, pt, ht⟩, io⟩ := h
  exact ⟨fun pins s σ H Q I ⟨F, ρ, O, st, q⟩ => pt.run pins s σ H Q I (ht F H σ ρ O Q st q)⟩
theorem src_lst {X : Txt} {F1 : Fz} {H1 : Hp} {a : Addr} {vs : List V} {ds : List D} (ha : FL F1 H1 a vs) (r : Reps X F1 H1 vs ds) : Src X F1 H1 (Itl X.K a) ds := by
  intro F H k tr i
  have ha' := ha.keep k
  have r' := Reps.keep k _ r
  refine ⟨fun hi => ?_, fun hi => ⟨vs, .inl (.inl ha'.2), by rw [r'.len]; exact hi⟩⟩
  obtain ⟨v, hv, rv⟩ := r'.getD (List.getElem?_eq_getElem hi)
  refine ⟨⟨vs, v, .inl (.inl ha'.2), hv⟩, fun x H' hy => ?_⟩
  obtain ⟨rfl, hy⟩ := hy
  have e := hy vs (.inl (.inl ha'.2))
  rw [hv] at e; cases e
  exact ⟨F, Ext.refl, _, List.getElem?_eq_getElem hi, rv⟩
theorem src_tup {X : Txt} {F1 : Fz} {H1 : Hp} {a : Addr} {vs : List V} {ds : List D} (ha : FT F1 H1 a vs) (r : Reps X F1 H1 vs ds) : Src X F1 H1 (Itt X.K a) ds := by
  intro F H k tr i
  have ha' := ha.keep k
  have r' := Reps.keep k _ r
  refine ⟨fun hi => ?_, fun hi => ⟨vs, ha'.sq, by rw [r'.len]; exact hi⟩⟩
  obtain ⟨v, hv, rv⟩ := r'.getD (List.getElem?_eq_getElem hi)
  refine ⟨⟨vs, v, ha'.sq, hv⟩, fun x H' hy => ?_⟩
  obtain ⟨rfl, hy⟩ := hy
  have e := hy vs ha'.sq
  rw [hv] at e; cases e
  exact ⟨F, Ext.refl, _, List.getElem?_eq_getElem hi, rv⟩
def iLst (f : Fe) : Fa := fun ρ => (f ρ).bind fun d ρ1 => match d with
  | .lst ds => .ok ds ρ1
  | _ => .bad
def iTupD (f : Fe) : Fa := fun ρ => (f ρ).bind fun d ρ1 => match d with
  | .tup ds => .ok ds ρ1
  | _ => .bad
theorem di_lst {tg : Expr} {f : Fe} (h : DE X W κ e κ' p .val f) : DI X W κ tg e κ' (iLst f) := by
  obtain ⟨⟨t, pt, ht⟩, io⟩ := h
  refine ⟨⟨_, pi_list pt, fun F H σ ρ O R s h => ht F H σ ρ O _ s ?_⟩, io⟩
  unfold iLst Out.bind at h
  unfold PostE
  cases ea : f ρ with
  | bad => rw [ea] at h; exact h
  | ex x ρ1 => rw [ea] at h; exact h
  | ok d ρ1 =>
    rw [ea] at h
    intro v F' H' O' st s' pu r
    cases d with
    | lst ds =>
      have r : Rep X F' H' v (.lst ds) := r
      cases r with
      | lst ha ra => exact ⟨_, rfl, ⟨_, .inl (.inl ha.2)⟩, h _ F' H' O' st s' (src_lst ha ra)⟩
    | _ => exact h.elim
theorem di_tup {tg : Expr} {f : Fe} (h : DE X W κ e κ' p .val f) : DI X W κ tg e κ' (iTupD f) := by
  obtain ⟨⟨t, pt, ht⟩, io⟩ := h
  refine ⟨⟨_, pi_tup pt, fun F H σ ρ O R s h => ht F H σ ρ O _ s ?_⟩, io⟩
  unfold iTupD Out.bind at h
  unfold PostE
  cases ea : f ρ with
  | bad => rw [ea] at h; exact h
  | ex x ρ1 => rw [ea] at h; exact h
  | ok d ρ1 =>
    rw [ea] at h
    intro v F' H' O' st s' pu r
    cases d with
    | tup ds =>
      have r : Rep X F' H' v (.tup ds) := r
      cases r with
      | tup ha ra => exact ⟨_, rfl, ⟨_, ha.sq⟩, h _ F' H' O' st s' (src_tup ha ra)⟩
    | _ => exact h.elim
/-- range -/
def rng (lo : Int) (n : Nat) : List D := (List.range n).map fun i => .int (lo + (i : Nat))
theorem src_rng {X : Txt} {F1 : Fz} {H1 : Hp} {lo : Int} {n : Nat} : Src X F1 H1 (Itr lo n) (rng lo n) := by
  intro F H k tr i
  have hl : (rng lo n).length = n := by simp [rng]
  rw [hl]
  refine ⟨fun hi => ⟨hi, fun x H' hy => ?_⟩, fun hi => hi⟩
  obtain ⟨rfl, rfl⟩ := hy
  exact ⟨F, Ext.refl, .int (lo + (i : Nat)), by simp [rng, hi], .int _⟩
def in62 (i : Int) : Bool := decide (-4611686018427387904 ≤ i) && decide (i < 4611686018427387904)
theorem in62_ok {i : Int} (h : in62 i = true) : -(2 ^ 62) ≤ i ∧ i < 2 ^ 62 := by
  obtain ⟨h1, h2⟩ := Bool.and_eq_true_iff.mp h
  have := of_decide_eq_true h1
  have := of_decide_eq_true h2
  omega
def iRng1 (f : Fe) : Fa := fun ρ => (f ρ).bind fun d ρ1 => match d with
  | .int j => if in62 j then .ok (rng 0 j.toNat) ρ1 else .bad
  | _ => .bad
def iRng2 (f g : Fe) : Fa := fun ρ => (f ρ).bind fun d ρ1 => (g ρ1).bind fun e ρ2 => match d, e with
  | .int i, .int j => if in62 i && in62 j then .ok (rng i (j - i).toNat) ρ2 else .bad
  | _, _ => .bad
theorem di_rng1 {tg : Expr} {f : Fe} {pp : Pos} (hm : X.mg "range" = none) (h : DE X W κ a κ' p b f) (hg : Gl X "range" := by rfl) (hs : starEach [a] X.env = [(false, eval a X.env)] := by rfl) : DI X W κ tg (.Call (.Name "range" pp) [a] [] pos) κ' (iRng1 f) := by
  obtain ⟨⟨t, pt, ht⟩, io⟩ := h
  refine ⟨⟨_, pi_range1 hg hm (pa_cons pt pa_nil hs) hs, fun F H σ ρ O R s h => ht F H σ ρ O _ s ?_⟩, io⟩
  unfold iRng1 Out.bind at h
  unfold PostE
  cases ea : f ρ with
  | bad => rw [ea] at h; exact h
  | ex x ρ1 => rw [ea] at h; exact h
  | ok d ρ1 =>
    rw [ea] at h
    intro v F' H' O' st s' pu r
    dsimp only at h
    cases d with
    | int j =>
      dsimp only at h
      split at h
      · obtain ⟨h1, h2⟩ := in62_ok ‹_›
        exact ⟨j, by rw [r.bo.int], h1, h2, h _ F' H' O' st s' src_rng⟩
      · exact h.elim
    | _ => exact h.elim
theorem di_rng2 {tg : Expr} {f g : Fe} {pp : Pos} (hm : X.mg "range" = none) (ha : DE X W κ a κ1 p1 b1 f) (hc : DE X W κ1 c κ2 p2 b2 g) (hg : Gl X "range" := by rfl) (hs : starEach [a, c] X.env = [(false, eval a X.env), (false, eval c X.env)] := by rfl) (hs2 : starEach [c] X.env = [(false, eval c X.env)] := by rfl)
    (hm1 : b1 = .bor → p2 = true := by first | exact (fun _ => rfl) | exact (fun h => nomatch h)) : DI X W κ tg (.Call (.Name "range" pp) [a, c] [] pos) κ2 (iRng2 f g) := by
  obtain ⟨⟨ta, pa, hta⟩, i1⟩ := ha
  obtain ⟨⟨tb, pb, htb⟩, i2⟩ := hc
  refine ⟨⟨_, pi_range2 hg hm (pa_cons pa (pa_cons pb pa_nil hs2) (by rw [hs2]; exact hs)) hs hs2, fun F H σ ρ O R s h => two hta htb i1 hm1 s ?_⟩, i2.trans i1⟩
  unfold iRng2 Out.bind at h
  cases ea : f ρ with
  | bad => simp only [ea] at h; exact h
  | ex x ρ1 => simp only [ea] at h; exact h
  | ok d ρ1 =>
    simp only [ea] at h
    show Fin X W κ F H σ O (g ρ1) _
    cases eb : g ρ1 with
    | bad => simp only [eb] at h; exact h
    | ex x ρ1 => simp only [eb] at h; exact h
    | ok e ρ2 =>
      simp only [eb] at h
      intro x y F' H' O' st s' pu rx ry
      cases d with
      | int i => cases e with
        | int j =>
          dsimp only at h
          split at h
          · obtain ⟨hi, hj⟩ := Bool.and_eq_true_iff.mp ‹_›
            obtain ⟨h1, h2⟩ := in62_ok hi
            obtain ⟨h3, h4⟩ := in62_ok hj
            exact ⟨i, j, by rw [rx.bo.int, ry.bo.int], ⟨h1, h2, h3, h4⟩, h _ F' H' O' st s' src_rng⟩
          · exact h.elim
        | _ => exact h.elim
      | _ => exact h.elim

/-! ### for -/
def forM (tgt : Tg) (body : Fs) : List D → Fs
  | [], ρ => .ok .nx ρ
  | d :: ds, ρ => match tgt d ρ with
    | none => .bad
    | some ρ1 => match body ρ1 with
      | .ok .nx ρ2 => forM tgt body ds ρ2
      | .ok .ct ρ2 => forM tgt body ds ρ2
      | .ok .bk ρ2 => .ok .nx ρ2
      | r => r
def sFor (fi : Fa) (tgt : Tg) (body : Fs) : Fs := fun ρ => (fi ρ).bind fun ds ρ1 => forM tgt body ds ρ1
theorem Src.later {X : Txt} {F1 F2 : Fz} {H1 H2 : Hp} {J : It} {ds : List D} (h : Src X F1 H1 J ds) (k : Keep F1 H1 F2 H2) : Src X F2 H2 J ds := fun F H k' => h F H (k.trans k')
theorem ds_for {iter tg : Expr} {body : List Stmt} {fi : Fa} {tgt : Tg} {fb : Fs} {js : List Nat} (hi : DI X W κ tg iter κ1 fi) (hg : DG X κ1 tg κ2 tgt js) (hb : DB X W rm κ1 κ1 κ2 body κ1 fb) (hp : PassesOwn (model X.prog X.w) X.A X.env X.xe) (hc : X.calm = true := by rfl)
    (hs : ∀ x, foldedSetIterable iter X.env x = pure x := by intro _; rfl) : DS X W rm κb κc κ (.For tg iter body [] pos) κ1 (sFor fi tgt fb) := by
  obtain ⟨⟨wi, pi, hwi⟩, i0⟩ := hi
  obtain ⟨⟨g, pg, hg'⟩, i1⟩ := hg
  obtain ⟨⟨tb, pb, htb⟩, i2⟩ := hb
  refine ⟨⟨_, ps_for hp hc pi pg pb hs, fun F H σ ρ O E s h => hwi F H σ ρ O _ s ?_⟩, i0⟩
  unfold sFor Out.bind at h
  unfold PostI
  cases ea : fi ρ with
  | bad => rw [ea] at h; exact h
  | ex x ρ1 => rw [ea] at h; exact PostXS.one h
  | ok ds ρ1 =>
    rw [ea] at h
    dsimp only at h
    intro J F1 H1 O1 st1 s1 src
    have h1 : PostS X W rm κ1 κ1 κb κc (forM tgt fb ds ρ1) F1 H1 O1 E := PostS.after h st1 i0
    refine ⟨fun i m σ H => m = ds.length - i ∧ i ≤ ds.length ∧ ∃ F ρ O, Stt X F H κ1 σ ρ O ∧ Keep F1 H1 F H ∧ PostS X W rm κ1 κ1 κb κc (forM tgt fb (ds.drop i) ρ) F H O E, ⟨ds.length, by simp, Nat.zero_le _, F1, ρ1, O1, s1, Keep.refl, by simpa using h1⟩, ?_⟩
    rintro i m σ2 H2 ⟨rfl, hi, F2, ρ2, O2, s2, k2, q2⟩
    obtain ⟨c1, c2⟩ := src F2 H2 k2 s2.tr i
    by_cases hlt : i < ds.length
    · obtain ⟨go, yl⟩ := c1 hlt
      refine .inr ⟨go, fun σ' H' => i + 1 ≤ ds.length ∧ ∃ F ρ O, Stt X F H' κ1 σ' ρ O ∧ Keep F1 H1 F H' ∧ PostS X W rm κ1 κ1 κb κc (forM tgt fb (ds.drop (i + 1)) ρ) F H' O E, fun σ' H' ⟨w1, w2⟩ => ⟨ds.length - (i + 1), by omega, rfl, w1, w2⟩, fun x H3 hy => ?_⟩
      obtain ⟨F3, x3, d, hd, rx⟩ := yl x H3 hy
      have ed : ds.drop i = d :: ds.drop (i + 1) := by
        obtain ⟨z1, z2⟩ := List.getElem?_eq_some_iff.mp hd
        rw [List.drop_eq_getElem_cons z1, z2]
      rw [ed] at q2
      have s3 := s2.ext x3
      have q3 : PostS X W rm κ1 κ1 κb κc (forM tgt fb (d :: ds.drop (i + 1)) ρ2) F3 H3 O2 E := PostS.after q2 x3.stp Io.refl
      unfold forM at q3
      cases et : tgt d ρ2 with
      | none => rw [et] at q3; exact q3.elim
      | some ρ3 =>
        rw [et] at q3
        dsimp only at q3
        refine hg' F3 H3 σ2 ρ2 O2 x d ρ3 _ s3 rx et fun σ4 O4 ho s4 _ => ?_
        refine htb F3 H3 σ4 ρ3 O4 _ s4 ?_
        have st34 : Stp F3 H3 O2 F3 H3 O4 := Stp.less ho
        cases eb : fb ρ3 with
        | bad => rw [eb] at q3; exact q3
        | ex x ρ4 => rw [eb] at q3; exact PostXS.after q3 st34 i1
        | ok q ρ4 =>
          rw [eb] at q3
          have next : PostS X W rm κ1 κ1 κb κc (forM tgt fb (ds.drop (i + 1)) ρ4) F3 H3 O2 E → PostN X κ1 ρ4 F3 H3 O4 fun σ' H' => i + 1 ≤ ds.length ∧ ∃ F ρ O, Stt X F H' κ1 σ' ρ O ∧ Keep F1 H1 F H' ∧ PostS X W rm κ1 κ1 κb κc (forM tgt fb (ds.drop (i + 1)) ρ) F H' O E :=
            fun q3 F5 H5 O5 σ5 st5 s5 => ⟨hlt, F5, ρ4, O5, s5, (k2.trans x3.keep).trans (st5.keep s4), PostS.after q3 (st34.trans st5) Io.refl⟩
          cases q with
          | nx => exact next q3
          | ct => exact next q3
          | bk => exact PostN.after q3 st34
          | rt d => exact PostR.after q3 st34 i1
    · have e : i = ds.length := by omega
      refine .inl ⟨c2 (by omega), ?_⟩
      rw [e, List.drop_length] at q2
      exact q2 F2 H2 O2 σ2 Stp.refl s2
/-! ### while -/
def whileM (t : Fb) (body : Fs) : Nat → Fs
  | 0, _ => .bad
  | n + 1, ρ => (t ρ).bind fun c ρ1 => if c then (match body ρ1 with
      | .ok .nx ρ2 => whileM t body n ρ2
      | .ok .ct ρ2 => whileM t body n ρ2
      | .ok .bk ρ2 => .ok .nx ρ2
      | r => r) else .ok .nx ρ1
def sWhile (t : Fb) (body : Fs) (fuel : En → Nat) : Fs := fun ρ => whileM t body (fuel ρ) ρ
theorem ds_while {body : List Stmt} {t : Fb} {fb : Fs} (fuel : En → Nat) (ht : DT X W κ c κ p t) (hb : DB X W rm κ κ κ body κ fb) (hp : PassesOwn (model X.prog X.w) X.A X.env X.xe) : DS X W rm κb κc κ (.While c body [] pos) κ (sWhile t fb fuel) := by
  obtain ⟨⟨tc, pc, htc⟩, i0⟩ := ht
  obtain ⟨⟨tb, pb, htb⟩, i1⟩ := hb
  refine ⟨⟨_, ps_while hp pc pb, fun F H σ ρ O E s h => ?_⟩, Io.refl⟩
  refine ⟨fun m σ H => ∃ F ρ O, Stt X F H κ σ ρ O ∧ PostS X W rm κ κ κb κc (whileM t fb m ρ) F H O E, ⟨fuel ρ, F, ρ, O, s, h⟩, ?_⟩
  rintro m σ1 H1 ⟨F1, ρ1, O1, s1, q1⟩
  cases m with
  | zero => exact q1.elim
  | succ m =>
    refine htc F1 H1 σ1 ρ1 O1 _ s1 ?_
    unfold whileM Out.bind at q1
    unfold PostT
    cases ea : t ρ1 with
    | bad => rw [ea] at q1; exact q1
    | ex x ρ1 => rw [ea] at q1; exact PostXS.one q1
    | ok c ρ2 =>
      rw [ea] at q1
      dsimp only at q1
      intro F2 H2 O2 st2 s2 pu
      cases c with
      | false => exact q1 F2 H2 O2 σ1 st2 s2
      | true =>
        rw [if_pos rfl] at q1 ⊢
        refine ⟨fun σ' H' => ∃ F ρ O, Stt X F H' κ σ' ρ O ∧ PostS X W rm κ κ κb κc (whileM t fb m ρ) F H' O E, fun σ' H' w => ⟨m, Nat.lt_succ_self m, w⟩, ?_⟩
        refine htb F2 H2 σ1 ρ2 O2 _ s2 ?_
        cases eb : fb ρ2 with
        | bad => rw [eb] at q1; exact q1
        | ex x ρ4 => rw [eb] at q1; exact PostXS.after q1 st2 Io.refl
        | ok q ρ4 =>
          rw [eb] at q1
          have next : PostS X W rm κ κ κb κc (whileM t fb m ρ4) F1 H1 O1 E → PostN X κ ρ4 F2 H2 O2 fun σ' H' => ∃ F ρ O, Stt X F H' κ σ' ρ O ∧ PostS X W rm κ κ κb κc (whileM t fb m ρ) F H' O E :=
            fun q3 F5 H5 O5 σ5 st5 s5 => ⟨F5, ρ4, O5, s5, PostS.after q3 (st2.trans st5) Io.refl⟩
          cases q with
          | nx => exact next q1
          | ct => exact next q1
          | bk => exact PostN.after q1 st2
          | rt d => exact PostR.after q1 st2 Io.refl

/-! ### comprehensions -/
def wipeD (ρ : En) : List Nat → En
  | [] => ρ
  | v :: vs => (wipeD ρ vs).set v none
/-- the block's own names as they stood ahead of it -/
def restD (ρ ρe : En) : List Nat → En
  | [] => ρe
  | v :: vs => (restD ρ ρe vs).set v (ρ[v]?.getD none)
def restS (σ σe : SS) : List Nat → SS
  | [] => σe
  | v :: vs => (restS σ σe vs).set v (σ[v]?.getD none)
def lcM (tgt : Tg) (test : Fb) (elt : Fe) (vs : List Nat) : List D → List D → En → Out (List D)
  | [], acc, ρ => .ok acc ρ
  | d :: ds, acc, ρ => match tgt d ρ with
    | none => .bad
    | some ρ1 => match test ρ1 with
      | .ok true ρ2 => (match elt ρ2 with
        | .ok z ρ3 => if acc.length < sizeLine then lcM tgt test elt vs ds (acc ++ [z]) (wipeD ρ3 vs) else .bad
        | _ => .bad)
      | .ok false ρ2 => lcM tgt test elt vs ds acc (wipeD ρ2 vs)
      | _ => .bad
theorem lcM_ex {tgt : Tg} {test : Fb} {elt : Fe} {vs : List Nat} {x : Ex} {ρ2 : En} : ∀ ds acc ρ, lcM tgt test elt vs ds acc ρ ≠ .ex x ρ2 := by
  intro ds
  induction ds with
  | nil => intro acc ρ z; cases z
  | cons d ds ih =>
    intro acc ρ z
    unfold lcM at z
    cases et : tgt d ρ with
    | none => rw [et] at z; cases z
    | some ρ1 =>
      rw [et] at z
      dsimp only at z
      cases eT : test ρ1 with
      | bad => rw [eT] at z; cases z
      | ex _ _ => rw [eT] at z; cases z
      | ok c ρ3 =>
        rw [eT] at z
        cases c with
        | false => exact ih _ _ z
        | true =>
          dsimp only at z
          cases eE : elt ρ3 with
          | bad => rw [eE] at z; cases z
          | ex _ _ => rw [eE] at z; cases z
          | ok y ρ4 =>
            rw [eE] at z
            dsimp only at z
            by_cases hl : acc.length < sizeLine
            · rw [if_pos hl] at z; exact ih _ _ z
            · rw [if_neg hl] at z; cases z
def eLc (fi : Fa) (tgt : Tg) (test : Fb) (elt : Fe) (vs : List Nat) : Fe := fun ρ => (fi ρ).bind fun ds ρ1 => (lcM tgt test elt vs ds [] (wipeD ρ1 vs)).bind fun zs ρ2 => .ok (.lst zs) (restD ρ1 ρ2 vs)
def tYesD : Fb := fun ρ => .ok true ρ
def fzAt (κ : List Kd) (vs : List Nat) : Bool := vs.all fun v => match κ[v]? with
  | some .fz => true
  | _ => false
end
section
variable {X : Txt} {F F' : Fz} {H H' : Hp} {κ : List Kd} {σ : SS} {ρ : En} {O : List Addr}
theorem Slots.setZ {s : Option V} {r : Option D} (hn : Slot X F H .fz s r []) : ∀ {κ : List Kd} {σ : SS} {ρ : En} {O : List Addr} (i : Nat), Slots X F H κ σ ρ O → κ[i]? = some .fz → Slots X F H κ (σ.set i s) (ρ.set i r) O
  | _, _, _, _, i, .nil, h => by simp at h
  | _, _, _, _, 0, .cons (A := A) (O := O) a q, h => by
    simp at h; subst h
    have e : A = [] := by cases a <;> rfl
    subst e
    exact .cons hn q
  | _, _, _, _, i + 1, .cons a q, h => by simpa using Slots.cons a (Slots.setZ hn i q (by simpa using h))
theorem Stt.setZ {s : Option V} {r : Option D} {i : Nat} (q : Stt X F H κ σ ρ O) (hk : κ[i]? = some .fz) (hn : Slot X F H .fz s r []) : Stt X F H κ (σ.set i s) (ρ.set i r) O := ⟨q.sl.setZ hn i hk, q.nd, q.ap, q.tr⟩
theorem fzAt_cons {v : Nat} {vs : List Nat} (h : fzAt κ (v :: vs) = true) : κ[v]? = some .fz ∧ fzAt κ vs = true := by
  unfold fzAt at h
  rw [List.all_cons] at h
  obtain ⟨h1, h2⟩ := Bool.and_eq_true_iff.mp h
  refine ⟨?_, h2⟩
  split at h1
  · assumption
  · cases h1
theorem Stt.wipe : ∀ {vs : List Nat}, Stt X F H κ σ ρ O → fzAt κ vs = true → Stt X F H κ (L2.wipe σ vs) (wipeD ρ vs) O
  | [], q, _ => q
  | v :: vs, q, h => by
    obtain ⟨h1, h2⟩ := fzAt_cons h
    exact (Stt.wipe (vs := vs) q h2).setZ h1 (.no .fz (fun _ h => nomatch h) _)
theorem Stt.rest {F1 : Fz} {H1 : Hp} {O1 : List Addr} {σe : SS} {ρe : En} (k : Keep F1 H1 F H) (q1 : Stt X F1 H1 κ σ ρ O1) (q : Stt X F H κ σe ρe O) : ∀ {vs : List Nat}, fzAt κ vs = true → Stt X F H κ (restS σ σe vs) (restD ρ ρe vs) O
  | [], _ => q
  | v :: vs, h => by
    obtain ⟨h1, h2⟩ := fzAt_cons h
    refine (Stt.rest k q1 q (vs := vs) h2).setZ h1 ?_
    obtain ⟨s, r, A, e1, e2, e3, _⟩ := q1.sl.at_ h1
    rw [e1, e2]
    cases e3 with
    | no _ hk _ => exact .no .fz hk _
    | fz rp => exact .fz (Rep.keep k _ rp)
theorem restS_wipe (σ : SS) : ∀ vs : List Nat, (∀ v ∈ vs, v < σ.length) → ∀ j : Nat, (restS σ (L2.wipe σ vs) vs)[j]? = σ[j]? := by
  have key : ∀ (σe : SS), σe.length = σ.length → ∀ ws : List Nat, (∀ v ∈ ws, v < σ.length) → ∀ j : Nat, (restS σ σe ws)[j]? = if j ∈ ws then σ[j]? else σe[j]? := by
    intro σe hl ws
    induction ws with
    | nil => intro _ j; simp [restS]
    | cons w ws ih =>
      intro hw j
      have ih' := ih (fun v h => hw v (List.mem_cons_of_mem _ h))
      have hlen : ∀ ws, (restS σ σe ws).length = σe.length := by
        intro ws
        induction ws with
        | nil => rfl
        | cons w ws ih2 => simp [restS, ih2]
      show ((restS σ σe ws).set w (σ[w]?.getD none))[j]? = _
      by_cases e : w = j
      · subst e
        have hw' := hw w List.mem_cons_self
        rw [List.getElem?_set_self (by rw [hlen, hl]; exact hw')]
        simp [List.getElem?_eq_getElem hw']
      · rw [List.getElem?_set_ne e, ih' j]
        simp [Ne.symm e]
  intro vs hv j
  rw [key (L2.wipe σ vs) (wipe_length σ vs) vs hv j]
  split
  · rfl
  · rename_i hj
    have : ∀ ws : List Nat, j ∉ ws → (L2.wipe σ ws)[j]? = σ[j]? := by
      intro ws
      induction ws with
      | nil => intro _; rfl
      | cons w ws ih =>
        intro h
        show ((L2.wipe σ ws).set w none)[j]? = _
        rw [List.getElem?_set_ne (fun z => h (by simp [z])), ih fun z => h (List.mem_cons_of_mem _ z)]
    exact this vs hj
theorem wipe_ext {σ σ' : SS} {js : List Nat} : ∀ vs : List Nat, (∀ j ∈ js, j ∈ vs) → (∀ j : Nat, j ∉ js → σ'[j]? = σ[j]?) → σ'.length = σ.length → L2.wipe σ' vs = L2.wipe σ vs := by
  intro vs hs hj hl
  have at_ : ∀ (τ : SS) (ws : List Nat) (j : Nat), (L2.wipe τ ws)[j]? = if j ∈ ws then (if j < τ.length then some none else none) else τ[j]? := by
    intro τ ws j
    induction ws with
    | nil => simp [L2.wipe]
    | cons w ws ih =>
      show ((L2.wipe τ ws).set w none)[j]? = _
      by_cases e : w = j
      · subst e
        rw [List.getElem?_set]
        simp [wipe_length]
      · rw [List.getElem?_set_ne e, ih]
        simp [Ne.symm e]
  apply List.ext_getElem?
  intro j
  rw [at_, at_, hl]
  split
  · rfl
  · exact hj j fun z => ‹j ∉ vs› (hs j z)
end
section
variable {X : Cx} {W : WX} {rm : Md} {κ κ' κ1 κ2 κ3 κn κb κc : List Kd} {p p1 p2 p3 : Bool} {b b1 b2 b3 : Md} {F F' F1 : Fz} {H H' H1 : Hp} {σ : SS} {ρ ρ' : En} {O O' O1 : List Addr} {a c e : Expr} {pos : Pos} {st : Stmt} {sts : List Stmt} {E : Ends}
abbrev W0 : WX := fun _ _ _ _ => False
/-- the reading of a comprehension by the canonical readings of its parts -/
theorem lc_sem {fi : Fa} {tgt : Tg} {test : Fb} {elt : Fe} {js vs : List Nat} {wi : TI} {pt pe : Bool} {be : Md} (hwi : ∀ F H σ ρ O R, Stt X F H κ σ ρ O → PostI X W κ κ1 (fi ρ) F H σ O R → wi σ H R) (i0 : Io κ1 κ) (hjs : ∀ j ∈ js, j ∈ vs) (hv : fzAt κ1 vs = true)
    (hbe : be ≠ .bor) {Q : VK} (s : Stt X F H κ σ ρ O) (h : PostE X W κ κ1 false .own (eLc fi tgt test elt vs ρ) F H σ O Q) :
    tLc wi (canG X κ1 κ1 tgt js) (canT X W0 κ1 κ1 pt test) (canE X W0 κ1 κ1 pe .val elt) vs σ H Q := by
  refine hwi F H σ ρ O _ s ?_
  unfold eLc Out.bind at h
  unfold PostI
  cases ea : fi ρ with
  | bad => rw [ea] at h; exact h
  | ex x ρ1 => rw [ea] at h; exact h
  | ok ds ρ1 =>
    rw [ea] at h
    dsimp only at h
    intro J F1 H1 O1 st1 s1 src Da hD
    have x1 : Ext F1 H1 F1 (upd H1 Da (.lst [])) := Ext.new hD
    have s1w := (s1.ext x1).wipe hv
    have nF : ¬ F1 Da := fun z => by
      obtain ⟨o, ho⟩ := s1.tr Da z
      rw [hD] at ho; cases ho
    have nO : Da ∉ O1 := fun z => by
      obtain ⟨o, ho, _⟩ := s1.sl.tracked Da z
      rw [hD] at ho; cases ho
    have hv' : ∀ v ∈ vs, v < σ.length := by
      have : ∀ ws : List Nat, fzAt κ1 ws = true → ∀ v ∈ ws, v < σ.length := by
        intro ws
        induction ws with
        | nil => intro _ v h; cases h
        | cons w ws ih =>
          intro h v hm
          obtain ⟨h1, h2⟩ := fzAt_cons h
          rcases List.mem_cons.mp hm with e | e
          · subst e
            obtain ⟨hl, _⟩ := List.getElem?_eq_some_iff.mp h1
            have l1 := s1.sl.lens
            omega
          · exact ih h2 v e
      exact this vs hv
    -- what is wanted of the rest
    let Wn : List D → List D → En → Prop := fun ds acc ρ => ∃ zs ρe, lcM tgt test elt vs ds acc ρ = .ok zs ρe ∧ ∀ v F' H' O', Stp F H O F' H' O' → Stt X F' H' κ1 σ (restD ρ1 ρe vs) O' → Rv X F' H' O' H .own v (.lst zs) → Q v H'
    have w0 : Wn ds [] (wipeD ρ1 vs) := by
      cases el : lcM tgt test elt vs ds [] (wipeD ρ1 vs) with
      | bad => simp only [el] at h; exact h.elim
      | ex x ρ2 => exact absurd el (lcM_ex ds [] _)
      | ok zs ρe =>
        simp only [el] at h
        exact ⟨zs, ρe, el, fun v F' H' O' q1 q2 q3 => h v F' H' O' q1 q2 (fun z => nomatch z) q3⟩
    refine ⟨fun i m H => m = ds.length - i ∧ i ≤ ds.length ∧ ∃ F ρ O acc av, Stt X F H κ1 (L2.wipe σ vs) ρ O ∧ Keep F1 H1 F H ∧ Stp F1 H1 O1 F H O ∧ H Da = some (.lst av) ∧ Reps X F H av acc ∧ ¬ F Da ∧ Da ∉ O ∧ Wn (ds.drop i) acc ρ,
      ⟨ds.length, by simp, Nat.zero_le _, F1, _, O1, [], [], s1w, x1.keep, x1.stp, upd_same, .nil, nF, nO, by simpa using w0⟩, ?_⟩
    rintro i m H2 ⟨rfl, hi, F2, ρ2, O2, acc, av, s2, k2, st2, hD2, ra2, nF2, nO2, w2⟩
    obtain ⟨c1, c2⟩ := src F2 H2 k2 s2.tr i
    by_cases hlt : i < ds.length
    · obtain ⟨go, yl⟩ := c1 hlt
      refine .inr ⟨go, fun H' => i + 1 ≤ ds.length ∧ ∃ F ρ O acc av, Stt X F H' κ1 (L2.wipe σ vs) ρ O ∧ Keep F1 H1 F H' ∧ Stp F1 H1 O1 F H' O ∧ H' Da = some (.lst av) ∧ Reps X F H' av acc ∧ ¬ F Da ∧ Da ∉ O ∧ Wn (ds.drop (i + 1)) acc ρ, fun H' ⟨q1, q2⟩ => ⟨ds.length - (i + 1), by omega, rfl, q1, q2⟩, fun x H3 hy => ?_⟩
      obtain ⟨F3, x3, d, hd, rx⟩ := yl x H3 hy
      have ed : ds.drop i = d :: ds.drop (i + 1) := by
        obtain ⟨z1, z2⟩ := List.getElem?_eq_some_iff.mp hd
        rw [List.drop_eq_getElem_cons z1, z2]
      rw [ed] at w2
      obtain ⟨zs, ρe, el, qe⟩ := w2
      have s3 := s2.ext x3
      have hD3 := x3.h1 Da _ hD2
      have nF3 : ¬ F3 Da := fun z => by
        rcases x3.f2 Da z with z | z
        · exact nF2 z
        · rw [hD2] at z; cases z
      have st3 := st2.trans (x3.stp (O := O2))
      unfold lcM at el
      cases et : tgt d ρ2 with
      | none => rw [et] at el; cases el
      | some ρ3 =>
        rw [et] at el
        dsimp only at el
        refine ⟨F3, ρ2, O2, d, ρ3, s3, rx, et, fun σ4 O4 ho s4 ⟨hc1, hc2⟩ => ?_⟩
        have ew : L2.wipe σ4 vs = L2.wipe (L2.wipe σ vs) vs := wipe_ext vs hjs hc1 hc2
        have eww : L2.wipe (L2.wipe σ vs) vs = L2.wipe σ vs := by
          refine wipe_ext (js := vs) vs (fun _ h => h) (fun j hj => ?_) (wipe_length σ vs)
          have : ∀ ws : List Nat, j ∉ ws → (L2.wipe σ ws)[j]? = σ[j]? := by
            intro ws
            induction ws with
            | nil => intro _; rfl
            | cons w ws ih =>
              intro h
              show ((L2.wipe σ ws).set w none)[j]? = _
              rw [List.getElem?_set_ne (fun z => h (by simp [z])), ih fun z => h (List.mem_cons_of_mem _ z)]
          exact this vs hj
        refine ⟨ew.trans eww, F3, ρ3, O4, s4, ?_⟩
        have st4 : Stp F1 H1 O1 F3 H3 O4 := st3.trans (Stp.less ho)
        have nO4 : Da ∉ O4 := fun z => nO2 (ho Da z)
        unfold PostT
        cases eT : test ρ3 with
        | bad => rw [eT] at el; cases el
        | ex _ _ => rw [eT] at el; cases el
        | ok cc ρ4 =>
          rw [eT] at el
          intro F5 H5 O5 st5 s5 _
          have hD5 : H5 Da = some (.lst av) := st5.h1 Da _ hD3 nO4
          have nF5 : ¬ F5 Da := fun z => by
            rcases st5.f2 Da z with z | z | z
            · exact nF3 z
            · exact nO4 z
            · rw [hD3] at z; cases z
          have nO5 : Da ∉ O5 := fun z => by
            rcases st5.o1 Da z with z | z
            · exact nO4 z
            · rw [hD3] at z; cases z
          have k5 : Keep F1 H1 F5 H5 := (k2.trans x3.keep).trans (st5.keep s4)
          have ra5 : Reps X F5 H5 av acc := Reps.keep ((x3.keep).trans (st5.keep s4)) _ ra2
          have wsp : ∀ {τ : SS} {r : En} {O : List Addr} {F : Fz} {H : Hp}, Stt X F H κ1 σ4 r O → Stt X F H κ1 (L2.wipe σ vs) (wipeD r vs) O := fun q => by
            have z := q.wipe hv
            rw [ew, eww] at z
            exact z
          cases cc with
          | false =>
            rw [if_neg Bool.false_ne_true]
            exact ⟨hlt, F5, _, O5, acc, av, wsp (τ := σ) s5, k5, st4.trans st5, hD5, ra5, nF5, nO5, zs, ρe, el, qe⟩
          | true =>
            rw [if_pos rfl]
            refine ⟨F5, ρ4, O5, s5, ?_⟩
            dsimp only at el
            unfold PostE
            cases eE : elt ρ4 with
            | bad => rw [eE] at el; cases el
            | ex _ _ => rw [eE] at el; cases el
            | ok z ρ5 =>
              rw [eE] at el
              dsimp only at el
              intro y F6 H6 O6 st6 s6 _ ry
              have ry : Rep X F6 H6 y z := ry
              split at el
              · rename_i hz
                have hD6 : H6 Da = some (.lst av) := st6.h1 Da _ hD5 nO5
                have nF6 : ¬ F6 Da := fun z => by
                  rcases st6.f2 Da z with z | z | z
                  · exact nF5 z
                  · exact nO5 z
                  · rw [hD5] at z; cases z
                have nO6 : Da ∉ O6 := fun z => by
                  rcases st6.o1 Da z with z | z
                  · exact nO5 z
                  · rw [hD5] at z; cases z
                have kD : Keep F6 H6 F6 (upd H6 Da (.lst (av ++ [y]))) := ⟨fun _ h => h, fun b o f e => by
                  have hb : b ≠ Da := fun z => nF6 (z ▸ f)
                  rw [upd_ne hb]; exact e⟩
                have ra6 : Reps X F6 H6 av acc := Reps.keep (st6.keep s5) _ ra5
                have s7 : Stt X F6 (upd H6 Da (.lst (av ++ [y]))) κ1 σ4 ρ5 O6 := ⟨s6.sl.keep kD fun b hb o e => by
                    have hn : b ≠ Da := fun z => nO6 (z ▸ hb)
                    rw [upd_ne hn]; exact e, s6.nd, s6.ap, fun b f => by
                    obtain ⟨o, ho⟩ := s6.tr b f
                    exact ⟨o, kD.at_ b o f ho⟩⟩
                have st16 : Stp F1 H1 O1 F6 H6 O6 := (st4.trans st5).trans st6
                have st17 : Stp F1 H1 O1 F6 (upd H6 Da (.lst (av ++ [y]))) O6 := ⟨st16.f1, st16.f2, fun b o e n => by
                    have hn : b ≠ Da := fun z => by rw [z, hD] at e; cases e
                    rw [upd_ne hn]; exact st16.h1 b o e n, fun b o e => by
                    have hn : b ≠ Da := fun z => by rw [z, hD] at e; cases e
                    rw [upd_ne hn]; exact st16.h2 b o e, st16.o1⟩
                refine ⟨av, hD6, by rw [ra6.len]; exact hz, hlt, F6, _, O6, acc ++ [z], av ++ [y], wsp (τ := σ) s7, (k5.trans (st6.keep s5)).trans kD, st17, upd_same, (Reps.keep kD _ ra6).app (.cons (Rep.keep kD _ ry) .nil), nF6, nO6, zs, ρe, el, qe⟩
              · cases el
    · have e : i = ds.length := by omega
      refine .inl ⟨c2 (by omega), ?_⟩
      rw [e, List.drop_length] at w2
      obtain ⟨zs, ρe, el, qe⟩ := w2
      cases el
      have sr := Stt.rest k2 s1 s2 (vs := vs) hv
      have eσ : restS σ (L2.wipe σ vs) vs = σ := List.ext_getElem? (restS_wipe σ vs hv')
      rw [eσ] at sr
      exact qe _ F2 H2 O2 (st1.trans st2) sr ⟨Da, rfl, .lst hD2 ra2, nF2, nO2, st1.none hD⟩
theorem de_lc {elt tg iter : Expr} {ifs : List Expr} {scope : Scope} {own : List (Str × Nat)} {fi : Fa} {tgt : Tg} {test : Fb} {fe : Fe} {js : List Nat} {pt pe : Bool} (hi : DI X W κ tg iter κ1 fi) (hN : X.N.Nodup) (ok : BlkOk X.N X.env.scope scope own)
    (hg : ∀ (s : Shared) (H : Hp) (C : Addr) (cl : List (Str × Addr)) (fp : List Addr), DG (X.blk s H scope (compEnvC scope cl C X.env) fp) κ1 tg κ1 tgt js)
    (ht : ∀ (s : Shared) (H : Hp) (C : Addr) (cl : List (Str × Addr)) (fp : List Addr), PTs (X.blk s H scope (compEnvC scope cl C X.env) fp) ifs (canT X W0 κ1 κ1 pt test))
    (he : ∀ (s : Shared) (H : Hp) (C : Addr) (cl : List (Str × Addr)) (fp : List Addr), DE (X.blk s H scope (compEnvC scope cl C X.env) fp) W0 κ1 elt κ1 pe .val fe)
    (hjs : ∀ j ∈ js, j ∈ own.map (·.2) := by decide) (hv : fzAt κ1 (own.map (·.2)) = true := by rfl) (hc : X.calm = true := by rfl) (hs : ∀ x, foldedSetIterable iter X.env x = pure x := by intro _; rfl) :
    DE X W κ (.ListComp elt [⟨tg, iter, ifs, 0⟩] scope pos) κ1 false .own (eLc fi tgt test fe (own.map (·.2))) := by
  obtain ⟨⟨wi, pi, hwi⟩, i0⟩ := hi
  refine ⟨⟨_, pe_lc (g := canG X κ1 κ1 tgt js) (te := canE X W0 κ1 κ1 pe .val fe) hc hN pi ok (fun s H C cl fp => (hg s H C cl fp).can) ht (fun s H C cl fp => (he s H C cl fp).can) hs, fun F H σ ρ O Q s h => ?_⟩, i0⟩
  exact lc_sem (js := js) (pt := pt) (pe := pe) (be := .val) hwi i0 hjs hv (by decide) s h
theorem dts_nil {Y : Cx} : PTs Y [] (canT Y W0 κ κ true tYesD) := ⟨fun pins s σ H Q I ⟨F, ρ, O, st, q⟩ => pts_nil.run pins s σ H Q I (q F H O Stp.refl st Pur.refl)⟩
theorem dts_one {Y : Cx} {f : Fb} (h : DT Y W0 κ c κ p f) : PTs Y [c] (canT Y W0 κ κ p f) := pts_one h.can
/-- y = [..] on a row of its own, y a local -/
theorem ds_lc {i : Nat} {y : Str} {py spos : Pos} {elt tg iter : Expr} {ifs : List Expr} {scope : Scope} {own : List (Str × Nat)} {fi : Fa} {tgt : Tg} {test : Fb} {fe : Fe} {js : List Nat} {pt pe : Bool} (hi : DI X W κ tg iter κ1 fi) (hN : X.N.Nodup) (ok : BlkOk X.N X.env.scope scope own)
    (hg : ∀ (s : Shared) (H : Hp) (C : Addr) (cl : List (Str × Addr)) (fp : List Addr), DG (X.blk s H scope (compEnvC scope cl C X.env) fp) κ1 tg κ1 tgt js)
    (ht : ∀ (s : Shared) (H : Hp) (C : Addr) (cl : List (Str × Addr)) (fp : List Addr), PTs (X.blk s H scope (compEnvC scope cl C X.env) fp) ifs (canT X W0 κ1 κ1 pt test))
    (he : ∀ (s : Shared) (H : Hp) (C : Addr) (cl : List (Str × Addr)) (fp : List Addr), DE (X.blk s H scope (compEnvC scope cl C X.env) fp) W0 κ1 elt κ1 pe .val fe) (hk : notIo κ1[i]? = true := by rfl) (hy : X.N[i]? = some y := by rfl) (hyl : X.env.scope.names.lookup y = some .local := by rfl)
    (hsw : swapsWith (.ListComp elt [⟨tg, iter, ifs, 0⟩] scope pos) (some (.Name y py)) spos.line X.env = pure true := by exact sw_true rfl rfl rfl (by decide +kernel))
    (hjs : ∀ j ∈ js, j ∈ own.map (·.2) := by decide) (hv : fzAt κ1 (own.map (·.2)) = true := by rfl) (hc : X.calm = true := by rfl) (hs : ∀ x, foldedSetIterable iter X.env x = pure x := by intro _; rfl) 
    (hκ : κ1.set i .ow = κn := by rfl) : DS X W rm κb κc κ (.Assign [.Name y py] (.ListComp elt [⟨tg, iter, ifs, 0⟩] scope pos) spos) κn (sSet i (eLc fi tgt test fe (own.map (·.2)))) := by
  subst hκ
  obtain ⟨⟨wi, pi, hwi⟩, i0⟩ := hi
  refine ⟨⟨_, ps_setLc (g := canG X κ1 κ1 tgt js) (te := canE X W0 κ1 κ1 pe .val fe) hc hN hy hyl hsw pi ok (fun s H C cl fp => (hg s H C cl fp).can) ht (fun s H C cl fp => (he s H C cl fp).can) hs, fun F H σ ρ O E s h => ?_⟩, (Io.set hk).trans i0⟩
  refine lc_sem (js := js) (pt := pt) (pe := pe) (be := .val) hwi i0 hjs hv (by decide) s ?_
  unfold sSet Out.bind at h
  unfold PostE
  cases ea : eLc fi tgt test fe (own.map (·.2)) ρ with
  | bad => rw [ea] at h; exact h
  | ex x ρ1 => rw [ea] at h; exact PostXS.one h
  | ok d ρ1 =>
    rw [ea] at h
    rintro v F' H' O' st s' pu ⟨a, rfl, fl, nF, nO, n0⟩
    cases e : κ1[i]? with
    | none => rw [e] at hk; cases hk
    | some k =>
      obtain ⟨O2, s2, ho⟩ := s'.setO e fl nF nO
      refine h F' H' O2 _ ⟨st.f1, st.f2, st.h1, st.h2, fun b hb => ?_⟩ s2
      rcases ho b hb with q | q
      · exact st.o1 b q
      · exact .inr (q ▸ n0)
end
end Pu

set_option maxHeartbeats 4000000
/-! PuG: defs over plain data: their bodies, their calls. -/
namespace Pu
open PySem PySem.Spec PyProof.Rows L2

/-- the parameters' kinds: handed on as the caller's own thing, or frozen -/
def kF : List Bool → (Nat → Addr) → Nat → List Kd
  | [], _, _ => []
  | true :: r, q, j => .io (q j) :: kF r q (j + 1)
  | false :: r, q, j => .fz :: kF r q (j + 1)
theorem kF_len : ∀ (fl : List Bool) (q : Nat → Addr) (j : Nat), (kF fl q j).length = fl.length
  | [], _, _ => rfl
  | true :: r, q, j => by simp [kF, kF_len r]
  | false :: r, q, j => by simp [kF, kF_len r]
/-- what is told of the parameters behind the call: the own things anew, the rest as it was -/
def pick : List Bool → En → En → En
  | true :: r, _ :: ρ0, x :: ρ => x :: pick r ρ0 ρ
  | false :: r, x :: ρ0, _ :: ρ => x :: pick r ρ0 ρ
  | _, ρ0, _ => ρ0
/-- a def's outcome by its body's -/
def runM (rm : Md) (fl : List Bool) (n : Nat) (fb : Fs) : En → Out D := fun ρ0 => match fb (ρ0 ++ List.replicate (n - ρ0.length) none) with
  | .ok (.rt d) ρ => .ok d (pick fl ρ0 ρ)
  | .ok .nx ρ => (match rm with
    | .own => .bad
    | _ => .ok .non (pick fl ρ0 ρ))
  | .ex x ρ => .ex x (pick fl ρ0 ρ)
  | _ => .bad
/-- a def's promise -/
def SpM (T : Txt) (rm : Md) (fl : List Bool) (m : En → Out D) : Sp := fun vs H Q E => ∃ (F : Fz) (ds : List D) (O : List Addr) (q : Nat → Addr), vs.length = fl.length ∧ (∀ j : Nat, fl[j]? = some true → vs[j]? = some (.ref (q j))) ∧ Stt T F H (kF fl q 0) (vs.map some) (ds.map some) O ∧
  match m (ds.map some) with
  | .bad => False
  | .ok d ρ => ∀ v F' H' O', Stp F H O F' H' O' → Stt T F' H' (kF fl q 0) (vs.map some) ρ O' → Rv T F' H' O' H rm v d → Q v H'
  | .ex x ρ => ∀ cls dd F' H' O', Stp F H O F' H' O' → Stt T F' H' (kF fl q 0) (vs.map some) ρ O' → XRep T F' H' x cls dd → E cls dd H'
section
variable {T : Txt} {F F' : Fz} {H H' : Hp} {κ : List Kd} {σ : SS} {ρ : En} {O : List Addr}
theorem Slots.nones : ∀ n : Nat, Slots T F H (List.replicate n .fz) (List.replicate n none) (List.replicate n none) []
  | 0 => .nil
  | n + 1 => Slots.cons (A := []) (.no .fz (fun _ h => nomatch h) _) (Slots.nones n)
theorem Slots.appN (n : Nat) : ∀ {κ : List Kd} {σ : SS} {ρ : En} {O : List Addr}, Slots T F H κ σ ρ O → Slots T F H (κ ++ List.replicate n .fz) (σ ++ List.replicate n none) (ρ ++ List.replicate n none) O
  | _, _, _, _, .nil => Slots.nones n
  | _, _, _, _, .cons a r => .cons a (Slots.appN n r)
/-- the parameters' slots behind the body -/
theorem Slots.picked {F0 : Fz} {H0 : Hp} (k : Keep F0 H0 F' H') : ∀ (fl : List Bool) (q : Nat → Addr) (j : Nat) {σ0 : SS} {ρ0 : En} {O0 : List Addr} {κ : List Kd} {σ : SS} {ρ : En} {O : List Addr}, Slots T F0 H0 (kF fl q j) σ0 ρ0 O0 → Slots T F' H' κ σ ρ O →
    (∀ (i : Nat) (p : Addr), (kF fl q j)[i]? = some (.io p) → κ[i]? = some (.io p)) → fl.length ≤ κ.length → ∃ O', Slots T F' H' (kF fl q j) σ0 (pick fl ρ0 ρ) O' ∧ O'.Sublist O
  | [], q, j, _, _, _, _, _, _, O, h0, h, hio, hl => by
    cases h0
    exact ⟨[], .nil, List.nil_sublist _⟩
  | b :: fl, q, j, σ0, ρ0, O0, κ, σ, ρ, O, h0, h, hio, hl => by
    cases h with
    | nil => simp at hl
    | cons a r =>
      rename_i k1 s1 r1 A1 ks σ ρ O
      cases b with
      | true =>
        cases h0 with
        | cons a0 r0 =>
          have e1 := hio 0 (q j) rfl
          have e1 : k1 = .io (q j) := by simpa using e1
          subst e1
          obtain ⟨O', p1, p2⟩ := Slots.picked k fl q (j + 1) r0 r (fun i p h => by simpa using hio (i + 1) p (by simpa [kF] using h)) (by simpa using hl)
          cases a0 with
          | no _ hk _ => exact absurd rfl (hk _)
          | io f0 =>
            cases a with
            | no _ hk _ => exact absurd rfl (hk _)
            | io f => exact ⟨_, .cons (.io f) p1, List.Sublist.append (List.Sublist.refl _) p2⟩
      | false =>
        cases h0 with
        | cons a0 r0 =>
          obtain ⟨O', p1, p2⟩ := Slots.picked k fl q (j + 1) r0 r (fun i p h => by simpa using hio (i + 1) p (by simpa [kF] using h)) (by simpa using hl)
          cases a0 with
          | no _ hk => exact ⟨O', Slots.cons (A := []) (.no .fz hk _) p1, List.Sublist.trans p2 (List.sublist_append_right _ _)⟩
          | fz rp => exact ⟨O', Slots.cons (A := []) (.fz (Rep.keep k _ rp)) p1, List.Sublist.trans p2 (List.sublist_append_right _ _)⟩
end
section
variable {P : Program} {w : World} {K : PySem.W.Frag} {mg : Str → Option Value} {base : Heap}
/-- THE RULE for a def: its body's derivation gives its promise -/
theorem fn_ok {rm : Md} {x qual : Str} {st : Stmt} {f : Addr} {fd : FuncData} {N ps : List Str} {k : Nat} (F : Fun K x qual st f fd) (S : FnScope N ps (defScope st)) (fl : List Bool) (fb : Fs) (hfl : fl.length = ps.length) (hN : ps.length ≤ N.length)
    (hb : ∀ (cdv : Value) (A : Around) (outer : List Env) (s : Shared) (H : Hp) (E : XK), Room k (A.deeper (envOfC qual (defScope st) s.heap.objs.size f cdv)) → ∀ q : Nat → Addr, ∃ κn,
      DB (cxOf (L2.CX P w) P w K mg base N qual (defScope st) f cdv A outer s H E) (fun cls d _ H => E cls d H) rm [] [] (kF fl q 0 ++ List.replicate (N.length - fl.length) .fz) (defBody st) κn fb) :
    FnOk P w K mg base (L2.CX P w) (k + 1) f fd ps (SpM ⟨K, mg⟩ rm fl (runM rm fl N.length fb)) := by
  refine F.okX S (fun vs H Q E h => ?_) (fun cdv A outer s H vs Q E hr h => ?_)
  · obtain ⟨_, _, _, _, hl, _⟩ := h
    rw [hl, hfl]
  · obtain ⟨F, ds, O, q, hl, hq, s0, post⟩ := h
    obtain ⟨κn, ⟨t, pt, ht⟩, io⟩ := hb cdv A outer s H E hr q
    refine ⟨t, pt, ht F H _ (ds.map some ++ List.replicate (N.length - (ds.map some).length) none) O _ ?_ ?_⟩
    · have l1 := s0.sl.lens
      rw [kF_len] at l1
      simp only [List.length_map] at l1
      have e2 : (ds.map some).length = fl.length := by rw [List.length_map]; omega
      rw [e2]
      unfold L2.start
      rw [hl]
      exact ⟨s0.sl.appN _, s0.nd, s0.ap, s0.tr⟩
    · -- the end of a body
      have fin : ∀ {κ' : List Kd} {σ' : SS} {ρ' : En} {F' : Fz} {H' : Hp} {O' : List Addr}, Io κ' (kF fl q 0 ++ List.replicate (N.length - fl.length) .fz) → Stp F H O F' H' O' → Stt ⟨K, mg⟩ F' H' κ' σ' ρ' O' →
          ∃ O2, Stp F H O F' H' O2 ∧ Stt ⟨K, mg⟩ F' H' (kF fl q 0) (vs.map some) (pick fl (ds.map some) ρ') O2 ∧ ∀ a ∈ O2, a ∈ O' := fun {κ' σ' ρ' F' H' O'} io' st s' => by
        have hl' : fl.length ≤ κ'.length := by rw [io'.1, List.length_append, kF_len]; omega
        obtain ⟨O2, p1, p2⟩ := Slots.picked (st.keep s0) fl q 0 s0.sl s'.sl (fun i p e => io'.2 i p (by
          rw [List.getElem?_append_left (List.getElem?_eq_some_iff.mp e).1]
          exact e)) hl'
        exact ⟨O2, st.trans (Stp.less fun a h => p2.subset h), ⟨p1, p2.nodup s'.nd, fun a h => s'.ap a (p2.subset h), s'.tr⟩, fun a h => p2.subset h⟩
      unfold runM at post
      cases ea : fb (ds.map some ++ List.replicate (N.length - (ds.map some).length) none) with
      | bad => rw [ea] at post; exact post
      | ex x ρ' =>
        rw [ea] at post
        intro cls d F' H' O' κ' σ' io' st s' r
        obtain ⟨O2, q1, q2, _⟩ := fin io' st s'
        exact post cls d F' H' O2 q1 q2 r
      | ok fl' ρ' =>
        rw [ea] at post
        cases fl' with
        | nx =>
          intro F' H' O' σ' st s'
          obtain ⟨O2, q1, q2, _⟩ := fin io st s'
          cases rm with
          | own => exact post.elim
          | val => exact post .non F' H' O2 q1 q2 .non
          | bor => exact post .non F' H' O2 q1 q2 (.inl .non)
        | bk => exact post.elim
        | ct => exact post.elim
        | rt d =>
          intro v F' H' O' κ' σ' io' st s' r
          obtain ⟨O2, q1, q2, q3⟩ := fin io' st s'
          refine post v F' H' O2 q1 q2 ?_
          cases rm with
          | val => exact r
          | bor => exact r
          | own =>
            obtain ⟨a, e1, e2, e3, e4, e5⟩ := r
            exact ⟨a, e1, e2, e3, fun z => e4 (q3 a z), e5⟩
end

/-! ### calls -/
section
variable {X : Cx} {W : WX} {rm : Md} {κ κ' κ1 κ2 : List Kd} {p p1 p2 : Bool} {b : Md} {F F' : Fz} {H H' : Hp} {σ : SS} {ρ ρ' : En} {O O' : List Addr} {e : Expr} {es : List Expr} {pos : Pos}
theorem kF_fz : ∀ (n : Nat) (q : Nat → Addr) (j : Nat), kF (List.replicate n false) q j = List.replicate n .fz
  | 0, _, _ => rfl
  | n + 1, q, j => by rw [List.replicate_succ, List.replicate_succ]; show Kd.fz :: kF _ q (j + 1) = _; rw [kF_fz n]
theorem Reps.slots {X : Txt} : ∀ {vs : List V} {ds : List D}, Reps X F H vs ds → Slots X F H (List.replicate vs.length .fz) (vs.map some) (ds.map some) []
  | _, _, .nil => .nil
  | _, _, .cons a r => Slots.cons (A := []) (.fz a) (Reps.slots r)
/-- the callee's side of a call with frozen arguments -/
theorem spF_of {T : Txt} {rm : Md} {m : En → Out D} {vs : List V} {ds : List D} {Q : VK} {E : XK} {n : Nat} (tr : ∀ a, F a → ∃ o, H a = some o) (r : Reps T F H vs ds) (hn : vs.length = n)
    (h : match m (ds.map some) with
      | .bad => False
      | .ok d _ => ∀ v F' H', Ext F H F' H' → Rv T F' H' [] H rm v d → Q v H'
      | .ex x _ => ∀ cls dd F' H', Ext F H F' H' → XRep T F' H' x cls dd → E cls dd H') : SpM T rm (List.replicate n false) m vs H Q E := by
  have ext : ∀ {F' : Fz} {H' : Hp} {O' : List Addr} {κ : List Kd} {σ : SS} {ρ : En}, Stp F H [] F' H' O' → Stt T F' H' κ σ ρ O' → Ext F H F' H' := fun st s =>
    ⟨st.f1, fun a h => (st.f2 a h).elim .inl fun h => h.elim (fun z => nomatch z) .inr, fun a o e => st.h1 a o e (by simp), fun a h => .inr (s.tr a h)⟩
  refine ⟨F, ds, [], fun _ => 0, by simp [hn], fun j e => ?_, ?_, ?_⟩
  · rw [List.getElem?_replicate] at e
    split at e <;> cases e
  · rw [kF_fz, ← hn]
    exact ⟨r.slots, List.nodup_nil, (fun _ h => nomatch h), tr⟩
  · cases em : m (ds.map some) with
    | bad => rw [em] at h; exact h
    | ex x ρ => rw [em] at h; exact fun cls dd F' H' O' st s r => h cls dd F' H' (ext st s) r
    | ok d ρ =>
      rw [em] at h
      refine fun v F' H' O' st s r => h v F' H' (ext st s) ?_
      cases rm with
      | val => exact r
      | bor => exact r
      | own =>
        obtain ⟨a, e1, e2, e3, e4, e5⟩ := r
        exact ⟨a, e1, e2, e3, (fun z => nomatch z), e5⟩
/-- a new own thing that came back -/
theorem retO {T : Txt} {rm : Md} {F1 F2 : Fz} {H0 H1 H2 : Hp} {O0 O1 : List Addr} {κ : List Kd} {σ : SS} {ρ : En} {v : V} {d : D} (s : Stt T F1 H1 κ σ ρ O1) (st : Stp F H0 O0 F1 H1 O1) (r : Rv T F2 H2 [] H1 rm v d) : Rv T F2 H2 O1 H0 rm v d := by
  cases rm with
  | val => exact r
  | bor => exact r
  | own =>
    obtain ⟨a, e1, e2, e3, e4, e5⟩ := r
    refine ⟨a, e1, e2, e3, fun z => ?_, st.none e5⟩
    obtain ⟨o, ho, _⟩ := s.sl.tracked a z
    rw [e5] at ho; cases ho
/-- f(..), all arguments frozen -/
def eFn (m : En → Out D) (ga : Fa) : Fe := fun ρ => (ga ρ).bind fun ds ρ1 => match m (ds.map some) with
  | .ok d _ => .ok d ρ1
  | .ex x _ => .ex x ρ1
  | .bad => .bad
theorem de_call {rm : Md} {k n : Nat} {f : Addr} {fd : FuncData} {ps : List Str} {x : Str} {pp : Pos} {m : En → Out D} {bs : List Md} {ga : Fa} (G : FnOk X.prog X.w X.K X.mg X.base (L2.CX X.prog X.w) k f fd ps (SpM ⟨X.K, X.mg⟩ rm (List.replicate n false) m)) (hr : Room k X.A) (hm : X.mg x = some (.ref f)) (hk : PySem.W.keepIn X.K (.ref f) = true) (hb : Binds X.K fd ps [])
    (tk : Takes X W) (ha : DA X W κ (e :: es) κ' p bs ga) (hn : (e :: es).length = n := by rfl) (hbs : ∀ b ∈ bs, b = Md.val := by decide) (hg : Gl X x := by rfl) (hl : bs.length = (e :: es).length := by rfl)
    (hdb : (x == ("__debug__" : Str)) = false := by decide) (he : starEach (e :: es) X.env = (false, eval e X.env) :: starEach es X.env := by rfl) (hpl : (backTo pos (starEach es X.env)).any (·.1) = false := by rfl) :
    DE X W κ (.Call (.Name x pp) (e :: es) [] pos) κ' p rm (eFn m ga) := by
  obtain ⟨⟨ta, pa, hta⟩, io⟩ := ha
  refine ⟨⟨_, pe_callS (E := WE W) G hr hg hm hk hb (fun σ => passAt tk σ) pa hdb he hpl, fun F H σ ρ O Q s h => hta F H σ ρ O _ s ?_⟩, io⟩
  unfold eFn Out.bind at h
  unfold PostA
  cases ea : ga ρ with
  | bad => rw [ea] at h; exact h
  | ex x ρ1 => rw [ea] at h; exact h
  | ok ds ρ1 =>
    rw [ea] at h
    dsimp only at h
    intro vs F1 H1 O1 st1 s1 pu1 rv
    have rp := rv.reps hbs
    have hvl : vs.length = n := by
      have : ∀ {bs : List Md} {vs : List V} {ds : List D}, Rvs X F1 H1 O1 H bs vs ds → vs.length = bs.length := by
        intro bs vs ds q
        induction q with
        | nil => rfl
        | cons _ _ ih => simp [ih]
      rw [this rv, hl, hn]
    refine spF_of (F := F1) s1.tr rp hvl ?_
    cases em : m (ds.map some) with
    | bad => rw [em] at h; exact h
    | ex x ρ2 =>
      rw [em] at h
      intro cls dd F' H' x' r
      exact h cls dd F' H' O1 κ' io (st1.trans x'.stp) (s1.ext x') r
    | ok d ρ2 =>
      rw [em] at h
      intro v F' H' x' r
      refine h v F' H' O1 (st1.trans x'.stp) (s1.ext x') (fun e => by
        obtain ⟨q1, q2⟩ := pu1 e
        exact ⟨fun a o h => x'.h1 a o (q1 a o h), q2⟩) ?_
      exact retO s1 st1 r
/-- f() -/
def eFn0 (m : En → Out D) : Fe := fun ρ => match m [] with
  | .ok d _ => .ok d ρ
  | _ => .bad
theorem de_call0 {rm : Md} {k : Nat} {f : Addr} {fd : FuncData} {ps : List Str} {x : Str} {pp : Pos} {m : En → Out D} (G : FnOk X.prog X.w X.K X.mg X.base (L2.CX X.prog X.w) k f fd ps (SpM ⟨X.K, X.mg⟩ rm [] m)) (hr : Room k X.A) (hm : X.mg x = some (.ref f)) (hk : PySem.W.keepIn X.K (.ref f) = true) (hb : Binds X.K fd ps [])
    (hg : Gl X x := by rfl) (hdb : (x == ("__debug__" : Str)) = false := by decide) : DE X W κ (.Call (.Name x pp) [] [] pos) κ true rm (eFn0 m) := by
  refine ⟨⟨_, pe_call0 (E := E0) (dvs := []) G hr hg hm hk hb .nil passL hdb, fun F H σ ρ O Q s h => ?_⟩, Io.refl⟩
  refine spF_of (n := 0) (F := F) (ds := []) s.tr .nil rfl ?_
  unfold eFn0 at h
  show match m [] with
      | .bad => False
      | .ok d _ => ∀ v F' H', Ext F H F' H' → Rv X F' H' [] H rm v d → Q v H'
      | .ex x _ => ∀ cls dd F' H', Ext F H F' H' → XRep X F' H' x cls dd → E0 cls dd H'
  cases em : m [] with
  | bad => rw [em] at h; exact h
  | ex x ρ2 => rw [em] at h; exact h.elim
  | ok d ρ2 =>
    rw [em] at h
    intro v F' H' x' r
    exact h v F' H' O x'.stp (s.ext x') (Pur.ext x') (retO s Stp.refl r)

/-- f(x, ..), x an own thing that f may change -/
def eFnI (m : En → Out D) (i : Nat) (ga : Fa) : Fe := fun ρ => match ρ[i]? with
  | some (some _) => (ga ρ).bind fun ds ρ1 => (match ρ1[i]? with
    | some (some c) => (match m (some c :: ds.map some) with
      | .ok d (some c' :: _) => .ok d (ρ1.set i (some c'))
      | .ex x (some c' :: _) => .ex x (ρ1.set i (some c'))
      | _ => .bad)
    | _ => .bad)
  | _ => .bad
/-- the callee's side of a call with one own thing ahead -/
theorem spI_of {T : Txt} {m : En → Out D} {a : Addr} {c : D} {vs : List V} {ds : List D} {Q : VK} {E : XK} {n : Nat} (tr : ∀ a, F a → ∃ o, H a = some o) (fl : Flat T F H a c) (nF : ¬ F a) (r : Reps T F H vs ds) (hn : vs.length = n)
    (h : match m (some c :: ds.map some) with
      | .bad => False
      | .ok d ρ => ∃ c' ρr, ρ = some c' :: ρr ∧ ∀ v F' H', Stp F H [a] F' H' [a] → ¬ F' a → (∀ a, F' a → ∃ o, H' a = some o) → Flat T F' H' a c' → Rep T F' H' v d → Q v H'
      | .ex x ρ => ∃ c' ρr, ρ = some c' :: ρr ∧ ∀ cls dd F' H', Stp F H [a] F' H' [a] → ¬ F' a → (∀ a, F' a → ∃ o, H' a = some o) → Flat T F' H' a c' → XRep T F' H' x cls dd → E cls dd H') : SpM T .val (true :: List.replicate n false) m (.ref a :: vs) H Q E := by
  have key : ∀ {F' : Fz} {H' : Hp} {O' : List Addr} {c' : D} {ρr : En}, Stp F H [a] F' H' O' → Stt T F' H' (kF (true :: List.replicate n false) (fun _ => a) 0) ((V.ref a :: vs).map some) (some c' :: ρr) O' →
      Stp F H [a] F' H' [a] ∧ ¬ F' a ∧ (∀ a, F' a → ∃ o, H' a = some o) ∧ Flat T F' H' a c' := fun {F' H' O' c' ρr} st s => by
    have sl := s.sl
    cases sl with
    | cons x y =>
      cases x with
      | io f => exact ⟨⟨st.f1, st.f2, st.h1, st.h2, fun b h => .inl h⟩, s.ap a (List.mem_append_left _ (List.mem_singleton.mpr rfl)), s.tr, f⟩
  refine ⟨F, c :: ds, [a], fun _ => a, by simp [hn], fun j e => ?_, ?_, ?_⟩
  · cases j with
    | zero => rfl
    | succ j =>
      rw [List.getElem?_cons_succ, List.getElem?_replicate] at e
      split at e <;> cases e
  · refine ⟨?_, by simp, fun b h z => nF (List.mem_singleton.mp h ▸ z), tr⟩
    show Slots T F H (.io a :: kF (List.replicate n false) (fun _ => a) 1) (some (.ref a) :: vs.map some) (some c :: ds.map some) ([a] ++ [])
    rw [kF_fz, ← hn]
    exact .cons (.io fl) r.slots
  · show match m (some c :: ds.map some) with
      | .bad => False
      | .ok d ρ => ∀ v F' H' O', Stp F H [a] F' H' O' → Stt T F' H' (kF (true :: List.replicate n false) (fun _ => a) 0) ((V.ref a :: vs).map some) ρ O' → Rep T F' H' v d → Q v H'
      | .ex x ρ => ∀ cls dd F' H' O', Stp F H [a] F' H' O' → Stt T F' H' (kF (true :: List.replicate n false) (fun _ => a) 0) ((V.ref a :: vs).map some) ρ O' → XRep T F' H' x cls dd → E cls dd H'
    cases em : m (some c :: ds.map some) with
    | bad => rw [em] at h; exact h
    | ex x ρ =>
      rw [em] at h
      obtain ⟨c', ρr, rfl, h⟩ := h
      intro cls dd F' H' O' st s r
      obtain ⟨k1, k2, k3, k4⟩ := key st s
      exact h cls dd F' H' k1 k2 k3 k4 r
    | ok d ρ =>
      rw [em] at h
      obtain ⟨c', ρr, rfl, h⟩ := h
      intro v F' H' O' st s r
      obtain ⟨k1, k2, k3, k4⟩ := key st s
      exact h v F' H' k1 k2 k3 k4 r
theorem Slots.swap {X : Txt} {a : Addr} {d' : D} (kp : Keep F H F' H') (hH : ∀ b o, H b = some o → b ≠ a → H' b = some o) (fl : Flat X F' H' a d') : ∀ {κ : List Kd} {σ : SS} {ρ : En} {O : List Addr} (i : Nat) {k : Kd}, Slots X F H κ σ ρ O → O.Nodup → κ[i]? = some k → k ≠ .fz → σ[i]? = some (some (.ref a)) → (∃ d, ρ[i]? = some (some d)) →
    Slots X F' H' κ σ (ρ.set i (some d')) O ∧ a ∈ O := by
  intro κ σ ρ O i k q
  induction q generalizing i with
  | nil => intro _ e; simp at e
  | @cons k' s r A ks σ ρ O c q ih =>
    intro nd e1 hk e2 e3
    obtain ⟨nA, nO, dj⟩ := List.nodup_append.mp nd
    cases i with
    | zero =>
      simp at e1 e2 e3
      subst e1 e2
      obtain ⟨d, e3⟩ := e3
      subst e3
      cases c with
      | fz => exact absurd rfl hk
      | ow f' => exact ⟨.cons (.ow fl) (q.keep kp fun b hb u e => hH b u e fun z => dj a (List.mem_singleton.mpr rfl) b hb z.symm), List.mem_append_left _ (List.mem_singleton.mpr rfl)⟩
      | io f' => exact ⟨.cons (.io fl) (q.keep kp fun b hb u e => hH b u e fun z => dj a (List.mem_singleton.mpr rfl) b hb z.symm), List.mem_append_left _ (List.mem_singleton.mpr rfl)⟩
    | succ i =>
      obtain ⟨q1, q2⟩ := ih i nO (by simpa using e1) hk (by simpa using e2) (by simpa using e3)
      exact ⟨.cons (c.keep kp fun b hb u e => hH b u e fun z => dj b hb a q2 z) q1, List.mem_append_right _ q2⟩
theorem de_callI {k n : Nat} {f : Addr} {fd : FuncData} {ps : List Str} {x y : Str} {i : Nat} {kd : Kd} {pp py : Pos} {m : En → Out D} {bs : List Md} {ga : Fa} (G : FnOk X.prog X.w X.K X.mg X.base (L2.CX X.prog X.w) k f fd ps (SpM ⟨X.K, X.mg⟩ .val (true :: List.replicate n false) m)) (hr : Room k X.A) (hm : X.mg x = some (.ref f)) (hk : PySem.W.keepIn X.K (.ref f) = true) (hb : Binds X.K fd ps [])
    (tk : Takes X W) (ha : DA X W κ es κ' p bs ga) (hki : κ'[i]? = some kd) (hk0 : kd ≠ .fz := by exact kd_ne rfl) (hn : es.length = n := by rfl) (hbs : ∀ b ∈ bs, b = Md.val := by decide) (hg : Gl X x := by rfl) (hl : bs.length = es.length := by rfl)
    (hN : X.N[i]? = some y := by rfl) (hv : Vis X.env.scope y := by first | exact Or.inl rfl | exact Or.inr (Or.inl rfl) | exact Or.inr (Or.inr rfl)) (hyd : (y == ("__debug__" : Str)) = false := by decide) (hyc : (y == ("__classdict__" : Str)) = false := by decide)
    (hdb : (x == ("__debug__" : Str)) = false := by decide) (he : starEach (.Name y py :: es) X.env = (false, eval (.Name y py) X.env) :: starEach es X.env := by rfl) (hpl : (backTo pos (starEach es X.env)).any (·.1) = false := by rfl) :
    DE X W κ (.Call (.Name x pp) (.Name y py :: es) [] pos) κ' false .val (eFnI m i ga) := by
  obtain ⟨⟨ta, pa, hta⟩, io⟩ := ha
  refine ⟨⟨_, pe_callS (E := WE W) G hr hg hm hk hb (fun σ => passAt tk σ) (pa_cons (pv i hN hv hyd hyc) pa he) hdb he hpl, fun F H σ ρ O Q s h => ?_⟩, io⟩
  unfold eFnI at h
  cases e0 : ρ[i]? with
  | none => rw [e0] at h; exact h.elim
  | some r0 =>
    cases r0 with
    | none => rw [e0] at h; exact h.elim
    | some d0 =>
      rw [e0] at h
      dsimp only at h
      have hsv : ∃ v0, σ[i]? = some (some v0) := by
        obtain ⟨hi, _⟩ := List.getElem?_eq_some_iff.mp hki
        have hi' : i < κ.length := by rw [← io.1]; exact hi
        obtain ⟨kk, hkk⟩ : ∃ kk, κ[i]? = some kk := ⟨_, List.getElem?_eq_getElem hi'⟩
        obtain ⟨sv, r, A, h1, h2, h3, _⟩ := s.sl.at_ hkk
        rw [e0] at h2; cases h2
        cases h3 with
        | fz _ => exact ⟨_, h1⟩
        | ow _ => exact ⟨_, h1⟩
        | io _ => exact ⟨_, h1⟩
      obtain ⟨v0, hv0⟩ := hsv
      refine ⟨v0, hv0, hta F H σ ρ O _ s ?_⟩
      unfold Out.bind at h
      unfold PostA
      cases ea : ga ρ with
      | bad => rw [ea] at h; exact h
      | ex x ρ1 => rw [ea] at h; exact h
      | ok ds ρ1 =>
        rw [ea] at h
        dsimp only at h
        intro vs F1 H1 O1 st1 s1 pu1 rv
        cases e1 : ρ1[i]? with
        | none => rw [e1] at h; exact h.elim
        | some r1 =>
          cases r1 with
          | none => rw [e1] at h; exact h.elim
          | some c =>
            rw [e1] at h
            dsimp only at h
            obtain ⟨a, ha, fl, aO⟩ := own_at (a := 0) s1 hki hk0 e1
            rw [hv0] at ha; cases ha
            have rp := rv.reps hbs
            have hvl : vs.length = n := by
              have : ∀ {bs : List Md} {vs : List V} {ds : List D}, Rvs X F1 H1 O1 H bs vs ds → vs.length = bs.length := by
                intro bs vs ds q
                induction q with
                | nil => rfl
                | cons _ _ ih => simp [ih]
              rw [this rv, hl, hn]
            have key : ∀ {F' : Fz} {H' : Hp} {c' : D}, Stp F1 H1 [a] F' H' [a] → ¬ F' a → (∀ a, F' a → ∃ o, H' a = some o) → Flat X F' H' a c' → Stp F1 H1 O1 F' H' O1 ∧ Stt X F' H' κ' σ (ρ1.set i (some c')) O1 := fun {F' H' c'} st nF tr f => by
              have kp : Keep F1 H1 F' H' := ⟨st.f1, fun b o q e => st.h1 b o e fun z => s1.ap a aO (List.mem_singleton.mp z ▸ q)⟩
              obtain ⟨q1, _⟩ := Slots.swap kp (fun b o e hb => st.h1 b o e fun z => hb (List.mem_singleton.mp z)) f i s1.sl s1.nd hki hk0 hv0 ⟨c, e1⟩
              refine ⟨⟨st.f1, fun b q => ?_, fun b o e n => st.h1 b o e fun z => n (List.mem_singleton.mp z ▸ aO), st.h2, fun b q => .inl q⟩, q1, s1.nd, fun b q z => ?_, tr⟩
              · rcases st.f2 b q with q | q | q
                · exact .inl q
                · exact .inr (.inl (List.mem_singleton.mp q ▸ aO))
                · exact .inr (.inr q)
              · rcases st.f2 b z with z | z | z
                · exact s1.ap b q z
                · exact nF (List.mem_singleton.mp z ▸ ‹F' b›)
                · obtain ⟨o, ho, _⟩ := s1.sl.tracked b q
                  rw [z] at ho; cases ho
            refine spI_of (F := F1) s1.tr fl (s1.ap a aO) rp hvl ?_
            cases em : m (some c :: ds.map some) with
            | bad => rw [em] at h; exact h
            | ex x ρ2 =>
              rw [em] at h
              cases ρ2 with
              | nil => exact h.elim
              | cons r ρr =>
                cases r with
                | none => exact h.elim
                | some c' =>
                  refine ⟨c', ρr, rfl, fun cls dd F' H' st nF tr f r => ?_⟩
                  obtain ⟨k1, k2⟩ := key st nF tr f
                  exact h cls dd F' H' O1 κ' io (st1.trans k1) k2 r
            | ok d ρ2 =>
              rw [em] at h
              cases ρ2 with
              | nil => exact h.elim
              | cons r ρr =>
                cases r with
                | none => exact h.elim
                | some c' =>
                  refine ⟨c', ρr, rfl, fun v F' H' st nF tr f r => ?_⟩
                  obtain ⟨k1, k2⟩ := key st nF tr f
                  exact h v F' H' O1 (st1.trans k1) k2 (fun z => nomatch z) r
end
end Pu

set_option maxHeartbeats 4000000
/-! PuH: enumerate, zip, methods of own things, stores, dicts, built-ins over plain data. -/
namespace Pu
open PySem PySem.Spec PyProof.Rows L2

/-! ### enumerate(tuple) -/
section
theorem meets_enumT {v : Value} {o : Obj} {H : Heap → Prop} (B : Begins v o H) :
    Meets (Builtin.«enumerate.__new__» ⟨[.type "enumerate", v], []⟩) (fun _ R s => H s.heap ∧
      R (.ok (.ret (.ref (s.heap.push o).objs.size))) { s with heap := (s.heap.push o).push { cls := .type "enumerate", data := .fields #[.none, .bool false, .ref s.heap.objs.size, rawInt 0, .none, .none] } }) :=
  .of_wp fun prog w A R s h => by
    obtain ⟨hp, g, d, tk, os⟩ := s; obtain ⟨h1, h⟩ := h
    have hsub := sub_enumerate
    have q1 : ∀ {A' : Around} {E : Value → Shared → Prop} {Q : Value → Shared → Prop}, Q (.ref hp.objs.size) ⟨hp.push o, g, d, tk, os⟩ → wpAny (model prog w) A' (pyIter v) Q E ⟨hp, g, d, tk, os⟩ :=
      fun q => B.iter prog w _ _ ⟨hp, g, d, tk, os⟩ _ h1 q
    wp_walk using q1
    refine wpAny_stack_any fun st => wpAny_pure ?_
    split
    · rename_i c _ _ _ _ _
      cases (c == Value.type "enumerate")
      · wp_walk using q1
        exact ⟨_, rfl, h⟩
      · wp_walk using q1
        exact ⟨_, rfl, h⟩
    · wp_walk using q1
      exact ⟨_, rfl, h⟩
theorem call_enumT {prog : Program} {w : World} {A : Around} {E : Value → Shared → Prop} {s : Shared} {v : Value} {o : Obj} {H : Heap → Prop} {Q : Value → Shared → Prop} (B : Begins v o H) (h1 : H s.heap)
    (h : ∀ h', IsEnum h' (s.heap.objs.size + 1) s.heap.objs.size 0 .none → h'.get? s.heap.objs.size = some o → h'.objs.size = s.heap.objs.size + 2 →
      (∀ b o, s.heap.get? b = some o → h'.get? b = some o) → Q (.ref (s.heap.objs.size + 1)) { s with heap := h' }) :
    wpAny (model prog w) A (call (.type "enumerate") [v]) Q E s := by
  refine callType_new F.called_enumerate (by decide) (F.typeCall_enumerate_1 _) (F.newCall_enumerate_1 _) (fun obj => F.args_object_init_2 obj _) F.entry_enumerate_new
    (meets_enumT B) ⟨h1, ?_⟩
  have hz : (s.heap.push o).objs.size = s.heap.objs.size + 1 := Heap.size_push ..
  show _ ∧ _
  rw [hz]
  have he : IsEnum ((s.heap.push o).push { cls := .type "enumerate", data := .fields #[.none, .bool false, .ref s.heap.objs.size, rawInt 0, .none, .none] }) (s.heap.objs.size + 1) s.heap.objs.size 0 .none := by
    have := Heap.get?_push_size (s.heap.push o) (o := { cls := .type "enumerate", data := .fields #[.none, .bool false, .ref s.heap.objs.size, rawInt 0, .none, .none] }) rfl
    rw [hz] at this; exact this
  refine ⟨⟨_, he, rfl⟩, h _ he (Heap.get?_push_of_some _ (Heap.get?_push_size _ B.free)) (by rw [Heap.size_push, hz]) fun b o x => Heap.get?_push_of_some _ (Heap.get?_push_of_some _ x)⟩
end
def IteT (K : PySem.W.Frag) (a : Addr) : It :=
  ⟨fun i H => ∃ (xs : List V) (x : V), SqT K H a xs ∧ xs[i]? = some x, fun i H v H' => ∃ T x, v = .ref T ∧ H T = none ∧ H' = upd H T (.tup [.int (i : Nat), x]) ∧ ∀ xs, SqT K H a xs → xs[i]? = some x, fun i H => ∃ xs : List V, SqT K H a xs ∧ xs.length ≤ i⟩
theorem turn_enumT {P : Program} {w : World} {K : PySem.W.Frag} {elts : List Expr} {kk : Nat} {tpos : Pos} (a e it : Addr) (hea : e ≠ a) (hia : it ≠ a) :
    Turn P w K (.Tuple elts kk tpos) (IteT K a) [e, it] e (fun i h => (∃ old, IsEnum h e it ((i : Nat) : Int) old) ∧ h.IsTupleIter it a i ∧ e ≠ it) where
  mem := by simp
  obj := fun i h st b hb => by
    obtain ⟨⟨old, he⟩, ⟨o, ho, hc, hd⟩, _⟩ := st
    have e' : b = e ∨ b = it := by simpa using hb
    rcases e' with z | z
    · rw [z]; exact ⟨_, he, fun v q => nomatch q⟩
    · rw [z]; exact ⟨o, ho, fun v q => by rw [hd] at q; cases q⟩
  keep := fun i h h' st k => let ⟨⟨old, he⟩, hi, hne⟩ := st; ⟨⟨old, k e (by simp) _ he⟩, hi.at fun o q => k it (by simp) o q, hne⟩
  item := by
    intro X hP hw hK hc i pins s σ H E I hf st hg
    subst hP hw hK
    obtain ⟨⟨old, he⟩, hit, hne⟩ := st
    obtain ⟨xs, x, hq, hx⟩ := hg
    obtain ⟨its, rv, p, hz⟩ := I.tuple hq
    obtain ⟨u, hu, ru⟩ := rv.get hx
    have hel : e < s.heap.objs.size := Heap.lt_size he
    have hil : it < s.heap.objs.size := by obtain ⟨_, q, _⟩ := hit; exact Heap.lt_size q
    have hlt : i < its.toArray.size := by
      have := (List.getElem?_eq_some_iff.mp hu).1
      simpa using this
    refine wpAny_pyNext_enum_itemC (Draws.tuple (A := X.A.in1) (I.ok.hd hc) it a (Ne.symm hia) its.toArray) he ⟨hit, show s.heap.IsTuple a its.toArray from p⟩ hlt hne (by simp [hne, hea]) fun u' h' tk hP ho hit' hT hsz hk => ?_
    have hu' : u' = u := by
      have : its[i]? = some u' := by simpa using hP
      rw [hu] at this
      exact (Option.some.inj this).symm
    subst hu'
    refine ⟨_, rfl, wpAny_letOwnedTupleGo_enum (s := { s with heap := h', toks := tk + 1 }) ho fun h'' he' sb => ?_⟩
    have hT2 : h''.get? s.heap.objs.size = some { cls := .type "tuple", data := .seq #[.int i tk, u'] } := (sb.2 _ (Nat.ne_of_gt hel)).trans hT
    have new : ObjOk X.prog X.w (upd H s.heap.objs.size (.tup [.int (i : Nat), x])) h'' s.heap.objs.size (.tup [.int (i : Nat), x]) :=
      ⟨by show 2 ≤ sizeLine; decide, [.int i tk, u'], .cons ⟨_, rfl⟩ (.cons ru .nil), ⟨_, hT2, rfl, _, rfl⟩⟩
    have I1 : Inv X pins σ (upd H s.heap.objs.size (.tup [.int (i : Nat), x])) { s with heap := h'', toks := tk + 1 } :=
      I.turnedNew (ch := [e, it]) (fun b ob hb q => (sb.2 b (fun z => hb (by simp [z]))).trans (hk b ob (fun z => hb (by simp [z])) (fun z => hb (by simp [z])) q)) hf (Nat.le_refl _) new
    refine ⟨.ref s.heap.objs.size, _, I1, rfl, ⟨_, x, rfl, I.hok.fresh (Nat.le_refl _), rfl, fun ys hy => by rw [I.tuple_inj hy hq]; exact hx⟩, ⟨⟨u', ?_⟩, hit'.1.at fun o q => (sb.2 it (Ne.symm hne)).trans q, hne⟩, fun b hb => ?_⟩
    · have e1 : ((i + 1 : Nat) : Int) = (i : Int) + 1 := by omega
      rw [e1]; exact he'
    · have hb' : b < s.heap.objs.size := by
        have e' : b = e ∨ b = it := by simpa using hb
        rcases e' with z | z
        · rw [z]; exact hel
        · rw [z]; exact hil
      rw [upd_ne (Nat.ne_of_lt hb')]
      exact (hf b hb).1
  done := by
    intro X hP hw hK hc i pins s σ H E I hf st hg
    subst hP hw hK
    obtain ⟨⟨old, he⟩, hit, hne⟩ := st
    obtain ⟨xs, hq, hx⟩ := hg
    obtain ⟨its, rv, p, hz⟩ := I.tuple hq
    have hl := rv.length
    have ip : s.heap.IsTuple a its.toArray := p
    have hT : s.TypeIs (.ref e) "enumerate" := ⟨_, he, rfl⟩
    unfold pyNext
    refine wpAny_bind (wpAny_attempt (wpAny_callSpecial?_slot (name := Str.ofString "__next__") hT F.slot_enumerate_next
      (wpAny_call_entry F.slot_enumerate_next hT F.entry_enumerate_next ?_ (F.args_enumerate_next_1 _))))
    show wpAny _ _ (field (.ref e) 2 >>= _) _ _ _
    refine wpAny_bind (wpAny_field he rfl (x := .ref it) rfl ?_)
    refine wpAny_bind (wpAny_nextOf_tuple_end (I.ok.hd hc) hit ip (by simp; omega) fun h' x he' hx' => ?_)
    obtain ⟨o, ho, hc'⟩ := hx'
    refine wpAny_bind (wpAny_isInstance (T := "StopIteration") (b := true) ⟨o, ho, hc'⟩ isSubtype_stop ?_)
    refine wpAny_pure ⟨rfl, ?_⟩
    exact I.turnedL (t' := s.toks) (ch := [e, it]) (fun b o hb q => he' b o (fun z => hb (by simp [z])) q) hf
  self := fun A i s Q E st h => let ⟨⟨_, he⟩, _⟩ := st; wpAny_pyIter_enum he h
def iEnumT (K : PySem.W.Frag) (ta : TA) : TI := fun σ H R => ta σ H fun vs H1 => ∃ a xs, vs = [.ref a] ∧ ((SqL K H1 a xs ∧ R (Ite K a) H1) ∨ (SqT K H1 a xs ∧ R (IteT K a) H1))
theorem pi_enumA {X : Cx} {e : Expr} {ta : TA} {p pos tpos : Pos} {elts : List Expr} {kk : Nat} (hg : Gl X "enumerate") (hm : X.mg "enumerate" = none) (ha : PA X [e] ta) (hs : starEach [e] X.env = [(false, eval e X.env)] := by rfl) :
    PI X (.Tuple elts kk tpos) (.Call (.Name "enumerate" p) [e] [] pos) (iEnumT X.K ta) := by
  refine ⟨fun pins s σ H R I h => ?_⟩
  refine Call_ (ld_blt I hg hm boot_enumerate (PyProof.Rows.callWith_type1 (thn (ha.run pos pins s σ H _ I h) fun us s1 ⟨vs, H1, I1, r1, q1⟩ => ?_) hs rfl))
  obtain ⟨a, xs, ex, q1⟩ := q1
  subst ex
  cases r1 with
  | cons r rr =>
    cases rr
    cases r
    have fresh : ∀ b, b ∈ [s1.heap.objs.size + 1, s1.heap.objs.size] → FpOk X pins H1 b := fun b hb => by
      have e' : b = s1.heap.objs.size + 1 ∨ b = s1.heap.objs.size := by simpa using hb
      have hle : s1.heap.objs.size ≤ b := by
        rcases e' with z | z
        · rw [z]; exact Nat.le_add_right _ _
        · rw [z]; exact Nat.le_refl _
      exact I1.fpOk hle (I1.hok.fresh hle)
    rcases q1 with ⟨hq, q⟩ | ⟨hq, q⟩
    · obtain ⟨its, rv, p', hz⟩ := I1.list hq
      refine call_enumerate_list p'.isList fun h' he hit hsz hk => wpAny_pyIter_enum he ?_
      have I2 : Inv X pins σ H1 { s1 with heap := h' } := I1.kept (t' := s1.toks) hk
      exact ⟨s1.heap.objs.size + 1, [s1.heap.objs.size + 1, s1.heap.objs.size], _, _, H1, rfl, I2, turn_enum a (s1.heap.objs.size + 1) s1.heap.objs.size, ⟨⟨.none, he⟩, hit, Nat.succ_ne_self _⟩, fresh, q⟩
    · obtain ⟨its, rv, p', hz⟩ := I1.tuple hq
      have ip : s1.heap.IsTuple a its.toArray := p'
      have hal : a < s1.heap.objs.size := by obtain ⟨_, q, _⟩ := id ip; exact Heap.lt_size q
      refine call_enumT (begins_tuple a its.toArray) ip fun h' he hit hsz hk => wpAny_pyIter_enum he ?_
      have I2 : Inv X pins σ H1 { s1 with heap := h' } := I1.kept (t' := s1.toks) hk
      exact ⟨s1.heap.objs.size + 1, [s1.heap.objs.size + 1, s1.heap.objs.size], _, _, H1, rfl, I2, turn_enumT a (s1.heap.objs.size + 1) s1.heap.objs.size (Nat.ne_of_gt (Nat.lt_succ_of_lt hal)) (Nat.ne_of_gt hal), ⟨⟨.none, he⟩, ⟨_, hit, rfl, rfl⟩, Nat.succ_ne_self _⟩, fresh, q⟩
section
variable {X : Cx} {W : WX} {rm : Md} {κ κ' κ1 κ2 κ3 κn κb κc : List Kd} {p p1 p2 p3 : Bool} {b b1 b2 b3 : Md} {F F' F1 : Fz} {H H' H1 : Hp} {σ : SS} {ρ ρ' : En} {O O' O1 : List Addr} {a c e : Expr} {pos : Pos} {st : Stmt} {sts : List Stmt} {E : Ends}
def enumD (ds : List D) : List D := ds.zipIdx.map fun p => .tup [.int (p.2 : Nat), p.1]
theorem enumD_len (ds : List D) : (enumD ds).length = ds.length := by simp [enumD]
theorem enumD_get {ds : List D} {i : Nat} {d : D} (h : ds[i]? = some d) : (enumD ds)[i]? = some (.tup [.int (i : Nat), d]) := by
  unfold enumD
  rw [List.getElem?_map, List.getElem?_zipIdx, h]
  simp
theorem src_pair {X : Txt} {F1 F : Fz} {H : Hp} {T : Addr} {x y : V} {d e : D} (hT : H T = none) (rx : Rep X F H x d) (ry : Rep X F H y e) :
    ∃ F', Ext F H F' (upd H T (.tup [x, y])) ∧ Rep X F' (upd H T (.tup [x, y])) (.ref T) (.tup [d, e]) :=
  ⟨_, Ext.newF hT, .tup ⟨.inr rfl, upd_same⟩ (Reps.keep (Ext.newF hT).keep [d, e] (.cons rx (.cons ry .nil)))⟩
theorem src_enumL {X : Txt} {F1 : Fz} {H1 : Hp} {a : Addr} {vs : List V} {ds : List D} (ha : FL F1 H1 a vs) (r : Reps X F1 H1 vs ds) : Src X F1 H1 (Ite X.K a) (enumD ds) := by
  intro F H k tr i
  have ha' := ha.keep k
  have r' := Reps.keep k _ r
  rw [enumD_len]
  refine ⟨fun hi => ?_, fun hi => ⟨vs, .inl (.inl ha'.2), by rw [r'.len]; exact hi⟩⟩
  obtain ⟨v, hv, rv⟩ := r'.getD (List.getElem?_eq_getElem hi)
  refine ⟨⟨vs, v, .inl (.inl ha'.2), hv⟩, fun x H' hy => ?_⟩
  obtain ⟨T, x', rfl, hT, rfl, hy⟩ := hy
  have e := hy vs (.inl (.inl ha'.2))
  rw [hv] at e; cases e
  obtain ⟨F', x1, x2⟩ := src_pair (F1 := F) hT (.int (i : Nat)) rv
  exact ⟨F', x1, _, enumD_get (List.getElem?_eq_getElem hi), x2⟩
theorem src_enumT {X : Txt} {F1 : Fz} {H1 : Hp} {a : Addr} {vs : List V} {ds : List D} (ha : FT F1 H1 a vs) (r : Reps X F1 H1 vs ds) : Src X F1 H1 (IteT X.K a) (enumD ds) := by
  intro F H k tr i
  have ha' := ha.keep k
  have r' := Reps.keep k _ r
  rw [enumD_len]
  refine ⟨fun hi => ?_, fun hi => ⟨vs, ha'.sq, by rw [r'.len]; exact hi⟩⟩
  obtain ⟨v, hv, rv⟩ := r'.getD (List.getElem?_eq_getElem hi)
  refine ⟨⟨vs, v, ha'.sq, hv⟩, fun x H' hy => ?_⟩
  obtain ⟨T, x', rfl, hT, rfl, hy⟩ := hy
  have e := hy vs ha'.sq
  rw [hv] at e; cases e
  obtain ⟨F', x1, x2⟩ := src_pair (F1 := F) hT (.int (i : Nat)) rv
  exact ⟨F', x1, _, enumD_get (List.getElem?_eq_getElem hi), x2⟩
def iEnumD (f : Fe) : Fa := fun ρ => (f ρ).bind fun d ρ1 => match d with
  | .lst ds => .ok (enumD ds) ρ1
  | .tup ds => .ok (enumD ds) ρ1
  | _ => .bad
theorem di_enum {elts : List Expr} {kk : Nat} {tpos pp : Pos} {f : Fe} (hm : X.mg "enumerate" = none) (h : DE X W κ a κ' p .val f) (hg : Gl X "enumerate" := by rfl) (hs : starEach [a] X.env = [(false, eval a X.env)] := by rfl) :
    DI X W κ (.Tuple elts kk tpos) (.Call (.Name "enumerate" pp) [a] [] pos) κ' (iEnumD f) := by
  obtain ⟨⟨t, pt, ht⟩, io⟩ := h
  refine ⟨⟨_, pi_enumA hg hm (pa_cons pt pa_nil hs) hs, fun F H σ ρ O R s h => ht F H σ ρ O _ s ?_⟩, io⟩
  unfold iEnumD Out.bind at h
  unfold PostE
  cases ea : f ρ with
  | bad => rw [ea] at h; exact h
  | ex x ρ1 => rw [ea] at h; exact h
  | ok d ρ1 =>
    rw [ea] at h
    intro v F' H' O' st s' pu r
    cases d with
    | tup ds =>
      have r : Rep X F' H' v (.tup ds) := r
      cases r with
      | tup ha ra => exact ⟨_, _, rfl, .inr ⟨ha.sq, h _ F' H' O' st s' (src_enumT ha ra)⟩⟩
    | lst ds =>
      have r : Rep X F' H' v (.lst ds) := r
      cases r with
      | lst ha ra => exact ⟨_, _, rfl, .inl ⟨.inl (.inl ha.2), h _ F' H' O' st s' (src_enumL ha ra)⟩⟩
    | _ => exact h.elim
end
end Pu

set_option maxHeartbeats 4000000
/-! PuI: what changes own things: methods, stores, augmented assignment; dicts. -/
namespace Pu
open PySem PySem.Spec PyProof.Rows L2

section
variable {X : Cx} {W : WX} {rm : Md} {κ κ' κ1 κ2 κ3 κn κb κc : List Kd} {p p1 p2 p3 : Bool} {b b1 b2 b3 : Md} {F F' F1 : Fz} {H H' H1 : Hp} {σ : SS} {ρ ρ' : En} {O O' O1 : List Addr} {a c e : Expr} {pos : Pos} {st : Stmt} {sts : List Stmt} {E : Ends}
theorem slot_some {i : Nat} {k : Kd} {d : D} (s : Stt X F H κ σ ρ O) (hk : κ[i]? = some k) (hr : ρ[i]? = some (some d)) : ∃ v, σ[i]? = some (some v) ∧ Bo X F H v d := by
  obtain ⟨sv, r, A, h1, h2, h3, _⟩ := s.sl.at_ hk
  rw [hr] at h2; cases h2
  cases h3 with
  | fz q => exact ⟨_, h1, .inl q⟩
  | ow q => exact ⟨_, h1, .inr ⟨_, rfl, q⟩⟩
  | io q => exact ⟨_, h1, .inr ⟨_, rfl, q⟩⟩
theorem Io.back {i : Nat} {k : Kd} (io : Io κ' κ) (h : κ'[i]? = some k) : ∃ k', κ[i]? = some k' := by
  obtain ⟨hi, _⟩ := List.getElem?_eq_some_iff.mp h
  have hi' : i < κ.length := by rw [← io.1]; exact hi
  exact ⟨_, List.getElem?_eq_getElem hi'⟩

/-! ### methods of an own list or dict -/
def DMt (X : Cx) (id : String) (g : D → List D → Option (D × D)) : Prop :=
  ∃ r, MtR X id r ∧ ∀ F H a d ds vs z d' Q, Flat X F H a d → ¬ F a → Reps X F H vs ds → g d ds = some (z, d') →
    (∀ v o, Flat X F (upd H a o) a d' → Rep X F (upd H a o) v z → Q v (upd H a o)) → r (.ref a) vs H Q
def DTy (X : Cx) (T : String) (ty : D → Bool) : Prop := ∀ F H v d, Bo X F H v d → ty d = true → tyV X.K T v H
def isLst : D → Bool
  | .lst _ => true
  | _ => false
def isDct : D → Bool
  | .dct _ _ => true
  | _ => false
theorem dty_list : DTy X "list" isLst := fun F H v d f h => by
  cases d with
  | lst ds =>
    obtain ⟨a, vs, rfl, e, _⟩ := f.lst
    exact .inl ⟨rfl, _, .inl (.inl e)⟩
  | _ => cases h
theorem dty_dict : DTy X "dict" isDct := fun F H v d f h => by
  cases d with
  | dct t es =>
    obtain ⟨a, o, kvs, rfl, e, q, _⟩ := f.dct
    cases q with
    | k kvs => exact .inr (.inr (.inl ⟨rfl, .inl ⟨_, e⟩⟩))
    | t kvs => exact .inr (.inr (.inl ⟨rfl, .inr ⟨_, e⟩⟩))
  | _ => cases h
def eMt (ty : D → Bool) (g : D → List D → Option (D × D)) (i : Nat) (fa : Fa) : Fe := fun ρ => match ρ[i]? with
  | some (some c0) => if ty c0 then (fa ρ).bind fun ds ρ1 => (match ρ1[i]? with
      | some (some c) => (match g c ds with
        | some (z, c') => .ok z (ρ1.set i (some c'))
        | none => .bad)
      | _ => .bad)
    else .bad
  | _ => .bad
/-- behind the arguments of a method -/
theorem mt_end {id : String} {g : D → List D → Option (D × D)} {i : Nat} {kd : Kd} {r : V → List V → Hp → VK → Prop} {c : D} {ds : List D} {vs : List V} {v0 : V} {Q : VK} (k : ∀ F H a d ds vs z d' Q, Flat X F H a d → ¬ F a → Reps X F H vs ds → g d ds = some (z, d') →
    (∀ v o, Flat X F (upd H a o) a d' → Rep X F (upd H a o) v z → Q v (upd H a o)) → r (.ref a) vs H Q) (s1 : Stt X F1 H1 κ' σ ρ' O1) (st1 : Stp F H O F1 H1 O1) (hki : κ'[i]? = some kd) (hk0 : kd ≠ .fz) (hv0 : σ[i]? = some (some v0)) (rp : Reps X F1 H1 vs ds) (e1 : ρ'[i]? = some (some c))
    (h : PostE X W κ κ' false .val (match g c ds with
        | some (z, c') => .ok z (ρ'.set i (some c'))
        | none => .bad) F H σ O Q) : r v0 vs H1 Q := by
  obtain ⟨a, ha, fl, aO⟩ := own_at (a := 0) s1 hki hk0 e1
  rw [hv0] at ha; cases ha
  cases eg : g c ds with
  | none => rw [eg] at h; exact h.elim
  | some q =>
    obtain ⟨z, c'⟩ := q
    rw [eg] at h
    refine k F1 H1 a c ds vs z c' Q fl (s1.ap a aO) rp eg fun v o f r => ?_
    obtain ⟨q1, q2⟩ := s1.updS hki hk0 hv0 e1 f
    exact h v F1 _ O1 (st1.trans q2) q1 (fun z => nomatch z) r
theorem de_mt {T id : String} {ty : D → Bool} {name y : Str} {i : Nat} {kd : Kd} {es : List Expr} {g : D → List D → Option (D × D)} {fa : Fa} {bs : List Md} {py apos cpos : Pos} (hm : DMt X id g) (hT : DTy X T ty) (pa : PlainAttrs T) (slot : PySem.Slot T name id) (hty : typeOf (.builtin id) = pure (.type "method_descriptor"))
    (ha : DA X W κ (e :: es) κ' p bs fa) (hki : κ'[i]? = some kd) (hk0 : kd ≠ .fz := by exact kd_ne rfl) (hbs : ∀ b ∈ bs, b = Md.val := by decide)
    (hN : X.N[i]? = some y := by rfl) (hv : Vis X.env.scope y := by first | exact Or.inl rfl | exact Or.inr (Or.inl rfl) | exact Or.inr (Or.inr rfl)) (hyd : (y == ("__debug__" : Str)) = false := by decide) (hyc : (y == ("__classdict__" : Str)) = false := by decide)
    (hbase : attributeBase (.Name y py) name X.env (eval (.Name y py) X.env) = eval (.Name y py) X.env := by rfl)
    (hfew : ((backTo cpos (starEach (e :: es) X.env)).all (fun x => !x.1) && (backToKw cpos (keywordEach [] X.env)).all (fun x => x.1.isSome)
      && decide ((e :: es).length + ([] : List Keyword).length + (if ([] : List Keyword).isEmpty then 0 else 1) < 30)) = true := by rfl)
    (hline : (apos.endLine == cpos.line) = true := by rfl) (hs : starEach (e :: es) X.env = (false, eval e X.env) :: starEach es X.env := by rfl) (hplain : (backTo cpos (starEach es X.env)).any (·.1) = false := by rfl) :
    DE X W κ (.Call (.Attribute (.Name y py) name apos) (e :: es) [] cpos) κ' false .val (eMt ty g i fa) := by
  obtain ⟨⟨ta, pta, hta⟩, io⟩ := ha
  obtain ⟨r, o, k⟩ := hm
  refine ⟨⟨_, pe_bm pa slot hty o (pv i hN hv hyd hyc) pta hbase hfew hline hs hplain, fun F H σ ρ O Q s h => ?_⟩, io⟩
  unfold eMt at h
  cases e0 : ρ[i]? with
  | none => rw [e0] at h; exact h.elim
  | some r0 =>
    cases r0 with
    | none => rw [e0] at h; exact h.elim
    | some c0 =>
      rw [e0] at h
      dsimp only at h
      obtain ⟨kk, hkk⟩ := io.back hki
      obtain ⟨v0, hv0, hrep⟩ := slot_some s hkk e0
      split at h
      · rename_i htc
        refine ⟨v0, hv0, hT F H v0 c0 hrep htc, hta F H σ ρ O _ s ?_⟩
        · unfold Out.bind at h
          unfold PostA
          cases ea : fa ρ with
          | bad => rw [ea] at h; exact h
          | ex x ρ1 => rw [ea] at h; exact h
          | ok ds ρ1 =>
            rw [ea] at h
            dsimp only at h
            intro vs F1 H1 O1 st1 s1 pu1 rv
            cases e1 : ρ1[i]? with
            | none => rw [e1] at h; exact h.elim
            | some r1 =>
              cases r1 with
              | none => rw [e1] at h; exact h.elim
              | some c =>
                rw [e1] at h
                exact mt_end (id := id) k s1 st1 hki hk0 hv0 (rv.reps hbs) e1 h
      · exact h.elim
theorem de_mt0 {T id : String} {ty : D → Bool} {name y : Str} {i : Nat} {kd : Kd} {g : D → List D → Option (D × D)} {py apos cpos : Pos} (hm : DMt X id g) (hT : DTy X T ty) (pa : PlainAttrs T) (slot : PySem.Slot T name id) (hty : typeOf (.builtin id) = pure (.type "method_descriptor"))
    (hki : κ[i]? = some kd) (hk0 : kd ≠ .fz := by exact kd_ne rfl)
    (hN : X.N[i]? = some y := by rfl) (hv : Vis X.env.scope y := by first | exact Or.inl rfl | exact Or.inr (Or.inl rfl) | exact Or.inr (Or.inr rfl)) (hyd : (y == ("__debug__" : Str)) = false := by decide) (hyc : (y == ("__classdict__" : Str)) = false := by decide)
    (hbase : attributeBase (.Name y py) name X.env (eval (.Name y py) X.env) = eval (.Name y py) X.env := by rfl) (hline : (apos.endLine == cpos.line) = true := by rfl) :
    DE X W κ (.Call (.Attribute (.Name y py) name apos) [] [] cpos) κ false .val (eMt ty g i aNil) := by
  obtain ⟨r, o, k⟩ := hm
  refine ⟨⟨_, pe_bm0 pa slot hty o (pv i hN hv hyd hyc) hbase hline, fun F H σ ρ O Q s h => ?_⟩, Io.refl⟩
  unfold eMt at h
  cases e0 : ρ[i]? with
  | none => rw [e0] at h; exact h.elim
  | some r0 =>
    cases r0 with
    | none => rw [e0] at h; exact h.elim
    | some c0 =>
      rw [e0] at h
      dsimp only at h
      obtain ⟨v0, hv0, hrep⟩ := slot_some s hki e0
      split at h
      · rename_i htc
        refine ⟨v0, hv0, hT F H v0 c0 hrep htc, ?_⟩
        unfold aNil Out.bind at h
        dsimp only at h
        rw [e0] at h
        exact mt_end (id := id) k s Stp.refl hki hk0 hv0 .nil e0 h
      · exact h.elim
def appM : D → List D → Option (D × D) := fun c ds => match c, ds with
  | .lst xs, [d] => if xs.length < sizeLine then some (.non, .lst (xs ++ [d])) else none
  | _, _ => none
theorem Flat.lstV {X : Txt} {F : Fz} {H : Hp} {a : Addr} {xs : List D} (f : Flat X F H a (.lst xs)) : ∃ vs, H a = some (.lst vs) ∧ Reps X F H vs xs := by
  cases f with
  | lst e r => exact ⟨_, e, r⟩
theorem keep_upd {F : Fz} {H : Hp} {a : Addr} {o : HO} (nF : ¬ F a) : Keep F H F (upd H a o) := ⟨fun _ h => h, fun b u f e => by
  have hb : b ≠ a := fun z => nF (z ▸ f)
  rw [upd_ne hb]; exact e⟩
theorem Flat.newL {X : Txt} {F : Fz} {H : Hp} {a : Addr} {vs : List V} {xs : List D} (nF : ¬ F a) (r : Reps X F H vs xs) : Flat X F (upd H a (.lst vs)) a (.lst xs) := .lst upd_same (Reps.keep (keep_upd nF) _ r)
theorem Reps.one {X : Txt} {F : Fz} {H : Hp} {vs : List V} {d : D} (r : Reps X F H vs [d]) : ∃ v, vs = [v] ∧ Rep X F H v d := by
  cases r with
  | cons q r => cases r; exact ⟨_, rfl, q⟩
theorem dmt_append : DMt X "list.append" appM := by
  refine ⟨_, mt_append, fun F H a d ds vs z d' Q f nF rs hg hq => ?_⟩
  unfold appM at hg
  split at hg
  · split at hg
    · cases hg
      obtain ⟨ws, e, r⟩ := f.lstV
      obtain ⟨v, rfl, rv⟩ := rs.one
      exact ⟨a, ws, v, rfl, rfl, e, by rw [r.len]; assumption, hq _ _ (Flat.newL nF (r.app (.cons rv .nil))) .non⟩
    · cases hg
  · cases hg
def popM : D → List D → Option (D × D) := fun c ds => match c, ds with
  | .lst xs, [] => (xs[xs.length - 1]?).map fun z => (z, .lst xs.dropLast)
  | _, _ => none
theorem Reps.dropLast {X : Txt} {F : Fz} {H : Hp} {vs : List V} {ds : List D} (r : Reps X F H vs ds) : Reps X F H vs.dropLast ds.dropLast := by
  rw [List.dropLast_eq_take, List.dropLast_eq_take, r.len]
  exact r.take _
theorem dmt_pop : DMt X "list.pop" popM := by
  refine ⟨_, mt_pop, fun F H a d ds vs z d' Q f nF rs hg hq => ?_⟩
  unfold popM at hg
  split at hg
  · rename_i xs
    cases ec : xs[xs.length - 1]? with
    | none => rw [ec] at hg; cases hg
    | some c =>
      rw [ec] at hg
      cases hg
      obtain ⟨ws, e, r⟩ := f.lstV
      cases rs
      obtain ⟨v, hv, rv⟩ := r.getD ec
      exact ⟨a, ws, v, rfl, rfl, e, by rw [r.len]; exact hv, hq _ _ (Flat.newL nF r.dropLast) (Rep.keep (keep_upd nF) _ rv)⟩
  · cases hg

/-! ### keys -/
def asK : D → Option Key
  | .int i => some (.inl i)
  | .str x => some (.inr x)
  | _ => none
def asKs : List D → Option (List Key)
  | [] => some []
  | d :: ds => match asK d, asKs ds with
    | some k, some ks => some (k :: ks)
    | _, _ => none
theorem asK_kD : ∀ k : Key, asK (kD k) = some k
  | .inl _ => rfl
  | .inr _ => rfl
theorem asK_inj : ∀ {d : D} {k : Key}, asK d = some k → d = kD k
  | .int i, _, h => by cases h; rfl
  | .str i, _, h => by cases h; rfl
  | .non, _, h => nomatch h
  | .bl _, _, h => nomatch h
  | .tup _, _, h => nomatch h
  | .lst _, _, h => nomatch h
  | .fzl _, _, h => nomatch h
  | .dct _ _, _, h => nomatch h
  | .obj _ _, _, h => nomatch h
  | .fn _, _, h => nomatch h
theorem asKs_inj : ∀ {ds : List D} {ks : List Key}, asKs ds = some ks → ds = ks.map kD
  | [], _, h => by cases h; rfl
  | d :: ds, _, h => by
    unfold asKs at h
    split at h
    · rename_i k ks e1 e2
      cases h
      rw [asK_inj e1, asKs_inj e2]; rfl
    · cases h
theorem asKs_kD : ∀ ks : List Key, asKs (ks.map kD) = some ks
  | [] => rfl
  | k :: ks => by
    show (match asK (kD k), asKs (ks.map kD) with
      | some k, some ks => some (k :: ks)
      | _, _ => none) = _
    rw [asK_kD, asKs_kD]
/-- the same key -/
def keyB : D → D → Bool
  | .int i, .int j => decide (i = j)
  | .str x, .str y => decide (x = y)
  | .tup xs, .tup ys => keysB xs ys
  | _, _ => false
where keysB : List D → List D → Bool
  | [], [] => true
  | .int i :: xs, .int j :: ys => decide (i = j) && keysB xs ys
  | .str i :: xs, .str j :: ys => decide (i = j) && keysB xs ys
  | _, _ => false
theorem keyB_kD : ∀ k j : Key, keyB (kD k) (kD j) = decide (k = j)
  | .inl i, .inl j => by simp [kD, keyB]
  | .inr i, .inr j => by simp [kD, keyB]
  | .inl i, .inr j => by simp [kD, keyB]
  | .inr i, .inl j => by simp [kD, keyB]
theorem keysB_kD : ∀ ks js : List Key, keyB.keysB (ks.map kD) (js.map kD) = decide (ks = js)
  | [], [] => by simp [keyB.keysB]
  | [], .inl j :: js => by simp [keyB.keysB]
  | [], .inr j :: js => by simp [keyB.keysB]
  | .inl k :: ks, [] => by simp [keyB.keysB, kD]
  | .inr k :: ks, [] => by simp [keyB.keysB, kD]
  | .inl i :: ks, .inl j :: js => by
    have := keysB_kD ks js
    simp [keyB.keysB, kD, this, Bool.decide_and]
  | .inr i :: ks, .inr j :: js => by
    have := keysB_kD ks js
    simp [keyB.keysB, kD, this, Bool.decide_and]
  | .inl i :: ks, .inr j :: js => by simp [keyB.keysB, kD]
  | .inr i :: ks, .inl j :: js => by simp [keyB.keysB, kD]
theorem keyB_ksD (ks js : List Key) : keyB (ksD ks) (ksD js) = decide (ks = js) := keysB_kD ks js
/-- the key at all: of an int or text, of a tuple -/
def isKey (t : Bool) : D → Bool
  | .int _ => !t
  | .str _ => !t
  | .tup xs => t && (asKs xs).isSome
  | _ => false
def lookD {α : Type} : List (D × α) → D → Option α
  | [], _ => none
  | (k, v) :: r, j => if keyB k j then some v else lookD r j
def setD {α : Type} (j : D) (v : α) : List (D × α) → List (D × α)
  | [] => []
  | (k, w) :: r => (k, if keyB k j then v else w) :: setD j v r
def putD {α : Type} (kvs : List (D × α)) (j : D) (v : α) : List (D × α) := match lookD kvs j with
  | none => kvs ++ [(j, v)]
  | some _ => setD j v kvs
theorem lookD_val {κ : Type} [DecidableEq κ] (m : κ → D) (hm : ∀ k j, keyB (m k) (m j) = decide (k = j)) (j : κ) : ∀ kvs : List (κ × V), lookD (kvs.map fun p => (m p.1, p.2)) (m j) = valV kvs j
  | [] => rfl
  | p :: r => by
    show (if keyB (m p.1) (m j) then some p.2 else lookD (r.map fun p => (m p.1, p.2)) (m j)) = _
    rw [hm, lookD_val m hm j r]
    by_cases e : p.1 = j
    · rw [valV_pos e]; simp [e]
    · rw [valV_neg e]; simp [e]
theorem setD_val {κ : Type} [DecidableEq κ] (m : κ → D) (hm : ∀ k j, keyB (m k) (m j) = decide (k = j)) (j : κ) (v : V) : ∀ kvs : List (κ × V), setD (m j) v (kvs.map fun p => (m p.1, p.2)) = (kvs.map fun kv => if kv.1 = j then (kv.1, v) else kv).map fun p => (m p.1, p.2)
  | [] => rfl
  | p :: r => by
    show (m p.1, if keyB (m p.1) (m j) then v else p.2) :: setD (m j) v (r.map fun p => (m p.1, p.2)) = _
    rw [setD_val m hm j v r, hm]
    by_cases e : p.1 = j
    · simp [e]
    · simp [e]
theorem putD_val {κ : Type} [DecidableEq κ] (m : κ → D) (hm : ∀ k j, keyB (m k) (m j) = decide (k = j)) (j : κ) (v : V) (kvs : List (κ × V)) : putD (kvs.map fun p => (m p.1, p.2)) (m j) v = (putK kvs j v).map fun p => (m p.1, p.2) := by
  unfold putD putK
  rw [lookD_val m hm, valV_any]
  cases e : valV kvs j with
  | none => simp
  | some w => simp only [Option.isSome_some, if_true]; exact setD_val m hm j v kvs
theorem RepK.look {X : Txt} {j : D} : ∀ {kvs : List (D × V)} {es : List (D × D)}, RepK X F H kvs es → (lookD kvs j = none ∧ lookD es j = none) ∨ ∃ v d, lookD kvs j = some v ∧ lookD es j = some d ∧ Rep X F H v d
  | _, _, .nil => .inl ⟨rfl, rfl⟩
  | _, _, .cons (k := k) a r => by
    unfold lookD
    split
    · exact .inr ⟨_, _, rfl, rfl, a⟩
    · exact RepK.look r
theorem RepK.setD {X : Txt} {j : D} {v : V} {d : D} (rv : Rep X F H v d) : ∀ {kvs : List (D × V)} {es : List (D × D)}, RepK X F H kvs es → RepK X F H (setD j v kvs) (setD j d es)
  | _, _, .nil => .nil
  | _, _, .cons (k := k) a r => by
    unfold Pu.setD
    split
    · exact .cons rv (RepK.setD rv r)
    · exact .cons a (RepK.setD rv r)
theorem RepK.app {X : Txt} : ∀ {kvs ws : List (D × V)} {es fs : List (D × D)}, RepK X F H kvs es → RepK X F H ws fs → RepK X F H (kvs ++ ws) (es ++ fs)
  | _, _, _, _, .nil, q => q
  | _, _, _, _, .cons a r, q => .cons a (RepK.app r q)
theorem RepK.put {X : Txt} {j : D} {v : V} {d : D} (rv : Rep X F H v d) {kvs : List (D × V)} {es : List (D × D)} (r : RepK X F H kvs es) : RepK X F H (putD kvs j v) (putD es j d) := by
  unfold putD
  rcases r.look (j := j) with ⟨e1, e2⟩ | ⟨_, _, e1, e2, _⟩
  · rw [e1, e2]; exact r.app (.cons rv .nil)
  · rw [e1, e2]; exact r.setD rv
theorem RepK.len {X : Txt} : ∀ {kvs : List (D × V)} {es : List (D × D)}, RepK X F H kvs es → kvs.length = es.length
  | _, _, .nil => rfl
  | _, _, .cons a r => by simp [RepK.len r]
/-- a key's value is the key -/
theorem Bo.key {X : Txt} {v : V} {d : D} {k : Key} (h : Bo X F H v d) (e : asK d = some k) : v = kV k := by
  have := asK_inj e
  subst this
  cases k with
  | inl i => exact h.int
  | inr x => exact h.str
theorem Reps.keys {X : Txt} : ∀ {vs : List V} {ds : List D} {ks : List Key}, Reps X F H vs ds → asKs ds = some ks → vs = ks.map kV
  | _, _, _, .nil, e => by cases e; rfl
  | _, _, _, .cons (d := d) (ds := ds) a r, e => by
    unfold asKs at e
    split at e
    · rename_i k ks e1 e2
      cases e
      rw [Bo.key (.inl a) e1, Reps.keys r e2]; rfl
    · cases e
/-- what a dict holds at a key -/
theorem dget_of {v y : V} {t : Bool} {es : List (D × D)} {j : D} (hx : Bo X F H v (.dct t es)) (hy : Bo X F H y j) (hj : isKey t j = true) :
    ∃ a o, v = .ref a ∧ DGet H a y o ∧ ((o = none ∧ lookD es j = none) ∨ ∃ w d, o = some w ∧ lookD es j = some d ∧ Rep X F H w d) := by
  obtain ⟨a, o, kvs, rfl, e, q, r⟩ := hx.dct
  cases q with
  | k kvs =>
    obtain ⟨k, hk⟩ : ∃ k, asK j = some k := by
      cases j <;> first | exact ⟨_, rfl⟩ | (cases hj; done) | skip
    cases hy.key hk
    refine ⟨a, valV kvs k, rfl, DGet.k e, ?_⟩
    have := lookD_val kD keyB_kD k kvs
    rw [asK_inj hk] at *
    rcases r.look (j := kD k) with ⟨e1, e2⟩ | ⟨w, d, e1, e2, rw'⟩
    · exact .inl ⟨by rw [← this]; exact e1, e2⟩
    · exact .inr ⟨w, d, by rw [← this]; exact e1, e2, rw'⟩
  | t kvs =>
    cases j with
    | tup xs =>
      have hs : (asKs xs).isSome = true := hj
      obtain ⟨ks, hk⟩ := Option.isSome_iff_exists.mp hs
      obtain ⟨p, vs, rfl, hp, rp⟩ := hy.tup
      have ev := rp.keys hk
      subst ev
      refine ⟨a, valV kvs ks, rfl, DGet.t e hp.2, ?_⟩
      have := lookD_val ksD keyB_ksD ks kvs
      have ej : D.tup xs = ksD ks := by rw [asKs_inj hk]; rfl
      rw [ej]
      rcases r.look (j := ksD ks) with ⟨e1, e2⟩ | ⟨w, d, e1, e2, rw'⟩
      · exact .inl ⟨by rw [← this]; exact e1, e2⟩
      · exact .inr ⟨w, d, by rw [← this]; exact e1, e2, rw'⟩
    | _ => cases hj
theorem dput_of {a : Addr} {y v : V} {t : Bool} {es : List (D × D)} {j d : D} (nF : ¬ F a) (hx : Flat X F H a (.dct t es)) (hy : Bo X F H y j) (hj : isKey t j = true) (hv : Rep X F H v d) (hl : es.length < sizeLine) :
    ∃ o, DPut H a y v (upd H a o) ∧ Flat X F (upd H a o) a (.dct t (putD es j d)) := by
  cases hx with
  | dct e q r =>
  cases q with
  | k kvs =>
    obtain ⟨k, hk⟩ : ∃ k, asK j = some k := by
      cases j <;> first | exact ⟨_, rfl⟩ | (cases hj; done) | skip
    cases hy.key hk
    have hl' : kvs.length < sizeLine := by have := r.len; simp at this; omega
    refine ⟨_, DPut.k e hl', ?_⟩
    have := putD_val kD keyB_kD k v kvs
    have r2 := r.put (j := j) hv
    rw [asK_inj hk] at r2 ⊢
    rw [this] at r2
    exact .dct upd_same (.k _) (RepK.keep (keep_upd nF) _ r2)
  | t kvs =>
    cases j with
    | tup xs =>
      have hs : (asKs xs).isSome = true := hj
      obtain ⟨ks, hk⟩ := Option.isSome_iff_exists.mp hs
      obtain ⟨p, vs, rfl, hp, rp⟩ := hy.tup
      have ev := rp.keys hk
      subst ev
      have hl' : kvs.length < sizeLine := by have := r.len; simp at this; omega
      refine ⟨_, DPut.t e hp.2 hl', ?_⟩
      have := putD_val ksD keyB_ksD ks v kvs
      have r2 := r.put (j := .tup xs) hv
      have ej : D.tup xs = ksD ks := by rw [asKs_inj hk]; rfl
      rw [ej] at r2 ⊢
      rw [this] at r2
      exact .dct upd_same (.t _) (RepK.keep (keep_upd nF) _ r2)
    | _ => cases hj
end
end Pu

set_option maxHeartbeats 4000000
/-! PuJ: dict expressions, stores, augmented assignment. -/
namespace Pu
open PySem PySem.Spec PyProof.Rows L2

section
variable {X : Cx} {W : WX} {rm : Md} {κ κ' κ1 κ2 κ3 κn κb κc : List Kd} {p p1 p2 p3 : Bool} {b b1 b2 b3 : Md} {F F' F1 : Fz} {H H' H1 : Hp} {σ : SS} {ρ ρ' : En} {O O' O1 : List Addr} {a c e : Expr} {pos : Pos} {st : Stmt} {sts : List Stmt} {E : Ends}
/-- a rule for two values, by r -/
def R2D (X : Cx) (r : R2) (g : D → D → Option D) (b : Md) : Prop := ∀ F H x y d e z Q, (∀ a, F a → ∃ o, H a = some o) → Bo X F H x d → Bo X F H y e → g d e = some z → (∀ v F' H', Ext F H F' H' → RvN X F H F' H' b v z → Q v H') → r x y H Q
theorem de_r2 {r : R2} {e : Expr} {g : D → D → Option D} {fa fb : Fe} (k : R2D X r g b3) (ha : DE X W κ a κ1 p1 b1 fa) (hb : DE X W κ1 c κ2 p2 b2 fb) (hm : b1 = .bor → p2 = true)
    (mk : ∀ ta tb, PE X a ta → PE X c tb → PE X e (tOp r ta tb)) : DE X W κ e κ2 (p1 && p2) b3 (eBin g fa fb) := by
  obtain ⟨⟨ta, pa, hta⟩, i1⟩ := ha
  obtain ⟨⟨tb, pb, htb⟩, i2⟩ := hb
  refine ⟨⟨tOp r ta tb, mk ta tb pa pb, fun F H σ ρ O Q s h => ?_⟩, i2.trans i1⟩
  refine two hta htb i1 hm s ?_
  refine (fin_bin h fun d e z ρ2 hg hq => (⟨hg, hq⟩ : g d e = some z ∧ _)).imp fun d ρ1 h1 => h1.imp fun e ρ2 h2 => ?_
  obtain ⟨z, hg, _, hq⟩ := h2
  intro x y F' H' O' st s' pu rx ry
  exact k F' H' x y d e z Q s'.tr rx.bo ry.bo hg (res_of (x := x) (y := y) (d := d) (e := e) (g := g) hq st s' pu)
/-! ### d[k], k in d -/
def dgetD : D → D → Option D := fun d e => match d with
  | .dct t es => if isKey t e then lookD es e else none
  | _ => none
def rDGet : R2 := fun x y H Q => ∃ a v, x = .ref a ∧ DGet H a y (some v) ∧ Q v H
theorem r2_dget : R2D X rDGet dgetD .val := fun F H x y d e z Q tr hx hy hg hq => by
  unfold dgetD at hg
  split at hg
  · split at hg
    · obtain ⟨a, o, rfl, dg, h⟩ := dget_of hx hy ‹_›
      rcases h with ⟨_, h⟩ | ⟨w, d, rfl, h, rw'⟩
      · rw [h] at hg; cases hg
      · rw [h] at hg; cases hg
        exact ⟨a, w, rfl, dg, hq w F H Ext.refl rw'⟩
    · cases hg
  · cases hg
theorem de_dget {fa fb : Fe} (hu : X.A.units + 1 < cLine) (ha : DE X W κ a κ1 p1 b1 fa) (hb : DE X W κ1 c κ2 p2 b2 fb) (hm : b1 = .bor → p2 = true := by first | exact (fun _ => rfl) | exact (fun h => nomatch h)) (hs : NoSl c := by exact fun _ _ => rfl) :
    DE X W κ (.Subscript a c pos) κ2 (p1 && p2) .val (eBin dgetD fa fb) :=
  de_r2 r2_dget ha hb hm fun ta tb pa pb => pe_dget hu pa pb hs
def inDct (n : Bool) : D → D → Option D := fun e d => match d with
  | .dct t es => if isKey t e then some (.bl (if n then !(lookD es e).isSome else (lookD es e).isSome)) else none
  | _ => none
theorem dop_din (hu : X.A.units + 1 < cLine) : DOp X (compareOp .In) (inDct false) .val := by
  refine ⟨fun y x H Q => ∃ a o, x = .ref a ∧ DGet H a y o ∧ Q (.bl o.isSome) H, ?_, fun F H y x e d z Q tr hy hx hg hq => ?_⟩
  · intro pins s σ H y x u v Q I ry rx ⟨a, o, ex, g, q⟩
    subst ex
    obtain rfl : v = Value.ref a := rx
    exact d_in hu I g ry fun s' I' => ⟨.bl o.isSome, H, I', rfl, q⟩
  · unfold inDct at hg
    split at hg
    · split at hg
      · cases hg
        obtain ⟨a, o, rfl, dg, h⟩ := dget_of hx hy ‹_›
        refine ⟨a, o, rfl, dg, hq _ F H Ext.refl ?_⟩
        rcases h with ⟨rfl, h⟩ | ⟨w, d, rfl, h, _⟩
        · rw [h]; exact .bl _
        · rw [h]; exact .bl _
      · cases hg
    · cases hg
theorem dop_dnotin (hu : X.A.units + 1 < cLine) : DOp X (compareOp .NotIn) (inDct true) .val := by
  refine ⟨fun y x H Q => ∃ a o, x = .ref a ∧ DGet H a y o ∧ Q (.bl (!o.isSome)) H, ?_, fun F H y x e d z Q tr hy hx hg hq => ?_⟩
  · intro pins s σ H y x u v Q I ry rx ⟨a, o, ex, g, q⟩
    subst ex
    obtain rfl : v = Value.ref a := rx
    exact d_notIn hu I g ry fun s' I' => ⟨.bl (!o.isSome), H, I', rfl, q⟩
  · unfold inDct at hg
    split at hg
    · split at hg
      · cases hg
        obtain ⟨a, o, rfl, dg, h⟩ := dget_of hx hy ‹_›
        refine ⟨a, o, rfl, dg, hq _ F H Ext.refl ?_⟩
        rcases h with ⟨rfl, h⟩ | ⟨w, d, rfl, h, _⟩
        · rw [h]; exact .bl _
        · rw [h]; exact .bl _
      · cases hg
    · cases hg
/-- in a list or tuple of data -/
def inSeq (n : Bool) : D → D → Option D := fun e d => match d with
  | .lst xs => if shp e && shp (.lst xs) then some (.bl (if n then !xs.any fun z => eqv z e else xs.any fun z => eqv z e)) else none
  | _ => none
theorem any_toP (e : D) : ∀ xs : List D, ((toPs xs).any fun z => PyData.eqv z (toP e)) = xs.any fun z => eqv z e
  | [] => rfl
  | x :: xs => by
    show (PyData.eqv (toP x) (toP e) || (toPs xs).any fun z => PyData.eqv z (toP e)) = _
    rw [any_toP e xs]; rfl
theorem dop_inL (hu : X.A.units + 65 < cLine) : DOp X (compareOp .In) (inSeq false) .val := by
  refine ⟨_, op_inD hu, fun F H x y d e z Q tr hx hy hg hq => ?_⟩
  unfold inSeq at hg
  split at hg
  · rename_i xs
    split at hg
    · cases hg
      obtain ⟨s1, s2⟩ := Bool.and_eq_true_iff.mp ‹_›
      exact ⟨_, _, hx.dp (SeqAt.canLay_of_shaped s1), hy.dp (SeqAt.canLay_of_shaped s2), s1, s2, hq _ F H Ext.refl (by rw [any_toP]; exact .bl _)⟩
    · cases hg
  · cases hg
theorem dop_notinL (hu : X.A.units + 65 < cLine) : DOp X (compareOp .NotIn) (inSeq true) .val := by
  refine ⟨_, op_notInD hu, fun F H x y d e z Q tr hx hy hg hq => ?_⟩
  unfold inSeq at hg
  split at hg
  · rename_i xs
    split at hg
    · cases hg
      obtain ⟨s1, s2⟩ := Bool.and_eq_true_iff.mp ‹_›
      exact ⟨_, _, hx.dp (SeqAt.canLay_of_shaped s1), hy.dp (SeqAt.canLay_of_shaped s2), s1, s2, hq _ F H Ext.refl (by rw [any_toP]; exact .bl _)⟩
    · cases hg
  · cases hg
/-- in a tuple or list of scalars -/
def flatD : D → Bool
  | .non => true | .bl _ => true | .int _ => true | .str _ => true
  | _ => false
/-! ### d.get(k, x) -/
def eGet2 (fd fk fx : Fe) : Fe := fun ρ => (fd ρ).bind fun d ρ1 => match d with
  | .dct t es => (fk ρ1).bind fun k ρ2 => (fx ρ2).bind fun x ρ3 => if isKey t k then .ok ((lookD es k).getD x) ρ3 else .bad
  | _ => .bad
theorem de_get2 {fd fk fx : Fe} {apos cpos : Pos} {ed ek ex : Expr} (hu : X.A.units + 1 < cLine) (hd : DE X W κ ed κ1 p1 b1 fd) (hk : DE X W κ1 ek κ2 p2 .val fk) (hx : DE X W κ2 ex κ3 p3 .val fx) (hp2 : p2 = true := by rfl) (hp3 : p3 = true := by rfl)
    (hbase : attributeBase ed "get" X.env (eval ed X.env) = eval ed X.env := by rfl)
    (hfew : ((backTo cpos (starEach [ek, ex] X.env)).all (fun x => !x.1) && (backToKw cpos (keywordEach [] X.env)).all (fun x => x.1.isSome)
    && decide (([ek, ex] : List Expr).length + ([] : List Keyword).length + (if ([] : List Keyword).isEmpty then 0 else 1) < 30)) = true := by rfl)
    (hline : (apos.endLine == cpos.line) = true := by rfl) (htrees : backTo cpos (starEach [ek, ex] X.env) = [(false, eval ek X.env), (false, eval ex X.env)] := by rfl) :
    DE X W κ (.Call (.Attribute ed "get" apos) [ek, ex] [] cpos) κ3 p1 .val (eGet2 fd fk fx) := by
  subst hp2 hp3
  obtain ⟨⟨t1, q1, k1⟩, i1⟩ := hd
  obtain ⟨⟨t2, q2, k2⟩, i2⟩ := hk
  obtain ⟨⟨t3, q3, k3⟩, i3⟩ := hx
  refine ⟨⟨_, pe_dget2 hu q1 q2 q3 ⟨hbase, hfew, hline, htrees⟩, fun F H σ ρ O Q s h => k1 F H σ ρ O _ s ?_⟩, i3.trans (i2.trans i1)⟩
  unfold eGet2 Out.bind at h
  unfold PostE
  cases ea : fd ρ with
  | bad => simp only [ea] at h; exact h
  | ex x ρ1 => simp only [ea] at h; exact h
  | ok d ρ1 =>
    simp only [ea] at h
    intro v1 F1 H1 O1 st1 s1 pu1 r1
    cases d with
    | dct t es =>
      dsimp only at h
      obtain ⟨a, o, kvs, rfl, e, q, r⟩ := r1.bo.dct
      refine ⟨a, rfl, ?_, ?_⟩
      · cases q with
        | k kvs => exact .inl ⟨_, .inl e⟩
        | t kvs => exact .inr ⟨_, .inl e⟩
      refine k2 F1 H1 σ ρ1 O1 _ s1 ?_
      unfold PostE
      cases eb : fk ρ1 with
      | bad => simp only [eb] at h; exact h
      | ex x ρ2 => simp only [eb] at h; exact PostX.after h st1 i1
      | ok k ρ2 =>
        simp only [eb] at h
        intro v2 F2 H2 O2 st2 s2 pu2 r2
        refine k3 F2 H2 σ ρ2 O2 _ s2 ?_
        unfold PostE
        cases ec : fx ρ2 with
        | bad => simp only [ec] at h; exact h
        | ex x ρ3 => simp only [ec] at h; exact PostX.after h (st1.trans st2) (i2.trans i1)
        | ok x ρ3 =>
          simp only [ec] at h
          intro v3 F3 H3 O3 st3 s3 pu3 r3
          have rd := (r1.held s1 st2 fun _ => pu2.same rfl).held s2 st3 fun _ => pu3.same rfl
          have rk := Rv.held (b := .val) s2 st3 (fun z => nomatch z) r2
          split at h
          · obtain ⟨a', ov, ea', dg, hh⟩ := dget_of rd.bo rk.bo ‹_›
            cases ea'
            refine ⟨ov, dg, h _ F3 H3 O3 ((st1.trans st2).trans st3) s3 (fun e => ?_) ?_⟩
            · have q := (pu1.trans (pu2.trans pu3)) (by rw [e]; rfl)
              exact q
            · rcases hh with ⟨rfl, hh⟩ | ⟨w, d, rfl, hh, rw'⟩
              · rw [hh]; exact r3
              · rw [hh]; exact rw'
          · exact h.elim
    | _ => exact h.elim
/-! ### {} and {k: v, ..} -/
def eDct (t : Bool) : Fe := fun ρ => .ok (.dct t []) ρ
theorem de_dct0 : DE X W κ (.Dict [] [] pos) κ true .own (eDct false) :=
  ⟨⟨_, pe_dnewK, fun F H σ ρ O Q s h q hq => res_of (x := .non) (y := .non) (d := .non) (e := .non) (g := fun _ _ => none) (b := .own) h Stp.refl s Pur.refl _ _ _ (Ext.new hq) ⟨rfl, q, rfl, .dct upd_same (.k []) .nil, hq⟩⟩, Io.refl⟩
theorem de_dctT : DE X W κ (.Dict [] [] pos) κ true .own (eDct true) :=
  ⟨⟨_, pe_dnewT, fun F H σ ρ O Q s h q hq => res_of (x := .non) (y := .non) (d := .non) (e := .non) (g := fun _ _ => none) (b := .own) h Stp.refl s Pur.refl _ _ _ (Ext.new hq) ⟨rfl, q, rfl, .dct upd_same (.t []) .nil, hq⟩⟩, Io.refl⟩
/-- {k: v} of one pair -/
def eDct1 (fk fv : Fe) : Fe := fun ρ => (fk ρ).bind fun k ρ1 => (fv ρ1).bind fun v ρ2 => if isKey false k then .ok (.dct false [(k, v)]) ρ2 else .bad
theorem PostE.none {p : Bool} {r : Out D} {Q Q' : VK} (h : PostE X W κ κ' p b r F H σ O Q) (q : ∀ v H', Q v H' → Q' v H') : PostE X W κ κ' p b r F H σ O Q' := by
  cases r with
  | bad => exact h
  | ex x ρ => exact h
  | ok d ρ => exact fun v F' H' O' st s pu r => q v H' (h v F' H' O' st s pu r)

/-! ### stores into own things -/
def DSt (X : Cx) (g : D → D → D → Option D) : Prop := ∃ t, PSet X t ∧ ∀ F H a c i di v dv c' Q, Flat X F H a c → ¬ F a → Bo X F H i di → Rep X F H v dv → g c di dv = some c' → (∀ o, Flat X F (upd H a o) a c' → Q (upd H a o)) → t (.ref a) i v H Q
def setIx : D → D → D → Option D := fun c k d => match c, k with
  | .lst xs, .int i => (ixN xs.length i).map fun j => .lst (xs.set j d)
  | _, _ => none
theorem dst_list : DSt X setIx := by
  refine ⟨_, set_list, fun F H a c i di v dv c' Q f nF hi hv hg hq => ?_⟩
  unfold setIx at hg
  split at hg
  · rename_i xs k
    cases ej : ixN xs.length k with
    | none => rw [ej] at hg; cases hg
    | some j =>
      rw [ej] at hg; cases hg
      obtain ⟨ws, e, r⟩ := f.lstV
      exact ⟨a, ws, k, j, rfl, hi.int, e, by rw [r.len]; exact ej, hq _ (Flat.newL nF (Reps.set hv j r))⟩
  · cases hg
def setDc : D → D → D → Option D := fun c k d => match c with
  | .dct t es => if isKey t k && decide (es.length < sizeLine) then some (.dct t (putD es k d)) else none
  | _ => none
theorem dst_dict (hu : X.A.units + 1 < cLine) : DSt X setDc := by
  refine ⟨_, set_dict hu, fun F H a c i di v dv c' Q f nF hi hv hg hq => ?_⟩
  unfold setDc at hg
  split at hg
  · split at hg
    · cases hg
      obtain ⟨h1, h2⟩ := Bool.and_eq_true_iff.mp ‹_›
      obtain ⟨o, q1, q2⟩ := dput_of nF f hi h1 hv (of_decide_eq_true h2)
      exact ⟨a, _, rfl, q1, hq o q2⟩
    · cases hg
  · cases hg
def sPut (g : D → D → D → Option D) (i : Nat) (fe fk : Fe) : Fs := fun ρ => (fe ρ).bind fun d ρ1 => match ρ1[i]? with
  | some (some _) => (fk ρ1).bind fun k ρ2 => (match ρ2[i]? with
    | some (some c) => (match g c k d with
      | some c' => .ok .nx (ρ2.set i (some c'))
      | none => .bad)
    | _ => .bad)
  | _ => .bad
theorem ds_put {g : D → D → D → Option D} {i : Nat} {kd : Kd} {y : Str} {py tpos : Pos} {fe fk : Fe} {ek : Expr} (ho : DSt X g) (he : DE X W κ e κ1 p1 .val fe) (hk : DE X W κ1 ek κ2 p2 .val fk) (hki : κ2[i]? = some kd) (hk0 : kd ≠ .fz := by exact kd_ne rfl)
    (hN : X.N[i]? = some y := by rfl) (hv : Vis X.env.scope y := by first | exact Or.inl rfl | exact Or.inr (Or.inl rfl) | exact Or.inr (Or.inr rfl)) (hyd : (y == ("__debug__" : Str)) = false := by decide) (hyc : (y == ("__classdict__" : Str)) = false := by decide)
    (hs : swapsWithSole [.Subscript (.Name y py) ek tpos] e pos.line X.env = pure false := by rfl) (hw : swappedStores [.Subscript (.Name y py) ek tpos] e X.env = pure none := by rfl)
    (h1 : (assignEach [.Subscript (.Name y py) ek tpos] X.env).map (·.2) = [assign (.Subscript (.Name y py) ek tpos) X.env] := by rfl)
    (hasg : ∀ v, assign (.Subscript (.Name y py) ek tpos) X.env v = (do
      let ov ← holding [v] (eval (.Name y py) X.env)
      let iv ← holding [v, ov] (eval ek X.env)
      standAt tpos
      holding [v, ov, iv] (setItem ov iv v)
      release [v, ov, iv] []) := by intro _; rfl) :
    DS X W rm κb κc κ (.Assign [.Subscript (.Name y py) ek tpos] e pos) κ2 (sPut g i fe fk) := by
  obtain ⟨⟨t1, q1, k1⟩, i1⟩ := he
  obtain ⟨⟨t2, q2, k2⟩, i2⟩ := hk
  obtain ⟨t, o, k⟩ := ho
  refine ⟨⟨_, ps_asg q1 (pg_sub (pv i hN hv hyd hyc) q2 o hasg) hs hw h1, fun F H σ ρ O E s h => k1 F H σ ρ O _ s ?_⟩, i2.trans i1⟩
  unfold sPut Out.bind at h
  unfold PostE
  cases ea : fe ρ with
  | bad => simp only [ea] at h; exact h
  | ex x ρ1 => simp only [ea] at h; exact PostXS.one h
  | ok d ρ1 =>
    simp only [ea] at h
    intro v1 F1 H1 O1 st1 s1 pu1 r1
    cases e0 : ρ1[i]? with
    | none => rw [e0] at h; exact h.elim
    | some r0 =>
      cases r0 with
      | none => rw [e0] at h; exact h.elim
      | some c0 =>
        rw [e0] at h
        dsimp only at h
        obtain ⟨kk, hkk⟩ := i2.back hki
        obtain ⟨v0, hv0, _⟩ := slot_some s1 hkk e0
        refine ⟨v0, hv0, k2 F1 H1 σ ρ1 O1 _ s1 ?_⟩
        unfold PostE
        cases eb : fk ρ1 with
        | bad => simp only [eb] at h; exact h
        | ex x ρ2 => simp only [eb] at h; exact (PostXS.one h).after st1 i1
        | ok k' ρ2 =>
          simp only [eb] at h
          intro v2 F2 H2 O2 st2 s2 pu2 r2
          cases e1 : ρ2[i]? with
          | none => rw [e1] at h; exact h.elim
          | some r1' =>
            cases r1' with
            | none => rw [e1] at h; exact h.elim
            | some c =>
              rw [e1] at h
              dsimp only at h
              obtain ⟨a, ha, fl, aO⟩ := own_at (a := 0) s2 hki hk0 e1
              rw [hv0] at ha; cases ha
              cases eg : g c k' d with
              | none => rw [eg] at h; exact h.elim
              | some c' =>
                rw [eg] at h
                have rv := Rv.held (b := .val) s1 st2 (fun z => nomatch z) r1
                refine k F2 H2 a c v2 k' v1 d c' _ fl (s2.ap a aO) r2.bo rv eg fun o f => ?_
                obtain ⟨q1, q2⟩ := s2.updS hki hk0 hv0 e1 f
                exact h F2 _ O2 σ ((st1.trans st2).trans q2) q1

/-! ### augmented assignment -/
def sAug (g : D → D → Option D) (i : Nat) (fe : Fe) : Fs := fun ρ => match ρ[i]? with
  | some (some d) => (fe ρ).bind fun e ρ1 => (match g d e with
    | some z => .ok .nx (ρ1.set i (some z))
    | none => .bad)
  | _ => .bad
/-- x += e of a frozen x -/
theorem ds_aug {op : Operator} {g : D → D → Option D} {i : Nat} {y : Str} {py : Pos} {fe : Fe} (ho : DOp X (inplaceOp op) g .val) (he : DE X W κ e κ1 p b fe) (hk : κ[i]? = some .fz) (hk1 : notIo κ1[i]? = true := by rfl) (hN : X.N.Nodup) (hi : X.N[i]? = some y := by rfl) (hx : Loc X.env.scope y := by first | exact Or.inl rfl | exact Or.inr rfl)
    (hf : X.fn y = true ∨ X.env.scope.names.lookup y = some .local := by first | exact .inl rfl | exact .inr rfl | assumption) (hκ : κ1.set i .fz = κn := by rfl) : DS X W rm κb κc κ (.AugAssign (.Name y py) op e pos) κn (sAug g i fe) := by
  subst hκ
  obtain ⟨⟨t1, q1, k1⟩, i1⟩ := he
  obtain ⟨r, o, k⟩ := ho
  refine ⟨⟨_, ps_aug hN hi hx q1 o hf, fun F H σ ρ O E s h => ?_⟩, (Io.set hk1).trans i1⟩
  unfold sAug at h
  cases e0 : ρ[i]? with
  | none => rw [e0] at h; exact h.elim
  | some r0 =>
    cases r0 with
    | none => rw [e0] at h; exact h.elim
    | some d =>
      rw [e0] at h
      dsimp only at h
      obtain ⟨sv, rr, A, h1, h2, h3, _⟩ := s.sl.at_ hk
      rw [e0] at h2; cases h2
      cases h3 with
      | fz rx =>
        refine ⟨_, h1, k1 F H σ ρ O _ s ?_⟩
        unfold Out.bind at h
        unfold PostE
        cases ea : fe ρ with
        | bad => simp only [ea] at h; exact h
        | ex x ρ1 => simp only [ea] at h; exact PostXS.one h
        | ok e' ρ1 =>
          simp only [ea] at h
          intro v1 F1 H1 O1 st1 s1 pu1 r1
          have rx' := Rv.held (b := .val) s st1 (fun z => nomatch z) (H0 := H) (show Rv X F H O H .val _ d from rx)
          cases eg : g d e' with
          | none => rw [eg] at h; exact h.elim
          | some z =>
            rw [eg] at h
            refine k F1 H1 _ v1 d e' z _ s1.tr (.inl rx') r1.bo eg fun v F2 H2 x2 rz => ?_
            have s2 := s1.ext x2
            have rz' : Rep X F2 H2 v z := rz
            cases ek : κ1[i]? with
            | none => rw [ek] at hk1; cases hk1
            | some kk =>
              obtain ⟨O3, s3, ho3⟩ := s2.setF ek rz'
              exact h F2 H2 O3 _ ((st1.trans x2.stp).trans (Stp.less ho3)) s3
/-- xs += e of an own list -/
def sExt (i : Nat) (fe : Fe) : Fs := fun ρ => match ρ[i]? with
  | some (some _) => (fe ρ).bind fun e ρ1 => (match ρ1[i]?, e with
    | some (some (.lst xs)), .lst ys => if xs.length + ys.length ≤ sizeLine then .ok .nx (ρ1.set i (some (.lst (xs ++ ys)))) else .bad
    | _, _ => .bad)
  | _ => .bad
theorem ds_ext {i : Nat} {kd : Kd} {y : Str} {py : Pos} {fe : Fe} (he : DE X W κ e κ1 p b fe) (hki : κ1[i]? = some kd) (hk0 : kd ≠ .fz := by exact kd_ne rfl) (hN : X.N.Nodup) (hi : X.N[i]? = some y := by rfl) (hx : Loc X.env.scope y := by first | exact Or.inl rfl | exact Or.inr rfl)
    (hf : X.fn y = true ∨ X.env.scope.names.lookup y = some .local := by first | exact .inl rfl | exact .inr rfl | assumption) : DS X W rm κb κc κ (.AugAssign (.Name y py) .Add e pos) κ1 (sExt i fe) := by
  obtain ⟨⟨t1, q1, k1⟩, i1⟩ := he
  refine ⟨⟨_, ps_aug hN hi hx q1 iop_ext hf, fun F H σ ρ O E s h => ?_⟩, i1⟩
  unfold sExt at h
  cases e0 : ρ[i]? with
  | none => rw [e0] at h; exact h.elim
  | some r0 =>
    cases r0 with
    | none => rw [e0] at h; exact h.elim
    | some d =>
      rw [e0] at h
      dsimp only at h
      obtain ⟨kk, hkk⟩ := i1.back hki
      obtain ⟨v0, hv0, _⟩ := slot_some s hkk e0
      refine ⟨v0, hv0, k1 F H σ ρ O _ s ?_⟩
      unfold Out.bind at h
      unfold PostE
      cases ea : fe ρ with
      | bad => simp only [ea] at h; exact h
      | ex x ρ1 => simp only [ea] at h; exact PostXS.one h
      | ok e' ρ1 =>
        simp only [ea] at h
        intro v1 F1 H1 O1 st1 s1 pu1 r1
        split at h
        · rename_i xs ys e1
          split at h
          · obtain ⟨a, ha, fl, aO⟩ := own_at (a := 0) s1 hki hk0 e1
            rw [hv0] at ha; cases ha
            obtain ⟨ws, hw, rw'⟩ := fl.lstV
            obtain ⟨b', us, rfl, hb', rb⟩ := r1.bo.lst
            refine ⟨a, b', ws, us, rfl, rfl, hw, hb', by rw [rw'.len, rb.len]; assumption, ?_⟩
            obtain ⟨q1, q2⟩ := s1.updS hki hk0 hv0 e1 (Flat.newL (s1.ap a aO) (rw'.app rb))
            have es : σ.set i (some (.ref a)) = σ := by
              obtain ⟨hl, he⟩ := List.getElem?_eq_some_iff.mp hv0
              rw [← he]; exact List.set_getElem_self hl
            rw [es]
            exact h F1 _ O1 σ (st1.trans q2) q1
          · exact h.elim
        · exact h.elim
theorem dop_iadd : DOp X (inplaceOp .Add) (fun d e => (addI d e).or (addS d e)) .val := by
  refine DOp.or (g := addI) (g' := addS) (dop_int0 iop_add fun _ _ _ _ => .int _) ?_ fun _ _ _ => or_some
  refine ⟨_, iop_add_str, fun F H x y d e z Q tr hx hy hg hq => ?_⟩
  unfold addS at hg
  split at hg
  · rename_i i j
    split at hg
    · cases hg
      exact ⟨i, j, hx.str, hy.str, ‹_›, hq _ F H Ext.refl (.str _)⟩
    · cases hg
  · cases hg
end
end Pu

set_option maxHeartbeats 4000000
/-! PuK: built-ins over plain data. -/
namespace Pu
open PySem PySem.Spec PyProof.Rows L2

section
variable {X : Cx} {W : WX} {rm : Md} {κ κ' κ1 κ2 κ3 κn κb κc : List Kd} {p p1 p2 p3 : Bool} {b b1 b2 b3 : Md} {F F' F1 : Fz} {H H' H1 : Hp} {σ : SS} {ρ ρ' : En} {O O' O1 : List Addr} {a c e : Expr} {pos : Pos} {st : Stmt} {sts : List Stmt} {E : Ends}
theorem de_dct1 {fk fv : Fe} {ek ev : Expr} (hk : DE X W κ ek κ1 p1 .val fk) (hv : DE X W κ1 ev κ2 p2 .val fv) (hp1 : p1 = true := by rfl) (hp2 : p2 = true := by rfl) : DE X W κ (.Dict [some ek] [ev] pos) κ2 true .own (eDct1 fk fv) := by
  subst hp1 hp2
  obtain ⟨⟨t1, q1, k1⟩, i1⟩ := hk
  obtain ⟨⟨t2, q2, k2⟩, i2⟩ := hv
  refine ⟨⟨_, pe_disp (pps_cons q1 q2 pps_nil) (by rfl) rfl (by simp) (by simp), fun F H σ ρ O Q s h q hq => ?_⟩, i2.trans i1⟩
  have x0 : Ext F H F (upd H q (.dK [])) := Ext.new hq
  have s0 := s.ext x0
  refine k1 F _ σ ρ O _ s0 ?_
  unfold eDct1 Out.bind at h
  unfold PostE
  cases ea : fk ρ with
  | bad => simp only [ea] at h; exact h
  | ex x ρ1 => simp only [ea] at h; exact PostX.after h x0.stp Io.refl
  | ok k ρ1 =>
    simp only [ea] at h
    intro v1 F1 H1 O1 st1 s1 pu1 r1
    refine k2 F1 H1 σ ρ1 O1 _ s1 ?_
    unfold PostE
    cases eb : fv ρ1 with
    | bad => simp only [eb] at h; exact h
    | ex x ρ2 => simp only [eb] at h; exact PostX.after h (x0.stp.trans st1) i1
    | ok v ρ2 =>
      simp only [eb] at h
      intro v2 F2 H2 O2 st2 s2 pu2 r2
      split at h
      · rename_i hik
        have rk := Rv.held (b := .val) s1 st2 (fun z => nomatch z) r1
        have pu : Pur true (upd H q (.dK [])) O H2 O2 := pu1.trans pu2
        obtain ⟨pu3, eO⟩ := pu rfl
        have hq2 : H2 q = some (.dK []) := pu3 q _ upd_same
        have st12 := st1.trans st2
        have nO : q ∉ O := fun z => by
          obtain ⟨o, ho, _⟩ := s.sl.tracked q z
          rw [hq] at ho; cases ho
        have nF : ¬ F2 q := fun z => by
          rcases st12.f2 q z with z | z | z
          · obtain ⟨o, ho⟩ := s.tr q z
            rw [hq] at ho; cases ho
          · exact nO z
          · rw [upd_same] at z; cases z
        have rk' : Rep X F2 H2 v1 k := rk
        obtain ⟨kk, hkk⟩ : ∃ kk, asK k = some kk := by
          cases k <;> first | exact ⟨_, rfl⟩ | (cases hik; done) | skip
        cases Bo.key (.inl rk') hkk
        refine ⟨hq2, [(kk, v2)], rfl, by simp, ?_⟩
        subst eO
        have fl : Flat X F2 (upd H2 q (.dK (mergeK [] [(kk, v2)]))) q (.dct false [(k, v)]) := by
          have e2 : [(k, v)] = [(kD kk, v)] := by rw [asK_inj hkk]
          rw [e2]
          exact .dct upd_same (.k [(kk, v2)]) (.cons (Rep.keep (keep_upd nF) _ r2) .nil)
        have hold : ∀ a o, H a = some o → upd H2 q (.dK (mergeK [] [(kk, v2)])) a = some o := fun a o e => by
          have hne : a ≠ q := fun z => by rw [z, hq] at e; cases e
          rw [upd_ne hne]
          exact pu3 a o (by rw [upd_ne hne]; exact e)
        refine h (.ref q) F2 _ O2 ⟨st12.f1, fun a z => ?_, fun a o e _ => hold a o e, fun a o e => ⟨o, hold a o e⟩, fun a z => .inl z⟩ ⟨s2.sl.keep (keep_upd nF) fun a ha o e => ?_, s2.nd, s2.ap, fun a z => ?_⟩ (fun _ => ⟨hold, rfl⟩) ⟨q, rfl, fl, nF, nO, hq⟩
        · rcases st12.f2 a z with z | z | z
          · exact .inl z
          · exact .inr (.inl z)
          · refine .inr (.inr ?_)
            by_cases hne : a = q
            · rw [hne]; exact hq
            · rw [upd_ne hne] at z; exact z
        · have hne : a ≠ q := fun z => nO (z ▸ ha)
          rw [upd_ne hne]; exact e
        · by_cases hne : a = q
          · exact ⟨_, by rw [hne, upd_same]⟩
          · rw [upd_ne hne]; exact s2.tr a z
      · exact h.elim

/-! ### is, ** -/
theorem Bo.isN {X : Txt} {v : V} {d : D} (h : Bo X F H v d) : decide (v = .non) = isN d := by
  rcases h with h | ⟨a, rfl, f⟩
  · cases h <;> simp [Pu.isN]
  · cases f <;> simp [Pu.isN]
def isNn (n : Bool) : D → D → Option D := fun d e => match e with
  | .non => some (.bl (if n then !isN d else isN d))
  | _ => none
def isBb (n : Bool) : D → D → Option D := fun d e => match d, e with
  | .bl a, .bl c => some (.bl (if n then !decide (a = c) else decide (a = c)))
  | _, _ => none
theorem dop_is : DOp X (compareOp .Is) (fun d e => (isNn false d e).or (isBb false d e)) .val := by
  refine DOp.or (g := isNn false) (g' := isBb false) ⟨_, op_isN, fun F H x y d e z Q tr hx hy hg hq => ?_⟩ ⟨_, op_isBl, fun F H x y d e z Q tr hx hy hg hq => ?_⟩ fun _ _ _ => or_some
  · unfold isNn at hg
    split at hg
    · cases hg
      exact ⟨hy.non, hq _ F H Ext.refl (by rw [hx.isN]; exact .bl _)⟩
    · cases hg
  · unfold isBb at hg
    split at hg
    · cases hg
      exact ⟨_, _, hx.bl, hy.bl, hq _ F H Ext.refl (.bl _)⟩
    · cases hg
theorem dop_isnot : DOp X (compareOp .IsNot) (fun d e => (isNn true d e).or (isBb true d e)) .val := by
  refine DOp.or (g := isNn true) (g' := isBb true) ⟨_, op_notN, fun F H x y d e z Q tr hx hy hg hq => ?_⟩ ⟨_, op_notBl, fun F H x y d e z Q tr hx hy hg hq => ?_⟩ fun _ _ _ => or_some
  · unfold isNn at hg
    split at hg
    · cases hg
      exact ⟨hy.non, hq _ F H Ext.refl (by rw [hx.isN]; exact .bl _)⟩
    · cases hg
  · unfold isBb at hg
    split at hg
    · cases hg
      exact ⟨_, _, hx.bl, hy.bl, hq _ F H Ext.refl (.bl _)⟩
    · cases hg
def powOk (i j : Int) : Bool := decide (0 ≤ j) && (decide (j ≤ 1000000) && decide (i.natAbs < 18446744073709551616))
def powD : D → D → Option D := fun d e => match d, e with
  | .int i, .int j => if powOk i j then some (.int (i ^ j.toNat)) else none
  | _, _ => none
theorem dop_pow : DOp X (binaryOp .Pow) powD .val := dop_int (c := powOk) op_pow (fun i j h => by
  obtain ⟨h1, h2⟩ := Bool.and_eq_true_iff.mp h
  obtain ⟨h2, h3⟩ := Bool.and_eq_true_iff.mp h2
  exact ⟨of_decide_eq_true h1, of_decide_eq_true h2, of_decide_eq_true h3⟩) fun _ _ _ _ => .int _

/-! ### built-ins -/
theorem CallR.or' {f : Value} {r r' : List V → Hp → VK → Prop} (h : CallR X f r) (h' : CallR X f r') : CallR X f (fun xs H Q => r xs H Q ∨ r' xs H Q) := by
  intro pins s σ H xs us Q I rs q
  rcases q with q | q
  · exact h pins s σ H xs us Q I rs q
  · exact h' pins s σ H xs us Q I rs q
theorem DCall.or {f : Value} {g g' h : List D → Option D} (a : DCall X f g b) (a' : DCall X f g' b) (hh : ∀ d z, h d = some z → g d = some z ∨ g' d = some z) : DCall X f h b := by
  obtain ⟨r, o, k⟩ := a
  obtain ⟨r', o', k'⟩ := a'
  refine ⟨_, CallR.or' o o', fun F H vs ds z Q tr rs hg hq => ?_⟩
  rcases hh ds z hg with q | q
  · exact .inl (k F H vs ds z Q tr rs q hq)
  · exact .inr (k' F H vs ds z Q tr rs q hq)
theorem DCall.frz {f : Value} {g : List D → Option D} (h : DCall X f g .own) : DCall X f g .val := by
  obtain ⟨r, o, k⟩ := h
  refine ⟨r, o, fun F H vs ds z Q tr rs hg hq => k F H vs ds z Q tr rs hg fun v F' H' x' q => ?_⟩
  obtain ⟨rfl, a, rfl, fl, na⟩ := q
  have kk : Keep F' H' (fun b => F' b ∨ b = a) H' := ⟨fun _ h => .inl h, fun _ _ _ h => h⟩
  obtain ⟨o', ho, _⟩ := fl.tr
  exact hq _ (fun b => F' b ∨ b = a) H' ⟨fun _ h => .inl h, fun b q => q.elim .inl fun e => .inr (e ▸ na), x'.h1, fun b q => q.elim .inl fun e => .inr ⟨o', e ▸ ho⟩⟩ (Flat.rep (.inr rfl) (fl.keep kk fun _ h => h))
theorem Paired.one' {α β : Type} {R : α → β → Prop} {vs : List α} {d : β} (h : Paired R vs [d]) : ∃ v, vs = [v] ∧ R v d := by
  cases h with
  | cons a r => cases r; exact ⟨_, rfl, a⟩
theorem Paired.two' {α β : Type} {R : α → β → Prop} {vs : List α} {d e : β} (h : Paired R vs [d, e]) : ∃ v w, vs = [v, w] ∧ R v d ∧ R w e := by
  cases h with
  | cons a r =>
    cases r with
    | cons b r => cases r; exact ⟨_, _, rfl, a, b⟩
def one1 (g : D → Option D) : List D → Option D := fun ds => match ds with
  | [d] => g d
  | _ => none
/-- one argument to one value, nothing made -/
theorem dcall1 {f : Value} {r : List V → Hp → VK → Prop} {g : D → Option D} (o : CallR X f r) (k : ∀ F H v d z Q, (∀ a, F a → ∃ o, H a = some o) → Bo X F H v d → g d = some z → (∀ w, Rep X F H w z → Q w H) → r [v] H Q) :
    DCall X f (one1 g) .val := by
  refine ⟨r, o, fun F H vs ds z Q tr rs hg hq => ?_⟩
  unfold one1 at hg
  split at hg
  · obtain ⟨v, rfl, rv⟩ := Paired.one' rs
    exact k F H v _ z Q tr rv hg fun w rw' => hq w F H Ext.refl rw'
  · cases hg
def lenS : D → Option D
  | .lst xs => some (.int xs.length)
  | .tup xs => some (.int xs.length)
  | .fzl xs => some (.int xs.length)
  | .str x => if x.length ≤ sizeLine then some (.int x.length) else none
  | _ => none
def lenK : D → Option D
  | .dct _ es => some (.int es.length)
  | _ => none
def lenD (d : D) : Option D := (lenS d).or (lenK d)
theorem dc_lenS : DCall X (.builtin "len") (one1 lenS) .val := dcall1 call_len fun F H v d z Q tr rv hg hq => by
  unfold lenS at hg
  split at hg
  · cases hg
    obtain ⟨a, vs, rfl, ha, ra⟩ := rv.lst
    exact ⟨_, vs.length, rfl, .inl ⟨vs, .inl (.inl ha), rfl⟩, hq _ (by rw [ra.len]; exact .int _)⟩
  · cases hg
    obtain ⟨a, vs, rfl, ha, ra⟩ := rv.tup
    exact ⟨_, vs.length, rfl, .inr ⟨vs, ha.sq, rfl⟩, hq _ (by rw [ra.len]; exact .int _)⟩
  · cases hg
    obtain ⟨a, vs, rfl, ha, ra⟩ := rv.fzl
    exact ⟨_, vs.length, rfl, .inl ⟨vs, ha.sq, rfl⟩, hq _ (by rw [ra.len]; exact .int _)⟩
  · split at hg
    · cases hg
      rw [rv.str]
      exact ⟨_, _, rfl, ⟨‹_›, rfl⟩, hq _ (.int _)⟩
    · cases hg
  · cases hg
theorem dc_lenK : DCall X (.builtin "len") (one1 lenK) .val := dcall1 (CallR.or' call_lenD call_len_dT) fun F H v d z Q tr rv hg hq => by
  unfold lenK at hg
  split at hg
  · cases hg
    obtain ⟨a, o, kvs, rfl, e, q, r⟩ := rv.dct
    cases q with
    | k kvs =>
      have hl := r.len
      simp at hl
      exact .inl ⟨a, kvs, rfl, e, hq _ (by rw [hl]; exact .int _)⟩
    | t kvs =>
      have hl := r.len
      simp at hl
      exact .inr ⟨a, kvs, rfl, e, hq _ (by rw [hl]; exact .int _)⟩
  · cases hg
theorem one_or {g g' : D → Option D} (ds : List D) (z : D) (h : one1 (fun d => (g d).or (g' d)) ds = some z) : one1 g ds = some z ∨ one1 g' ds = some z := by
  unfold one1 at *
  split at h
  · exact or_some h
  · cases h
theorem dc_len : DCall X (.builtin "len") (one1 lenD) .val := DCall.or dc_lenS dc_lenK fun d z => one_or d z
def absD : D → Option D
  | .int i => some (.int (if i < 0 then -i else i))
  | _ => none
theorem dc_abs : DCall X (.builtin "abs") (one1 absD) .val := dcall1 call_abs fun F H v d z Q tr rv hg hq => by
  unfold absD at hg
  split at hg
  · cases hg
    exact ⟨_, by rw [rv.int], hq _ (.int _)⟩
  · cases hg
def intD : D → Option D
  | .int i => some (.int i)
  | .bl k => some (.int (if k then 1 else 0))
  | _ => none
theorem dc_int : DCall X (.type "int") (one1 intD) .val := dcall1 call_int1 fun F H v d z Q tr rv hg hq => by
  unfold intD at hg
  split at hg
  · cases hg
    exact .inl ⟨_, by rw [rv.int], hq _ (.int _)⟩
  · cases hg
    exact .inr ⟨_, by rw [rv.bl], hq _ (.int _)⟩
  · cases hg
def strD : D → Option D
  | .int i => if i.natAbs.log2 < 1920 then some (.str (toString i)) else none
  | _ => none
theorem dc_str : DCall X (.type "str") (one1 strD) .val := dcall1 call_str_int fun F H v d z Q tr rv hg hq => by
  unfold strD at hg
  split at hg
  · split at hg
    · cases hg
      exact ⟨_, by rw [rv.int], ‹_›, hq _ (.str _)⟩
    · cases hg
  · cases hg
def two2 (g : Int → Int → Int) : List D → Option D := fun ds => match ds with
  | [.int i, .int j] => some (.int (g i j))
  | _ => none
theorem dc_max2 (hc : X.calm = true) : DCall X (.builtin "max") (two2 fun i j => if j > i then j else i) .val := by
  refine ⟨_, call_max2 hc, fun F H vs ds z Q tr rs hg hq => ?_⟩
  unfold two2 at hg
  split at hg
  · cases hg
    obtain ⟨v, w, rfl, rv, rw'⟩ := Paired.two' rs
    exact ⟨_, _, by rw [rv.int, rw'.int], hq _ F H Ext.refl (.int _)⟩
  · cases hg
theorem dc_min2 (hc : X.calm = true) : DCall X (.builtin "min") (two2 fun i j => if j < i then j else i) .val := by
  refine ⟨_, call_min2 hc, fun F H vs ds z Q tr rs hg hq => ?_⟩
  unfold two2 at hg
  split at hg
  · cases hg
    obtain ⟨v, w, rfl, rv, rw'⟩ := Paired.two' rs
    exact ⟨_, _, by rw [rv.int, rw'.int], hq _ F H Ext.refl (.int _)⟩
  · cases hg
/-- list(x), tuple(x) -/
def listD : D → Option D
  | .lst xs => some (.lst xs)
  | .tup xs => some (.lst xs)
  | .fzl xs => some (.lst xs)
  | _ => none
theorem dc_list : DCall X (.type "list") (one1 listD) .own := by
  refine ⟨_, call_list_of, fun F H vs ds z Q tr rs hg hq => ?_⟩
  unfold one1 at hg
  split at hg
  · obtain ⟨v, rfl, rv⟩ := Paired.one' rs
    unfold listD at hg
    split at hg
    · cases hg
      obtain ⟨a, vs, rfl, ha, ra⟩ := rv.lst
      exact ⟨a, vs, rfl, .inl (.inl (.inl ha)), fun q hq' => hq _ F _ (Ext.new hq') (new_lst hq' ra)⟩
    · cases hg
      obtain ⟨a, vs, rfl, ha, ra⟩ := rv.tup
      exact ⟨a, vs, rfl, .inr ha.sq, fun q hq' => hq _ F _ (Ext.new hq') (new_lst hq' ra)⟩
    · cases hg
      obtain ⟨a, vs, rfl, ha, ra⟩ := rv.fzl
      exact ⟨a, vs, rfl, .inl ha.sq, fun q hq' => hq _ F _ (Ext.new hq') (new_lst hq' ra)⟩
    · cases hg
  · cases hg
def tupleD : D → Option D
  | .lst xs => some (.tup xs)
  | .tup xs => some (.tup xs)
  | .fzl xs => some (.tup xs)
  | _ => none
theorem dc_tuple : DCall X (.type "tuple") (one1 tupleD) .val := by
  refine ⟨_, call_tuple_of, fun F H vs ds z Q tr rs hg hq => ?_⟩
  unfold one1 at hg
  split at hg
  · obtain ⟨v, rfl, rv⟩ := Paired.one' rs
    unfold tupleD at hg
    split at hg
    · cases hg
      obtain ⟨a, vs, rfl, ha, ra⟩ := rv.lst
      exact ⟨a, vs, rfl, .inl ⟨.inl (.inl ha), fun q hq' => hq _ _ _ (Ext.newF hq') (new_tup hq' ra)⟩⟩
    · cases hg
      obtain ⟨a, vs, rfl, ha, ra⟩ := rv.tup
      exact ⟨a, vs, rfl, .inr ⟨ha.sq, hq _ F H Ext.refl (.tup ha ra)⟩⟩
    · cases hg
      obtain ⟨a, vs, rfl, ha, ra⟩ := rv.fzl
      exact ⟨a, vs, rfl, .inl ⟨ha.sq, fun q hq' => hq _ _ _ (Ext.newF hq') (new_tup hq' ra)⟩⟩
    · cases hg
  · cases hg
/-- a list's asIs, bools -/
def asIs : List D → Option (List Int)
  | [] => some []
  | .int i :: r => (asIs r).map (i :: ·)
  | _ => none
def asBs : List D → Option (List Bool)
  | [] => some []
  | .bl i :: r => (asBs r).map (i :: ·)
  | _ => none
theorem Reps.ints_ {X : Txt} : ∀ {vs : List V} {ds : List D} {ns : List Int}, Reps X F H vs ds → asIs ds = some ns → vs = ns.map V.int ∧ ds = ns.map D.int
  | _, _, _, .nil, e => by cases e; exact ⟨rfl, rfl⟩
  | _, _, _, .cons (d := d) (ds := ds) a r, e => by
    cases d with
    | int i =>
      have e' : (Pu.asIs ds).map (i :: ·) = some _ := e
      obtain ⟨ns', e1, e2⟩ := Option.map_eq_some_iff.mp e'
      subst e2
      obtain ⟨h1, h2⟩ := Reps.ints_ r e1
      cases a
      exact ⟨by rw [h1]; rfl, by rw [h2]; rfl⟩
    | _ => cases e
theorem Reps.bls_ {X : Txt} : ∀ {vs : List V} {ds : List D} {ns : List Bool}, Reps X F H vs ds → asBs ds = some ns → vs = ns.map V.bl
  | _, _, _, .nil, e => by cases e; rfl
  | _, _, _, .cons (d := d) (ds := ds) a r, e => by
    cases d with
    | bl i =>
      have e' : (Pu.asBs ds).map (i :: ·) = some _ := e
      obtain ⟨ns', e1, e2⟩ := Option.map_eq_some_iff.mp e'
      subst e2
      cases a
      rw [Reps.bls_ r e1]; rfl
    | _ => cases e
theorem reps_ints {X : Txt} : ∀ ns : List Int, Reps X F H (ns.map V.int) (ns.map D.int)
  | [] => .nil
  | i :: r => .cons (.int i) (reps_ints r)
/-- a list (own, frozen or locked) of asIs -/
def onInts (g : List Int → Option D) : D → Option D
  | .lst ds => (asIs ds).bind g
  | .fzl ds => (asIs ds).bind g
  | _ => none
theorem onInts_of {X : Txt} {v : V} {d z : D} {g : List Int → Option D} (rv : Bo X F H v d) (h : onInts g d = some z) : ∃ a ns, v = .ref a ∧ SqL X.K H a (ns.map V.int) ∧ g ns = some z := by
  unfold onInts at h
  split at h
  · obtain ⟨ns, h1, h2⟩ := Option.bind_eq_some_iff.mp h
    obtain ⟨a, vs, rfl, ha, ra⟩ := rv.lst
    obtain ⟨e1, _⟩ := ra.ints_ h1
    subst e1
    exact ⟨a, ns, rfl, .inl (.inl ha), h2⟩
  · obtain ⟨ns, h1, h2⟩ := Option.bind_eq_some_iff.mp h
    obtain ⟨a, vs, rfl, ha, ra⟩ := rv.fzl
    obtain ⟨e1, _⟩ := ra.ints_ h1
    subst e1
    exact ⟨a, ns, rfl, ha.sq, h2⟩
  · cases h
def sumI : List Int → Int
  | [] => 0
  | i :: r => i + sumI r
theorem sumI_eq : ∀ ns : List Int, sumI ns = ns.sum
  | [] => rfl
  | i :: r => by simp [sumI, sumI_eq r]
theorem dc_sum (hc : X.calm = true) : DCall X (.builtin "sum") (one1 (onInts fun ns => some (.int (sumI ns)))) .val := dcall1 (cr_sum hc) fun F H v d z Q tr rv hg hq => by
  obtain ⟨a, ns, rfl, hs, e⟩ := onInts_of rv hg
  cases e
  exact ⟨a, ns, rfl, hs, hq _ (by rw [sumI_eq]; exact .int _)⟩
def maxI : List Int → Option Int
  | [] => none
  | i :: r => some (r.foldl (fun m j => if m < j then j else m) i)
def minI : List Int → Option Int
  | [] => none
  | i :: r => some (r.foldl (fun m j => if j < m then j else m) i)
theorem foldl_max : ∀ (r : List Int) (i : Int), (r.foldl (fun m j => if m < j then j else m) i = i ∨ r.foldl (fun m j => if m < j then j else m) i ∈ r) ∧ i ≤ r.foldl (fun m j => if m < j then j else m) i ∧ ∀ j ∈ r, j ≤ r.foldl (fun m j => if m < j then j else m) i
  | [], i => ⟨.inl rfl, Int.le_refl i, fun _ h => nomatch h⟩
  | k :: r, i => by
    obtain ⟨h1, h2, h3⟩ := foldl_max r (if i < k then k else i)
    simp only [List.foldl_cons]
    refine ⟨?_, ?_, fun j hj => ?_⟩
    · rcases h1 with h1 | h1
      · rw [h1]
        split
        · exact .inr List.mem_cons_self
        · exact .inl rfl
      · exact .inr (List.mem_cons_of_mem _ h1)
    · refine Int.le_trans ?_ h2
      split <;> omega
    · rcases List.mem_cons.mp hj with e | hj
      · subst e
        refine Int.le_trans ?_ h2
        split <;> omega
      · exact h3 j hj
theorem foldl_min : ∀ (r : List Int) (i : Int), (r.foldl (fun m j => if j < m then j else m) i = i ∨ r.foldl (fun m j => if j < m then j else m) i ∈ r) ∧ r.foldl (fun m j => if j < m then j else m) i ≤ i ∧ ∀ j ∈ r, r.foldl (fun m j => if j < m then j else m) i ≤ j
  | [], i => ⟨.inl rfl, Int.le_refl i, fun _ h => nomatch h⟩
  | k :: r, i => by
    obtain ⟨h1, h2, h3⟩ := foldl_min r (if k < i then k else i)
    simp only [List.foldl_cons]
    refine ⟨?_, ?_, fun j hj => ?_⟩
    · rcases h1 with h1 | h1
      · rw [h1]
        split
        · exact .inr List.mem_cons_self
        · exact .inl rfl
      · exact .inr (List.mem_cons_of_mem _ h1)
    · refine Int.le_trans h2 ?_
      split <;> omega
    · rcases List.mem_cons.mp hj with e | hj
      · subst e
        refine Int.le_trans h2 ?_
        split <;> omega
      · exact h3 j hj
theorem dc_max (hc : X.calm = true) : DCall X (.builtin "max") (one1 (onInts fun ns => (maxI ns).map .int)) .val := dcall1 (cr_max hc) fun F H v d z Q tr rv hg hq => by
  obtain ⟨a, ns, rfl, hs, e⟩ := onInts_of rv hg
  cases ns with
  | nil => cases e
  | cons i r =>
    cases e
    obtain ⟨h1, h2, h3⟩ := foldl_max r i
    refine ⟨a, _, rfl, hs, by simp, fun m hm hle => ?_⟩
    have em : m = r.foldl (fun m j => if m < j then j else m) i := by
      refine Int.le_antisymm ?_ ?_
      · rcases List.mem_cons.mp hm with e | e
        · rw [e]; exact h2
        · exact h3 m e
      · rcases h1 with e | e
        · rw [e]; exact hle i List.mem_cons_self
        · exact hle _ (List.mem_cons_of_mem _ e)
    rw [em]
    exact hq _ (.int _)
theorem dc_min (hc : X.calm = true) : DCall X (.builtin "min") (one1 (onInts fun ns => (minI ns).map .int)) .val := dcall1 (cr_min hc) fun F H v d z Q tr rv hg hq => by
  obtain ⟨a, ns, rfl, hs, e⟩ := onInts_of rv hg
  cases ns with
  | nil => cases e
  | cons i r =>
    cases e
    obtain ⟨h1, h2, h3⟩ := foldl_min r i
    refine ⟨a, _, rfl, hs, by simp, fun m hm hle => ?_⟩
    have em : m = r.foldl (fun m j => if j < m then j else m) i := by
      refine Int.le_antisymm ?_ ?_
      · rcases h1 with e | e
        · rw [e]; exact hle i List.mem_cons_self
        · exact hle _ (List.mem_cons_of_mem _ e)
      · rcases List.mem_cons.mp hm with e | e
        · rw [e]; exact h2
        · exact h3 m e
    rw [em]
    exact hq _ (.int _)
def onBls (g : List Bool → Bool) : D → Option D
  | .lst ds => (asBs ds).map fun bs => .bl (g bs)
  | _ => none
def allB : List Bool → Bool
  | [] => true
  | c :: r => if c then allB r else false
def anyB : List Bool → Bool
  | [] => false
  | c :: r => if c then true else anyB r
theorem allB_eq : ∀ bs : List Bool, allB bs = bs.all id
  | [] => rfl
  | c :: r => by simp [allB, allB_eq r]
theorem anyB_eq : ∀ bs : List Bool, anyB bs = bs.any id
  | [] => rfl
  | c :: r => by simp [anyB, anyB_eq r]
theorem onBls_of {X : Txt} {v : V} {d z : D} {g : List Bool → Bool} (rv : Bo X F H v d) (h : onBls g d = some z) : ∃ a ns, v = .ref a ∧ SqL X.K H a (ns.map V.bl) ∧ z = .bl (g ns) := by
  unfold onBls at h
  split at h
  · obtain ⟨ns, h1, h2⟩ := Option.map_eq_some_iff.mp h
    obtain ⟨a, vs, rfl, ha, ra⟩ := rv.lst
    have e1 := ra.bls_ h1
    subst e1
    exact ⟨a, ns, rfl, .inl (.inl ha), h2.symm⟩
  · cases h
theorem dc_all (hc : X.calm = true) : DCall X (.builtin "all") (one1 (onBls allB)) .val := dcall1 (cr_all hc) fun F H v d z Q tr rv hg hq => by
  obtain ⟨a, ns, rfl, hs, rfl⟩ := onBls_of rv hg
  exact ⟨a, ns, rfl, hs, hq _ (by rw [allB_eq]; exact .bl _)⟩
theorem dc_any (hc : X.calm = true) : DCall X (.builtin "any") (one1 (onBls anyB)) .val := dcall1 (cr_any hc) fun F H v d z Q tr rv hg hq => by
  obtain ⟨a, ns, rfl, hs, rfl⟩ := onBls_of rv hg
  exact ⟨a, ns, rfl, hs, hq _ (by rw [anyB_eq]; exact .bl _)⟩
/-- sorted asIs -/
def insI (i : Int) : List Int → List Int
  | [] => [i]
  | j :: r => if i ≤ j then i :: j :: r else j :: insI i r
def sortI : List Int → List Int
  | [] => []
  | i :: r => insI i (sortI r)
theorem insI_perm (i : Int) : ∀ r, (insI i r).Perm (i :: r)
  | [] => .refl _
  | j :: r => by
    unfold insI
    split
    · exact .refl _
    · exact ((insI_perm i r).cons j).trans (.swap i j r)
theorem sortI_perm : ∀ r, (sortI r).Perm r
  | [] => .refl _
  | i :: r => (insI_perm i (sortI r)).trans ((sortI_perm r).cons i)
theorem insI_sorted (i : Int) : ∀ r, r.Pairwise (· ≤ ·) → (insI i r).Pairwise (· ≤ ·)
  | [], _ => by simp [insI]
  | j :: r, h => by
    obtain ⟨h1, h2⟩ := List.pairwise_cons.mp h
    unfold insI
    split
    · rename_i hij
      refine List.pairwise_cons.mpr ⟨fun k hk => ?_, h⟩
      rcases List.mem_cons.mp hk with e | e
      · rw [e]; exact hij
      · exact Int.le_trans hij (h1 k e)
    · rename_i hij
      refine List.pairwise_cons.mpr ⟨fun k hk => ?_, insI_sorted i r h2⟩
      rcases List.mem_cons.mp ((insI_perm i r).mem_iff.mp hk) with e | e
      · rw [e]; omega
      · exact h1 k e
theorem sortI_sorted : ∀ r, (sortI r).Pairwise (· ≤ ·)
  | [] => .nil
  | i :: r => insI_sorted i _ (sortI_sorted r)
theorem sort_uniq : ∀ {xs ys : List Int}, xs.Perm ys → xs.Pairwise (· ≤ ·) → ys.Pairwise (· ≤ ·) → xs = ys
  | [], ys, h, _, _ => by simpa using h.symm.eq_nil
  | x :: xs, [], h, _, _ => by simp at h
  | x :: xs, y :: ys, h, h1, h2 => by
    obtain ⟨a1, a2⟩ := List.pairwise_cons.mp h1
    obtain ⟨b1, b2⟩ := List.pairwise_cons.mp h2
    have hx : x ∈ y :: ys := h.mem_iff.mp List.mem_cons_self
    have hy : y ∈ x :: xs := h.mem_iff.mpr List.mem_cons_self
    have e : x = y := by
      rcases List.mem_cons.mp hx with e | e
      · exact e
      · rcases List.mem_cons.mp hy with e' | e'
        · exact e'.symm
        · exact Int.le_antisymm (a1 y e') (b1 x e)
    subst e
    rw [sort_uniq (List.Perm.cons_inv h) a2 b2]
theorem dc_sortedI : DCall X (.builtin "sorted") (one1 (onInts fun ns => some (.lst ((sortI ns).map .int)))) .own := by
  refine ⟨_, cr_sortedI, fun F H vs ds z Q tr rs hg hq => ?_⟩
  unfold one1 at hg
  split at hg
  · obtain ⟨v, rfl, rv⟩ := Paired.one' rs
    obtain ⟨a, ns, rfl, hs, e⟩ := onInts_of rv hg
    cases e
    refine ⟨a, ns, rfl, hs, fun ns' q hp hs' hq' => ?_⟩
    have e : ns' = sortI ns := sort_uniq (hp.trans (sortI_perm ns).symm) hs' (sortI_sorted ns)
    subst e
    exact hq _ F _ (Ext.new hq') (new_lst hq' (reps_ints _))
  · cases hg
def keysI (es : List (D × D)) : Option (List Int) := asIs (es.map (·.1))
def sortedK : D → Option D
  | .dct false es => (keysI es).bind fun ks => if ks.length < 64 then some (.lst ((sortI ks).map .int)) else none
  | _ => none
theorem RepK.keys {X : Txt} : ∀ {kvs : List (D × V)} {es : List (D × D)}, RepK X F H kvs es → kvs.map (·.1) = es.map (·.1)
  | _, _, .nil => rfl
  | _, _, .cons a r => by simp [RepK.keys r]
theorem ints_kD : ∀ {ks : List Key} {ns : List Int}, asIs (ks.map kD) = some ns → ks = ns.map Sum.inl
  | [], _, h => by cases h; rfl
  | .inl i :: ks, _, h => by
    have e' : (Pu.asIs (ks.map kD)).map (i :: ·) = some _ := h
    obtain ⟨ns', e1, e2⟩ := Option.map_eq_some_iff.mp e'
    subst e2
    rw [ints_kD e1]; rfl
  | .inr i :: ks, _, h => by cases h
theorem dc_sortedK (hc : X.calm = true) : DCall X (.builtin "sorted") (one1 sortedK) .own := by
  refine ⟨_, call_sortedDI hc, fun F H vs ds z Q tr rs hg hq => ?_⟩
  unfold one1 at hg
  split at hg
  · obtain ⟨v, rfl, rv⟩ := Paired.one' rs
    unfold sortedK at hg
    split at hg
    · obtain ⟨ns, h1, h2⟩ := Option.bind_eq_some_iff.mp hg
      split at h2
      · cases h2
        obtain ⟨a, o, kvs, rfl, e, q, r⟩ := rv.dct
        cases q with
        | k kvs =>
          have hk := r.keys
          rw [List.map_map] at hk
          unfold keysI at h1
          rw [← hk] at h1
          have ek : kvs.map (·.1) = ns.map Sum.inl := ints_kD (ks := kvs.map (·.1)) (by rw [List.map_map]; exact h1)
          refine ⟨a, kvs, ns, rfl, .inl e, ek, ‹_›, fun ys q hp hs hq' => ?_⟩
          have e : ys = sortI ns := sort_uniq (hp.trans (sortI_perm ns).symm) hs (sortI_sorted ns)
          subst e
          exact hq _ F _ (Ext.new hq') (new_lst hq' (reps_ints _))
      · cases h2
    · cases hg
  · cases hg
end
end Pu

set_option maxHeartbeats 4000000
/-! PuL: isinstance. -/
namespace Pu
open PySem PySem.Spec PyProof.Rows L2
def tyS : D → Option String
  | .non => some "NoneType"
  | .bl _ => some "bool"
  | .int _ => some "int"
  | .str _ => some "str"
  | .tup _ => some "tuple"
  | .lst _ => some "list"
  | .dct _ _ => some "dict"
  | _ => none
def isiI : D → Option D
  | .non => some (.bl false) | .bl _ => some (.bl true) | .int _ => some (.bl true) | .str _ => some (.bl false) | .tup _ => some (.bl false) | .lst _ => some (.bl false) | .dct _ _ => some (.bl false)
  | _ => none
def isiB : D → Option D
  | .non => some (.bl false) | .bl _ => some (.bl true) | .int _ => some (.bl false) | .str _ => some (.bl false) | .tup _ => some (.bl false) | .lst _ => some (.bl false) | .dct _ _ => some (.bl false)
  | _ => none
def isiS : D → Option D
  | .non => some (.bl false) | .bl _ => some (.bl false) | .int _ => some (.bl false) | .str _ => some (.bl true) | .tup _ => some (.bl false) | .lst _ => some (.bl false) | .dct _ _ => some (.bl false)
  | _ => none
def isiT : D → Option D
  | .non => some (.bl false) | .bl _ => some (.bl false) | .int _ => some (.bl false) | .str _ => some (.bl false) | .tup _ => some (.bl true) | .lst _ => some (.bl false) | .dct _ _ => some (.bl false)
  | _ => none
def isiL : D → Option D
  | .non => some (.bl false) | .bl _ => some (.bl false) | .int _ => some (.bl false) | .str _ => some (.bl false) | .tup _ => some (.bl false) | .lst _ => some (.bl true) | .dct _ _ => some (.bl false)
  | _ => none
/-- isinstance's answer by the value's own type -/
def Isi (T : String) (g : D → Option D) : Prop := ∀ K d z, g d = some z → ∃ t b, tyS d = some t ∧ PySem.W.kitOne K (.type t) (.type T) = some b ∧ z = .bl b
theorem isi_int : Isi "int" isiI := fun K d z h => by
  cases d <;> first | (cases h; done) | (cases h; exact ⟨_, _, rfl, rfl, rfl⟩)
theorem isi_bool : Isi "bool" isiB := fun K d z h => by
  cases d <;> first | (cases h; done) | (cases h; exact ⟨_, _, rfl, rfl, rfl⟩)
theorem isi_str : Isi "str" isiS := fun K d z h => by
  cases d <;> first | (cases h; done) | (cases h; exact ⟨_, _, rfl, rfl, rfl⟩)
theorem isi_tuple : Isi "tuple" isiT := fun K d z h => by
  cases d <;> first | (cases h; done) | (cases h; exact ⟨_, _, rfl, rfl, rfl⟩)
theorem isi_list : Isi "list" isiL := fun K d z h => by
  cases d <;> first | (cases h; done) | (cases h; exact ⟨_, _, rfl, rfl, rfl⟩)
section
variable {X : Cx} {W : WX} {rm : Md} {κ κ' κ1 κ2 κ3 κn κb κc : List Kd} {p p1 p2 p3 : Bool} {b b1 b2 b3 : Md} {F F' F1 : Fz} {H H' H1 : Hp} {σ : SS} {ρ ρ' : En} {O O' O1 : List Addr} {a c e : Expr} {pos : Pos} {st : Stmt} {sts : List Stmt} {E : Ends}
theorem Bo.tyX {v : V} {d : D} {t : String} (h : Bo X F H v d) (e : tyS d = some t) : TyX X.K H v (.type t) := by
  cases d with
  | non => cases e; rw [h.non]; exact .base .non
  | bl _ => cases e; rw [h.bl]; exact .base (.bl _)
  | int _ => cases e; rw [h.int]; exact .base (.int _)
  | str _ => cases e; rw [h.str]; exact .base (.str _)
  | tup _ => cases e; obtain ⟨a, vs, rfl, ha, _⟩ := h.tup; exact .base (.tup ha.2)
  | lst _ => cases e; obtain ⟨a, vs, rfl, ha, _⟩ := h.lst; exact .base (.lst ha)
  | dct _ _ =>
    cases e
    obtain ⟨a, o, kvs, rfl, e, q, _⟩ := h.dct
    cases q with
    | k _ => exact .base (.dK e)
    | t _ => exact .base (.dT e)
  | _ => cases e
def eIsi (g : D → Option D) (f : Fe) : Fe := fun ρ => (f ρ).bind fun d ρ1 => Out.of (g d) ρ1
theorem de_isi {T : String} {x : Str} {pp pT : Pos} {f : Fe} {g : D → Option D} (hi : Isi T g) (hm : X.mg "isinstance" = none) (hmT : X.mg x = none) (hv : bootBuiltins x = some (.type T)) (ha : DE X W κ e κ' p b f) (hg : Gl X "isinstance" := by rfl) (hgT : Gl X x := by rfl)
    (hn : x ≠ "__name__" := by decide) (hdb : (x == ("__debug__" : Str)) = false := by decide) (he : starEach [e, .Name x pT] X.env = (false, eval e X.env) :: starEach [.Name x pT] X.env := by rfl) (he2 : starEach [.Name x pT] X.env = (false, eval (.Name x pT) X.env) :: starEach [] X.env := by rfl) (hpl : (backTo pos (starEach [.Name x pT] X.env)).any (·.1) = false := by rfl) :
    DE X W κ (.Call (.Name "isinstance" pp) [e, .Name x pT] [] pos) κ' p .val (eIsi g f) := by
  obtain ⟨⟨t, pt, ht⟩, io⟩ := ha
  refine ⟨⟨_, pe_callB call_isi hg hm (by rfl) (pa_cons pt (pa_cons (pe_bltn (v := .ty T) hgT hmT hv rfl hn hdb) pa_nil he2) he) (by decide) (by decide) he hpl, fun F H σ ρ O Q s h => ht F H σ ρ O _ s ?_⟩, io⟩
  unfold eIsi Out.bind at h
  unfold PostE
  cases ea : f ρ with
  | bad => simp only [ea] at h; exact h
  | ex x ρ1 => simp only [ea] at h; exact h
  | ok d ρ1 =>
    simp only [ea] at h
    intro v F1 H1 O1 st1 s1 pu1 r1
    cases eg : g d with
    | none => simp only [eg, Out.of] at h; exact h.elim
    | some z =>
      simp only [eg, Out.of] at h
      obtain ⟨t, b, h1, h2, rfl⟩ := hi X.K d z eg
      exact ⟨v, .ty T, _, _, b, rfl, .ty T, r1.bo.tyX h1, h2, h _ F1 H1 O1 st1 s1 pu1 (.bl b)⟩
end
end Pu

set_option maxHeartbeats 4000000
/-! PuM: a text's facts, its defs by name. -/
namespace Pu
open PySem PySem.Spec PyProof.Rows L2
/-- what of the text stands behind its head -/
structure Tex (fa : List He.Fa) (fn : List He.FnD) (K : PySem.W.Frag) (mg : Str → Option Value) : Prop where
  h : ∃ h : Heap, K.In h ∧ h.Ns mainGlobals mg
  c : He.SaysE fa fn K
section
variable {fa : List He.Fa} {fn : List He.FnD} {K : PySem.W.Frag} {mg : Str → Option Value}
theorem Tex.glo (T : Tex fa fn K mg) {x : Str} (i : Nat) (e : fa[i]? = some (.glo x) := by rfl) : mg x = some (.ref (He.ga K x)) := by
  obtain ⟨h, X, G⟩ := T.h
  exact He.glo_ok X G (T.c.fact i e)
theorem Tex.free (T : Tex fa fn K mg) {x : Str} (i : Nat) (e : fa[i]? = some (.free x) := by rfl) : mg x = none := by
  obtain ⟨h, X, G⟩ := T.h
  exact He.free_ok X G (T.c.fact i e)
theorem Tex.int (T : Tex fa fn K mg) {x : Str} {z : Int} (i : Nat) (e : fa[i]? = some (.int x z) := by rfl) : ∃ t, mg x = some (.int z t) := by
  obtain ⟨h, X, G⟩ := T.h
  exact He.int_ok X G (T.c.fact i e)
theorem Tex.str (T : Tex fa fn K mg) {x z : Str} (i : Nat) (e : fa[i]? = some (.str x z) := by rfl) : ∃ t, mg x = some (.str z t) := by
  obtain ⟨h, X, G⟩ := T.h
  exact He.str_ok X G (T.c.fact i e)
/-- a def of the module -/
def dOf (x : Str) (st : Stmt) : He.FnD := ⟨(x, none), x, x, defArgs st, defBody st, defScope st⟩
theorem Tex.fun_ (T : Tex fa fn K mg) {x : Str} {st : Stmt} (i j : Nat) (e : fn[i]? = some (dOf x st)) (ek : fa[j]? = some (.keep x)) : ∃ fd, Fun K x x st (He.ga K x) fd := by
  obtain ⟨oc, od, osl, kV, doc, pm, an, cdv, ct, lk, hc⟩ := T.c.def_ i e
  exact ⟨_, fun_mk lk hc (He.keep_ok (T.c.fact j ek))⟩
end
/-- a def's promise, with what a call of it leans on -/
def FnK (P : Program) (w : World) (K : PySem.W.Frag) (mg : Str → Option Value) (base : Heap) (x : Str) (lv : Nat) (ps : List Str) (rm : Md) (fl : List Bool) (m : En → Out D) : Prop :=
  ∃ fd, FnOk P w K mg base (L2.CX P w) lv (He.ga K x) fd ps (SpM ⟨K, mg⟩ rm fl m) ∧ (∀ us : List Value, us.length = ps.length → bindArgs fd ⟨us, []⟩ = pure (ps.zip us)) ∧ mg x = some (.ref (He.ga K x)) ∧ PySem.W.keepIn K (.ref (He.ga K x)) = true ∧ ∃ (oc : Value) (od : Option Addr) (osl : Array (Option Value)), K.lookup (He.ga K x) = some ⟨oc, od, .func fd, osl⟩
section
variable {P : Program} {w : World} {K : PySem.W.Frag} {mg : Str → Option Value} {base : Heap} {fa : List He.Fa} {fn : List He.FnD}
abbrev BindOk (x : Str) (st : Stmt) (ps : List Str) : Prop := ∀ (kV doc pm : Value) (an : Option Addr) (cdv ct : Value) (us : List Value), us.length = ps.length → bindArgs (PySem.W.fnOf x x (defArgs st) (defBody st) (defScope st) .none kV doc pm an cdv ct) ⟨us, []⟩ = pure (ps.zip us)
theorem FnK.of (T : Tex fa fn K mg) {x : Str} {st : Stmt} (i j : Nat) {N ps : List Str} {rm : Md} {k : Nat} (S : FnScope N ps (defScope st)) (fl : List Bool) (fb : Fs) (hbd : BindOk x st ps)
    (hb : ∀ (f : Addr) (cdv : Value) (A : Around) (outer : List Env) (s : Shared) (H : Hp) (E : XK), Room k (A.deeper (envOfC x (defScope st) s.heap.objs.size f cdv)) → ∀ q : Nat → Addr, ∃ κn,
      DB (cxOf (L2.CX P w) P w K mg base N x (defScope st) f cdv A outer s H E) (fun cls d _ H => E cls d H) rm [] [] (kF fl q 0 ++ List.replicate (N.length - fl.length) .fz) (defBody st) κn fb)
    (hfl : fl.length = ps.length := by rfl) (hN : ps.length ≤ N.length := by decide) (e : fn[i]? = some (dOf x st) := by rfl) (ek : fa[j]? = some (.keep x) := by rfl) (eg : fa[j + 1]? = some (.glo x) := by rfl) :
    FnK P w K mg base x (k + 1) ps rm fl (runM rm fl N.length fb) := by
  obtain ⟨fd, F⟩ := T.fun_ i j e ek
  refine ⟨fd, fn_ok F S fl fb hfl hN fun cdv A outer s H E hr q => hb _ cdv A outer s H E hr q, ?_, T.glo (j + 1) eg, F.kp, ?_⟩
  · obtain ⟨oc, od, kV, doc, pm, an, cdv, ct, osl, rfl, lk, hcd⟩ := F.ex
    exact hbd kV doc pm an cdv ct
  · obtain ⟨oc, od, kV, doc, pm, an, cdv, ct, osl, e, lk, hcd⟩ := F.ex
    exact ⟨oc, od, osl, lk⟩
end
section
variable {X : Cx} {W : WX} {rm : Md} {κ κ' κ1 κ2 : List Kd} {p p1 p2 : Bool} {b : Md} {F F' : Fz} {H H' : Hp} {σ : SS} {ρ ρ' : En} {O O' : List Addr} {e : Expr} {es : List Expr} {pos : Pos}
theorem de_fnk {k : Nat} {ps : List Str} {x : Str} {pp : Pos} {m : En → Out D} {bs : List Md} {ga : Fa} {fl : List Bool} (G : FnK X.prog X.w X.K X.mg X.base x k ps rm fl m) (hr : Room k X.A) (tk : Takes X W) (ha : DA X W κ (e :: es) κ' p bs ga) (hfl : fl = List.replicate (e :: es).length false := by rfl)
    (hbs : ∀ b ∈ bs, b = Md.val := by decide) (hg : Gl X x := by rfl) (hl : bs.length = (e :: es).length := by rfl)
    (hdb : (x == ("__debug__" : Str)) = false := by decide) (he : starEach (e :: es) X.env = (false, eval e X.env) :: starEach es X.env := by rfl) (hpl : (backTo pos (starEach es X.env)).any (·.1) = false := by rfl) :
    DE X W κ (.Call (.Name x pp) (e :: es) [] pos) κ' p rm (eFn m ga) := by
  obtain ⟨fd, G, hb', hm, hk, _⟩ := G
  have hb := Binds.all (K := X.K) hb'
  subst hfl
  exact de_call G hr hm hk hb tk ha rfl hbs hg hl hdb he hpl
theorem de_fnk0 {k : Nat} {x : Str} {pp : Pos} {m : En → Out D} {ps : List Str} (G : FnK X.prog X.w X.K X.mg X.base x k ps rm [] m) (hr : Room k X.A) (hg : Gl X x := by rfl) (hdb : (x == ("__debug__" : Str)) = false := by decide) :
    DE X W κ (.Call (.Name x pp) [] [] pos) κ true rm (eFn0 m) := by
  obtain ⟨fd, G, hb', hm, hk, _⟩ := G
  have hb := Binds.all (K := X.K) hb'
  exact de_call0 G hr hm hk hb hg hdb
theorem de_fnkI {k : Nat} {x y : Str} {i : Nat} {kd : Kd} {pp py : Pos} {m : En → Out D} {bs : List Md} {ga : Fa} {ps : List Str} {fl : List Bool} (G : FnK X.prog X.w X.K X.mg X.base x k ps .val fl m) (hr : Room k X.A)
    (tk : Takes X W) (ha : DA X W κ es κ' p bs ga) (hki : κ'[i]? = some kd) (hk0 : kd ≠ .fz := by exact kd_ne rfl) (hfl : fl = true :: List.replicate es.length false := by rfl) (hbs : ∀ b ∈ bs, b = Md.val := by decide) (hg : Gl X x := by rfl) (hl : bs.length = es.length := by rfl)
    (hN : X.N[i]? = some y := by rfl) (hv : Vis X.env.scope y := by first | exact Or.inl rfl | exact Or.inr (Or.inl rfl) | exact Or.inr (Or.inr rfl)) (hyd : (y == ("__debug__" : Str)) = false := by decide) (hyc : (y == ("__classdict__" : Str)) = false := by decide)
    (hdb : (x == ("__debug__" : Str)) = false := by decide) (he : starEach (.Name y py :: es) X.env = (false, eval (.Name y py) X.env) :: starEach es X.env := by rfl) (hpl : (backTo pos (starEach es X.env)).any (·.1) = false := by rfl) :
    DE X W κ (.Call (.Name x pp) (.Name y py :: es) [] pos) κ' false .val (eFnI m i ga) := by
  obtain ⟨fd, G, hb', hm, hk, _⟩ := G
  have hb := Binds.all (K := X.K) hb'
  subst hfl
  exact de_callI G hr hm hk hb tk ha hki hk0 rfl hbs hg hl hN hv hyd hyc hdb he hpl
end
end Pu

set_option maxHeartbeats 4000000
/-! PuN: one rule for each sign, whatever stands beside it. -/
namespace Pu
open PySem PySem.Spec PyProof.Rows L2
section
variable {X : Cx} {W : WX} {rm : Md} {κ κ' κ1 κ2 κ3 κn κb κc : List Kd} {p p1 p2 p3 : Bool} {b b1 b2 b3 : Md} {F F' F1 : Fz} {H H' H1 : Hp} {σ : SS} {ρ ρ' : En} {O O' O1 : List Addr} {a c e : Expr} {pos : Pos} {st : Stmt} {sts : List Stmt} {E : Ends}
theorem ix_dict (hu : X.A.units + 1 < cLine) : IxR X rDGet := by
  intro value slice pins s σ H x y v u Q I rx ry h hs
  obtain ⟨a, w, rfl, g, q⟩ := h
  cases rx
  have ty := dict_typeIs I g
  have get : wpAny (model X.prog X.w) X.A (getItem (.ref a) u) (EP X pins σ Q) X.xe s := d_getItem hu I g ry fun w' s3 I3 rw' => ⟨w, H, I3, rw', q⟩
  unfold subscriptTail
  refine wpAny_bind ?_
  rw [getitemInPython_of_ne ty.not_modules]
  refine wpAny_bind (wpAny_specialOf ty PySem.F.slot_dict_getitem.lookup ?_)
  have fin : wpAny (model X.prog X.w) X.A (subscripted slice false (.ref a) u)
      (fun r s₃ => wpAny (model X.prog X.w) X.A (letTemporaryGo value (.ref a) r >>= fun _ => pure r) (EP X pins σ Q) X.xe s₃) X.xe s := by
    rw [hs]
    refine wpAny_operating (wpAny_mono get (fun r s₃ h₃ => ?_) fun _ _ z => z)
    exact wpAny_bind (wpAny_letTemporaryGo (wpAny_pure h₃))
  first | exact wpAny_pure (wpAny_bind fin) | exact wpAny_bind (wpAny_pure (wpAny_bind fin)) | exact wpAny_bind fin
theorem DIx.or {g g' h : D → D → Option D} (x : DIx X g b) (x' : DIx X g' b) (hh : ∀ d e z, h d e = some z → g d e = some z ∨ g' d e = some z) : DIx X h b := by
  obtain ⟨r, o, k⟩ := x
  obtain ⟨r', o', k'⟩ := x'
  refine ⟨_, IxR.or o o', fun F H x y d e z Q tr hx hy hg hq => ?_⟩
  rcases hh d e z hg with q | q
  · exact .inl (k F H x y d e z Q tr hx hy q hq)
  · exact .inr (k' F H x y d e z Q tr hx hy q hq)
/-- xs[i], d[k] -/
def getD : D → D → Option D := fun d e => match d with
  | .dct _ _ => dgetD d e
  | _ => ixD d e
theorem dix_any (hu : X.A.units + 64 < cLine) : DIx X getD .val := DIx.or dix ⟨_, ix_dict (by omega), r2_dget⟩ fun d e z h => by
  unfold getD at h
  split at h
  · exact .inr h
  · exact .inl h
/-- x in xs, flat ones -/
def inFl (n : Bool) : D → D → Option D := fun e d => match d with
  | .tup xs => if flatD e && xs.all flatD then some (.bl (if n then !xs.any fun z => eqv z e else xs.any fun z => eqv z e)) else none
  | .lst xs => if flatD e && xs.all flatD then some (.bl (if n then !xs.any fun z => eqv z e else xs.any fun z => eqv z e)) else none
  | _ => none
/-- k in d, x in xs -/
def inD (n : Bool) : D → D → Option D := fun e d => match d with
  | .dct _ _ => inDct n e d
  | _ => inSeq n e d
theorem dop_in (hr : X.A.units + 65 < cLine) : DOp X (compareOp .In) (inD false) .val := DOp.or (dop_din (by omega)) (dop_inL hr) fun d e z h => by
  unfold inD at h
  split at h
  · exact .inl h
  · exact .inr h
theorem dop_notin (hr : X.A.units + 65 < cLine) : DOp X (compareOp .NotIn) (inD true) .val := DOp.or (dop_dnotin (by omega)) (dop_notinL hr) fun d e z h => by
  unfold inD at h
  split at h
  · exact .inl h
  · exact .inr h
/-! ### repetition -/
def repL {α : Type} (xs : List α) : Nat → List α
  | 0 => []
  | n + 1 => xs ++ repL xs n
theorem repL_eq {α : Type} (xs : List α) : ∀ n, repL xs n = (List.replicate n xs).flatten
  | 0 => rfl
  | n + 1 => by simp [repL, List.replicate_succ, repL_eq xs n]
theorem Reps.rep {X : Txt} {vs : List V} {ds : List D} (r : Reps X F H vs ds) : ∀ n, Reps X F H (repL vs n) (repL ds n)
  | 0 => .nil
  | n + 1 => r.app (Reps.rep r n)
def mulL : D → D → Option D := fun d e => match d, e with
  | .lst xs, .int k => if in62 k && decide (xs.length * k.toNat ≤ sizeLine) then some (.lst (repL xs k.toNat)) else none
  | _, _ => none
theorem dop_mulL : DOp X (binaryOp .Mult) mulL .own := by
  refine ⟨_, op_rep, fun F H x y d e z Q tr hx hy hg hq => ?_⟩
  unfold mulL at hg
  split at hg
  · split at hg
    · cases hg
      obtain ⟨h1, h2⟩ := Bool.and_eq_true_iff.mp ‹_›
      obtain ⟨q1, q2⟩ := in62_ok h1
      obtain ⟨a, vs, rfl, ha, ra⟩ := hx.lst
      refine ⟨a, _, vs, rfl, hy.int, ha, by omega, by omega, by rw [ra.len]; exact of_decide_eq_true h2, fun q hq' => ?_⟩
      rw [← repL_eq]
      exact hq _ F _ (Ext.new hq') (new_lst hq' (ra.rep _))
    · cases hg
  · cases hg
def mulT : D → D → Option D := fun d e => match d, e with
  | .tup (x :: xs), .int k => if decide (2 ≤ k) && (decide (k ≤ 1000) && decide ((x :: xs).length ≤ 1000)) then some (.tup (repL (x :: xs) k.toNat)) else none
  | _, _ => none
theorem dop_mulT : DOp X (binaryOp .Mult) mulT .val := by
  refine ⟨_, op_repT, fun F H x y d e z Q tr hx hy hg hq => ?_⟩
  unfold mulT at hg
  split at hg
  · split at hg
    · cases hg
      obtain ⟨h1, h2⟩ := Bool.and_eq_true_iff.mp ‹_›
      obtain ⟨h2, h3⟩ := Bool.and_eq_true_iff.mp h2
      obtain ⟨a, vs, rfl, ha, ra⟩ := hx.tup
      refine ⟨a, _, vs, rfl, hy.int, ha.sq, ?_, of_decide_eq_true h1, of_decide_eq_true h2, by rw [ra.len]; exact of_decide_eq_true h3, fun q hq' => ?_⟩
      · intro z
        subst z
        cases ra
      · rw [← repL_eq]
        exact hq _ _ _ (Ext.newF hq') (new_tup hq' (ra.rep _))
    · cases hg
  · cases hg
def mulD : D → D → Option D := fun d e => match d with
  | .int _ => mulI d e
  | .lst _ => mulL d e
  | _ => mulT d e
theorem dop_mul : DOp X (binaryOp .Mult) mulD .val := DOp.or (g := mulI) (g' := fun d e => (mulL d e).or (mulT d e)) dop_mulI (DOp.or dop_mulL.frz dop_mulT fun _ _ _ => or_some) fun d e z h => by
  unfold mulD at h
  split at h
  · exact .inl h
  · refine .inr ?_
    show (mulL _ e).or _ = _
    rw [h]; rfl
  · rename_i d' h1 h2
    refine .inr ?_
    cases q : mulL d e with
    | none => exact h
    | some u =>
      cases d with
      | lst xs => exact absurd rfl (h2 xs)
      | _ => cases q
/-! ### sorted -/
def sortedD : D → Option D
  | .dct t es => sortedK (.dct t es)
  | d => onInts (fun ns => some (.lst ((sortI ns).map .int))) d
theorem dc_sorted (hc : X.calm = true) : DCall X (.builtin "sorted") (one1 sortedD) .own := DCall.or dc_sortedI (dc_sortedK hc) fun ds z h => by
  unfold one1 at *
  split at h
  · unfold sortedD at h
    split at h
    · exact .inr h
    · exact .inl h
  · cases h
/-! ### kinds behind a statement that does not come to its end -/
inductive IoL : List Kd → List Kd → Prop
  | nil : IoL [] []
  | same {k : Kd} {ks ls : List Kd} : IoL ks ls → IoL (k :: ks) (k :: ls)
  | fz {k : Kd} {ks ls : List Kd} : IoL ks ls → IoL (k :: ks) (.fz :: ls)
  | ow {k : Kd} {ks ls : List Kd} : IoL ks ls → IoL (k :: ks) (.ow :: ls)
theorem IoL.io {ks ls : List Kd} (h : IoL ks ls) : Io ks ls := by
  induction h with
  | nil => exact Io.refl
  | same h ih =>
    refine ⟨by simp [ih.1], fun i p e => ?_⟩
    cases i with
    | zero => exact e
    | succ i => simpa using ih.2 i p (by simpa using e)
  | fz h ih =>
    refine ⟨by simp [ih.1], fun i p e => ?_⟩
    cases i with
    | zero => cases e
    | succ i => simpa using ih.2 i p (by simpa using e)
  | ow h ih =>
    refine ⟨by simp [ih.1], fun i p e => ?_⟩
    cases i with
    | zero => cases e
    | succ i => simpa using ih.2 i p (by simpa using e)
theorem rm65 {k : Nat} {A : Around} (r : Room k A) : A.units + 65 < cLine := by have := r.un; omega
theorem rm64 {k : Nat} {A : Around} (r : Room k A) : A.units + 64 < cLine := by have := r.un; omega
theorem rm1 {k : Nat} {A : Around} (r : Room k A) : A.units + 1 < cLine := by have := r.un; omega
/-! ### what is walked: a list, a tuple, the script -/
theorem src_fzl {T : Txt} {F1 : Fz} {H1 : Hp} {a : Addr} {vs : List V} {ds : List D} (ha : FS T F1 H1 a vs) (r : Reps T F1 H1 vs ds) : Src T F1 H1 (Itl T.K a) ds := by
  intro F H k tr i
  have ha' := (ha.keep k).sq
  have r' := Reps.keep k _ r
  have un : ∀ {ws : List V}, SqL T.K H a ws → True := fun _ => trivial
  refine ⟨fun hi => ?_, fun hi => ⟨vs, ha', by rw [r'.len]; exact hi⟩⟩
  obtain ⟨v, hv, rv⟩ := r'.getD (List.getElem?_eq_getElem hi)
  refine ⟨⟨vs, v, ha', hv⟩, fun x H' hy => ?_⟩
  obtain ⟨rfl, hy⟩ := hy
  have e := hy vs ha'
  rw [hv] at e; cases e
  exact ⟨F, Ext.refl, _, List.getElem?_eq_getElem hi, rv⟩
def iSeq (f : Fe) : Fa := fun ρ => (f ρ).bind fun d ρ1 => match d with
  | .lst ds => .ok ds ρ1
  | .tup ds => .ok ds ρ1
  | .fzl ds => .ok ds ρ1
  | _ => .bad
theorem pi_or {tg e : Expr} {w1 w2 : TI} (h1 : PI X tg e w1) (h2 : PI X tg e w2) : PI X tg e (fun σ H R => w1 σ H R ∨ w2 σ H R) :=
  ⟨fun pins s σ H R I h => h.elim (h1.run pins s σ H R I) (h2.run pins s σ H R I)⟩
theorem di_seq {tg : Expr} {f : Fe} (h : DE X W κ e κ' p .val f) : DI X W κ tg e κ' (iSeq f) := by
  obtain ⟨⟨t, pt, ht⟩, io⟩ := h
  refine ⟨⟨_, pi_or (pi_list pt) (pi_tup pt), fun F H σ ρ O R s h => ?_⟩, io⟩
  unfold iSeq Out.bind at h
  cases ea : f ρ with
  | bad => rw [ea] at h; exact h.elim
  | ex x ρ1 =>
    refine .inl (ht F H σ ρ O _ s ?_)
    unfold PostE
    rw [ea] at h ⊢
    exact h
  | ok d ρ1 =>
    rw [ea] at h
    cases d with
    | lst ds =>
      refine .inl (ht F H σ ρ O _ s ?_)
      unfold PostE
      rw [ea]
      intro v F' H' O' st s' pu r
      have r : Rep X F' H' v (.lst ds) := r
      cases r with
      | lst ha ra => exact ⟨_, rfl, ⟨_, .inl (.inl ha.2)⟩, h _ F' H' O' st s' (src_lst ha ra)⟩
    | tup ds =>
      refine .inr (ht F H σ ρ O _ s ?_)
      unfold PostE
      rw [ea]
      intro v F' H' O' st s' pu r
      have r : Rep X F' H' v (.tup ds) := r
      cases r with
      | tup ha ra => exact ⟨_, rfl, ⟨_, ha.sq⟩, h _ F' H' O' st s' (src_tup ha ra)⟩
    | fzl ds =>
      refine .inl (ht F H σ ρ O _ s ?_)
      unfold PostE
      rw [ea]
      intro v F' H' O' st s' pu r
      have r : Rep X F' H' v (.fzl ds) := r
      cases r with
      | fzl ha ra => exact ⟨_, rfl, ⟨_, ha.sq⟩, h _ F' H' O' st s' (src_fzl ha ra)⟩
    | _ => exact h.elim
/-! ### stores -/
def setAny : D → D → D → Option D := fun c k d => match c with
  | .dct _ _ => setDc c k d
  | _ => setIx c k d
theorem dst_any (hu : X.A.units + 64 < cLine) : DSt X setAny := by
  obtain ⟨t1, o1, k1⟩ := dst_list (X := X)
  obtain ⟨t2, o2, k2⟩ := dst_dict (X := X) (by omega)
  refine ⟨fun o i v H Q => t1 o i v H Q ∨ t2 o i v H Q, fun pins s σ H o i v ov iv u Q I ro ri rv q => ?_, fun F H a c i di v dv c' Q f nF hi hv hg hq => ?_⟩
  · rcases q with q | q
    · exact o1 pins s σ H o i v ov iv u Q I ro ri rv q
    · exact o2 pins s σ H o i v ov iv u Q I ro ri rv q
  · unfold setAny at hg
    split at hg
    · exact .inr (k2 F H a _ i di v dv c' Q f nF hi hv hg hq)
    · exact .inl (k1 F H a _ i di v dv c' Q f nF hi hv hg hq)
/-! ### named -/
def isD2 : D → D → Option D := fun d e => (isNn false d e).or (isBb false d e)
def isnD2 : D → D → Option D := fun d e => (isNn true d e).or (isBb true d e)
def iaddD : D → D → Option D := fun d e => (addI d e).or (addS d e)
theorem dop_is2 : DOp X (compareOp .Is) isD2 .val := dop_is
theorem dop_isnot2 : DOp X (compareOp .IsNot) isnD2 .val := dop_isnot
theorem dop_iadd2 : DOp X (inplaceOp .Add) iaddD .val := dop_iadd
end
end Pu

set_option maxHeartbeats 4000000
/-! PuO: the end: the law's promise by its mirror. -/
namespace Pu
open PySem PySem.Spec PyProof.Rows L2
theorem reps_V {X : Txt} {F : Fz} {H : Hp} : ∀ ns : List Int, Reps X F H (ns.map V.int) (ns.map D.int)
  | [] => .nil
  | i :: r => .cons (.int i) (reps_V r)
theorem sp_law {K : PySem.W.Frag} {mg : Str → Option Value} {m : En → Out D} {H : Hp} {a : Addr} {ns : List Int} (hS : SqL K H a (ns.map V.int)) (h : ∃ ρ, m [some (.fzl (ns.map .int))] = .ok (.bl true) ρ) :
    SpM ⟨K, mg⟩ .val [false] m [.ref a] H (fun v _ => v = .bl true) fun _ _ _ => False := by
  obtain ⟨ρ, h⟩ := h
  have tr : ∀ b, (b = a ∧ ∃ o, H b = some o) → ∃ o, H b = some o := fun b z => z.2
  have fs : FS ⟨K, mg⟩ (fun b => b = a ∧ ∃ o, H b = some o) H a (ns.map V.int) := by
    rcases hS with hS | hS
    · refine .inl ⟨⟨rfl, ?_⟩, hS⟩
      rcases hS with hS | ⟨o, hS⟩
      · exact ⟨_, hS⟩
      · exact ⟨_, hS⟩
    · exact .inr hS
  refine spF_of (n := 1) (F := fun b => b = a ∧ ∃ o, H b = some o) (ds := [.fzl (ns.map .int)]) tr (.cons (.fzl fs (reps_V ns)) .nil) rfl ?_
  show match m [some (.fzl (ns.map .int))] with
      | .bad => False
      | .ok d _ => ∀ v F' H', Ext _ H F' H' → Rv ⟨K, mg⟩ F' H' [] H .val v d → v = .bl true
      | .ex x _ => ∀ cls dd F' H', Ext _ H F' H' → XRep ⟨K, mg⟩ F' H' x cls dd → False
  rw [h]
  intro v F' H' _ r
  have r' : Rep ⟨K, mg⟩ F' H' v (.bl true) := r
  cases r'
  rfl
theorem law_end {l : PySem.W.OpenLaw} {n k : Nat} {q : Program} {loose : List Str} {XP : (Str → Option Value) → Heap → Prop} {YP : World → Heap → Prop} {d : DefRec} {fa : List He.Fa} {fn : List He.FnD} {m : En → Out D}
    (hn : l.most = some n) (hn2 : n ≤ sizeLine) (hdf : d.params.defaults = []) (hr : Room k callerA) (hname : d.name = ("law" : Str))
    (hY : ∀ w h, YP w h → ∃ K : PySem.W.Frag, K.In h ∧ He.SaysE fa fn K)
    (hlaw : ∀ (w : World) (K : PySem.W.Frag) (mg : Str → Option Value) (base : Heap), Tex fa fn K mg → FnK l.prog w K mg base "law" k ["script"] .val [false] m)
    (hm : ∀ ns : List Int, ns.length ≤ n → (∀ z ∈ ns, Builtin.Int.intBits z ≤ 1048576) → ∃ ρ, m [some (.fzl (ns.map .int))] = .ok (.bl true) ρ) :
    PySem.W.WalkO q loose XP YP l.row.toRowW d [] (fun f vs => PySem.call f vs) := by
  refine Att.attach_callB hn hdf fun w s₀ s₁ mg mb f o pm cd doc a vs ns G Y ho hd hcd hmg hobj hints hlen hbits hg => ?_
  obtain ⟨K, KX, c⟩ := hY w _ Y
  have T : Tex fa fn K mg := ⟨⟨_, KX, G.T.g⟩, c⟩
  obtain ⟨fd, _, hb, hgl, _, oc, od, osl, lk⟩ := hlaw w K mg s₁.heap T
  rw [hname, hgl] at hmg
  cases hmg
  refine law_call (CX := L2.CX l.prog w) (sp := SpM ⟨K, mg⟩ .val [false] m) KX G.T.g G.T.b G.T.builtins G.T.nolimit hg hobj hints (Nat.le_trans hlen hn2) hr (fd := fd) (fun base _ _ => ?_) (fun s u => .of_eq (hb [u] rfl)) (fun H _ hS => sp_law hS (hm ns hlen hbits)) fun H e s' z => ?_
  · obtain ⟨fd2, F2, _, _, _, oc2, od2, osl2, lk2⟩ := hlaw w K mg base T
    rw [lk] at lk2
    cases lk2
    exact F2
  · obtain ⟨_, _, _, _, _, _, _, _, _, _, _, _, z⟩ := z
    exact z
end Pu

set_option maxHeartbeats 4000000
/-! PuP: the laws' cup and roll. -/
namespace Pu
open PySem PySem.Spec PyProof.Rows L2
def cupB (a b c d e : Int) : Fs := sSeq (sSet 1 (eCall (one1 absD) (aCons (eBin getD (eBin addD (eCall (one1 listD) (aCons (eVar 0) (aNil))) (eLst (aCons (eC (.int 0)) (aNil)))) (eC (.int 0))) (aNil))))
  (sRt (eLst (aCons (eIf (tst (eBin geD (eVar 1) (eBin powD (eC (.int 10)) (eC (.int 18))))) (eBin fdivD (eVar 1) (eC (.int a))) (eC (.int 0)))
    (aCons (eBin addD (eBin modD (eCall (one1 intD) (aCons (eBin addD (eBin mulD (eVar 1) (eC (.int b))) (eC (.int c))) (aNil))) (eC (.int d))) (eC (.int e))) (aNil)))))
def rollB (m p n d : Int) : Fs := sSeq (sIf (tst (eBin gtD (eBin getD (eVar 0) (eC (.int 0))) (eC (.int 0))))
    (sSeq (sSet 3 (eBin modD (eCall (one1 intD) (aCons (eBin getD (eVar 0) (eC (.int 0))) (aNil))) (eVar 1))) (sSeq (sPut setAny 0 (eBin fdivD (eBin getD (eVar 0) (eC (.int 0))) (eVar 1)) (eC (.int 0))) (sRt (eVar 3)))) (sNx))
  (sSeq (sPut setAny 0 (eBin modD (eCall (one1 intD) (aCons (eBin addD (eBin mulD (eBin getD (eVar 0) (eC (.int 1))) (eC (.int m))) (eC (.int p))) (aNil))) (eC (.int 2147483423))) (eC (.int 1)))
    (sSeq (sSet 2 (eBin modD (eCall (one1 intD) (aCons (eBin mulD (eBin getD (eVar 0) (eC (.int 1))) (eBin addD (eBin getD (eVar 0) (eC (.int 1))) (eC (.int n)))) (aNil))) (eC (.int 2147483587))))
      (sRt (eBin modD (eCall (one1 intD) (aCons (eBin fdivD (eVar 2) (eC (.int d))) (aNil))) (eVar 1)))))
/-- a cup in use -/
structure Cup (d : D) : Prop where
  ex : ∃ c0 c1 : Int, d = .lst [.int c0, .int c1] ∧ 0 ≤ c0 ∧ 0 ≤ c1 ∧ c1 < 4294967296
theorem mulOk_r {i j : Int} (h : j.natAbs < 18446744073709551616) : mulOk i j = true := by
  unfold mulOk
  rw [decide_eq_true h, Bool.true_or, Bool.or_true]
theorem mulOk_l {i j : Int} (h : i.natAbs < 18446744073709551616) : mulOk i j = true := by
  unfold mulOk
  rw [decide_eq_true h, Bool.true_or]
theorem divOk_s {j : Int} (h : j ≠ 0) (h2 : j.natAbs < 18446744073709551616) : divOk j = true := by
  unfold divOk
  rw [Bool.and_eq_true]
  refine ⟨by simpa using h, decide_eq_true ?_⟩
  by_cases hz : j.natAbs = 0
  · rw [hz]; decide
  · exact Nat.lt_trans ((Nat.log2_lt hz).mpr (show j.natAbs < 2 ^ 64 from h2)) (by decide)
theorem fmod_rng {i j : Int} (h : 0 < j) : 0 ≤ i.fmod j ∧ i.fmod j < j := by
  rw [Int.fmod_eq_emod_of_nonneg _ (Int.le_of_lt h)]
  exact ⟨Int.emod_nonneg _ (by omega), Int.emod_lt_of_pos _ h⟩
theorem cup_ok {a b c d e : Int} (ns : List Int) (hl : ns.length ≤ 1000) (ha : 0 < a ∧ a < 10000) (hb : 0 ≤ b ∧ b < 10000000) (hd : 0 < d ∧ d < 4000000000) (he : 0 ≤ e ∧ e < 10000000) :
    ∃ z, runM .own [false] 2 (cupB a b c d e) [some (.fzl (ns.map .int))] = .ok z [some (.fzl (ns.map .int))] ∧ Cup z := by
  obtain ⟨x, xs, hx⟩ : ∃ x xs, ns.map D.int ++ [D.int 0] = D.int x :: xs := by
    cases ns with
    | nil => exact ⟨0, [], rfl⟩
    | cons i r => exact ⟨i, r.map D.int ++ [D.int 0], rfl⟩
  have hsz : ns.length + 1 ≤ sizeLine := by
    rw [sizeLine_eq]; omega
  have h1 : (1 : Nat) ≤ sizeLine := by rw [sizeLine_eq]; decide
  have h2 : (2 : Nat) ≤ sizeLine := by rw [sizeLine_eq]; decide
  have hat : ∀ y ys, atI (D.int y :: ys) 0 = some (D.int y) := fun y ys => by
    unfold atI ixN
    simp
  have hdv := divOk_s (j := a) (by omega) (by omega)
  have hmu : ∀ i, mulOk i b = true := fun i => mulOk_r (by omega)
  have hp : powOk 10 18 = true := by decide
  have hd0 : d ≠ 0 := by omega
  have hge : 0 ≤ (if x < 0 then -x else x) := by split <;> omega
  generalize hy : (if x < 0 then -x else x) = y at hge
  have hm := fmod_rng (i := y * b + c) hd.1
  refine ⟨.lst [.int (if (1000000000000000000 : Int) ≤ y then y.fdiv a else 0), .int ((y * b + c).fmod d + e)], ?_, ⟨_, _, rfl, ?_, by omega, by omega⟩⟩
  · have hpw : (10 : Int) ^ (18 : Int).toNat = 1000000000000000000 := by decide
    by_cases hc : (1000000000000000000 : Int) ≤ y
    · simp [runM, cupB, sSeq, sSet, eCall, one1, aCons, aNil, eBin, eVar, eC, eLst, sRt, Out.bind, Out.of, listD, addD, absD, getD, ixD, tst, eIf, geD, powD, int2, fdivD, mulD, mulI, intD, modD, pick, h1, h2, hx, hat, hy, hp, hdv, hmu, hpw, hc, hsz, hd0, List.replicate]
    · simp [runM, cupB, sSeq, sSet, eCall, one1, aCons, aNil, eBin, eVar, eC, eLst, sRt, Out.bind, Out.of, listD, addD, absD, getD, ixD, tst, eIf, geD, powD, int2, fdivD, mulD, mulI, intD, modD, pick, h1, h2, hx, hat, hy, hp, hdv, hmu, hpw, hc, hsz, hd0, List.replicate]
  · split
    · exact Int.fdiv_nonneg hge (by omega)
    · omega
theorem roll_ok {m p n d many : Int} {cup : D} (hc : Cup cup) (hm : 0 ≤ m ∧ m < 10000000) (hn : 0 ≤ n ∧ n < 10000000) (hd : 0 < d ∧ d < 10000000) (hk : 0 < many ∧ many < 10000000000) :
    ∃ (v : Int) (cup' : D), runM .val [true, false] 4 (rollB m p n d) [some cup, some (.int many)] = .ok (.int v) [some cup', some (.int many)] ∧ Cup cup' ∧ 0 ≤ v ∧ v < many := by
  obtain ⟨c0, c1, rfl, h0, h1, h1'⟩ := hc
  have a0 : ∀ y z : D, atI [y, z] 0 = some y := fun y z => by unfold atI ixN; simp
  have a1 : ∀ y z : D, atI [y, z] 1 = some z := fun y z => by unfold atI ixN; simp
  have x0 : ixN 2 0 = some 0 := by decide
  have x1 : ixN 2 1 = some 1 := by decide
  have k0 : many ≠ 0 := by omega
  have d0 : d ≠ 0 := by omega
  have hdv := divOk_s (j := many) (by omega) (by omega)
  have hdd := divOk_s (j := d) (by omega) (by omega)
  have hmu : ∀ i, mulOk i m = true := fun i => mulOk_r (by omega)
  by_cases hp : 0 < c0
  · refine ⟨c0.fmod many, .lst [.int (c0.fdiv many), .int c1], ?_, ⟨_, _, rfl, Int.fdiv_nonneg h0 (by omega), h1, h1'⟩, (fmod_rng hk.1).1, (fmod_rng hk.1).2⟩
    simp [runM, rollB, sSeq, sIf, sNx, sPut, setAny, setIx, sSet, eCall, one1, aCons, aNil, eBin, eVar, eC, sRt, Out.bind, Out.of, getD, ixD, tst, gtD, int2, fdivD, intD, modD, pick, a0, a1, x0, x1, k0, hdv, hp, List.replicate]
  · have r1 := fmod_rng (i := c1 * m + p) (j := 2147483423) (by decide)
    generalize hz : (c1 * m + p).fmod 2147483423 = z at r1
    have hmz : ∀ i, mulOk z i = true := fun i => mulOk_l (by omega)
    refine ⟨(((z * (z + n)).fmod 2147483587).fdiv d).fmod many, .lst [.int c0, .int z], ?_, ⟨_, _, rfl, h0, r1.1, by omega⟩, (fmod_rng hk.1).1, (fmod_rng hk.1).2⟩
    simp [runM, rollB, sSeq, sIf, sNx, sPut, setAny, setIx, sSet, eCall, one1, aCons, aNil, eBin, eVar, eC, sRt, Out.bind, Out.of, getD, ixD, tst, gtD, addD, int2, mulD, mulI, fdivD, intD, modD, pick, a0, a1, x0, x1, k0, d0, hdd, hmu, hmz, hz, hp, List.replicate]
end Pu

set_option maxHeartbeats 4000000
/-! PuQ: reckoning with mirrors. -/
namespace Pu
open PySem PySem.Spec PyProof.Rows L2
theorem seq_nx {f g : Fs} {ρ ρ1 : En} (h : f ρ = .ok .nx ρ1) : sSeq f g ρ = g ρ1 := by
  unfold sSeq; rw [h]
theorem seq_assoc (f g k : Fs) : sSeq f (sSeq g k) = sSeq (sSeq f g) k := by
  funext ρ
  unfold sSeq
  cases f ρ with
  | bad => rfl
  | ex x ρ1 => rfl
  | ok q ρ1 => cases q <;> rfl
theorem seq2_nx {f g k : Fs} {ρ ρ1 : En} (h : sSeq f g ρ = .ok .nx ρ1) : sSeq f (sSeq g k) ρ = k ρ1 := by
  rw [seq_assoc, seq_nx h]
theorem run_rt {rm : Md} {fl : List Bool} {n : Nat} {fb : Fs} {ρ0 ρ' : En} {d : D} (h : fb (ρ0 ++ List.replicate (n - ρ0.length) none) = .ok (.rt d) ρ') : runM rm fl n fb ρ0 = .ok d (pick fl ρ0 ρ') := by
  unfold runM; rw [h]
theorem forM_inv {tgt : Tg} {body : Fs} (Inv : En → Prop) : ∀ (ds : List D), (∀ d ∈ ds, ∀ ρ, Inv ρ → ∃ ρ1 ρ2, tgt d ρ = some ρ1 ∧ body ρ1 = .ok .nx ρ2 ∧ Inv ρ2) → ∀ ρ, Inv ρ → ∃ ρ', forM tgt body ds ρ = .ok .nx ρ' ∧ Inv ρ'
  | [], _, ρ, h => ⟨ρ, rfl, h⟩
  | d :: ds, hb, ρ, h => by
    obtain ⟨ρ1, ρ2, e1, e2, e3⟩ := hb d List.mem_cons_self ρ h
    obtain ⟨ρ', e4, e5⟩ := forM_inv Inv ds (fun d hd => hb d (List.mem_cons_of_mem _ hd)) ρ2 e3
    refine ⟨ρ', ?_, e5⟩
    unfold forM
    rw [e1]
    show (match body ρ1 with
      | .ok .nx ρ2 => forM tgt body ds ρ2
      | .ok .ct ρ2 => forM tgt body ds ρ2
      | .ok .bk ρ2 => .ok .nx ρ2
      | r => r) = _
    rw [e2]
    exact e4
/-- an int's size at a slot, for a loop's fuel -/
def natAt (ρ : En) (i : Nat) : Nat := match ρ[i]? with
  | some (some (.int z)) => z.natAbs
  | _ => 0
def okI : Out D → Option Int
  | .ok (.int i) _ => some i
  | _ => none
theorem okI_of {o : Out D} {i : Int} (h : okI o = some i) : ∃ ρ, o = .ok (.int i) ρ := by
  unfold okI at h
  split at h
  · cases h; exact ⟨_, rfl⟩
  · cases h
def okN : Out D → Bool
  | .ok .non _ => true
  | _ => false
theorem okN_of {o : Out D} (h : okN o = true) : ∃ ρ, o = .ok .non ρ := by
  unfold okN at h
  split at h
  · exact ⟨_, rfl⟩
  · cases h
/-- a list, a tuple of ints -/
def okL : Out D → Option (List Int)
  | .ok (.lst xs) _ => asIs xs
  | _ => none
def okT : Out D → Option (List Int)
  | .ok (.tup xs) _ => asIs xs
  | _ => none
theorem asIs_of : ∀ {ds : List D} {ns : List Int}, asIs ds = some ns → ds = ns.map D.int
  | [], _, h => by cases h; rfl
  | .int i :: r, _, h => by
    have h' : (asIs r).map (i :: ·) = some _ := h
    obtain ⟨ns, e1, e2⟩ := Option.map_eq_some_iff.mp h'
    subst e2
    rw [asIs_of e1]; rfl
  | .non :: _, _, h => nomatch h
  | .bl _ :: _, _, h => nomatch h
  | .str _ :: _, _, h => nomatch h
  | .tup _ :: _, _, h => nomatch h
  | .lst _ :: _, _, h => nomatch h
  | .fzl _ :: _, _, h => nomatch h
  | .dct _ _ :: _, _, h => nomatch h
  | .obj _ _ :: _, _, h => nomatch h
  | .fn _ :: _, _, h => nomatch h
theorem okL_of {o : Out D} {ns : List Int} (h : okL o = some ns) : ∃ ρ, o = .ok (.lst (ns.map .int)) ρ := by
  unfold okL at h
  split at h
  · exact ⟨_, by rw [asIs_of h]⟩
  · cases h
theorem okT_of {o : Out D} {ns : List Int} (h : okT o = some ns) : ∃ ρ, o = .ok (.tup (ns.map .int)) ρ := by
  unfold okT at h
  split at h
  · exact ⟨_, by rw [asIs_of h]⟩
  · cases h
theorem eqv_int (i j : Int) : eqv (.int i) (.int j) = decide (i = j) := by
  unfold eqv toP PyData.eqv
  simp [Bool.beq_eq_decide_eq]
theorem eqD_int (i j : Int) : eqD (.int i) (.int j) = some (.bl (decide (i = j))) := by
  unfold eqD eqG eqS
  rw [eqv_int]; rfl
theorem neD_int (i j : Int) : neD (.int i) (.int j) = some (.bl (!decide (i = j))) := by
  unfold neD eqG eqS
  rw [eqv_int]; rfl
end Pu

set_option maxHeartbeats 4000000
/-! PuR: min and max of lists and tuples of data. -/
namespace Pu
open PySem PySem.Spec PyProof.Rows L2
open PySem.W (dataLt alike AlikeAll readsAll_at reads_keeps minD maxD min_list_data min_tuple_data max_list_data max_tuple_data)
mutual
theorem toP_inj : ∀ (d e : D), (toP d).canLay0 = true → toP d = toP e → d = e
  | .non, e, _, h => by cases e <;> first | rfl | (cases h; done)
  | .bl b, e, _, h => by cases e <;> first | (cases h; rfl) | (cases h; done)
  | .int b, e, _, h => by cases e <;> first | (cases h; rfl) | (cases h; done)
  | .str b, e, _, h => by cases e <;> first | (cases h; rfl) | (cases h; done)
  | .tup xs, e, c, h => by
    cases e with
    | tup ys =>
      have h' : toPs xs = toPs ys := by injection h
      rw [toPs_inj xs ys c h']
    | _ => cases h
  | .lst xs, e, c, h => by
    cases e with
    | lst ys =>
      have h' : toPs xs = toPs ys := by injection h
      rw [toPs_inj xs ys c h']
    | _ => cases h
  | .fzl _, _, c, _ => nomatch (show false = true from c)
  | .dct _ _, _, c, _ => nomatch (show false = true from c)
  | .obj _ _, _, c, _ => nomatch (show false = true from c)
  | .fn _, _, c, _ => nomatch (show false = true from c)
theorem toPs_inj : ∀ (xs ys : List D), PyData.canLayAll0 (toPs xs) = true → toPs xs = toPs ys → xs = ys
  | [], [], _, _ => rfl
  | [], _ :: _, _, h => nomatch h
  | _ :: _, [], _, h => nomatch h
  | x :: xs, y :: ys, c, h => by
    obtain ⟨c1, c2⟩ := Bool.and_eq_true_iff.mp (show ((toP x).canLay0 && PyData.canLayAll0 (toPs xs)) = true from c)
    have h1 : toP x = toP y := by injection h
    have h2 : toPs xs = toPs ys := by injection h
    rw [toP_inj x y c1 h1, toPs_inj xs ys c2 h2]
end
def ltP (d e : D) : Bool := dataLt (toP d) (toP e)
/-- alike, not None, not too deep -/
def alkD (ds : List D) : Bool := (ds.all fun x => ds.all fun y => alike (toP x) (toP y)) && ((ds.all fun x => match x with | .non => false | _ => true) && (PyData.canLayAll0 (toPs ds) && decide (PyData.depthAll (toPs ds) ≤ 60)))
theorem toPs_map : ∀ ds : List D, toPs ds = ds.map toP
  | [] => rfl
  | d :: ds => by show toP d :: toPs ds = _; rw [toPs_map ds]; rfl
theorem alk_all {ds : List D} (h : alkD ds = true) : AlikeAll (toPs ds) ∧ PyData.canLayAll0 (toPs ds) = true ∧ PyData.depthAll (toPs ds) ≤ 60 := by
  unfold alkD at h
  obtain ⟨h1, h2⟩ := Bool.and_eq_true_iff.mp h
  obtain ⟨h2, h3⟩ := Bool.and_eq_true_iff.mp h2
  obtain ⟨h3, h4⟩ := Bool.and_eq_true_iff.mp h3
  refine ⟨⟨fun x hx y hy => ?_, fun x hx => ?_⟩, h3, of_decide_eq_true h4⟩
  · rw [toPs_map] at hx hy
    obtain ⟨d, hd, rfl⟩ := List.mem_map.mp hx
    obtain ⟨e, he, rfl⟩ := List.mem_map.mp hy
    exact List.all_eq_true.mp (List.all_eq_true.mp h1 d hd) e he
  · rw [toPs_map] at hx
    obtain ⟨d, hd, rfl⟩ := List.mem_map.mp hx
    have := List.all_eq_true.mp h2 d hd
    cases d <;> first | (cases this; done) | (intro z; cases z)
def bestG (f : D → D → Bool) : List D → Option D
  | [] => none
  | d :: ds => some (ds.foldl (fun a y => if f y a then y else a) d)
theorem foldl_toP (f : D → D → Bool) (g : PyData → PyData → Bool) (hfg : ∀ x y, f x y = g (toP x) (toP y)) : ∀ (ds : List D) (d : D), toP (ds.foldl (fun a y => if f y a then y else a) d) = (toPs ds).foldl (fun a y => if g y a then y else a) (toP d)
  | [], d => rfl
  | e :: ds, d => by
    show toP (ds.foldl _ (if f e d then e else d)) = (toPs ds).foldl _ (if g (toP e) (toP d) then toP e else toP d)
    rw [foldl_toP f g hfg ds, hfg]
    congr 1
    split <;> rfl
section
variable {X : Cx} {b : Md} {F F' : Fz} {H H' : Hp}
/-- the best of a list, a tuple by values -/
def rBest (K : PySem.W.Frag) (g : PyData → PyData → Bool) : List V → Hp → VK → Prop := fun ws H Q => ∃ (a : Addr) (vs : List V) (x : PyData) (xs : List PyData), ws = [.ref a] ∧ (SqL K H a vs ∨ SqT K H a vs) ∧ DpAll K H vs (x :: xs) ∧ AlikeAll (x :: xs) ∧ PyData.canLayAll0 (x :: xs) = true ∧ PyData.depthAll (x :: xs) ≤ 60 ∧
  ∀ (i : Nat) (v : V), vs[i]? = some v → (x :: xs)[i]? = some (xs.foldl (fun a y => if g y a then y else a) x) → Q v H
theorem canLay_all : ∀ {l : List PyData} {d : PyData}, PyData.canLayAll0 l = true → d ∈ l → d.canLay0 = true
  | [], _, _, h => nomatch h
  | y :: l, d, hl, hm => by
    obtain ⟨a1, a2⟩ := Bool.and_eq_true_iff.mp (show (y.canLay0 && PyData.canLayAll0 l) = true from hl)
    rcases List.mem_cons.mp hm with e | e
    · subst e; exact a1
    · exact canLay_all a2 e
theorem foldl_mem (g : PyData → PyData → Bool) : ∀ (xs : List PyData) (x : PyData), xs.foldl (fun a y => if g y a then y else a) x ∈ x :: xs
  | [], x => List.mem_cons_self
  | y :: xs, x => by
    have := foldl_mem g xs (if g y x then y else x)
    rw [List.foldl_cons]
    rcases List.mem_cons.mp this with e | e
    · rw [e]
      split
      · exact List.mem_cons_of_mem _ List.mem_cons_self
      · exact List.mem_cons_self
    · exact List.mem_cons_of_mem _ (List.mem_cons_of_mem _ e)
theorem best_fin {pins : List (Addr × Obj)} {σ : L2.St} {s : Shared} {H : Hp} {Q : VK} {vs : List V} {its : List Value} {ps : List PyData} {as : List Addr} {p : PyData} (I : Inv X pins σ H s) (rv : Vals vs its) (hr : ReadsAll s.heap its ps as) (hl : PyData.canLayAll0 ps = true) (hp : p.canLay0 = true)
    (q : ∀ (i : Nat) (v : V), vs[i]? = some v → ps[i]? = some p → Q v H) (i : Nat) (u : Value) (h' : Heap) (tk : Nat) (bs : List Addr) (hu : its.toArray[i]? = some u) (r : Reads h' u p bs) (hk : ∀ b o, s.heap.get? b = some o → h'.get? b = some o) :
    EP X pins σ Q u { s with heap := h', toks := tk } := by
  have hu' : its[i]? = some u := by simpa using hu
  obtain ⟨bs', r', hil, hmem, _⟩ := readsAll_at hr i u hu'
  have lenV := rv.length
  obtain ⟨hi, _⟩ := List.getElem?_eq_some_iff.mp hu'
  have hi' : i < vs.length := by omega
  obtain ⟨u2, hu2, ru⟩ := rv.get (List.getElem?_eq_getElem hi')
  rw [hu'] at hu2
  cases hu2
  have hc : (ps.getD i .none).canLay0 = true := by
    exact canLay_all hl hmem
  have e : ps.getD i .none = p := by
    have r2 := reads_keeps hk r'
    exact (SeqAt.readOf_eq hc r2).symm.trans (SeqAt.readOf_eq hp r)
  refine ⟨vs[i], H, I.kept hk, ru, q i _ (List.getElem?_eq_getElem hi') ?_⟩
  rw [← e, List.getD_eq_getElem?_getD, List.getElem?_eq_getElem hil]; rfl
theorem op_minG (hc : X.calm = true) (hu : X.A.units + 64 < cLine) : CallR X (.builtin "min") (rBest X.K dataLt) := by
  intro pins s σ H ws us Q I r h
  obtain ⟨a, vs, x, xs, rfl, hs, hd, ha, hl, hdp, q⟩ := h
  rw [Vals.ref1 r]
  rcases hs with hs | hs
  · obtain ⟨its, rv, p, _⟩ := I.list hs
    obtain ⟨as, hr⟩ := Dp.readsAll I (x :: xs) vs its hd rv
    exact min_list_data (I.ok.hd hc) p.isList hr ha (by omega) (best_fin I rv hr hl (canLay_all hl (foldl_mem _ _ _)) q)
  · obtain ⟨its, rv, p, _⟩ := I.tuple hs
    obtain ⟨as, hr⟩ := Dp.readsAll I (x :: xs) vs its hd rv
    exact min_tuple_data (I.ok.hd hc) (show s.heap.IsTuple a its.toArray from p) hr ha (by omega) (best_fin I rv hr hl (canLay_all hl (foldl_mem _ _ _)) q)
theorem op_maxG (hc : X.calm = true) (hu : X.A.units + 64 < cLine) : CallR X (.builtin "max") (rBest X.K fun y a => dataLt a y) := by
  intro pins s σ H ws us Q I r h
  obtain ⟨a, vs, x, xs, rfl, hs, hd, ha, hl, hdp, q⟩ := h
  rw [Vals.ref1 r]
  rcases hs with hs | hs
  · obtain ⟨its, rv, p, _⟩ := I.list hs
    obtain ⟨as, hr⟩ := Dp.readsAll I (x :: xs) vs its hd rv
    exact max_list_data (I.ok.hd hc) p.isList hr ha (by omega) (best_fin I rv hr hl (canLay_all hl (foldl_mem _ _ _)) q)
  · obtain ⟨its, rv, p, _⟩ := I.tuple hs
    obtain ⟨as, hr⟩ := Dp.readsAll I (x :: xs) vs its hd rv
    exact max_tuple_data (I.ok.hd hc) (show s.heap.IsTuple a its.toArray from p) hr ha (by omega) (best_fin I rv hr hl (canLay_all hl (foldl_mem _ _ _)) q)
def bestD (f : D → D → Bool) : D → Option D
  | .lst ds => if alkD ds then bestG f ds else none
  | .tup ds => if alkD ds then bestG f ds else none
  | _ => none
theorem best_of {f : D → D → Bool} {g : PyData → PyData → Bool} (hfg : ∀ x y, f x y = g (toP x) (toP y)) {a : Addr} {vs : List V} {ds : List D} {z : D} {Q : VK} (hs : SqL X.K H a vs ∨ SqT X.K H a vs) (r : Reps X F H vs ds) (ha : alkD ds = true) (hg : bestG f ds = some z)
    (hq : ∀ v, Rep X F H v z → Q v H) : rBest X.K g [.ref a] H Q := by
  cases ds with
  | nil => cases hg
  | cons d ds =>
    cases hg
    obtain ⟨h1, h2, h3⟩ := alk_all ha
    refine ⟨a, vs, toP d, toPs ds, rfl, hs, Reps.dp (d :: ds) r h2, h1, h2, h3, fun i v hv e => ?_⟩
    obtain ⟨y, hy, ry⟩ := r.get hv
    rw [← foldl_toP f g hfg] at e
    have e2 : (toPs (d :: ds))[i]? = some (toP y) := by
      rw [toPs_map, List.getElem?_map, hy]; rfl
    have e3 : toP y = toP (ds.foldl (fun a y => if f y a then y else a) d) := by
      have e' : (toPs (d :: ds))[i]? = some (toP (ds.foldl (fun a y => if f y a then y else a) d)) := e
      rw [e2] at e'
      exact Option.some.inj e'
    have hcy : (toP y).canLay0 = true := by
      refine canLay_all h2 ?_
      exact List.mem_of_getElem? e2
    have ey := toP_inj y _ hcy e3
    exact hq v (ey ▸ ry)
theorem dc_best {id : String} {f : D → D → Bool} {g : PyData → PyData → Bool} (hfg : ∀ x y, f x y = g (toP x) (toP y)) (o : CallR X (.builtin id) (rBest X.K g)) : DCall X (.builtin id) (one1 (bestD f)) .val := dcall1 o fun F H v d z Q tr rv hg hq => by
  unfold bestD at hg
  split at hg
  · split at hg
    · obtain ⟨a, vs, rfl, ha, ra⟩ := rv.lst
      exact best_of hfg (.inl (.inl (.inl ha))) ra ‹_› hg hq
    · cases hg
  · split at hg
    · obtain ⟨a, vs, rfl, ha, ra⟩ := rv.tup
      exact best_of hfg (.inr ha.sq) ra ‹_› hg hq
    · cases hg
  · cases hg
/-- min, max: ints by the kit's rule for lists, else the rule over data -/
def maxA (d : D) : Option D := (onInts (fun ns => (maxI ns).map .int) d).or (bestD (fun y a => ltP a y) d)
def minA (d : D) : Option D := (onInts (fun ns => (minI ns).map .int) d).or (bestD ltP d)
theorem dc_maxA (hc : X.calm = true) (hu : X.A.units + 64 < cLine) : DCall X (.builtin "max") (one1 maxA) .val := DCall.or (dc_max hc) (dc_best (fun _ _ => rfl) (op_maxG hc hu)) fun d z => one_or d z
theorem dc_minA (hc : X.calm = true) (hu : X.A.units + 64 < cLine) : DCall X (.builtin "min") (one1 minA) .val := DCall.or (dc_min hc) (dc_best (fun _ _ => rfl) (op_minG hc hu)) fun d z => one_or d z
end
end Pu

set_option maxHeartbeats 4000000
/-! PuS: sizes, the greatest common divisor, lowered triples. -/
namespace Pu
open PySem PySem.Spec PyProof.Rows L2
def BIG : Nat := 2 ^ 1000
def sm (i : Int) : Prop := i.natAbs < BIG
theorem log2_sm {i : Int} (h : sm i) : i.natAbs.log2 < 1000 := by
  by_cases hz : i.natAbs = 0
  · rw [hz]; decide
  · exact (Nat.log2_lt hz).mpr h
theorem mulOk_sm {i j : Int} (h : sm i) (k : sm j) : mulOk i j = true := by
  have h1 := log2_sm h
  have h2 := log2_sm k
  unfold mulOk
  rw [decide_eq_true (show i.natAbs.log2 + j.natAbs.log2 < 1000000 by omega), Bool.or_true, Bool.or_true]
theorem divOk_sm {j : Int} (h : j ≠ 0) (k : sm j) : divOk j = true := by
  have h1 := log2_sm k
  unfold divOk
  rw [decide_eq_true (show j.natAbs.log2 < 9000 by omega), Bool.and_true]
  simpa using h
theorem sm_le {i : Int} {n : Nat} (h : i.natAbs ≤ n) (hn : n < BIG) : sm i := Nat.lt_of_le_of_lt h hn
theorem sm_nat {n : Nat} (hn : n < BIG) : sm (n : Int) := by unfold sm; simpa using hn
theorem big_lt (n : Nat) (h : n < 1000000000000000000000000000000000000000000000000 := by decide) : n < BIG := Nat.lt_trans h (by unfold BIG; decide)
/-- bounds of products and sums -/
def bd (n : Nat) (i : Int) : Prop := i.natAbs ≤ n
theorem bd_mul {m n : Nat} {i j : Int} (h : bd m i) (k : bd n j) : bd (m * n) (i * j) := by
  unfold bd at *
  rw [Int.natAbs_mul]
  exact Nat.mul_le_mul h k
theorem bd_add {m n : Nat} {i j : Int} (h : bd m i) (k : bd n j) : bd (m + n) (i + j) := by unfold bd at *; omega
theorem bd_sub {m n : Nat} {i j : Int} (h : bd m i) (k : bd n j) : bd (m + n) (i - j) := by unfold bd at *; omega
theorem bd_neg {m : Nat} {i : Int} (h : bd m i) : bd m (-i) := by unfold bd at *; omega
theorem bd_sm {n : Nat} {i : Int} (h : bd n i) (hn : n < BIG) : sm i := Nat.lt_of_le_of_lt h hn
theorem bd_mono {m n : Nat} {i : Int} (h : bd m i) (hn : m ≤ n) : bd n i := Nat.le_trans h hn

/-! ### the two ways of Euclid -/
def gT : Fb := tst (eBin gtD (eVar 1) (eC (.int 0)))
def gB1 : Fs := sPar 0 1 (eVar 1) (eBin subD (eVar 0) (eBin mulD (eBin fdivD (eVar 0) (eVar 1)) (eVar 1)))
def gB2 : Fs := sPar 0 1 (eVar 1) (eBin modD (eCall (one1 intD) (aCons (eVar 0) (aNil))) (eVar 1))
theorem gB1_step {x y : Nat} (hx : x < BIG) (hy : y < BIG) (h0 : 0 < y) : gB1 [some (.int (x : Int)), some (.int (y : Int))] = .ok .nx [some (.int (y : Int)), some (.int ((x % y : Nat) : Int))] := by
  have hd : divOk (y : Int) = true := divOk_sm (by omega) (sm_nat hy)
  have e0 : (x : Int).fdiv (y : Int) = ((x / y : Nat) : Int) := by
    rw [Int.fdiv_eq_ediv_of_nonneg _ (by omega)]; rfl
  have hm : mulOk ((x / y : Nat) : Int) (y : Int) = true := mulOk_sm (sm_nat (Nat.lt_of_le_of_lt (Nat.div_le_self x y) hx)) (sm_nat hy)
  have e1 : (x : Int) - ((x / y : Nat) : Int) * (y : Int) = ((x % y : Nat) : Int) := by
    have := Nat.div_add_mod x y
    have e2 : ((x / y : Nat) : Int) * (y : Int) = ((x / y * y : Nat) : Int) := by simp
    rw [e2]
    have e3 : x / y * y = y * (x / y) := Nat.mul_comm _ _
    omega
  unfold gB1
  simp only [sPar, eVar, eBin, Out.bind, Out.of, fdivD, mulD, mulI, subD, int2, List.getElem?_cons_zero, List.getElem?_cons_succ, List.set_cons_zero, List.set_cons_succ, hd, hm, e0, e1, if_true]
theorem gB2_step {x y : Nat} (h0 : 0 < y) : gB2 [some (.int (x : Int)), some (.int (y : Int))] = .ok .nx [some (.int (y : Int)), some (.int ((x % y : Nat) : Int))] := by
  have hy : ((y : Int) != 0) = true := by simp; omega
  have e1 : (x : Int).fmod (y : Int) = ((x % y : Nat) : Int) := by
    rw [Int.fmod_eq_emod_of_nonneg _ (by omega)]; rfl
  unfold gB2
  simp only [sPar, eVar, eBin, eCall, one1, aCons, aNil, intD, Out.bind, Out.of, modD, List.getElem?_cons_zero, List.getElem?_cons_succ, List.set_cons_zero, List.set_cons_succ, hy, e1, if_true]
theorem gT_at {x y : Nat} : gT [some (.int (x : Int)), some (.int (y : Int))] = .ok (decide (0 < y)) [some (.int (x : Int)), some (.int (y : Int))] := by
  have e : decide ((0 : Int) < (y : Int)) = decide (0 < y) := by
    rw [decide_eq_decide]; omega
  unfold gT
  simp only [tst, eBin, eVar, eC, Out.bind, Out.of, gtD, int2, List.getElem?_cons_zero, List.getElem?_cons_succ, e]
theorem gcd_loop {body : Fs} (hb : ∀ x y : Nat, x < BIG → y < BIG → 0 < y → body [some (.int (x : Int)), some (.int (y : Int))] = .ok .nx [some (.int (y : Int)), some (.int ((x % y : Nat) : Int))]) :
    ∀ (n x y : Nat), x < BIG → y < BIG → y < n → whileM gT body n [some (.int (x : Int)), some (.int (y : Int))] = .ok .nx [some (.int ((Nat.gcd x y : Nat) : Int)), some (.int 0)]
  | 0, x, y, _, _, h => by omega
  | n + 1, x, y, hx, hy, h => by
    unfold whileM
    rw [gT_at]
    unfold Out.bind
    by_cases h0 : 0 < y
    · simp only [decide_eq_true h0, if_true]
      rw [hb x y hx hy h0]
      have hlt := Nat.mod_lt x h0
      have ih := gcd_loop hb n y (x % y) hy (Nat.lt_trans hlt hy) (by omega)
      have e : Nat.gcd x y = Nat.gcd y (x % y) := by
        rw [Nat.gcd_comm, Nat.gcd_rec, Nat.gcd_comm]
      rw [e]
      exact ih
    · have e : y = 0 := by omega
      subst e
      simp
/-- lowered by the common divisor -/
def gg (x y z : Int) : Int := ((Int.gcd (Int.gcd x y : Int) z : Nat) : Int)
def lowT (x y z : Int) : D := .tup [.int (x / gg x y z), .int (y / gg x y z), .int (z / gg x y z)]
theorem gg_pos {x y z : Int} (h : z ≠ 0) : 0 < gg x y z := by
  unfold gg
  have : Int.gcd (Int.gcd x y : Int) z ≠ 0 := fun e => by
    have := Int.gcd_eq_zero_iff.mp e
    exact h this.2
  omega
theorem gg_dvd {x y z : Int} : gg x y z ∣ x ∧ gg x y z ∣ y ∧ gg x y z ∣ z := by
  unfold gg
  have h1 : ((Int.gcd (Int.gcd x y : Int) z : Nat) : Int) ∣ (Int.gcd x y : Int) := Int.gcd_dvd_left ..
  exact ⟨Int.dvd_trans h1 (Int.gcd_dvd_left ..), Int.dvd_trans h1 (Int.gcd_dvd_right ..), Int.gcd_dvd_right ..⟩
theorem abs_nat (a : Int) : (if a < 0 then -a else a) = (a.natAbs : Int) := by split <;> omega
theorem max_nat (a : Int) : (if -a > a then -a else a) = (a.natAbs : Int) := by split <;> omega
theorem gg_scale {x y z k : Int} (hk : 0 < k) : gg (k * x) (k * y) (k * z) = k * gg x y z := by
  unfold gg
  rw [Int.gcd_mul_left, Int.natCast_mul]
  have e : ((k.natAbs : Nat) : Int) = k := by omega
  rw [e, Int.gcd_mul_left, Int.natCast_mul, e]
theorem lowT_scale {x y z k : Int} (hk : 0 < k) (hz : z ≠ 0) : lowT (k * x) (k * y) (k * z) = lowT x y z := by
  unfold lowT
  rw [gg_scale hk]
  have hne : k ≠ 0 := by omega
  rw [Int.mul_ediv_mul_of_pos _ _ hk, Int.mul_ediv_mul_of_pos _ _ hk, Int.mul_ediv_mul_of_pos _ _ hk]
theorem lowT_prim {x y z : Int} (h : Int.gcd x y = 1) : lowT x y z = .tup [.int x, .int y, .int z] := by
  unfold lowT gg
  rw [h]
  have e : Int.gcd ((1 : Nat) : Int) z = 1 := by
    show Int.gcd 1 z = 1
    simp
  rw [e]
  simp
end Pu

set_option maxHeartbeats 4000000
/-! PuT: the laws' some and same. -/
namespace Pu
open PySem PySem.Spec PyProof.Rows L2
def someB (mr : En → Out D) : Fs := sRt (eBin getD (eVar 1) (eFnI mr 0 (aCons (eCall (one1 lenD) (aCons (eVar 1) (aNil))) (aNil))))
theorem some_ok {mr : En → Out D} (hr : ∀ (cup : D) (many : Int), Cup cup → 0 < many ∧ many < 10000000000 → ∃ (v : Int) (cup' : D), mr [some cup, some (.int many)] = .ok (.int v) [some cup', some (.int many)] ∧ Cup cup' ∧ 0 ≤ v ∧ v < many)
    {cup : D} (hc : Cup cup) (xs : List D) (h0 : xs ≠ []) (hl : xs.length < 1000000) (t : D) (ht : t = .lst xs ∨ t = .tup xs) :
    ∃ (z : D) (cup' : D), runM .val [true, false] 2 (someB mr) [some cup, some t] = .ok z [some cup', some t] ∧ Cup cup' ∧ z ∈ xs := by
  have hp : 0 < xs.length := List.length_pos_iff.mpr h0
  obtain ⟨v, cup', e, hc', v0, v1⟩ := hr cup (xs.length : Int) hc (by omega)
  have hi : ixN xs.length v = some v.toNat := by
    unfold ixN
    have q1 : v.toNat < xs.length := by omega
    simp [v0, v1]
  obtain ⟨z, hz⟩ : ∃ z, xs[v.toNat]? = some z := ⟨_, List.getElem?_eq_getElem (by omega)⟩
  refine ⟨z, cup', run_rt (ρ' := [some cup', some t]) ?_, hc', List.mem_of_getElem? hz⟩
  rcases ht with rfl | rfl
  · simp [someB, sRt, eBin, eVar, eFnI, aCons, aNil, eCall, one1, lenD, lenS, Out.bind, Out.of, e, getD, ixD, atI, hi, hz]
  · simp [someB, sRt, eBin, eVar, eFnI, aCons, aNil, eCall, one1, lenD, lenS, Out.bind, Out.of, e, getD, ixD, atI, hi, hz]
def sameB (mf : En → Out D) : Fs := sSeq (sIf (bOr (tst (eIsi isiT (eVar 1))) (tst (eIsi isiL (eVar 1)))) (sSeq (sIf (bOr (tst (eBin neD (eIsi isiT (eVar 0)) (eIsi isiT (eVar 1)))) (bOr (tst (eBin neD (eIsi isiL (eVar 0)) (eIsi isiL (eVar 1)))) (tst (eBin neD (eCall (one1 lenD) (aCons (eVar 0) (aNil))) (eCall (one1 lenD) (aCons (eVar 1) (aNil))))))) (sRt (eC (.bl false))) (sNx))
    (sRt (eBin eqD (eLc (iRng1 (eCall (one1 lenD) (aCons (eVar 1) (aNil)))) (tgN 2) (bNot (tst (eFn mf (aCons (eBin getD (eVar 0) (eVar 2)) (aCons (eBin getD (eVar 1) (eVar 2)) (aNil)))))) (eC (.int 1)) [2]) (eLst (aNil))))) (sNx))
  (sSeq (sIf (tst (eBin isD2 (eVar 1) (eC .non))) (sRt (eBin isD2 (eVar 0) (eC .non))) (sNx)) (sSeq (sIf (tst (eIsi isiB (eVar 1))) (sRt (eIf (tst (eVar 1)) (eBin isD2 (eVar 0) (eC (.bl true))) (eBin isD2 (eVar 0) (eC (.bl false))))) (sNx))
    (sSeq (sIf (tst (eIsi isiI (eVar 1))) (sRt (eAnd (eIsi isiI (eVar 0)) (eAnd (eNot (eIsi isiB (eVar 0))) (eBin eqD (eCall (one1 intD) (aCons (eVar 0) (aNil))) (eVar 1))))) (sNx)) (sRt (eAnd (eIsi isiS (eVar 0)) (eBin eqD (eCall (one1 strD) (aCons (eVar 0) (aNil))) (eVar 1)))))))
/-- what same tells of ints, bools, None, tuples and lists of these -/
def sameV : D → D → Bool
  | t, .tup ds => match t with
    | .tup ts => sameVs ts ds
    | _ => false
  | t, .lst ds => match t with
    | .lst ts => sameVs ts ds
    | _ => false
  | t, .non => isN t
  | t, .bl c => match t with
    | .bl a => decide (a = c)
    | _ => false
  | t, .int i => match t with
    | .int j => decide (j = i)
    | _ => false
  | _, _ => false
where sameVs : List D → List D → Bool
  | [], [] => true
  | t :: ts, d :: ds => sameV t d && sameVs ts ds
  | _, _ => false
/-- that it may be asked -/
def askV : D → D → Bool
  | t, .tup ds => match t with
    | .tup ts => decide (ts.length ≠ ds.length) || (decide (ds.length < 1000000) && askVs ts ds)
    | .fzl _ => false | .obj _ _ => false | .fn _ => false
    | _ => true
  | t, .lst ds => match t with
    | .lst ts => decide (ts.length ≠ ds.length) || (decide (ds.length < 1000000) && askVs ts ds)
    | .fzl _ => false | .obj _ _ => false | .fn _ => false
    | _ => true
  | _, .non => true
  | t, .bl _ => match t with
    | .bl _ => true
    | _ => false
  | t, .int _ => match t with
    | .fzl _ => false | .obj _ _ => false | .fn _ => false
    | _ => true
  | _, _ => false
where askVs : List D → List D → Bool
  | [], [] => true
  | t :: ts, d :: ds => askV t d && askVs ts ds
  | _, _ => true
def depV : D → Nat
  | .tup ds => depVs ds + 1
  | .lst ds => depVs ds + 1
  | _ => 0
where depVs : List D → Nat
  | [] => 0
  | d :: ds => max (depV d) (depVs ds)
theorem lc_filter {tgt : Tg} {test : Fb} {elt : Fe} {i : Nat} {ρ : En} {y : D} (f : D → Bool) (hw : ρ.set i none = ρ) : ∀ (ds acc : List D), (∀ d ∈ ds, tgt d ρ = some (ρ.set i (some d)) ∧ test (ρ.set i (some d)) = .ok (f d) (ρ.set i (some d)) ∧ elt (ρ.set i (some d)) = .ok y (ρ.set i (some d))) →
    acc.length + ds.length ≤ sizeLine → lcM tgt test elt [i] ds acc ρ = .ok (acc ++ (ds.filter f).map fun _ => y) ρ
  | [], acc, _, _ => by simp [lcM]
  | d :: ds, acc, h, hl => by
    obtain ⟨h1, h2, h3⟩ := h d List.mem_cons_self
    have hs : (ρ.set i (some d)).set i none = ρ := by rw [List.set_set]; exact hw
    unfold lcM
    rw [h1]
    dsimp only
    rw [h2]
    cases hf : f d with
    | true =>
      dsimp only
      rw [h3]
      simp only [List.length_cons] at hl
      have hlt : acc.length < sizeLine := by omega
      dsimp only
      rw [if_pos hlt]
      show lcM tgt test elt [i] ds (acc ++ [y]) ((ρ.set i (some d)).set i none) = _
      rw [hs, lc_filter f hw ds (acc ++ [y]) (fun e he => h e (List.mem_cons_of_mem _ he)) (by simp; omega)]
      simp [hf]
    | false =>
      simp only [List.length_cons] at hl
      show lcM tgt test elt [i] ds acc ((ρ.set i (some d)).set i none) = _
      rw [hs, lc_filter f hw ds acc (fun e he => h e (List.mem_cons_of_mem _ he)) (by omega)]
      simp [hf]
theorem rng_mem {n : Nat} {d : D} (h : d ∈ rng 0 n) : ∃ k, k < n ∧ d = .int (k : Int) := by
  unfold rng at h
  obtain ⟨k, hk, rfl⟩ := List.mem_map.mp h
  exact ⟨k, List.mem_range.mp hk, by simp⟩
theorem sameVs_len : ∀ {ts ds : List D}, ts.length ≠ ds.length → sameV.sameVs ts ds = false
  | [], [], h => absurd rfl h
  | [], _ :: _, _ => by simp [sameV.sameVs]
  | _ :: _, [], _ => by simp [sameV.sameVs]
  | t :: ts, d :: ds, h => by
    have : ts.length ≠ ds.length := fun e => h (by simp [e])
    simp [sameV.sameVs, sameVs_len this]
theorem sameVs_all : ∀ {ts ds : List D}, ts.length = ds.length → sameV.sameVs ts ds = (List.range ds.length).all fun k => sameV (ts[k]?.getD .non) (ds[k]?.getD .non)
  | [], [], _ => rfl
  | [], _ :: _, h => by simp at h
  | _ :: _, [], h => by simp at h
  | t :: ts, d :: ds, h => by
    have ih := sameVs_all (ts := ts) (ds := ds) (by simpa using h)
    show (sameV t d && sameV.sameVs ts ds) = _
    rw [ih, List.length_cons, List.range_succ_eq_map, List.all_cons, List.all_map]
    rfl
theorem askVs_at : ∀ {ts ds : List D} {k : Nat}, askV.askVs ts ds = true → k < ts.length → k < ds.length → askV (ts[k]?.getD .non) (ds[k]?.getD .non) = true
  | t :: ts, d :: ds, 0, h, _, _ => (Bool.and_eq_true_iff.mp (show (askV t d && askV.askVs ts ds) = true from h)).1
  | t :: ts, d :: ds, k + 1, h, h1, h2 => by
    have := askVs_at (k := k) (Bool.and_eq_true_iff.mp (show (askV t d && askV.askVs ts ds) = true from h)).2 (by simpa using h1) (by simpa using h2)
    simpa using this
  | [], _, _, _, h, _ => by simp at h
  | _ :: _, [], _, _, _, h => by simp at h
theorem depVs_at : ∀ {ds : List D} {k : Nat}, k < ds.length → depV (ds[k]?.getD .non) ≤ depV.depVs ds
  | d :: ds, 0, _ => Nat.le_max_left _ _
  | d :: ds, k + 1, h => by
    have := depVs_at (ds := ds) (k := k) (by simpa using h)
    refine Nat.le_trans ?_ (Nat.le_max_right _ _)
    simpa using this
  | [], _, h => by simp at h
/-- the comprehension over the places -/
theorem same_lc {mf : En → Out D} {ts ds : List D} {t d : D} (ht : getD t = fun e => (match e with | .int i => atI ts i | _ => none)) (hd : getD d = fun e => (match e with | .int i => atI ds i | _ => none)) (hl : ts.length = ds.length) (hn : ds.length < 1000000)
    (hmf : ∀ k, k < ds.length → mf [some (ts[k]?.getD .non), some (ds[k]?.getD .non)] = .ok (.bl (sameV (ts[k]?.getD .non) (ds[k]?.getD .non))) [some (ts[k]?.getD .non), some (ds[k]?.getD .non)]) :
    lcM (tgN 2) (bNot (tst (eFn mf (aCons (eBin getD (eVar 0) (eVar 2)) (aCons (eBin getD (eVar 1) (eVar 2)) (aNil)))))) (eC (.int 1)) [2] (rng 0 ds.length) [] [some t, some d, none] =
      .ok (((rng 0 ds.length).filter fun e => match e with | .int i => !sameV (ts[i.toNat]?.getD .non) (ds[i.toNat]?.getD .non) | _ => false).map fun _ => .int 1) [some t, some d, none] := by
  have hsz : 1000000 ≤ sizeLine := by rw [sizeLine_eq]; decide
  have hlen : (rng 0 ds.length).length = ds.length := by simp [rng]
  refine (lc_filter (y := .int 1) (i := 2) (ρ := [some t, some d, none]) (fun e => match e with | .int i => !sameV (ts[i.toNat]?.getD .non) (ds[i.toNat]?.getD .non) | _ => false) rfl (rng 0 ds.length) [] (fun e he => ?_) (by rw [hlen]; simp; omega)).trans (by simp)
  obtain ⟨k, hk, rfl⟩ := rng_mem he
  refine ⟨rfl, ?_, rfl⟩
  have a1 : atI ts (k : Int) = some (ts[k]?.getD .non) := by
    have hk' : k < ts.length := by omega
    have : ixN ts.length (k : Int) = some k := by unfold ixN; simp [hk']
    unfold atI
    rw [this]
    simp [List.getElem?_eq_getElem hk']
  have a2 : atI ds (k : Int) = some (ds[k]?.getD .non) := by
    have : ixN ds.length (k : Int) = some k := by unfold ixN; simp [hk]
    unfold atI
    rw [this]
    simp [List.getElem?_eq_getElem hk]
  have h3 := hmf k hk
  simp [bNot, tst, eFn, aCons, aNil, eBin, eVar, Out.bind, Out.of, ht, hd, a1, a2, h3]
theorem filter_nil {n : Nat} (f : Nat → Bool) : (((rng 0 n).filter fun e => match e with | .int i => !f i.toNat | _ => false).map fun _ => D.int 1) = [] ↔ (List.range n).all f = true := by
  rw [List.map_eq_nil_iff, List.filter_eq_nil_iff]
  constructor
  · intro h
    refine List.all_eq_true.mpr fun k hk => ?_
    have hk' := List.mem_range.mp hk
    have := h (.int (k : Int)) (by unfold rng; exact List.mem_map.mpr ⟨k, hk, by simp⟩)
    simpa using this
  · intro h e he
    obtain ⟨k, hk, rfl⟩ := rng_mem he
    have := List.all_eq_true.mp h k (List.mem_range.mpr hk)
    simp [this]
theorem eqD_nil {l : List D} (h : ∀ x ∈ l, x = D.int 1) : eqD (.lst l) (.lst []) = some (.bl (decide (l = []))) := by
  cases l with
  | nil => rfl
  | cons x l =>
    unfold eqD eqG eqS eqL
    simp [scalD]
theorem neD_bl (a c : Bool) : neD (.bl a) (.bl c) = some (.bl (!decide (a = c))) := by
  cases a <;> cases c <;> rfl
theorem seq_rt {f g : Fs} {ρ ρ1 : En} {d : D} (h : f ρ = .ok (.rt d) ρ1) : sSeq f g ρ = .ok (.rt d) ρ1 := by
  unfold sSeq; rw [h]
theorem if_t {t : Fb} {f g : Fs} {ρ ρ1 : En} (h : t ρ = .ok true ρ1) : sIf t f g ρ = f ρ1 := by
  unfold sIf Out.bind; rw [h]; rfl
theorem if_f {t : Fb} {f g : Fs} {ρ ρ1 : En} (h : t ρ = .ok false ρ1) : sIf t f g ρ = g ρ1 := by
  unfold sIf Out.bind; rw [h]; rfl
theorem rt_ok {f : Fe} {ρ ρ1 : En} {d : D} (h : f ρ = .ok d ρ1) : sRt f ρ = .ok (.rt d) ρ1 := by
  unfold sRt Out.bind; rw [h]
theorem bin_ok {g : D → D → Option D} {fa fb : Fe} {ρ ρ1 ρ2 : En} {d e z : D} (h : fa ρ = .ok d ρ1) (k : fb ρ1 = .ok e ρ2) (hg : g d e = some z) : eBin g fa fb ρ = .ok z ρ2 := by
  unfold eBin Out.bind Out.of; rw [h]; dsimp only; rw [k]; dsimp only; rw [hg]
theorem lc_ok {fi : Fa} {tgt : Tg} {test : Fb} {elt : Fe} {vs : List Nat} {ρ ρ1 ρ2 : En} {ds zs : List D} (h : fi ρ = .ok ds ρ1) (k : lcM tgt test elt vs ds [] (wipeD ρ1 vs) = .ok zs ρ2) : eLc fi tgt test elt vs ρ = .ok (.lst zs) (restD ρ1 ρ2 vs) := by
  unfold eLc Out.bind; rw [h]; dsimp only; rw [k]
/-- two sequences of one kind -/
theorem same_seqG {mf : En → Out D} {ts ds : List D} {t d : D} (h1 : bOr (tst (eIsi isiT (eVar 1))) (tst (eIsi isiL (eVar 1))) [some t, some d, none] = .ok true [some t, some d, none])
    (h2 : tst (eBin neD (eIsi isiT (eVar 0)) (eIsi isiT (eVar 1))) [some t, some d, none] = .ok false [some t, some d, none]) (h3 : tst (eBin neD (eIsi isiL (eVar 0)) (eIsi isiL (eVar 1))) [some t, some d, none] = .ok false [some t, some d, none])
    (k1 : eCall (one1 lenD) (aCons (eVar 0) (aNil)) [some t, some d, none] = .ok (.int (ts.length : Int)) [some t, some d, none]) (k2 : eCall (one1 lenD) (aCons (eVar 1) (aNil)) [some t, some d, none] = .ok (.int (ds.length : Int)) [some t, some d, none])
    (ht : getD t = fun e => (match e with | .int i => atI ts i | _ => none)) (hd : getD d = fun e => (match e with | .int i => atI ds i | _ => none)) (hn : ts.length = ds.length → ds.length < 1000000)
    (hmf : ts.length = ds.length → ∀ k, k < ds.length → mf [some (ts[k]?.getD .non), some (ds[k]?.getD .non)] = .ok (.bl (sameV (ts[k]?.getD .non) (ds[k]?.getD .non))) [some (ts[k]?.getD .non), some (ds[k]?.getD .non)]) :
    sameB mf [some t, some d, none] = .ok (.rt (.bl (sameV.sameVs ts ds))) [some t, some d, none] := by
  have k3 : tst (eBin neD (eCall (one1 lenD) (aCons (eVar 0) (aNil))) (eCall (one1 lenD) (aCons (eVar 1) (aNil)))) [some t, some d, none] = .ok (!decide ((ts.length : Int) = (ds.length : Int))) [some t, some d, none] := by
    have := bin_ok k1 k2 (neD_int _ _)
    unfold tst Out.bind
    rw [this]
  unfold sameB
  refine seq_rt ?_
  rw [if_t h1]
  by_cases hl : ts.length = ds.length
  · have hT2 : bOr (tst (eBin neD (eIsi isiT (eVar 0)) (eIsi isiT (eVar 1)))) (bOr (tst (eBin neD (eIsi isiL (eVar 0)) (eIsi isiL (eVar 1)))) (tst (eBin neD (eCall (one1 lenD) (aCons (eVar 0) (aNil))) (eCall (one1 lenD) (aCons (eVar 1) (aNil)))))) [some t, some d, none] = .ok false [some t, some d, none] := by
      unfold bOr Out.bind
      rw [h2]
      dsimp only
      rw [if_neg (by decide), h3]
      dsimp only
      rw [if_neg (by decide), k3, hl]
      simp
    have hs : ∀ k : Fs, sSeq (sIf (bOr (tst (eBin neD (eIsi isiT (eVar 0)) (eIsi isiT (eVar 1)))) (bOr (tst (eBin neD (eIsi isiL (eVar 0)) (eIsi isiL (eVar 1)))) (tst (eBin neD (eCall (one1 lenD) (aCons (eVar 0) (aNil))) (eCall (one1 lenD) (aCons (eVar 1) (aNil))))))) (sRt (eC (.bl false))) (sNx)) k [some t, some d, none] = k [some t, some d, none] := fun k => seq_nx (if_f hT2)
    rw [hs]
    have hi : iRng1 (eCall (one1 lenD) (aCons (eVar 1) (aNil))) [some t, some d, none] = .ok (rng 0 ds.length) [some t, some d, none] := by
      have h62 : in62 (ds.length : Int) = true := by
        have := hn hl
        unfold in62
        rw [Bool.and_eq_true, decide_eq_true_iff, decide_eq_true_iff]
        omega
      unfold iRng1 Out.bind
      rw [k2]
      dsimp only
      rw [if_pos h62, Int.toNat_natCast]
    have key := same_lc (mf := mf) (t := t) (d := d) ht hd hl (hn hl) (hmf hl)
    have hall := sameVs_all hl
    have hf := filter_nil (n := ds.length) fun k => sameV (ts[k]?.getD .non) (ds[k]?.getD .non)
    rw [← hall] at hf
    generalize hL : (((rng 0 ds.length).filter fun e => match e with | .int i => !sameV (ts[i.toNat]?.getD .non) (ds[i.toNat]?.getD .non) | _ => false).map fun _ => D.int 1) = L at key hf
    have hones : ∀ x ∈ L, x = D.int 1 := fun x hx => by
      rw [← hL] at hx
      obtain ⟨_, _, rfl⟩ := List.mem_map.mp hx
      rfl
    have he := eqD_nil hones
    have hdec : decide (L = []) = sameV.sameVs ts ds := by
      rw [Bool.eq_iff_iff, decide_eq_true_iff]; exact hf
    rw [hdec] at he
    have h0 : eLst aNil [some t, some d, none] = .ok (.lst []) [some t, some d, none] := by
      unfold eLst aNil Out.bind
      exact if_pos (Nat.zero_le _)
    exact rt_ok (bin_ok (lc_ok hi key) h0 he)
  · have hv := sameVs_len hl
    have hT2 : bOr (tst (eBin neD (eIsi isiT (eVar 0)) (eIsi isiT (eVar 1)))) (bOr (tst (eBin neD (eIsi isiL (eVar 0)) (eIsi isiL (eVar 1)))) (tst (eBin neD (eCall (one1 lenD) (aCons (eVar 0) (aNil))) (eCall (one1 lenD) (aCons (eVar 1) (aNil)))))) [some t, some d, none] = .ok true [some t, some d, none] := by
      unfold bOr Out.bind
      rw [h2]
      dsimp only
      rw [if_neg (by decide), h3]
      dsimp only
      rw [if_neg (by decide), k3]
      have : ¬ ((ts.length : Int) = (ds.length : Int)) := by omega
      simp [this]
    rw [hv]
    exact seq_rt (by rw [if_t hT2]; rfl)
theorem same_seq {mf : En → Out D} {ts ds : List D} {t d : D} (hT : (t = .tup ts ∧ d = .tup ds) ∨ (t = .lst ts ∧ d = .lst ds)) (hn : ts.length = ds.length → ds.length < 1000000)
    (hmf : ts.length = ds.length → ∀ k, k < ds.length → mf [some (ts[k]?.getD .non), some (ds[k]?.getD .non)] = .ok (.bl (sameV (ts[k]?.getD .non) (ds[k]?.getD .non))) [some (ts[k]?.getD .non), some (ds[k]?.getD .non)]) :
    sameB mf [some t, some d, none] = .ok (.rt (.bl (sameV.sameVs ts ds))) [some t, some d, none] := by
  rcases hT with ⟨rfl, rfl⟩ | ⟨rfl, rfl⟩
  · exact same_seqG rfl rfl rfl rfl rfl (by funext e; cases e <;> rfl) (by funext e; cases e <;> rfl) hn hmf
  · exact same_seqG rfl rfl rfl rfl rfl (by funext e; cases e <;> rfl) (by funext e; cases e <;> rfl) hn hmf
theorem ask_seq {ts ds : List D} (h : (decide (ts.length ≠ ds.length) || (decide (ds.length < 1000000) && askV.askVs ts ds)) = true) (hl : ts.length = ds.length) : ds.length < 1000000 ∧ askV.askVs ts ds = true := by
  rw [decide_eq_false (by simp [hl]), Bool.false_or] at h
  obtain ⟨h1, h2⟩ := Bool.and_eq_true_iff.mp h
  exact ⟨of_decide_eq_true h1, h2⟩
theorem same_step {mf : En → Out D} {t d : D} (ha : askV t d = true) (hmf : ∀ t' d', askV t' d' = true → depV d' < depV d → mf [some t', some d'] = .ok (.bl (sameV t' d')) [some t', some d']) :
    runM .val [false, false] 3 (sameB mf) [some t, some d] = .ok (.bl (sameV t d)) [some t, some d] := by
  refine run_rt (ρ' := [some t, some d, none]) ?_
  show sameB mf [some t, some d, none] = _
  cases d with
  | tup ds =>
    cases t with
    | tup ts =>
      have hb := ask_seq (show (decide (ts.length ≠ ds.length) || (decide (ds.length < 1000000) && askV.askVs ts ds)) = true from ha)
      refine same_seq (.inl ⟨rfl, rfl⟩) (fun hl => (hb hl).1) fun hl k hk => hmf _ _ (askVs_at (hb hl).2 (by omega) hk) ?_
      show _ < depV.depVs ds + 1
      exact Nat.lt_succ_of_le (depVs_at hk)
    | fzl _ => cases ha
    | obj _ _ => cases ha
    | fn _ => cases ha
    | _ => rfl
  | lst ds =>
    cases t with
    | lst ts =>
      have hb := ask_seq (show (decide (ts.length ≠ ds.length) || (decide (ds.length < 1000000) && askV.askVs ts ds)) = true from ha)
      refine same_seq (.inr ⟨rfl, rfl⟩) (fun hl => (hb hl).1) fun hl k hk => hmf _ _ (askVs_at (hb hl).2 (by omega) hk) ?_
      show _ < depV.depVs ds + 1
      exact Nat.lt_succ_of_le (depVs_at hk)
    | fzl _ => cases ha
    | obj _ _ => cases ha
    | fn _ => cases ha
    | _ => rfl
  | non => simp [sameV, sameB, sSeq, sIf, sNx, sRt, bOr, tst, eIsi, eVar, eBin, eC, Out.bind, Out.of, isiT, isiL, isD2, isNn, isN]
  | bl c =>
    cases t with
    | bl a => cases c <;> cases a <;> simp [sameV, sameB, sSeq, sIf, sNx, sRt, bOr, tst, eIsi, eIf, eVar, eBin, eC, Out.bind, Out.of, isiT, isiL, isiB, isD2, isNn, isBb, isN]
    | _ => cases ha
  | int i =>
    cases t with
    | int j => simp [sameV, sameB, sSeq, sIf, sNx, sRt, bOr, tst, eIsi, eVar, eBin, eC, eCall, one1, aCons, aNil, Out.bind, Out.of, isiT, isiL, isiB, isiI, isD2, isNn, isBb, isN, eAnd, eNot, intD, eqD_int]
    | fzl _ => cases ha
    | obj _ _ => cases ha
    | fn _ => cases ha
    | _ => simp [sameV, sameB, sSeq, sIf, sNx, sRt, bOr, tst, eIsi, eVar, eBin, eC, eCall, one1, aCons, aNil, Out.bind, Out.of, isiT, isiL, isiB, isiI, isD2, isNn, isBb, isN, eAnd, eNot, intD]
  | _ => cases t <;> cases ha
/-- what is the same -/
theorem sameV_refl : ∀ (d : D), (askV d d = true) → sameV d d = true
  | .tup ds, h => by
    have h' : (decide (ds.length ≠ ds.length) || (decide (ds.length < 1000000) && askV.askVs ds ds)) = true := h
    have : askV.askVs ds ds = true := by simp at h'; exact h'.2
    exact refls ds this
  | .lst ds, h => by
    have h' : (decide (ds.length ≠ ds.length) || (decide (ds.length < 1000000) && askV.askVs ds ds)) = true := h
    have : askV.askVs ds ds = true := by simp at h'; exact h'.2
    exact refls ds this
  | .non, _ => rfl
  | .bl c, _ => by simp [sameV]
  | .int i, _ => by simp [sameV]
  | .str _, h => nomatch h
  | .fzl _, h => nomatch h
  | .dct _ _, h => nomatch h
  | .obj _ _, h => nomatch h
  | .fn _, h => nomatch h
where refls : ∀ (ds : List D), askV.askVs ds ds = true → sameV.sameVs ds ds = true
  | [], _ => rfl
  | d :: ds, h => by
    obtain ⟨h1, h2⟩ := Bool.and_eq_true_iff.mp (show (askV d d && askV.askVs ds ds) = true from h)
    show (sameV d d && sameV.sameVs ds ds) = true
    rw [sameV_refl d h1, refls ds h2]; rfl
end Pu

set_option maxHeartbeats 4000000
namespace K74
open PySem PySem.Spec PyProof.Rows L2 Pu
def top (i : Nat) : Stmt := PySem.Challenge.pw_wholeyard_k74_whole_turned_points.main.body.getD i (.Pass ⟨0, 0, 0, 0⟩)
def fa : List He.Fa := [.keep "fits_whole", .glo "fits_whole", .keep "is_tuple_of", .glo "is_tuple_of", .keep "divisor_in", .glo "divisor_in", .keep "fits_turn", .glo "fits_turn", .keep "need_turn", .glo "need_turn", .keep "fits_point", .glo "fits_point", .keep "need_point", .glo "need_point", .keep "lowered", .glo "lowered", .keep "both_in", .glo "both_in", .keep "back_in", .glo "back_in", .keep "put_together", .glo "put_together", .keep "undone", .glo "undone", .keep "turned_point", .glo "turned_point", .keep "is_turned", .glo "is_turned", .keep "stays_whole", .glo "stays_whole", .keep "turn_between", .glo "turn_between", .keep "_law_cup", .glo "_law_cup", .keep "_law_roll", .glo "_law_roll", .keep "_law_some", .glo "_law_some", .keep "_law_same", .glo "_law_same", .keep "_law_divisor", .glo "_law_divisor", .keep "_law_lowered", .glo "_law_lowered", .keep "_law_turn", .glo "_law_turn", .keep "law", .glo "law", .free "isinstance", .free "int", .free "bool", .free "tuple", .free "len", .free "abs", .int "FAR" 1000000000000, .free "all", .int "WIDE" 100000000000000000000000000, .free "list", .free "range", .free "str", .free "max", .free "min"]
def fn : List He.FnD := [dOf "fits_whole" (top 5), dOf "is_tuple_of" (top 6), dOf "divisor_in" (top 7), dOf "fits_turn" (top 11), dOf "need_turn" (top 12), dOf "fits_point" (top 13), dOf "need_point" (top 14), dOf "lowered" (top 15), dOf "both_in" (top 16), dOf "back_in" (top 17), dOf "put_together" (top 18), dOf "undone" (top 19), dOf "turned_point" (top 20), dOf "is_turned" (top 21), dOf "stays_whole" (top 22), dOf "turn_between" (top 23), dOf "_law_cup" (top 25), dOf "_law_roll" (top 26), dOf "_law_some" (top 27), dOf "_law_same" (top 28), dOf "_law_divisor" (top 29), dOf "_law_lowered" (top 31), dOf "_law_turn" (top 30), dOf "law" (top 34)]
section
variable {P : Program} {w : World} {K : PySem.W.Frag} {mg : Str → Option Value} {base : Heap}
abbrev s_fits_whole : Stmt := top 5
abbrev N_fits_whole : List Str := ["value", "low", "high"]
theorem sc_fits_whole : FnScope N_fits_whole ["value", "low", "high"] (defScope s_fits_whole) := ⟨rfl, rfl, rfl, by decide +kernel, rfl, by decide +kernel, by decide +kernel⟩
abbrev b_fits_whole : Fs := sRt (eAnd (eIsi isiI (eVar 0)) (eAnd (eNot (eIsi isiB (eVar 0))) (eChain leD leD (eVar 1) (eVar 0) (eVar 2))))
def m_fits_whole : En → Out D := runM .val [false, false, false] 3 b_fits_whole
theorem ok_fits_whole (T : Tex fa fn K mg) : FnK P w K mg base "fits_whole" 1 ["value", "low", "high"] .val [false, false, false] m_fits_whole := by
  refine FnK.of (k := 0) T 0 0 sc_fits_whole [false, false, false] b_fits_whole (fun _ _ _ _ _ _ us hl => match us, hl with | [_, _, _], _ => rfl) fun f cdv A outer s H E hr q => ⟨[.fz, .fz, .fz], ?_⟩
  have nd := sc_fits_whole.nd
  show DB _ _ _ _ _ [.fz, .fz, .fz] _ _ _
  refine db_one ?_
  · skip
    exact ds_ret (de_and (de_isi isi_int (T.free 48) (T.free 49) boot_int (de_var rfl)) (de_and (de_not (de_isi isi_bool (T.free 48) (T.free 50) boot_bool (de_var rfl))) (de_one (de_chain dop_le dop_le (de_var rfl) (de_var rfl) (de_var rfl))))) Io.refl
abbrev s_is_tuple_of : Stmt := top 6
abbrev N_is_tuple_of : List Str := ["value", "least", "most"]
theorem sc_is_tuple_of : FnScope N_is_tuple_of ["value", "least", "most"] (defScope s_is_tuple_of) := ⟨rfl, rfl, rfl, by decide +kernel, rfl, by decide +kernel, by decide +kernel⟩
abbrev b_is_tuple_of : Fs := sRt (eAnd (eIsi isiT (eVar 0)) (eChain leD leD (eVar 1) (eCall (one1 lenD) (aCons (eVar 0) (aNil))) (eVar 2)))
def m_is_tuple_of : En → Out D := runM .val [false, false, false] 3 b_is_tuple_of
theorem ok_is_tuple_of (T : Tex fa fn K mg) : FnK P w K mg base "is_tuple_of" 1 ["value", "least", "most"] .val [false, false, false] m_is_tuple_of := by
  refine FnK.of (k := 0) T 1 2 sc_is_tuple_of [false, false, false] b_is_tuple_of (fun _ _ _ _ _ _ us hl => match us, hl with | [_, _, _], _ => rfl) fun f cdv A outer s H E hr q => ⟨[.fz, .fz, .fz], ?_⟩
  have nd := sc_is_tuple_of.nd
  show DB _ _ _ _ _ [.fz, .fz, .fz] _ _ _
  refine db_one ?_
  · skip
    exact ds_ret (de_and (de_isi isi_tuple (T.free 48) (T.free 51) boot_tuple (de_var rfl)) (de_one (de_chain dop_le dop_le (de_var rfl) (de_callB dc_len (T.free 52) rfl boot_len (da_cons (de_var rfl) (da_nil))) (de_var rfl)))) Io.refl
abbrev s_divisor_in : Stmt := top 7
abbrev N_divisor_in : List Str := ["one", "other"]
theorem sc_divisor_in : FnScope N_divisor_in ["one", "other"] (defScope s_divisor_in) := ⟨rfl, rfl, rfl, by decide +kernel, rfl, by decide +kernel, by decide +kernel⟩
abbrev b_divisor_in : Fs := sSeq (sPar 0 1 (eCall (one1 absD) (aCons (eVar 0) (aNil))) (eCall (one1 absD) (aCons (eVar 1) (aNil)))) (sSeq (sWhile (tst (eBin gtD (eVar 1) (eC (.int 0)))) (sPar 0 1 (eVar 1) (eBin subD (eVar 0) (eBin mulD (eBin fdivD (eVar 0) (eVar 1)) (eVar 1)))) (fun ρ => natAt ρ 1 + 1)) (sRt (eVar 0)))
def m_divisor_in : En → Out D := runM .val [false, false] 2 b_divisor_in
theorem ok_divisor_in (T : Tex fa fn K mg) : FnK P w K mg base "divisor_in" 1 ["one", "other"] .val [false, false] m_divisor_in := by
  refine FnK.of (k := 0) T 2 4 sc_divisor_in [false, false] b_divisor_in (fun _ _ _ _ _ _ us hl => match us, hl with | [_, _], _ => rfl) fun f cdv A outer s H E hr q => ⟨[.fz, .fz], ?_⟩
  have nd := sc_divisor_in.nd
  show DB _ _ _ _ _ [.fz, .fz] _ _ _
  refine db_cons (κ1 := [.fz, .fz]) ?_ ?_
  · skip
    exact ds_par (de_callB dc_abs (T.free 53) rfl boot_abs (da_cons (de_var rfl) (da_nil))) (de_callB dc_abs (T.free 53) rfl boot_abs (da_cons (de_var rfl) (da_nil))) nd
  refine db_cons (κ1 := [.fz, .fz]) ?_ ?_
  · skip
    refine ds_while (fun ρ => natAt ρ 1 + 1) (dt_cmp dop_gt (de_var rfl) (de_int)) ?_ (passes_of rfl)
    refine db_one ?_
    · skip
      exact ds_par (de_var rfl) (de_bin dop_sub (de_var rfl) (de_bin dop_mul (de_bin dop_fdiv (de_var rfl) (de_var rfl)) (de_var rfl))) nd
  refine db_one ?_
  · skip
    exact ds_ret (de_var rfl) Io.refl
abbrev s_fits_turn : Stmt := top 11
abbrev N_fits_turn : List Str := ["value", "one", "other", "whole"]
theorem sc_fits_turn : FnScope N_fits_turn ["value"] (defScope s_fits_turn) := ⟨rfl, rfl, rfl, by decide +kernel, rfl, by decide +kernel, by decide +kernel⟩
abbrev b_fits_turn : Fs := sSeq (sIf (bOr (bNot (tst (eFn m_is_tuple_of (aCons (eVar 0) (aCons (eC (.int 3)) (aCons (eC (.int 3)) (aNil))))))) (bNot (tst (eCall (one1 (onBls allB)) (aCons (eLc (iSeq (eVar 0)) (tgN 1) (tYesD) (eFn m_fits_whole (aCons (eVar 1) (aCons (eNeg (eC (.int 1000000000000))) (aCons (eC (.int 1000000000000)) (aNil))))) [1]) (aNil)))))) (sRt (eC (.bl false))) (sNx)) (sSeq (sAsg (eVar 0) (tgT (tgsCons (tgN 1) (tgsCons (tgN 2) (tgsCons (tgN 3) (tgsNil)))))) (sRt (eAnd (eBin gtD (eVar 3) (eC (.int 0))) (eAnd (eBin eqD (eBin addD (eBin mulD (eVar 1) (eVar 1)) (eBin mulD (eVar 2) (eVar 2))) (eBin mulD (eVar 3) (eVar 3))) (eBin eqD (eFn m_divisor_in (aCons (eVar 1) (aCons (eVar 2) (aNil)))) (eC (.int 1)))))))
def m_fits_turn : En → Out D := runM .val [false] 4 b_fits_turn
theorem ok_fits_turn (T : Tex fa fn K mg) : FnK P w K mg base "fits_turn" 2 ["value"] .val [false] m_fits_turn := by
  refine FnK.of (k := 1) T 3 6 sc_fits_turn [false] b_fits_turn (fun _ _ _ _ _ _ us hl => match us, hl with | [_], _ => rfl) fun f cdv A outer s H E hr q => ⟨[.fz, .fz, .fz, .fz], ?_⟩
  have nd := sc_fits_turn.nd
  show DB _ _ _ _ _ [.fz, .fz, .fz, .fz] _ _ _
  refine db_cons (κ1 := [.fz, .fz, .fz, .fz]) ?_ ?_
  · skip
    refine ds_if (dt_w (dw_or (dt_not (dt_val (de_fnk (ok_is_tuple_of T) (hr.mono (by decide)) (takes_of rfl rfl rfl rfl) (da_cons (de_var rfl) (da_cons (de_int) (da_cons (de_int) (da_nil))))))) (dw_one (dt_not (dt_val (de_callB (dc_all rfl) (T.free 55) rfl boot_all (da_cons (de_val (de_lc (own := [("one", 1)]) (js := [1]) (di_seq (de_var rfl)) nd (blkOk_by rfl) (fun _ _ _ _ _ => (dg_name rfl nd)) (fun _ _ _ _ _ => dts_nil) (fun _ _ _ _ _ => (de_fnk (ok_fits_whole T) (hr.mono (by decide)) takes0 (da_cons (de_var rfl) (da_cons (de_neg (de_gint rfl (T.int 54))) (da_cons (de_gint rfl (T.int 54)) (da_nil)))))))) (da_nil)))))))) ?_ ?_
    · skip
      refine db_one ?_
      · skip
        exact ds_ret (de_bl) Io.refl
    · skip
      exact db_nil
  refine db_cons (κ1 := [.fz, .fz, .fz, .fz]) ?_ ?_
  · skip
    exact ds_asg (de_var rfl) (dg_tup rfl (dgs_cons (dg_name rfl nd) (dgs_cons (dg_name rfl nd) (dgs_cons (dg_name rfl nd) (dgs_nil)))))
  refine db_one ?_
  · skip
    exact ds_ret (de_and (de_cmp dop_gt (de_var rfl) (de_int)) (de_and (de_cmp (dop_eq (rm64 hr)) (de_bin dop_add (de_bin dop_mul (de_var rfl) (de_var rfl)) (de_bin dop_mul (de_var rfl) (de_var rfl))) (de_bin dop_mul (de_var rfl) (de_var rfl))) (de_one (de_cmp (dop_eq (rm64 hr)) (de_fnk (ok_divisor_in T) (hr.mono (by decide)) (takes_of rfl rfl rfl rfl) (da_cons (de_var rfl) (da_cons (de_var rfl) (da_nil)))) (de_int))))) Io.refl
abbrev s_need_turn : Stmt := top 12
abbrev N_need_turn : List Str := ["turn"]
theorem sc_need_turn : FnScope N_need_turn ["turn"] (defScope s_need_turn) := ⟨rfl, rfl, rfl, by decide +kernel, rfl, by decide +kernel, by decide +kernel⟩
abbrev b_need_turn : Fs := sIf (bNot (tst (eFn m_fits_turn (aCons (eVar 0) (aNil))))) (sNever) (sNx)
def m_need_turn : En → Out D := runM .val [false] 1 b_need_turn
theorem ok_need_turn (T : Tex fa fn K mg) : FnK P w K mg base "need_turn" 3 ["turn"] .val [false] m_need_turn := by
  refine FnK.of (k := 2) T 4 8 sc_need_turn [false] b_need_turn (fun _ _ _ _ _ _ us hl => match us, hl with | [_], _ => rfl) fun f cdv A outer s H E hr q => ⟨[.fz], ?_⟩
  have nd := sc_need_turn.nd
  show DB _ _ _ _ _ [.fz] _ _ _
  refine db_one ?_
  · skip
    refine ds_if (dt_not (dt_val (de_fnk (ok_fits_turn T) (hr.mono (by decide)) (takes_of rfl rfl rfl rfl) (da_cons (de_var rfl) (da_nil))))) ?_ ?_
    · skip
      refine db_one ?_
      · skip
        exact ds_never Io.refl
    · skip
      exact db_nil
abbrev s_fits_point : Stmt := top 13
abbrev N_fits_point : List Str := ["value", "one"]
theorem sc_fits_point : FnScope N_fits_point ["value"] (defScope s_fits_point) := ⟨rfl, rfl, rfl, by decide +kernel, rfl, by decide +kernel, by decide +kernel⟩
abbrev b_fits_point : Fs := sRt (eAnd (eFn m_is_tuple_of (aCons (eVar 0) (aCons (eC (.int 2)) (aCons (eC (.int 2)) (aNil))))) (eCall (one1 (onBls allB)) (aCons (eLc (iSeq (eVar 0)) (tgN 1) (tYesD) (eFn m_fits_whole (aCons (eVar 1) (aCons (eNeg (eC (.int 1000000000000))) (aCons (eC (.int 1000000000000)) (aNil))))) [1]) (aNil))))
def m_fits_point : En → Out D := runM .val [false] 2 b_fits_point
theorem ok_fits_point (T : Tex fa fn K mg) : FnK P w K mg base "fits_point" 2 ["value"] .val [false] m_fits_point := by
  refine FnK.of (k := 1) T 5 10 sc_fits_point [false] b_fits_point (fun _ _ _ _ _ _ us hl => match us, hl with | [_], _ => rfl) fun f cdv A outer s H E hr q => ⟨[.fz, .fz], ?_⟩
  have nd := sc_fits_point.nd
  show DB _ _ _ _ _ [.fz, .fz] _ _ _
  refine db_one ?_
  · skip
    exact ds_ret (de_and (de_fnk (ok_is_tuple_of T) (hr.mono (by decide)) (takes_of rfl rfl rfl rfl) (da_cons (de_var rfl) (da_cons (de_int) (da_cons (de_int) (da_nil))))) (de_one (de_callB (dc_all rfl) (T.free 55) rfl boot_all (da_cons (de_val (de_lc (own := [("one", 1)]) (js := [1]) (di_seq (de_var rfl)) nd (blkOk_by rfl) (fun _ _ _ _ _ => (dg_name rfl nd)) (fun _ _ _ _ _ => dts_nil) (fun _ _ _ _ _ => (de_fnk (ok_fits_whole T) (hr.mono (by decide)) takes0 (da_cons (de_var rfl) (da_cons (de_neg (de_gint rfl (T.int 54))) (da_cons (de_gint rfl (T.int 54)) (da_nil)))))))) (da_nil))))) Io.refl
abbrev s_need_point : Stmt := top 14
abbrev N_need_point : List Str := ["point"]
theorem sc_need_point : FnScope N_need_point ["point"] (defScope s_need_point) := ⟨rfl, rfl, rfl, by decide +kernel, rfl, by decide +kernel, by decide +kernel⟩
abbrev b_need_point : Fs := sIf (bNot (tst (eFn m_fits_point (aCons (eVar 0) (aNil))))) (sNever) (sNx)
def m_need_point : En → Out D := runM .val [false] 1 b_need_point
theorem ok_need_point (T : Tex fa fn K mg) : FnK P w K mg base "need_point" 3 ["point"] .val [false] m_need_point := by
  refine FnK.of (k := 2) T 6 12 sc_need_point [false] b_need_point (fun _ _ _ _ _ _ us hl => match us, hl with | [_], _ => rfl) fun f cdv A outer s H E hr q => ⟨[.fz], ?_⟩
  have nd := sc_need_point.nd
  show DB _ _ _ _ _ [.fz] _ _ _
  refine db_one ?_
  · skip
    refine ds_if (dt_not (dt_val (de_fnk (ok_fits_point T) (hr.mono (by decide)) (takes_of rfl rfl rfl rfl) (da_cons (de_var rfl) (da_nil))))) ?_ ?_
    · skip
      refine db_one ?_
      · skip
        exact ds_never Io.refl
    · skip
      exact db_nil
abbrev s_lowered : Stmt := top 15
abbrev N_lowered : List Str := ["one", "other", "whole", "found"]
theorem sc_lowered : FnScope N_lowered ["one", "other", "whole"] (defScope s_lowered) := ⟨rfl, rfl, rfl, by decide +kernel, rfl, by decide +kernel, by decide +kernel⟩
abbrev b_lowered : Fs := sSeq (sSet 3 (eFn m_divisor_in (aCons (eFn m_divisor_in (aCons (eVar 0) (aCons (eVar 1) (aNil)))) (aCons (eVar 2) (aNil))))) (sRt (eTup (aCons (eBin fdivD (eVar 0) (eVar 3)) (aCons (eBin fdivD (eVar 1) (eVar 3)) (aCons (eBin fdivD (eVar 2) (eVar 3)) (aNil))))))
def m_lowered : En → Out D := runM .val [false, false, false] 4 b_lowered
theorem ok_lowered (T : Tex fa fn K mg) : FnK P w K mg base "lowered" 2 ["one", "other", "whole"] .val [false, false, false] m_lowered := by
  refine FnK.of (k := 1) T 7 14 sc_lowered [false, false, false] b_lowered (fun _ _ _ _ _ _ us hl => match us, hl with | [_, _, _], _ => rfl) fun f cdv A outer s H E hr q => ⟨[.fz, .fz, .fz, .fz], ?_⟩
  have nd := sc_lowered.nd
  show DB _ _ _ _ _ [.fz, .fz, .fz, .fz] _ _ _
  refine db_cons (κ1 := [.fz, .fz, .fz, .fz]) ?_ ?_
  · skip
    exact ds_set (de_fnk (ok_divisor_in T) (hr.mono (by decide)) (takes_of rfl rfl rfl rfl) (da_cons (de_fnk (ok_divisor_in T) (hr.mono (by decide)) (takes_of rfl rfl rfl rfl) (da_cons (de_var rfl) (da_cons (de_var rfl) (da_nil)))) (da_cons (de_var rfl) (da_nil)))) nd
  refine db_one ?_
  · skip
    exact ds_ret (de_tup (da_cons (de_bin dop_fdiv (de_var rfl) (de_var rfl)) (da_cons (de_bin dop_fdiv (de_var rfl) (de_var rfl)) (da_cons (de_bin dop_fdiv (de_var rfl) (de_var rfl)) (da_nil))))) Io.refl
abbrev s_both_in : Stmt := top 16
abbrev N_both_in : List Str := ["one", "other", "a", "b", "c", "d", "e", "f"]
theorem sc_both_in : FnScope N_both_in ["one", "other"] (defScope s_both_in) := ⟨rfl, rfl, rfl, by decide +kernel, rfl, by decide +kernel, by decide +kernel⟩
abbrev b_both_in : Fs := sSeq (sAsg (eVar 0) (tgT (tgsCons (tgN 2) (tgsCons (tgN 3) (tgsCons (tgN 4) (tgsNil)))))) (sSeq (sAsg (eVar 1) (tgT (tgsCons (tgN 5) (tgsCons (tgN 6) (tgsCons (tgN 7) (tgsNil)))))) (sRt (eFn m_lowered (aCons (eBin subD (eBin mulD (eVar 2) (eVar 5)) (eBin mulD (eVar 3) (eVar 6))) (aCons (eBin addD (eBin mulD (eVar 2) (eVar 6)) (eBin mulD (eVar 3) (eVar 5))) (aCons (eBin mulD (eVar 4) (eVar 7)) (aNil)))))))
def m_both_in : En → Out D := runM .val [false, false] 8 b_both_in
theorem ok_both_in (T : Tex fa fn K mg) : FnK P w K mg base "both_in" 3 ["one", "other"] .val [false, false] m_both_in := by
  refine FnK.of (k := 2) T 8 16 sc_both_in [false, false] b_both_in (fun _ _ _ _ _ _ us hl => match us, hl with | [_, _], _ => rfl) fun f cdv A outer s H E hr q => ⟨[.fz, .fz, .fz, .fz, .fz, .fz, .fz, .fz], ?_⟩
  have nd := sc_both_in.nd
  show DB _ _ _ _ _ [.fz, .fz, .fz, .fz, .fz, .fz, .fz, .fz] _ _ _
  refine db_cons (κ1 := [.fz, .fz, .fz, .fz, .fz, .fz, .fz, .fz]) ?_ ?_
  · skip
    exact ds_asg (de_var rfl) (dg_tup rfl (dgs_cons (dg_name rfl nd) (dgs_cons (dg_name rfl nd) (dgs_cons (dg_name rfl nd) (dgs_nil)))))
  refine db_cons (κ1 := [.fz, .fz, .fz, .fz, .fz, .fz, .fz, .fz]) ?_ ?_
  · skip
    exact ds_asg (de_var rfl) (dg_tup rfl (dgs_cons (dg_name rfl nd) (dgs_cons (dg_name rfl nd) (dgs_cons (dg_name rfl nd) (dgs_nil)))))
  refine db_one ?_
  · skip
    exact ds_ret (de_fnk (ok_lowered T) (hr.mono (by decide)) (takes_of rfl rfl rfl rfl) (da_cons (de_bin dop_sub (de_bin dop_mul (de_var rfl) (de_var rfl)) (de_bin dop_mul (de_var rfl) (de_var rfl))) (da_cons (de_bin dop_add (de_bin dop_mul (de_var rfl) (de_var rfl)) (de_bin dop_mul (de_var rfl) (de_var rfl))) (da_cons (de_bin dop_mul (de_var rfl) (de_var rfl)) (da_nil))))) Io.refl
abbrev s_back_in : Stmt := top 17
abbrev N_back_in : List Str := ["turn"]
theorem sc_back_in : FnScope N_back_in ["turn"] (defScope s_back_in) := ⟨rfl, rfl, rfl, by decide +kernel, rfl, by decide +kernel, by decide +kernel⟩
abbrev b_back_in : Fs := sRt (eTup (aCons (eBin getD (eVar 0) (eC (.int 0))) (aCons (eNeg (eBin getD (eVar 0) (eC (.int 1)))) (aCons (eBin getD (eVar 0) (eC (.int 2))) (aNil)))))
def m_back_in : En → Out D := runM .val [false] 1 b_back_in
theorem ok_back_in (T : Tex fa fn K mg) : FnK P w K mg base "back_in" 1 ["turn"] .val [false] m_back_in := by
  refine FnK.of (k := 0) T 9 18 sc_back_in [false] b_back_in (fun _ _ _ _ _ _ us hl => match us, hl with | [_], _ => rfl) fun f cdv A outer s H E hr q => ⟨[.fz], ?_⟩
  have nd := sc_back_in.nd
  show DB _ _ _ _ _ [.fz] _ _ _
  refine db_one ?_
  · skip
    exact ds_ret (de_tup (da_cons (de_ix (dix_any (rm64 hr)) (de_var rfl) (de_int)) (da_cons (de_neg (de_ix (dix_any (rm64 hr)) (de_var rfl) (de_int))) (da_cons (de_ix (dix_any (rm64 hr)) (de_var rfl) (de_int)) (da_nil))))) Io.refl
abbrev s_put_together : Stmt := top 18
abbrev N_put_together : List Str := ["one", "other"]
theorem sc_put_together : FnScope N_put_together ["one", "other"] (defScope s_put_together) := ⟨rfl, rfl, rfl, by decide +kernel, rfl, by decide +kernel, by decide +kernel⟩
abbrev b_put_together : Fs := sSeq (sDo (eFn m_need_turn (aCons (eVar 0) (aNil)))) (sSeq (sDo (eFn m_need_turn (aCons (eVar 1) (aNil)))) (sRt (eFn m_both_in (aCons (eVar 0) (aCons (eVar 1) (aNil))))))
def m_put_together : En → Out D := runM .val [false, false] 2 b_put_together
theorem ok_put_together (T : Tex fa fn K mg) : FnK P w K mg base "put_together" 4 ["one", "other"] .val [false, false] m_put_together := by
  refine FnK.of (k := 3) T 10 20 sc_put_together [false, false] b_put_together (fun _ _ _ _ _ _ us hl => match us, hl with | [_, _], _ => rfl) fun f cdv A outer s H E hr q => ⟨[.fz, .fz], ?_⟩
  have nd := sc_put_together.nd
  show DB _ _ _ _ _ [.fz, .fz] _ _ _
  refine db_cons (κ1 := [.fz, .fz]) ?_ ?_
  · skip
    exact ds_expr (de_fnk (ok_need_turn T) (hr.mono (by decide)) (takes_of rfl rfl rfl rfl) (da_cons (de_var rfl) (da_nil)))
  refine db_cons (κ1 := [.fz, .fz]) ?_ ?_
  · skip
    exact ds_expr (de_fnk (ok_need_turn T) (hr.mono (by decide)) (takes_of rfl rfl rfl rfl) (da_cons (de_var rfl) (da_nil)))
  refine db_one ?_
  · skip
    exact ds_ret (de_fnk (ok_both_in T) (hr.mono (by decide)) (takes_of rfl rfl rfl rfl) (da_cons (de_var rfl) (da_cons (de_var rfl) (da_nil)))) Io.refl
abbrev s_undone : Stmt := top 19
abbrev N_undone : List Str := ["turn"]
theorem sc_undone : FnScope N_undone ["turn"] (defScope s_undone) := ⟨rfl, rfl, rfl, by decide +kernel, rfl, by decide +kernel, by decide +kernel⟩
abbrev b_undone : Fs := sSeq (sDo (eFn m_need_turn (aCons (eVar 0) (aNil)))) (sRt (eFn m_back_in (aCons (eVar 0) (aNil))))
def m_undone : En → Out D := runM .val [false] 1 b_undone
theorem ok_undone (T : Tex fa fn K mg) : FnK P w K mg base "undone" 4 ["turn"] .val [false] m_undone := by
  refine FnK.of (k := 3) T 11 22 sc_undone [false] b_undone (fun _ _ _ _ _ _ us hl => match us, hl with | [_], _ => rfl) fun f cdv A outer s H E hr q => ⟨[.fz], ?_⟩
  have nd := sc_undone.nd
  show DB _ _ _ _ _ [.fz] _ _ _
  refine db_cons (κ1 := [.fz]) ?_ ?_
  · skip
    exact ds_expr (de_fnk (ok_need_turn T) (hr.mono (by decide)) (takes_of rfl rfl rfl rfl) (da_cons (de_var rfl) (da_nil)))
  refine db_one ?_
  · skip
    exact ds_ret (de_fnk (ok_back_in T) (hr.mono (by decide)) (takes_of rfl rfl rfl rfl) (da_cons (de_var rfl) (da_nil))) Io.refl
abbrev s_turned_point : Stmt := top 20
abbrev N_turned_point : List Str := ["turn", "point", "one", "other", "whole"]
theorem sc_turned_point : FnScope N_turned_point ["turn", "point"] (defScope s_turned_point) := ⟨rfl, rfl, rfl, by decide +kernel, rfl, by decide +kernel, by decide +kernel⟩
abbrev b_turned_point : Fs := sSeq (sDo (eFn m_need_turn (aCons (eVar 0) (aNil)))) (sSeq (sDo (eFn m_need_point (aCons (eVar 1) (aNil)))) (sSeq (sAsg (eVar 0) (tgT (tgsCons (tgN 2) (tgsCons (tgN 3) (tgsCons (tgN 4) (tgsNil)))))) (sRt (eFn m_lowered (aCons (eBin subD (eBin mulD (eVar 2) (eBin getD (eVar 1) (eC (.int 0)))) (eBin mulD (eVar 3) (eBin getD (eVar 1) (eC (.int 1))))) (aCons (eBin addD (eBin mulD (eVar 3) (eBin getD (eVar 1) (eC (.int 0)))) (eBin mulD (eVar 2) (eBin getD (eVar 1) (eC (.int 1))))) (aCons (eVar 4) (aNil))))))))
def m_turned_point : En → Out D := runM .val [false, false] 5 b_turned_point
theorem ok_turned_point (T : Tex fa fn K mg) : FnK P w K mg base "turned_point" 4 ["turn", "point"] .val [false, false] m_turned_point := by
  refine FnK.of (k := 3) T 12 24 sc_turned_point [false, false] b_turned_point (fun _ _ _ _ _ _ us hl => match us, hl with | [_, _], _ => rfl) fun f cdv A outer s H E hr q => ⟨[.fz, .fz, .fz, .fz, .fz], ?_⟩
  have nd := sc_turned_point.nd
  show DB _ _ _ _ _ [.fz, .fz, .fz, .fz, .fz] _ _ _
  refine db_cons (κ1 := [.fz, .fz, .fz, .fz, .fz]) ?_ ?_
  · skip
    exact ds_expr (de_fnk (ok_need_turn T) (hr.mono (by decide)) (takes_of rfl rfl rfl rfl) (da_cons (de_var rfl) (da_nil)))
  refine db_cons (κ1 := [.fz, .fz, .fz, .fz, .fz]) ?_ ?_
  · skip
    exact ds_expr (de_fnk (ok_need_point T) (hr.mono (by decide)) (takes_of rfl rfl rfl rfl) (da_cons (de_var rfl) (da_nil)))
  refine db_cons (κ1 := [.fz, .fz, .fz, .fz, .fz]) ?_ ?_
  · skip
    exact ds_asg (de_var rfl) (dg_tup rfl (dgs_cons (dg_name rfl nd) (dgs_cons (dg_name rfl nd) (dgs_cons (dg_name rfl nd) (dgs_nil)))))
  refine db_one ?_
  · skip
    exact ds_ret (de_fnk (ok_lowered T) (hr.mono (by decide)) (takes_of rfl rfl rfl rfl) (da_cons (de_bin dop_sub (de_bin dop_mul (de_var rfl) (de_ix (dix_any (rm64 hr)) (de_var rfl) (de_int))) (de_bin dop_mul (de_var rfl) (de_ix (dix_any (rm64 hr)) (de_var rfl) (de_int)))) (da_cons (de_bin dop_add (de_bin dop_mul (de_var rfl) (de_ix (dix_any (rm64 hr)) (de_var rfl) (de_int))) (de_bin dop_mul (de_var rfl) (de_ix (dix_any (rm64 hr)) (de_var rfl) (de_int)))) (da_cons (de_var rfl) (da_nil))))) Io.refl
abbrev s_is_turned : Stmt := top 21
abbrev N_is_turned : List Str := ["turn", "point", "value", "due", "one"]
theorem sc_is_turned : FnScope N_is_turned ["turn", "point", "value"] (defScope s_is_turned) := ⟨rfl, rfl, rfl, by decide +kernel, rfl, by decide +kernel, by decide +kernel⟩
abbrev b_is_turned : Fs := sSeq (sSet 3 (eFn m_turned_point (aCons (eVar 0) (aCons (eVar 1) (aNil))))) (sRt (eAnd (eFn m_is_tuple_of (aCons (eVar 2) (aCons (eC (.int 3)) (aCons (eC (.int 3)) (aNil))))) (eAnd (eCall (one1 (onBls allB)) (aCons (eLc (iSeq (eVar 2)) (tgN 4) (tYesD) (eFn m_fits_whole (aCons (eVar 4) (aCons (eNeg (eC (.int 100000000000000000000000000))) (aCons (eC (.int 100000000000000000000000000)) (aNil))))) [4]) (aNil))) (eBin eqD (eVar 2) (eVar 3)))))
def m_is_turned : En → Out D := runM .val [false, false, false] 5 b_is_turned
theorem ok_is_turned (T : Tex fa fn K mg) : FnK P w K mg base "is_turned" 5 ["turn", "point", "value"] .val [false, false, false] m_is_turned := by
  refine FnK.of (k := 4) T 13 26 sc_is_turned [false, false, false] b_is_turned (fun _ _ _ _ _ _ us hl => match us, hl with | [_, _, _], _ => rfl) fun f cdv A outer s H E hr q => ⟨[.fz, .fz, .fz, .fz, .fz], ?_⟩
  have nd := sc_is_turned.nd
  show DB _ _ _ _ _ [.fz, .fz, .fz, .fz, .fz] _ _ _
  refine db_cons (κ1 := [.fz, .fz, .fz, .fz, .fz]) ?_ ?_
  · skip
    exact ds_set (de_fnk (ok_turned_point T) (hr.mono (by decide)) (takes_of rfl rfl rfl rfl) (da_cons (de_var rfl) (da_cons (de_var rfl) (da_nil)))) nd
  refine db_one ?_
  · skip
    exact ds_ret (de_and (de_fnk (ok_is_tuple_of T) (hr.mono (by decide)) (takes_of rfl rfl rfl rfl) (da_cons (de_var rfl) (da_cons (de_int) (da_cons (de_int) (da_nil))))) (de_and (de_callB (dc_all rfl) (T.free 55) rfl boot_all (da_cons (de_val (de_lc (own := [("one", 4)]) (js := [4]) (di_seq (de_var rfl)) nd (blkOk_by rfl) (fun _ _ _ _ _ => (dg_name rfl nd)) (fun _ _ _ _ _ => dts_nil) (fun _ _ _ _ _ => (de_fnk (ok_fits_whole T) (hr.mono (by decide)) takes0 (da_cons (de_var rfl) (da_cons (de_neg (de_gint rfl (T.int 56))) (da_cons (de_gint rfl (T.int 56)) (da_nil)))))))) (da_nil))) (de_one (de_cmp (dop_eq (rm64 hr)) (de_var rfl) (de_var rfl))))) Io.refl
abbrev s_stays_whole : Stmt := top 22
abbrev N_stays_whole : List Str := ["turn", "point"]
theorem sc_stays_whole : FnScope N_stays_whole ["turn", "point"] (defScope s_stays_whole) := ⟨rfl, rfl, rfl, by decide +kernel, rfl, by decide +kernel, by decide +kernel⟩
abbrev b_stays_whole : Fs := sRt (eBin eqD (eBin getD (eFn m_turned_point (aCons (eVar 0) (aCons (eVar 1) (aNil)))) (eC (.int 2))) (eC (.int 1)))
def m_stays_whole : En → Out D := runM .val [false, false] 2 b_stays_whole
theorem ok_stays_whole (T : Tex fa fn K mg) : FnK P w K mg base "stays_whole" 5 ["turn", "point"] .val [false, false] m_stays_whole := by
  refine FnK.of (k := 4) T 14 28 sc_stays_whole [false, false] b_stays_whole (fun _ _ _ _ _ _ us hl => match us, hl with | [_, _], _ => rfl) fun f cdv A outer s H E hr q => ⟨[.fz, .fz], ?_⟩
  have nd := sc_stays_whole.nd
  show DB _ _ _ _ _ [.fz, .fz] _ _ _
  refine db_one ?_
  · skip
    exact ds_ret (de_cmp (dop_eq (rm64 hr)) (de_ix (dix_any (rm64 hr)) (de_fnk (ok_turned_point T) (hr.mono (by decide)) (takes_of rfl rfl rfl rfl) (da_cons (de_var rfl) (da_cons (de_var rfl) (da_nil)))) (de_int)) (de_int)) Io.refl
abbrev s_turn_between : Stmt := top 23
abbrev N_turn_between : List Str := ["one", "other", "whole"]
theorem sc_turn_between : FnScope N_turn_between ["one", "other"] (defScope s_turn_between) := ⟨rfl, rfl, rfl, by decide +kernel, rfl, by decide +kernel, by decide +kernel⟩
abbrev b_turn_between : Fs := sSeq (sDo (eFn m_need_point (aCons (eVar 0) (aNil)))) (sSeq (sDo (eFn m_need_point (aCons (eVar 1) (aNil)))) (sSeq (sSet 2 (eBin addD (eBin mulD (eBin getD (eVar 0) (eC (.int 0))) (eBin getD (eVar 0) (eC (.int 0)))) (eBin mulD (eBin getD (eVar 0) (eC (.int 1))) (eBin getD (eVar 0) (eC (.int 1)))))) (sSeq (sIf (bOr (tst (eBin eqD (eVar 2) (eC (.int 0)))) (tst (eBin neD (eBin addD (eBin mulD (eBin getD (eVar 1) (eC (.int 0))) (eBin getD (eVar 1) (eC (.int 0)))) (eBin mulD (eBin getD (eVar 1) (eC (.int 1))) (eBin getD (eVar 1) (eC (.int 1))))) (eVar 2)))) (sRt (eC .non)) (sNx)) (sRt (eFn m_lowered (aCons (eBin addD (eBin mulD (eBin getD (eVar 0) (eC (.int 0))) (eBin getD (eVar 1) (eC (.int 0)))) (eBin mulD (eBin getD (eVar 0) (eC (.int 1))) (eBin getD (eVar 1) (eC (.int 1))))) (aCons (eBin subD (eBin mulD (eBin getD (eVar 0) (eC (.int 0))) (eBin getD (eVar 1) (eC (.int 1)))) (eBin mulD (eBin getD (eVar 0) (eC (.int 1))) (eBin getD (eVar 1) (eC (.int 0))))) (aCons (eVar 2) (aNil)))))))))
def m_turn_between : En → Out D := runM .val [false, false] 3 b_turn_between
theorem ok_turn_between (T : Tex fa fn K mg) : FnK P w K mg base "turn_between" 4 ["one", "other"] .val [false, false] m_turn_between := by
  refine FnK.of (k := 3) T 15 30 sc_turn_between [false, false] b_turn_between (fun _ _ _ _ _ _ us hl => match us, hl with | [_, _], _ => rfl) fun f cdv A outer s H E hr q => ⟨[.fz, .fz, .fz], ?_⟩
  have nd := sc_turn_between.nd
  show DB _ _ _ _ _ [.fz, .fz, .fz] _ _ _
  refine db_cons (κ1 := [.fz, .fz, .fz]) ?_ ?_
  · skip
    exact ds_expr (de_fnk (ok_need_point T) (hr.mono (by decide)) (takes_of rfl rfl rfl rfl) (da_cons (de_var rfl) (da_nil)))
  refine db_cons (κ1 := [.fz, .fz, .fz]) ?_ ?_
  · skip
    exact ds_expr (de_fnk (ok_need_point T) (hr.mono (by decide)) (takes_of rfl rfl rfl rfl) (da_cons (de_var rfl) (da_nil)))
  refine db_cons (κ1 := [.fz, .fz, .fz]) ?_ ?_
  · skip
    exact ds_set (de_bin dop_add (de_bin dop_mul (de_ix (dix_any (rm64 hr)) (de_var rfl) (de_int)) (de_ix (dix_any (rm64 hr)) (de_var rfl) (de_int))) (de_bin dop_mul (de_ix (dix_any (rm64 hr)) (de_var rfl) (de_int)) (de_ix (dix_any (rm64 hr)) (de_var rfl) (de_int)))) nd
  refine db_cons (κ1 := [.fz, .fz, .fz]) ?_ ?_
  · skip
    refine ds_if (dt_w (dw_or (dt_cmp (dop_eq (rm64 hr)) (de_var rfl) (de_int)) (dw_one (dt_cmp (dop_ne (rm64 hr)) (de_bin dop_add (de_bin dop_mul (de_ix (dix_any (rm64 hr)) (de_var rfl) (de_int)) (de_ix (dix_any (rm64 hr)) (de_var rfl) (de_int))) (de_bin dop_mul (de_ix (dix_any (rm64 hr)) (de_var rfl) (de_int)) (de_ix (dix_any (rm64 hr)) (de_var rfl) (de_int)))) (de_var rfl))))) ?_ ?_
    · skip
      refine db_one ?_
      · skip
        exact ds_ret (de_non) Io.refl
    · skip
      exact db_nil
  refine db_one ?_
  · skip
    exact ds_ret (de_fnk (ok_lowered T) (hr.mono (by decide)) (takes_of rfl rfl rfl rfl) (da_cons (de_bin dop_add (de_bin dop_mul (de_ix (dix_any (rm64 hr)) (de_var rfl) (de_int)) (de_ix (dix_any (rm64 hr)) (de_var rfl) (de_int))) (de_bin dop_mul (de_ix (dix_any (rm64 hr)) (de_var rfl) (de_int)) (de_ix (dix_any (rm64 hr)) (de_var rfl) (de_int)))) (da_cons (de_bin dop_sub (de_bin dop_mul (de_ix (dix_any (rm64 hr)) (de_var rfl) (de_int)) (de_ix (dix_any (rm64 hr)) (de_var rfl) (de_int))) (de_bin dop_mul (de_ix (dix_any (rm64 hr)) (de_var rfl) (de_int)) (de_ix (dix_any (rm64 hr)) (de_var rfl) (de_int)))) (da_cons (de_var rfl) (da_nil))))) Io.refl
abbrev s__law_cup : Stmt := top 25
abbrev N__law_cup : List Str := ["script", "cell"]
theorem sc__law_cup : FnScope N__law_cup ["script"] (defScope s__law_cup) := ⟨rfl, rfl, rfl, by decide +kernel, rfl, by decide +kernel, by decide +kernel⟩
abbrev b__law_cup : Fs := sSeq (sSet 1 (eCall (one1 absD) (aCons (eBin getD (eBin addD (eCall (one1 listD) (aCons (eVar 0) (aNil))) (eLst (aCons (eC (.int 0)) (aNil)))) (eC (.int 0))) (aNil)))) (sRt (eLst (aCons (eIf (tst (eBin geD (eVar 1) (eBin powD (eC (.int 10)) (eC (.int 18))))) (eBin fdivD (eVar 1) (eC (.int 1481))) (eC (.int 0))) (aCons (eBin addD (eBin modD (eCall (one1 intD) (aCons (eBin addD (eBin mulD (eVar 1) (eC (.int 1747))) (eC (.int 10143))) (aNil))) (eC (.int 2077510223))) (eC (.int 1161))) (aNil)))))
def m__law_cup : En → Out D := runM .own [false] 2 b__law_cup
theorem ok__law_cup (T : Tex fa fn K mg) : FnK P w K mg base "_law_cup" 1 ["script"] .own [false] m__law_cup := by
  refine FnK.of (k := 0) T 16 32 sc__law_cup [false] b__law_cup (fun _ _ _ _ _ _ us hl => match us, hl with | [_], _ => rfl) fun f cdv A outer s H E hr q => ⟨[.fz, .fz], ?_⟩
  have nd := sc__law_cup.nd
  show DB _ _ _ _ _ [.fz, .fz] _ _ _
  refine db_cons (κ1 := [.fz, .fz]) ?_ ?_
  · skip
    exact ds_set (de_callB dc_abs (T.free 53) rfl boot_abs (da_cons (de_ix (dix_any (rm64 hr)) (de_bin dop_add (de_val (de_callTy dc_list (T.free 57) rfl boot_list (da_cons (de_var rfl) (da_nil)))) (de_val (de_lst (da_cons (de_int) (da_nil))))) (de_int)) (da_nil))) nd
  refine db_one ?_
  · skip
    exact ds_ret (de_lst (da_cons (de_if (dt_cmp dop_ge (de_var rfl) (de_bin dop_pow (de_int) (de_int))) (de_bin dop_fdiv (de_var rfl) (de_int)) (de_int)) (da_cons (de_bin dop_add (de_bin dop_mod (de_callTy dc_int (T.free 49) rfl boot_int (da_cons (de_bin dop_add (de_bin dop_mul (de_var rfl) (de_int)) (de_int)) (da_nil))) (de_int)) (de_int)) (da_nil)))) Io.refl
abbrev s__law_roll : Stmt := top 26
abbrev N__law_roll : List Str := ["cup", "many", "deep", "found"]
theorem sc__law_roll : FnScope N__law_roll ["cup", "many"] (defScope s__law_roll) := ⟨rfl, rfl, rfl, by decide +kernel, rfl, by decide +kernel, by decide +kernel⟩
abbrev b__law_roll : Fs := sSeq (sIf (tst (eBin gtD (eBin getD (eVar 0) (eC (.int 0))) (eC (.int 0)))) (sSeq (sSet 3 (eBin modD (eCall (one1 intD) (aCons (eBin getD (eVar 0) (eC (.int 0))) (aNil))) (eVar 1))) (sSeq (sPut setAny 0 (eBin fdivD (eBin getD (eVar 0) (eC (.int 0))) (eVar 1)) (eC (.int 0))) (sRt (eVar 3)))) (sNx)) (sSeq (sPut setAny 0 (eBin modD (eCall (one1 intD) (aCons (eBin addD (eBin mulD (eBin getD (eVar 0) (eC (.int 1))) (eC (.int 37733))) (eC (.int 12397))) (aNil))) (eC (.int 2147483423))) (eC (.int 1))) (sSeq (sSet 2 (eBin modD (eCall (one1 intD) (aCons (eBin mulD (eBin getD (eVar 0) (eC (.int 1))) (eBin addD (eBin getD (eVar 0) (eC (.int 1))) (eC (.int 1705)))) (aNil))) (eC (.int 2147483587)))) (sRt (eBin modD (eCall (one1 intD) (aCons (eBin fdivD (eVar 2) (eC (.int 2165))) (aNil))) (eVar 1)))))
def m__law_roll : En → Out D := runM .val [true, false] 4 b__law_roll
theorem ok__law_roll (T : Tex fa fn K mg) : FnK P w K mg base "_law_roll" 1 ["cup", "many"] .val [true, false] m__law_roll := by
  refine FnK.of (k := 0) T 17 34 sc__law_roll [true, false] b__law_roll (fun _ _ _ _ _ _ us hl => match us, hl with | [_, _], _ => rfl) fun f cdv A outer s H E hr q => ⟨[.io (q 0), .fz, .fz, .fz], ?_⟩
  have nd := sc__law_roll.nd
  show DB _ _ _ _ _ [.io (q 0), .fz, .fz, .fz] _ _ _
  refine db_cons (κ1 := [.io (q 0), .fz, .fz, .fz]) ?_ ?_
  · skip
    refine ds_if (dt_cmp dop_gt (de_ix (dix_any (rm64 hr)) (de_bor rfl) (de_int)) (de_int)) ?_ ?_
    · skip
      refine db_cons (κ1 := [.io (q 0), .fz, .fz, .fz]) ?_ ?_
      · skip
        exact ds_set (de_bin dop_mod (de_callTy dc_int (T.free 49) rfl boot_int (da_cons (de_ix (dix_any (rm64 hr)) (de_bor rfl) (de_int)) (da_nil))) (de_var rfl)) nd
      refine db_cons (κ1 := [.io (q 0), .fz, .fz, .fz]) ?_ ?_
      · skip
        exact ds_put (i := 0) (dst_any (rm64 hr)) (de_bin dop_fdiv (de_ix (dix_any (rm64 hr)) (de_bor rfl) (de_int)) (de_var rfl)) (de_int) rfl
      refine db_one ?_
      · skip
        exact ds_ret (de_var rfl) Io.refl
    · skip
      exact db_nil
  refine db_cons (κ1 := [.io (q 0), .fz, .fz, .fz]) ?_ ?_
  · skip
    exact ds_put (i := 0) (dst_any (rm64 hr)) (de_bin dop_mod (de_callTy dc_int (T.free 49) rfl boot_int (da_cons (de_bin dop_add (de_bin dop_mul (de_ix (dix_any (rm64 hr)) (de_bor rfl) (de_int)) (de_int)) (de_int)) (da_nil))) (de_int)) (de_int) rfl
  refine db_cons (κ1 := [.io (q 0), .fz, .fz, .fz]) ?_ ?_
  · skip
    exact ds_set (de_bin dop_mod (de_callTy dc_int (T.free 49) rfl boot_int (da_cons (de_bin dop_mul (de_ix (dix_any (rm64 hr)) (de_bor rfl) (de_int)) (de_bin dop_add (de_ix (dix_any (rm64 hr)) (de_bor rfl) (de_int)) (de_int))) (da_nil))) (de_int)) nd
  refine db_one ?_
  · skip
    exact ds_ret (de_bin dop_mod (de_callTy dc_int (T.free 49) rfl boot_int (da_cons (de_bin dop_fdiv (de_var rfl) (de_int)) (da_nil))) (de_var rfl)) Io.refl
abbrev s__law_some : Stmt := top 27
abbrev N__law_some : List Str := ["cup", "things"]
theorem sc__law_some : FnScope N__law_some ["cup", "things"] (defScope s__law_some) := ⟨rfl, rfl, rfl, by decide +kernel, rfl, by decide +kernel, by decide +kernel⟩
abbrev b__law_some : Fs := sRt (eBin getD (eVar 1) (eFnI m__law_roll 0 (aCons (eCall (one1 lenD) (aCons (eVar 1) (aNil))) (aNil))))
def m__law_some : En → Out D := runM .val [true, false] 2 b__law_some
theorem ok__law_some (T : Tex fa fn K mg) : FnK P w K mg base "_law_some" 2 ["cup", "things"] .val [true, false] m__law_some := by
  refine FnK.of (k := 1) T 18 36 sc__law_some [true, false] b__law_some (fun _ _ _ _ _ _ us hl => match us, hl with | [_, _], _ => rfl) fun f cdv A outer s H E hr q => ⟨[.io (q 0), .fz], ?_⟩
  have nd := sc__law_some.nd
  show DB _ _ _ _ _ [.io (q 0), .fz] _ _ _
  refine db_one ?_
  · skip
    exact ds_ret (de_ix (dix_any (rm64 hr)) (de_var rfl) (de_fnkI (i := 0) (ok__law_roll T) (hr.mono (by decide)) (takes_of rfl rfl rfl rfl) (da_cons (de_callB dc_len (T.free 52) rfl boot_len (da_cons (de_var rfl) (da_nil))) (da_nil)) rfl)) Io.refl
abbrev s__law_same : Stmt := top 28
abbrev N__law_same : List Str := ["told", "due", "at"]
theorem sc__law_same : FnScope N__law_same ["told", "due"] (defScope s__law_same) := ⟨rfl, rfl, rfl, by decide +kernel, rfl, by decide +kernel, by decide +kernel⟩
abbrev b__law_same (mf : En → Out D) : Fs := sSeq (sIf (bOr (tst (eIsi isiT (eVar 1))) (tst (eIsi isiL (eVar 1)))) (sSeq (sIf (bOr (tst (eBin neD (eIsi isiT (eVar 0)) (eIsi isiT (eVar 1)))) (bOr (tst (eBin neD (eIsi isiL (eVar 0)) (eIsi isiL (eVar 1)))) (tst (eBin neD (eCall (one1 lenD) (aCons (eVar 0) (aNil))) (eCall (one1 lenD) (aCons (eVar 1) (aNil))))))) (sRt (eC (.bl false))) (sNx)) (sRt (eBin eqD (eLc (iRng1 (eCall (one1 lenD) (aCons (eVar 1) (aNil)))) (tgN 2) (bNot (tst (eFn mf (aCons (eBin getD (eVar 0) (eVar 2)) (aCons (eBin getD (eVar 1) (eVar 2)) (aNil)))))) (eC (.int 1)) [2]) (eLst (aNil))))) (sNx)) (sSeq (sIf (tst (eBin isD2 (eVar 1) (eC .non))) (sRt (eBin isD2 (eVar 0) (eC .non))) (sNx)) (sSeq (sIf (tst (eIsi isiB (eVar 1))) (sRt (eIf (tst (eVar 1)) (eBin isD2 (eVar 0) (eC (.bl true))) (eBin isD2 (eVar 0) (eC (.bl false))))) (sNx)) (sSeq (sIf (tst (eIsi isiI (eVar 1))) (sRt (eAnd (eIsi isiI (eVar 0)) (eAnd (eNot (eIsi isiB (eVar 0))) (eBin eqD (eCall (one1 intD) (aCons (eVar 0) (aNil))) (eVar 1))))) (sNx)) (sRt (eAnd (eIsi isiS (eVar 0)) (eBin eqD (eCall (one1 strD) (aCons (eVar 0) (aNil))) (eVar 1)))))))
def m__law_same : Nat → En → Out D
  | 0 => runM .val [false, false] 3 sNever
  | k + 1 => runM .val [false, false] 3 (b__law_same (m__law_same k))
theorem ok__law_same (T : Tex fa fn K mg) : ∀ k, FnK P w K mg base "_law_same" (1 + k) ["told", "due"] .val [false, false] (m__law_same k) := by
  intro k
  induction k with
  | zero =>
    refine FnK.of (k := 0) T 19 38 sc__law_same [false, false] sNever (fun _ _ _ _ _ _ us hl => match us, hl with | [_, _], _ => rfl) fun f cdv A outer s H E hr q => ⟨[.fz, .fz, .fz], ?_⟩
    exact db_never Io.refl
  | succ k ih =>
    refine FnK.of (k := 1 + k) T 19 38 sc__law_same [false, false] (b__law_same (m__law_same k)) (fun _ _ _ _ _ _ us hl => match us, hl with | [_, _], _ => rfl) fun f cdv A outer s H E hr q => ⟨[.fz, .fz, .fz], ?_⟩
    have nd := sc__law_same.nd
    show DB _ _ _ _ _ [.fz, .fz, .fz] _ _ _
    refine db_cons (κ1 := [.fz, .fz, .fz]) ?_ ?_
    · skip
      refine ds_if (dt_w (dw_or (dt_val (de_isi isi_tuple (T.free 48) (T.free 51) boot_tuple (de_var rfl))) (dw_one (dt_val (de_isi isi_list (T.free 48) (T.free 57) boot_list (de_var rfl)))))) ?_ ?_
      · skip
        refine db_cons (κ1 := [.fz, .fz, .fz]) ?_ ?_
        · skip
          refine ds_if (dt_w (dw_or (dt_cmp (dop_ne (rm64 hr)) (de_isi isi_tuple (T.free 48) (T.free 51) boot_tuple (de_var rfl)) (de_isi isi_tuple (T.free 48) (T.free 51) boot_tuple (de_var rfl))) (dw_or (dt_cmp (dop_ne (rm64 hr)) (de_isi isi_list (T.free 48) (T.free 57) boot_list (de_var rfl)) (de_isi isi_list (T.free 48) (T.free 57) boot_list (de_var rfl))) (dw_one (dt_cmp (dop_ne (rm64 hr)) (de_callB dc_len (T.free 52) rfl boot_len (da_cons (de_var rfl) (da_nil))) (de_callB dc_len (T.free 52) rfl boot_len (da_cons (de_var rfl) (da_nil)))))))) ?_ ?_
          · skip
            refine db_one ?_
            · skip
              exact ds_ret (de_bl) Io.refl
          · skip
            exact db_nil
        refine db_one ?_
        · skip
          exact ds_ret (de_cmp (dop_eq (rm64 hr)) (de_val (de_lc (own := [("at", 2)]) (js := [2]) (di_rng1 (T.free 58) (de_callB dc_len (T.free 52) rfl boot_len (da_cons (de_var rfl) (da_nil)))) nd (blkOk_by rfl) (fun _ _ _ _ _ => (dg_name rfl nd)) (fun _ _ _ _ _ => dts_one (dt_not (dt_val (de_fnk ih (hr.mono (by omega)) takes0 (da_cons (de_ix (dix_any (rm64 hr)) (de_var rfl) (de_var rfl)) (da_cons (de_ix (dix_any (rm64 hr)) (de_var rfl) (de_var rfl)) (da_nil))))))) (fun _ _ _ _ _ => (de_int)))) (de_val (de_lst (da_nil)))) Io.refl
      · skip
        exact db_nil
    refine db_cons (κ1 := [.fz, .fz, .fz]) ?_ ?_
    · skip
      refine ds_if (dt_cmp dop_is2 (de_var rfl) (de_non)) ?_ ?_
      · skip
        refine db_one ?_
        · skip
          exact ds_ret (de_cmp dop_is2 (de_var rfl) (de_non)) Io.refl
      · skip
        exact db_nil
    refine db_cons (κ1 := [.fz, .fz, .fz]) ?_ ?_
    · skip
      refine ds_if (dt_val (de_isi isi_bool (T.free 48) (T.free 50) boot_bool (de_var rfl))) ?_ ?_
      · skip
        refine db_one ?_
        · skip
          exact ds_ret (de_if (dt_val (de_var rfl)) (de_cmp dop_is2 (de_var rfl) (de_bl)) (de_cmp dop_is2 (de_var rfl) (de_bl))) Io.refl
      · skip
        exact db_nil
    refine db_cons (κ1 := [.fz, .fz, .fz]) ?_ ?_
    · skip
      refine ds_if (dt_val (de_isi isi_int (T.free 48) (T.free 49) boot_int (de_var rfl))) ?_ ?_
      · skip
        refine db_one ?_
        · skip
          exact ds_ret (de_and (de_isi isi_int (T.free 48) (T.free 49) boot_int (de_var rfl)) (de_and (de_not (de_isi isi_bool (T.free 48) (T.free 50) boot_bool (de_var rfl))) (de_one (de_cmp (dop_eq (rm64 hr)) (de_callTy dc_int (T.free 49) rfl boot_int (da_cons (de_var rfl) (da_nil))) (de_var rfl))))) Io.refl
      · skip
        exact db_nil
    refine db_one ?_
    · skip
      exact ds_ret (de_and (de_isi isi_str (T.free 48) (T.free 59) boot_str (de_var rfl)) (de_one (de_cmp (dop_eq (rm64 hr)) (de_callTy dc_str (T.free 59) rfl boot_str (da_cons (de_var rfl) (da_nil))) (de_var rfl)))) Io.refl
abbrev s__law_divisor : Stmt := top 29
abbrev N__law_divisor : List Str := ["one", "other"]
theorem sc__law_divisor : FnScope N__law_divisor ["one", "other"] (defScope s__law_divisor) := ⟨rfl, rfl, rfl, by decide +kernel, rfl, by decide +kernel, by decide +kernel⟩
abbrev b__law_divisor : Fs := sSeq (sPar 0 1 (eCall (two2 fun i j => if j > i then j else i) (aCons (eVar 0) (aCons (eNeg (eVar 0)) (aNil)))) (eCall (two2 fun i j => if j > i then j else i) (aCons (eVar 1) (aCons (eNeg (eVar 1)) (aNil))))) (sSeq (sWhile (tst (eBin gtD (eVar 1) (eC (.int 0)))) (sPar 0 1 (eVar 1) (eBin modD (eCall (one1 intD) (aCons (eVar 0) (aNil))) (eVar 1))) (fun ρ => natAt ρ 1 + 1)) (sRt (eVar 0)))
def m__law_divisor : En → Out D := runM .val [false, false] 2 b__law_divisor
theorem ok__law_divisor (T : Tex fa fn K mg) : FnK P w K mg base "_law_divisor" 1 ["one", "other"] .val [false, false] m__law_divisor := by
  refine FnK.of (k := 0) T 20 40 sc__law_divisor [false, false] b__law_divisor (fun _ _ _ _ _ _ us hl => match us, hl with | [_, _], _ => rfl) fun f cdv A outer s H E hr q => ⟨[.fz, .fz], ?_⟩
  have nd := sc__law_divisor.nd
  show DB _ _ _ _ _ [.fz, .fz] _ _ _
  refine db_cons (κ1 := [.fz, .fz]) ?_ ?_
  · skip
    exact ds_par (de_callB (dc_max2 rfl) (T.free 60) rfl boot_max (da_cons (de_var rfl) (da_cons (de_neg (de_var rfl)) (da_nil)))) (de_callB (dc_max2 rfl) (T.free 60) rfl boot_max (da_cons (de_var rfl) (da_cons (de_neg (de_var rfl)) (da_nil)))) nd
  refine db_cons (κ1 := [.fz, .fz]) ?_ ?_
  · skip
    refine ds_while (fun ρ => natAt ρ 1 + 1) (dt_cmp dop_gt (de_var rfl) (de_int)) ?_ (passes_of rfl)
    refine db_one ?_
    · skip
      exact ds_par (de_var rfl) (de_bin dop_mod (de_callTy dc_int (T.free 49) rfl boot_int (da_cons (de_var rfl) (da_nil))) (de_var rfl)) nd
  refine db_one ?_
  · skip
    exact ds_ret (de_var rfl) Io.refl
abbrev s__law_lowered : Stmt := top 31
abbrev N__law_lowered : List Str := ["one", "other", "whole", "found"]
theorem sc__law_lowered : FnScope N__law_lowered ["one", "other", "whole"] (defScope s__law_lowered) := ⟨rfl, rfl, rfl, by decide +kernel, rfl, by decide +kernel, by decide +kernel⟩
abbrev b__law_lowered : Fs := sSeq (sSet 3 (eFn m__law_divisor (aCons (eFn m__law_divisor (aCons (eVar 0) (aCons (eVar 1) (aNil)))) (aCons (eVar 2) (aNil))))) (sRt (eTup (aCons (eBin fdivD (eVar 0) (eVar 3)) (aCons (eBin fdivD (eVar 1) (eVar 3)) (aCons (eBin fdivD (eVar 2) (eVar 3)) (aNil))))))
def m__law_lowered : En → Out D := runM .val [false, false, false] 4 b__law_lowered
theorem ok__law_lowered (T : Tex fa fn K mg) : FnK P w K mg base "_law_lowered" 2 ["one", "other", "whole"] .val [false, false, false] m__law_lowered := by
  refine FnK.of (k := 1) T 21 42 sc__law_lowered [false, false, false] b__law_lowered (fun _ _ _ _ _ _ us hl => match us, hl with | [_, _, _], _ => rfl) fun f cdv A outer s H E hr q => ⟨[.fz, .fz, .fz, .fz], ?_⟩
  have nd := sc__law_lowered.nd
  show DB _ _ _ _ _ [.fz, .fz, .fz, .fz] _ _ _
  refine db_cons (κ1 := [.fz, .fz, .fz, .fz]) ?_ ?_
  · skip
    exact ds_set (de_fnk (ok__law_divisor T) (hr.mono (by decide)) (takes_of rfl rfl rfl rfl) (da_cons (de_fnk (ok__law_divisor T) (hr.mono (by decide)) (takes_of rfl rfl rfl rfl) (da_cons (de_var rfl) (da_cons (de_var rfl) (da_nil)))) (da_cons (de_var rfl) (da_nil)))) nd
  refine db_one ?_
  · skip
    exact ds_ret (de_tup (da_cons (de_bin dop_fdiv (de_var rfl) (de_var rfl)) (da_cons (de_bin dop_fdiv (de_var rfl) (de_var rfl)) (da_cons (de_bin dop_fdiv (de_var rfl) (de_var rfl)) (da_nil))))) Io.refl
abbrev s__law_turn : Stmt := top 30
abbrev N__law_turn : List Str := ["cup", "most", "across", "up"]
theorem sc__law_turn : FnScope N__law_turn ["cup", "most"] (defScope s__law_turn) := ⟨rfl, rfl, rfl, by decide +kernel, rfl, by decide +kernel, by decide +kernel⟩
abbrev b__law_turn : Fs := sSeq (sPar 2 3 (eBin subD (eFnI m__law_roll 0 (aCons (eBin addD (eBin mulD (eC (.int 2)) (eVar 1)) (eC (.int 1))) (aNil))) (eVar 1)) (eBin subD (eFnI m__law_roll 0 (aCons (eBin addD (eBin mulD (eC (.int 2)) (eVar 1)) (eC (.int 1))) (aNil))) (eVar 1))) (sSeq (sIf (tst (eBin eqD (eTup (aCons (eVar 2) (aCons (eVar 3) (aNil)))) (eTup (aCons (eC (.int 0)) (aCons (eC (.int 0)) (aNil)))))) (sRt (eFnI m__law_some 0 (aCons (eLst (aCons (eTup (aCons (eC (.int 1)) (aCons (eC (.int 0)) (aCons (eC (.int 1)) (aNil))))) (aCons (eTup (aCons (eC (.int 0)) (aCons (eC (.int 1)) (aCons (eC (.int 1)) (aNil))))) (aCons (eTup (aCons (eNeg (eC (.int 1))) (aCons (eC (.int 0)) (aCons (eC (.int 1)) (aNil))))) (aCons (eTup (aCons (eC (.int 0)) (aCons (eNeg (eC (.int 1))) (aCons (eC (.int 1)) (aNil))))) (aNil)))))) (aNil)))) (sNx)) (sRt (eFn m__law_lowered (aCons (eBin subD (eBin mulD (eVar 2) (eVar 2)) (eBin mulD (eVar 3) (eVar 3))) (aCons (eBin mulD (eBin mulD (eC (.int 2)) (eVar 2)) (eVar 3)) (aCons (eBin addD (eBin mulD (eVar 2) (eVar 2)) (eBin mulD (eVar 3) (eVar 3))) (aNil)))))))
def m__law_turn : En → Out D := runM .val [true, false] 4 b__law_turn
theorem ok__law_turn (T : Tex fa fn K mg) : FnK P w K mg base "_law_turn" 3 ["cup", "most"] .val [true, false] m__law_turn := by
  refine FnK.of (k := 2) T 22 44 sc__law_turn [true, false] b__law_turn (fun _ _ _ _ _ _ us hl => match us, hl with | [_, _], _ => rfl) fun f cdv A outer s H E hr q => ⟨[.io (q 0), .fz, .fz, .fz], ?_⟩
  have nd := sc__law_turn.nd
  show DB _ _ _ _ _ [.io (q 0), .fz, .fz, .fz] _ _ _
  refine db_cons (κ1 := [.io (q 0), .fz, .fz, .fz]) ?_ ?_
  · skip
    exact ds_par (de_bin dop_sub (de_fnkI (i := 0) (ok__law_roll T) (hr.mono (by decide)) (takes_of rfl rfl rfl rfl) (da_cons (de_bin dop_add (de_bin dop_mul (de_int) (de_var rfl)) (de_int)) (da_nil)) rfl) (de_var rfl)) (de_bin dop_sub (de_fnkI (i := 0) (ok__law_roll T) (hr.mono (by decide)) (takes_of rfl rfl rfl rfl) (da_cons (de_bin dop_add (de_bin dop_mul (de_int) (de_var rfl)) (de_int)) (da_nil)) rfl) (de_var rfl)) nd
  refine db_cons (κ1 := [.io (q 0), .fz, .fz, .fz]) ?_ ?_
  · skip
    refine ds_if (dt_cmp (dop_eq (rm64 hr)) (de_tup (da_cons (de_var rfl) (da_cons (de_var rfl) (da_nil)))) (de_tup (da_cons (de_int) (da_cons (de_int) (da_nil))))) ?_ ?_
    · skip
      refine db_one ?_
      · skip
        exact ds_ret (de_fnkI (i := 0) (ok__law_some T) (hr.mono (by decide)) (takes_of rfl rfl rfl rfl) (da_cons (de_val (de_lst (da_cons (de_tup (da_cons (de_int) (da_cons (de_int) (da_cons (de_int) (da_nil))))) (da_cons (de_tup (da_cons (de_int) (da_cons (de_int) (da_cons (de_int) (da_nil))))) (da_cons (de_tup (da_cons (de_neg (de_int)) (da_cons (de_int) (da_cons (de_int) (da_nil))))) (da_cons (de_tup (da_cons (de_int) (da_cons (de_neg (de_int)) (da_cons (de_int) (da_nil))))) (da_nil))))))) (da_nil)) rfl) Io.refl
    · skip
      exact db_nil
  refine db_one ?_
  · skip
    exact ds_ret (de_fnk (ok__law_lowered T) (hr.mono (by decide)) (takes_of rfl rfl rfl rfl) (da_cons (de_bin dop_sub (de_bin dop_mul (de_var rfl) (de_var rfl)) (de_bin dop_mul (de_var rfl) (de_var rfl))) (da_cons (de_bin dop_mul (de_bin dop_mul (de_int) (de_var rfl)) (de_var rfl)) (da_cons (de_bin dop_add (de_bin dop_mul (de_var rfl) (de_var rfl)) (de_bin dop_mul (de_var rfl) (de_var rfl))) (da_nil))))) Io.refl
abbrev s_law : Stmt := top 34
abbrev N_law : List Str := ["script", "cup", "turn", "told", "most", "far", "one", "other", "point", "x", "y", "due", "great", "there", "between", "at", "values", "value", "odd"]
theorem sc_law : FnScope N_law ["script"] (defScope s_law) := ⟨rfl, rfl, rfl, by decide +kernel, rfl, by decide +kernel, by decide +kernel⟩
abbrev b_law_1 : Fs := sSet 1 (eFn m__law_cup (aCons (eVar 0) (aNil)))
abbrev b_law_2 : Fs := sPar 4 5 (eFnI m__law_some 1 (aCons (eLst (aCons (eC (.int 2)) (aCons (eC (.int 6)) (aCons (eC (.int 300)) (aNil))))) (aNil))) (eFnI m__law_some 1 (aCons (eLst (aCons (eC (.int 3)) (aCons (eC (.int 50)) (aCons (eBin powD (eC (.int 10)) (eC (.int 6))) (aNil))))) (aNil)))
abbrev b_law_3 : Fs := sPar 6 7 (eFnI m__law_turn 1 (aCons (eVar 4) (aNil))) (eFnI m__law_turn 1 (aCons (eVar 4) (aNil)))
abbrev b_law_4 : Fs := sSet 8 (eTup (aCons (eBin subD (eFnI m__law_roll 1 (aCons (eBin addD (eBin mulD (eC (.int 2)) (eVar 5)) (eC (.int 1))) (aNil))) (eVar 5)) (aCons (eBin subD (eFnI m__law_roll 1 (aCons (eBin addD (eBin mulD (eC (.int 2)) (eVar 5)) (eC (.int 1))) (aNil))) (eVar 5)) (aNil))))
abbrev b_law_5 : Fs := sPar 9 10 (eBin subD (eBin mulD (eBin getD (eVar 6) (eC (.int 0))) (eBin getD (eVar 8) (eC (.int 0)))) (eBin mulD (eBin getD (eVar 6) (eC (.int 1))) (eBin getD (eVar 8) (eC (.int 1))))) (eBin addD (eBin mulD (eBin getD (eVar 6) (eC (.int 1))) (eBin getD (eVar 8) (eC (.int 0)))) (eBin mulD (eBin getD (eVar 6) (eC (.int 0))) (eBin getD (eVar 8) (eC (.int 1)))))
abbrev b_law_6 : Fs := sSet 11 (eFn m__law_lowered (aCons (eVar 9) (aCons (eVar 10) (aCons (eBin getD (eVar 6) (eC (.int 2))) (aNil)))))
abbrev b_law_7 : Fs := sSet 3 (eFn m_turned_point (aCons (eVar 6) (aCons (eVar 8) (aNil))))
abbrev b_law_8 : Fs := sRt (eC (.bl false))
abbrev b_law_9 : Fs := sIf (bNot (tst (eFn (m__law_same 40) (aCons (eTup (aCons (eVar 3) (aCons (eFn m_stays_whole (aCons (eVar 6) (aCons (eVar 8) (aNil)))) (aNil)))) (aCons (eTup (aCons (eVar 11) (aCons (eBin eqD (eBin getD (eVar 11) (eC (.int 2))) (eC (.int 1))) (aNil)))) (aNil)))))) (b_law_8) (sNx)
abbrev b_law_10 : Fs := sRt (eC (.bl false))
abbrev b_law_11 : Fs := sIf (tst (eBin neD (eBin addD (eBin mulD (eBin getD (eVar 3) (eC (.int 0))) (eBin getD (eVar 3) (eC (.int 0)))) (eBin mulD (eBin getD (eVar 3) (eC (.int 1))) (eBin getD (eVar 3) (eC (.int 1))))) (eBin mulD (eBin mulD (eBin addD (eBin mulD (eBin getD (eVar 8) (eC (.int 0))) (eBin getD (eVar 8) (eC (.int 0)))) (eBin mulD (eBin getD (eVar 8) (eC (.int 1))) (eBin getD (eVar 8) (eC (.int 1))))) (eBin getD (eVar 3) (eC (.int 2)))) (eBin getD (eVar 3) (eC (.int 2)))))) (b_law_10) (sNx)
abbrev b_law_12 : Fs := sSet 12 (eTup (aCons (eBin mulD (eBin getD (eVar 8) (eC (.int 0))) (eBin getD (eVar 6) (eC (.int 2)))) (aCons (eBin mulD (eBin getD (eVar 8) (eC (.int 1))) (eBin getD (eVar 6) (eC (.int 2)))) (aNil))))
abbrev b_law_13 : Fs := sSet 13 (eFn m_turned_point (aCons (eVar 6) (aCons (eVar 12) (aNil))))
abbrev b_law_14 : Fs := sRt (eC (.bl false))
abbrev b_law_15 : Fs := sIf (bOr (tst (eBin neD (eBin getD (eVar 13) (eC (.int 2))) (eC (.int 1)))) (bNot (tst (eFn (m__law_same 40) (aCons (eFn m_turned_point (aCons (eFn m_undone (aCons (eVar 6) (aNil))) (aCons (eSlG slD (eVar 13) none (some (eC (.int 2)))) (aNil)))) (aCons (eTup (aCons (eBin getD (eVar 12) (eC (.int 0))) (aCons (eBin getD (eVar 12) (eC (.int 1))) (aCons (eC (.int 1)) (aNil))))) (aNil))))))) (b_law_14) (sNx)
abbrev b_law_16 : Fs := sRt (eC (.bl false))
abbrev b_law_17 : Fs := sIf (tst (eBin neD (eFn m_turned_point (aCons (eVar 7) (aCons (eSlG slD (eVar 13) none (some (eC (.int 2)))) (aNil)))) (eFn m_turned_point (aCons (eFn m_put_together (aCons (eVar 6) (aCons (eVar 7) (aNil)))) (aCons (eVar 12) (aNil)))))) (b_law_16) (sNx)
abbrev b_law_18 : Fs := sIf (bAnd (tst (eBin leD (eCall (two2 fun i j => if j > i then j else i) (aCons (eCall (one1 maxA) (aCons (eSlG slD (eVar 13) none (some (eC (.int 2)))) (aNil))) (aCons (eNeg (eCall (one1 minA) (aCons (eSlG slD (eVar 13) none (some (eC (.int 2)))) (aNil)))) (aNil)))) (eBin powD (eC (.int 10)) (eC (.int 12))))) (tst (eBin leD (eCall (one1 maxA) (aCons (eFn m_put_together (aCons (eVar 6) (aCons (eVar 7) (aNil)))) (aNil))) (eBin powD (eC (.int 10)) (eC (.int 12)))))) (b_law_17) (sNx)
abbrev b_law_19 : Fs := sSet 14 (eFn m_turn_between (aCons (eVar 12) (aCons (eSlG slD (eVar 13) none (some (eC (.int 2)))) (aNil))))
abbrev b_law_20 : Fs := sRt (eC (.bl false))
abbrev b_law_21 : Fs := sIf (tst (eBin isnD2 (eVar 14) (eC .non))) (b_law_20) (sNx)
abbrev b_law_22 : Fs := sRt (eC (.bl false))
abbrev b_law_23 : Fs := sIf (bOr (bNot (tst (eFn (m__law_same 40) (aCons (eVar 14) (aCons (eVar 6) (aNil)))))) (tst (eBin isnD2 (eFn m_turn_between (aCons (eVar 12) (aCons (eTup (aCons (eBin getD (eVar 13) (eC (.int 0))) (aCons (eBin addD (eBin getD (eVar 13) (eC (.int 1))) (eC (.int 1))) (aNil)))) (aNil)))) (eC .non)))) (b_law_22) (sNx)
abbrev b_law_24 : Fs := sIf (tst (eBin eqD (eVar 8) (eTup (aCons (eC (.int 0)) (aCons (eC (.int 0)) (aNil)))))) (b_law_21) (b_law_23)
abbrev b_law_25 : Fs := sSet 15 (eFnI m__law_roll 1 (aCons (eC (.int 3)) (aNil)))
abbrev b_law_26 : Fs := sSet 16 (eLst (aCons (eVar 3) (aCons (eSlG slD (eVar 3) none (some (eC (.int 2)))) (aCons (eBin addD (eVar 3) (eTup (aCons (eC (.int 0)) (aNil)))) (aCons (eCall (one1 listD) (aCons (eVar 3) (aNil))) (aCons (eTup (aNil)) (aCons (eC .non) (aCons (eC (.int 5)) (aCons (eC (.str "1")) (aCons (eTup (aCons (eBin mulD (eC (.int 2)) (eBin getD (eVar 3) (eC (.int 0)))) (aCons (eBin mulD (eC (.int 2)) (eBin getD (eVar 3) (eC (.int 1)))) (aCons (eBin mulD (eC (.int 2)) (eBin getD (eVar 3) (eC (.int 2)))) (aNil))))) (aNil)))))))))))
abbrev b_law_27 : Fs := sDo (eMt isLst appM 16 (aCons (eTup (aCons (eNeg (eBin getD (eVar 3) (eC (.int 0)))) (aCons (eNeg (eBin getD (eVar 3) (eC (.int 1)))) (aCons (eNeg (eBin getD (eVar 3) (eC (.int 2)))) (aNil))))) (aNil)))
abbrev b_law_28 : Fs := sRt (eC (.bl false))
abbrev b_law_29 : Fs := sIf (bNot (tst (eFn (m__law_same 40) (aCons (eFn m_is_turned (aCons (eVar 6) (aCons (eVar 8) (aCons (eVar 17) (aNil))))) (aCons (eFn (m__law_same 40) (aCons (eVar 17) (aCons (eVar 11) (aNil)))) (aNil)))))) (b_law_28) (sNx)
abbrev b_law_L1 : Fs := b_law_29
abbrev b_law_30 : Fs := sFor (iSeq (eBin addD (eVar 16) (eLc (iSeq (eTup (aCons (eBin addD (eBin getD (eVar 3) (eVar 15)) (eC (.int 1))) (aCons (eC (.bl true)) (aCons (eC .non) (aCons (eC (.str "1")) (aCons (eTup (aCons (eC (.int 1)) (aNil))) (aCons (eNeg (eBin getD (eVar 3) (eVar 15))) (aCons (eBin getD (eVar 3) (eVar 15)) (aNil)))))))))) (tgN 18) (tYesD) (eBin addD (eBin addD (eSlG slD (eVar 3) none (some (eVar 15))) (eTup (aCons (eVar 18) (aNil)))) (eSlG slD (eVar 3) (some (eBin addD (eVar 15) (eC (.int 1)))) none)) [18]))) (tgN 17) (b_law_L1)
abbrev b_law_L2 : Fs := sSeq (b_law_2) (sSeq (b_law_3) (sSeq (b_law_4) (sSeq (b_law_5) (sSeq (b_law_6) (sSeq (b_law_7) (sSeq (b_law_9) (sSeq (b_law_11) (sSeq (b_law_12) (sSeq (b_law_13) (sSeq (b_law_15) (sSeq (b_law_18) (sSeq (b_law_19) (sSeq (b_law_24) (sSeq (b_law_25) (sSeq (b_law_26) (sSeq (b_law_27) (b_law_30)))))))))))))))))
abbrev b_law_31 : Fs := sFor (iRng1 (eC (.int 6))) (tgN 2) (b_law_L2)
abbrev b_law_32 : Fs := sSet 3 (eTup (aCons (eFn m_turn_between (aCons (eTup (aCons (eC (.int 7)) (aCons (eC (.int 1)) (aNil)))) (aCons (eTup (aCons (eNeg (eC (.int 1))) (aCons (eC (.int 7)) (aNil)))) (aNil)))) (aCons (eFn m_turn_between (aCons (eTup (aCons (eC (.int 5)) (aCons (eC (.int 0)) (aNil)))) (aCons (eTup (aCons (eC (.int 3)) (aCons (eNeg (eC (.int 4))) (aNil)))) (aNil)))) (aCons (eFn m_turn_between (aCons (eTup (aCons (eC (.int 1)) (aCons (eC (.int 0)) (aNil)))) (aCons (eTup (aCons (eC (.int 0)) (aCons (eC (.int 2)) (aNil)))) (aNil)))) (aCons (eFn m_turn_between (aCons (eTup (aCons (eC (.int 0)) (aCons (eC (.int 0)) (aNil)))) (aCons (eTup (aCons (eC (.int 0)) (aCons (eC (.int 0)) (aNil)))) (aNil)))) (aNil))))))
abbrev b_law_33 : Fs := sRt (eAnd (eFn (m__law_same 40) (aCons (eVar 3) (aCons (eTup (aCons (eTup (aCons (eC (.int 0)) (aCons (eC (.int 1)) (aCons (eC (.int 1)) (aNil))))) (aCons (eTup (aCons (eC (.int 3)) (aCons (eNeg (eC (.int 4))) (aCons (eC (.int 5)) (aNil))))) (aCons (eC .non) (aCons (eC .non) (aNil)))))) (aNil)))) (eBin eqD (eFn m_turned_point (aCons (eTup (aCons (eC (.int 0)) (aCons (eNeg (eC (.int 1))) (aCons (eC (.int 1)) (aNil))))) (aCons (eTup (aCons (eBin powD (eC (.int 10)) (eC (.int 12))) (aCons (eC (.int 3)) (aNil)))) (aNil)))) (eTup (aCons (eC (.int 3)) (aCons (eNeg (eBin powD (eC (.int 10)) (eC (.int 12)))) (aCons (eC (.int 1)) (aNil)))))))
abbrev b_law : Fs := sSeq (b_law_1) (sSeq (b_law_31) (sSeq (b_law_32) (b_law_33)))
def m_law : En → Out D := runM .val [false] 19 b_law
theorem ok_law (T : Tex fa fn K mg) : FnK P w K mg base "law" 42 ["script"] .val [false] m_law := by
  refine FnK.of (k := 41) T 23 46 sc_law [false] b_law (fun _ _ _ _ _ _ us hl => match us, hl with | [_], _ => rfl) fun f cdv A outer s H E hr q => ⟨[.fz, .fz, .fz, .fz, .fz, .fz, .fz, .fz, .fz, .fz, .fz, .fz, .fz, .fz, .fz, .fz, .fz, .fz, .fz], ?_⟩
  have nd := sc_law.nd
  show DB _ _ _ _ _ [.fz, .fz, .fz, .fz, .fz, .fz, .fz, .fz, .fz, .fz, .fz, .fz, .fz, .fz, .fz, .fz, .fz, .fz, .fz] _ _ _
  refine db_cons (κ1 := [.fz, .ow, .fz, .fz, .fz, .fz, .fz, .fz, .fz, .fz, .fz, .fz, .fz, .fz, .fz, .fz, .fz, .fz, .fz]) ?_ ?_
  · skip
    exact ds_own (de_fnk (ok__law_cup T) (hr.mono (by decide)) (takes_of rfl rfl rfl rfl) (da_cons (de_var rfl) (da_nil))) nd
  refine db_cons (κ1 := [.fz, .ow, .fz, .fz, .fz, .fz, .fz, .fz, .fz, .fz, .fz, .fz, .fz, .fz, .fz, .fz, .fz, .fz, .fz]) ?_ ?_
  · skip
    refine ds_for (di_rng1 (T.free 58) (de_int)) (κ2 := [.fz, .ow, .fz, .fz, .fz, .fz, .fz, .fz, .fz, .fz, .fz, .fz, .fz, .fz, .fz, .fz, .fz, .fz, .fz]) (dg_name rfl nd) ?_ (passes_of rfl)
    refine db_cons (κ1 := [.fz, .ow, .fz, .fz, .fz, .fz, .fz, .fz, .fz, .fz, .fz, .fz, .fz, .fz, .fz, .fz, .fz, .fz, .fz]) ?_ ?_
    · skip
      exact ds_par (de_fnkI (i := 1) (ok__law_some T) (hr.mono (by decide)) (takes_of rfl rfl rfl rfl) (da_cons (de_val (de_lst (da_cons (de_int) (da_cons (de_int) (da_cons (de_int) (da_nil)))))) (da_nil)) rfl) (de_fnkI (i := 1) (ok__law_some T) (hr.mono (by decide)) (takes_of rfl rfl rfl rfl) (da_cons (de_val (de_lst (da_cons (de_int) (da_cons (de_int) (da_cons (de_bin dop_pow (de_int) (de_int)) (da_nil)))))) (da_nil)) rfl) nd
    refine db_cons (κ1 := [.fz, .ow, .fz, .fz, .fz, .fz, .fz, .fz, .fz, .fz, .fz, .fz, .fz, .fz, .fz, .fz, .fz, .fz, .fz]) ?_ ?_
    · skip
      exact ds_par (de_fnkI (i := 1) (ok__law_turn T) (hr.mono (by decide)) (takes_of rfl rfl rfl rfl) (da_cons (de_var rfl) (da_nil)) rfl) (de_fnkI (i := 1) (ok__law_turn T) (hr.mono (by decide)) (takes_of rfl rfl rfl rfl) (da_cons (de_var rfl) (da_nil)) rfl) nd
    refine db_cons (κ1 := [.fz, .ow, .fz, .fz, .fz, .fz, .fz, .fz, .fz, .fz, .fz, .fz, .fz, .fz, .fz, .fz, .fz, .fz, .fz]) ?_ ?_
    · skip
      exact ds_set (de_tup (da_cons (de_bin dop_sub (de_fnkI (i := 1) (ok__law_roll T) (hr.mono (by decide)) (takes_of rfl rfl rfl rfl) (da_cons (de_bin dop_add (de_bin dop_mul (de_int) (de_var rfl)) (de_int)) (da_nil)) rfl) (de_var rfl)) (da_cons (de_bin dop_sub (de_fnkI (i := 1) (ok__law_roll T) (hr.mono (by decide)) (takes_of rfl rfl rfl rfl) (da_cons (de_bin dop_add (de_bin dop_mul (de_int) (de_var rfl)) (de_int)) (da_nil)) rfl) (de_var rfl)) (da_nil)))) nd
    refine db_cons (κ1 := [.fz, .ow, .fz, .fz, .fz, .fz, .fz, .fz, .fz, .fz, .fz, .fz, .fz, .fz, .fz, .fz, .fz, .fz, .fz]) ?_ ?_
    · skip
      exact ds_par (de_bin dop_sub (de_bin dop_mul (de_ix (dix_any (rm64 hr)) (de_var rfl) (de_int)) (de_ix (dix_any (rm64 hr)) (de_var rfl) (de_int))) (de_bin dop_mul (de_ix (dix_any (rm64 hr)) (de_var rfl) (de_int)) (de_ix (dix_any (rm64 hr)) (de_var rfl) (de_int)))) (de_bin dop_add (de_bin dop_mul (de_ix (dix_any (rm64 hr)) (de_var rfl) (de_int)) (de_ix (dix_any (rm64 hr)) (de_var rfl) (de_int))) (de_bin dop_mul (de_ix (dix_any (rm64 hr)) (de_var rfl) (de_int)) (de_ix (dix_any (rm64 hr)) (de_var rfl) (de_int)))) nd
    refine db_cons (κ1 := [.fz, .ow, .fz, .fz, .fz, .fz, .fz, .fz, .fz, .fz, .fz, .fz, .fz, .fz, .fz, .fz, .fz, .fz, .fz]) ?_ ?_
    · skip
      exact ds_set (de_fnk (ok__law_lowered T) (hr.mono (by decide)) (takes_of rfl rfl rfl rfl) (da_cons (de_var rfl) (da_cons (de_var rfl) (da_cons (de_ix (dix_any (rm64 hr)) (de_var rfl) (de_int)) (da_nil))))) nd
    refine db_cons (κ1 := [.fz, .ow, .fz, .fz, .fz, .fz, .fz, .fz, .fz, .fz, .fz, .fz, .fz, .fz, .fz, .fz, .fz, .fz, .fz]) ?_ ?_
    · skip
      exact ds_set (de_fnk (ok_turned_point T) (hr.mono (by decide)) (takes_of rfl rfl rfl rfl) (da_cons (de_var rfl) (da_cons (de_var rfl) (da_nil)))) nd
    refine db_cons (κ1 := [.fz, .ow, .fz, .fz, .fz, .fz, .fz, .fz, .fz, .fz, .fz, .fz, .fz, .fz, .fz, .fz, .fz, .fz, .fz]) ?_ ?_
    · skip
      refine ds_if (dt_not (dt_val (de_fnk (ok__law_same T 40) (hr.mono (by decide)) (takes_of rfl rfl rfl rfl) (da_cons (de_tup (da_cons (de_var rfl) (da_cons (de_fnk (ok_stays_whole T) (hr.mono (by decide)) (takes_of rfl rfl rfl rfl) (da_cons (de_var rfl) (da_cons (de_var rfl) (da_nil)))) (da_nil)))) (da_cons (de_tup (da_cons (de_var rfl) (da_cons (de_cmp (dop_eq (rm64 hr)) (de_ix (dix_any (rm64 hr)) (de_var rfl) (de_int)) (de_int)) (da_nil)))) (da_nil)))))) ?_ ?_
      · skip
        refine db_one ?_
        · skip
          exact ds_ret (de_bl) Io.refl
      · skip
        exact db_nil
    refine db_cons (κ1 := [.fz, .ow, .fz, .fz, .fz, .fz, .fz, .fz, .fz, .fz, .fz, .fz, .fz, .fz, .fz, .fz, .fz, .fz, .fz]) ?_ ?_
    · skip
      refine ds_if (dt_cmp (dop_ne (rm64 hr)) (de_bin dop_add (de_bin dop_mul (de_ix (dix_any (rm64 hr)) (de_var rfl) (de_int)) (de_ix (dix_any (rm64 hr)) (de_var rfl) (de_int))) (de_bin dop_mul (de_ix (dix_any (rm64 hr)) (de_var rfl) (de_int)) (de_ix (dix_any (rm64 hr)) (de_var rfl) (de_int)))) (de_bin dop_mul (de_bin dop_mul (de_bin dop_add (de_bin dop_mul (de_ix (dix_any (rm64 hr)) (de_var rfl) (de_int)) (de_ix (dix_any (rm64 hr)) (de_var rfl) (de_int))) (de_bin dop_mul (de_ix (dix_any (rm64 hr)) (de_var rfl) (de_int)) (de_ix (dix_any (rm64 hr)) (de_var rfl) (de_int)))) (de_ix (dix_any (rm64 hr)) (de_var rfl) (de_int))) (de_ix (dix_any (rm64 hr)) (de_var rfl) (de_int)))) ?_ ?_
      · skip
        refine db_one ?_
        · skip
          exact ds_ret (de_bl) Io.refl
      · skip
        exact db_nil
    refine db_cons (κ1 := [.fz, .ow, .fz, .fz, .fz, .fz, .fz, .fz, .fz, .fz, .fz, .fz, .fz, .fz, .fz, .fz, .fz, .fz, .fz]) ?_ ?_
    · skip
      exact ds_set (de_tup (da_cons (de_bin dop_mul (de_ix (dix_any (rm64 hr)) (de_var rfl) (de_int)) (de_ix (dix_any (rm64 hr)) (de_var rfl) (de_int))) (da_cons (de_bin dop_mul (de_ix (dix_any (rm64 hr)) (de_var rfl) (de_int)) (de_ix (dix_any (rm64 hr)) (de_var rfl) (de_int))) (da_nil)))) nd
    refine db_cons (κ1 := [.fz, .ow, .fz, .fz, .fz, .fz, .fz, .fz, .fz, .fz, .fz, .fz, .fz, .fz, .fz, .fz, .fz, .fz, .fz]) ?_ ?_
    · skip
      exact ds_set (de_fnk (ok_turned_point T) (hr.mono (by decide)) (takes_of rfl rfl rfl rfl) (da_cons (de_var rfl) (da_cons (de_var rfl) (da_nil)))) nd
    refine db_cons (κ1 := [.fz, .ow, .fz, .fz, .fz, .fz, .fz, .fz, .fz, .fz, .fz, .fz, .fz, .fz, .fz, .fz, .fz, .fz, .fz]) ?_ ?_
    · skip
      refine ds_if (dt_w (dw_or (dt_cmp (dop_ne (rm64 hr)) (de_ix (dix_any (rm64 hr)) (de_var rfl) (de_int)) (de_int)) (dw_one (dt_not (dt_val (de_fnk (ok__law_same T 40) (hr.mono (by decide)) (takes_of rfl rfl rfl rfl) (da_cons (de_fnk (ok_turned_point T) (hr.mono (by decide)) (takes_of rfl rfl rfl rfl) (da_cons (de_fnk (ok_undone T) (hr.mono (by decide)) (takes_of rfl rfl rfl rfl) (da_cons (de_var rfl) (da_nil))) (da_cons (de_sl dsl (de_var rfl) do_none (do_some (de_int))) (da_nil)))) (da_cons (de_tup (da_cons (de_ix (dix_any (rm64 hr)) (de_var rfl) (de_int)) (da_cons (de_ix (dix_any (rm64 hr)) (de_var rfl) (de_int)) (da_cons (de_int) (da_nil))))) (da_nil))))))))) ?_ ?_
      · skip
        refine db_one ?_
        · skip
          exact ds_ret (de_bl) Io.refl
      · skip
        exact db_nil
    refine db_cons (κ1 := [.fz, .ow, .fz, .fz, .fz, .fz, .fz, .fz, .fz, .fz, .fz, .fz, .fz, .fz, .fz, .fz, .fz, .fz, .fz]) ?_ ?_
    · skip
      refine ds_if (dt_w (dw_and (dt_cmp dop_le (de_callB (dc_max2 rfl) (T.free 60) rfl boot_max (da_cons (de_callB (dc_maxA rfl (rm64 hr)) (T.free 60) rfl boot_max (da_cons (de_sl dsl (de_var rfl) do_none (do_some (de_int))) (da_nil))) (da_cons (de_neg (de_callB (dc_minA rfl (rm64 hr)) (T.free 61) rfl boot_min (da_cons (de_sl dsl (de_var rfl) do_none (do_some (de_int))) (da_nil)))) (da_nil)))) (de_bin dop_pow (de_int) (de_int))) (dw_one (dt_cmp dop_le (de_callB (dc_maxA rfl (rm64 hr)) (T.free 60) rfl boot_max (da_cons (de_fnk (ok_put_together T) (hr.mono (by decide)) (takes_of rfl rfl rfl rfl) (da_cons (de_var rfl) (da_cons (de_var rfl) (da_nil)))) (da_nil))) (de_bin dop_pow (de_int) (de_int)))))) ?_ ?_
      · skip
        refine db_one ?_
        · skip
          refine ds_if (dt_cmp (dop_ne (rm64 hr)) (de_fnk (ok_turned_point T) (hr.mono (by decide)) (takes_of rfl rfl rfl rfl) (da_cons (de_var rfl) (da_cons (de_sl dsl (de_var rfl) do_none (do_some (de_int))) (da_nil)))) (de_fnk (ok_turned_point T) (hr.mono (by decide)) (takes_of rfl rfl rfl rfl) (da_cons (de_fnk (ok_put_together T) (hr.mono (by decide)) (takes_of rfl rfl rfl rfl) (da_cons (de_var rfl) (da_cons (de_var rfl) (da_nil)))) (da_cons (de_var rfl) (da_nil))))) ?_ ?_
          · skip
            refine db_one ?_
            · skip
              exact ds_ret (de_bl) Io.refl
          · skip
            exact db_nil
      · skip
        exact db_nil
    refine db_cons (κ1 := [.fz, .ow, .fz, .fz, .fz, .fz, .fz, .fz, .fz, .fz, .fz, .fz, .fz, .fz, .fz, .fz, .fz, .fz, .fz]) ?_ ?_
    · skip
      exact ds_set (de_fnk (ok_turn_between T) (hr.mono (by decide)) (takes_of rfl rfl rfl rfl) (da_cons (de_var rfl) (da_cons (de_sl dsl (de_var rfl) do_none (do_some (de_int))) (da_nil)))) nd
    refine db_cons (κ1 := [.fz, .ow, .fz, .fz, .fz, .fz, .fz, .fz, .fz, .fz, .fz, .fz, .fz, .fz, .fz, .fz, .fz, .fz, .fz]) ?_ ?_
    · skip
      refine ds_if (dt_cmp (dop_eq (rm64 hr)) (de_var rfl) (de_tup (da_cons (de_int) (da_cons (de_int) (da_nil))))) ?_ ?_
      · skip
        refine db_one ?_
        · skip
          refine ds_if (dt_cmp dop_isnot2 (de_var rfl) (de_non)) ?_ ?_
          · skip
            refine db_one ?_
            · skip
              exact ds_ret (de_bl) Io.refl
          · skip
            exact db_nil
      · skip
        refine db_one ?_
        · skip
          refine ds_if (dt_w (dw_or (dt_not (dt_val (de_fnk (ok__law_same T 40) (hr.mono (by decide)) (takes_of rfl rfl rfl rfl) (da_cons (de_var rfl) (da_cons (de_var rfl) (da_nil)))))) (dw_one (dt_cmp dop_isnot2 (de_fnk (ok_turn_between T) (hr.mono (by decide)) (takes_of rfl rfl rfl rfl) (da_cons (de_var rfl) (da_cons (de_tup (da_cons (de_ix (dix_any (rm64 hr)) (de_var rfl) (de_int)) (da_cons (de_bin dop_add (de_ix (dix_any (rm64 hr)) (de_var rfl) (de_int)) (de_int)) (da_nil)))) (da_nil)))) (de_non))))) ?_ ?_
          · skip
            refine db_one ?_
            · skip
              exact ds_ret (de_bl) Io.refl
          · skip
            exact db_nil
    refine db_cons (κ1 := [.fz, .ow, .fz, .fz, .fz, .fz, .fz, .fz, .fz, .fz, .fz, .fz, .fz, .fz, .fz, .fz, .fz, .fz, .fz]) ?_ ?_
    · skip
      exact ds_set (de_fnkI (i := 1) (ok__law_roll T) (hr.mono (by decide)) (takes_of rfl rfl rfl rfl) (da_cons (de_int) (da_nil)) rfl) nd
    refine db_cons (κ1 := [.fz, .ow, .fz, .fz, .fz, .fz, .fz, .fz, .fz, .fz, .fz, .fz, .fz, .fz, .fz, .fz, .ow, .fz, .fz]) ?_ ?_
    · skip
      exact ds_own (de_lst (da_cons (de_var rfl) (da_cons (de_sl dsl (de_var rfl) do_none (do_some (de_int))) (da_cons (de_bin dop_add (de_var rfl) (de_tup (da_cons (de_int) (da_nil)))) (da_cons (de_val (de_callTy dc_list (T.free 57) rfl boot_list (da_cons (de_var rfl) (da_nil)))) (da_cons (de_tup (da_nil)) (da_cons (de_non) (da_cons (de_int) (da_cons (de_str) (da_cons (de_tup (da_cons (de_bin dop_mul (de_int) (de_ix (dix_any (rm64 hr)) (de_var rfl) (de_int))) (da_cons (de_bin dop_mul (de_int) (de_ix (dix_any (rm64 hr)) (de_var rfl) (de_int))) (da_cons (de_bin dop_mul (de_int) (de_ix (dix_any (rm64 hr)) (de_var rfl) (de_int))) (da_nil))))) (da_nil))))))))))) nd
    refine db_cons (κ1 := [.fz, .ow, .fz, .fz, .fz, .fz, .fz, .fz, .fz, .fz, .fz, .fz, .fz, .fz, .fz, .fz, .ow, .fz, .fz]) ?_ ?_
    · skip
      exact ds_expr (de_mt (i := 16) dmt_append dty_list PySem.F.plainAttrs_list PySem.F.slot_list_append PySem.F.type_list_append (da_cons (de_tup (da_cons (de_neg (de_ix (dix_any (rm64 hr)) (de_var rfl) (de_int))) (da_cons (de_neg (de_ix (dix_any (rm64 hr)) (de_var rfl) (de_int))) (da_cons (de_neg (de_ix (dix_any (rm64 hr)) (de_var rfl) (de_int))) (da_nil))))) (da_nil)) rfl)
    refine db_one ?_
    · skip
      refine ds_for (di_seq (de_bin dop_add (de_frz rfl) (de_val (de_lc (own := [("odd", 18)]) (js := [18]) (di_seq (de_tup (da_cons (de_bin dop_add (de_ix (dix_any (rm64 hr)) (de_var rfl) (de_var rfl)) (de_int)) (da_cons (de_bl) (da_cons (de_non) (da_cons (de_str) (da_cons (de_tup (da_cons (de_int) (da_nil))) (da_cons (de_neg (de_ix (dix_any (rm64 hr)) (de_var rfl) (de_var rfl))) (da_cons (de_ix (dix_any (rm64 hr)) (de_var rfl) (de_var rfl)) (da_nil)))))))))) nd (blkOk_by rfl) (fun _ _ _ _ _ => (dg_name rfl nd)) (fun _ _ _ _ _ => dts_nil) (fun _ _ _ _ _ => (de_bin dop_add (de_bin dop_add (de_sl dsl (de_var rfl) do_none (do_some (de_var rfl))) (de_tup (da_cons (de_var rfl) (da_nil)))) (de_sl dsl (de_var rfl) (do_some (de_bin dop_add (de_var rfl) (de_int))) do_none))))))) (κ2 := [.fz, .ow, .fz, .fz, .fz, .fz, .fz, .fz, .fz, .fz, .fz, .fz, .fz, .fz, .fz, .fz, .fz, .fz, .fz]) (dg_name rfl nd) ?_ (passes_of rfl)
      refine db_one ?_
      · skip
        refine ds_if (dt_not (dt_val (de_fnk (ok__law_same T 40) (hr.mono (by decide)) (takes_of rfl rfl rfl rfl) (da_cons (de_fnk (ok_is_turned T) (hr.mono (by decide)) (takes_of rfl rfl rfl rfl) (da_cons (de_var rfl) (da_cons (de_var rfl) (da_cons (de_var rfl) (da_nil))))) (da_cons (de_fnk (ok__law_same T 40) (hr.mono (by decide)) (takes_of rfl rfl rfl rfl) (da_cons (de_var rfl) (da_cons (de_var rfl) (da_nil)))) (da_nil)))))) ?_ ?_
        · skip
          refine db_one ?_
          · skip
            exact ds_ret (de_bl) Io.refl
        · skip
          exact db_nil
  refine db_cons (κ1 := [.fz, .ow, .fz, .fz, .fz, .fz, .fz, .fz, .fz, .fz, .fz, .fz, .fz, .fz, .fz, .fz, .fz, .fz, .fz]) ?_ ?_
  · skip
    exact ds_set (de_tup (da_cons (de_fnk (ok_turn_between T) (hr.mono (by decide)) (takes_of rfl rfl rfl rfl) (da_cons (de_tup (da_cons (de_int) (da_cons (de_int) (da_nil)))) (da_cons (de_tup (da_cons (de_neg (de_int)) (da_cons (de_int) (da_nil)))) (da_nil)))) (da_cons (de_fnk (ok_turn_between T) (hr.mono (by decide)) (takes_of rfl rfl rfl rfl) (da_cons (de_tup (da_cons (de_int) (da_cons (de_int) (da_nil)))) (da_cons (de_tup (da_cons (de_int) (da_cons (de_neg (de_int)) (da_nil)))) (da_nil)))) (da_cons (de_fnk (ok_turn_between T) (hr.mono (by decide)) (takes_of rfl rfl rfl rfl) (da_cons (de_tup (da_cons (de_int) (da_cons (de_int) (da_nil)))) (da_cons (de_tup (da_cons (de_int) (da_cons (de_int) (da_nil)))) (da_nil)))) (da_cons (de_fnk (ok_turn_between T) (hr.mono (by decide)) (takes_of rfl rfl rfl rfl) (da_cons (de_tup (da_cons (de_int) (da_cons (de_int) (da_nil)))) (da_cons (de_tup (da_cons (de_int) (da_cons (de_int) (da_nil)))) (da_nil)))) (da_nil)))))) nd
  refine db_one ?_
  · skip
    exact ds_ret (de_and (de_fnk (ok__law_same T 40) (hr.mono (by decide)) (takes_of rfl rfl rfl rfl) (da_cons (de_var rfl) (da_cons (de_tup (da_cons (de_tup (da_cons (de_int) (da_cons (de_int) (da_cons (de_int) (da_nil))))) (da_cons (de_tup (da_cons (de_int) (da_cons (de_neg (de_int)) (da_cons (de_int) (da_nil))))) (da_cons (de_non) (da_cons (de_non) (da_nil)))))) (da_nil)))) (de_one (de_cmp (dop_eq (rm64 hr)) (de_fnk (ok_turned_point T) (hr.mono (by decide)) (takes_of rfl rfl rfl rfl) (da_cons (de_tup (da_cons (de_int) (da_cons (de_neg (de_int)) (da_cons (de_int) (da_nil))))) (da_cons (de_tup (da_cons (de_bin dop_pow (de_int) (de_int)) (da_cons (de_int) (da_nil)))) (da_nil)))) (de_tup (da_cons (de_int) (da_cons (de_neg (de_bin dop_pow (de_int) (de_int))) (da_cons (de_int) (da_nil)))))))) (IoL.io (.same (.ow (.same (.same (.same (.same (.same (.same (.same (.same (.same (.same (.same (.same (.same (.same (.same (.same (.same .nil))))))))))))))))))))
end
end K74

set_option maxHeartbeats 4000000
namespace K74
open PySem PySem.Spec PyProof.Rows L2 Pu
theorem divisor_ok (a b : Int) (ha : sm a) (hb : sm b) : m_divisor_in [some (.int a), some (.int b)] = .ok (.int (Int.gcd a b : Int)) [some (.int a), some (.int b)] := by
  refine run_rt (ρ' := [some (.int (Int.gcd a b : Int)), some (.int 0)]) ?_
  have k1 : sPar 0 1 (eCall (one1 absD) (aCons (eVar 0) (aNil))) (eCall (one1 absD) (aCons (eVar 1) (aNil))) [some (.int a), some (.int b)] = .ok .nx [some (.int (a.natAbs : Int)), some (.int (b.natAbs : Int))] := by
    simp [sSeq, sSet, sRt, sNx, sDo, sIf, sAsg, sPar, eVar, eC, eBin, eCall, one1, aCons, aNil, eTup, eFn, eNeg, eNot, eAnd, eChain, eIsi, tst, bAnd, bOr, bNot, Out.bind, Out.of, tgT, tgsCons, tgsNil, tgN, absD, abs_nat]
  show b_divisor_in [some (.int a), some (.int b)] = _
  have hl := gcd_loop (body := gB1) (fun x y hx hy h0 => gB1_step hx hy h0) (b.natAbs + 1) a.natAbs b.natAbs ha hb (Nat.lt_succ_self _)
  unfold b_divisor_in
  rw [seq_nx k1]
  have hw : sWhile gT gB1 (fun ρ => natAt ρ 1 + 1) [some (.int (a.natAbs : Int)), some (.int (b.natAbs : Int))] = .ok .nx [some (.int (Int.gcd a b : Int)), some (.int 0)] := by
    unfold sWhile
    have e : natAt [some (.int (a.natAbs : Int)), some (.int (b.natAbs : Int))] 1 = b.natAbs := by simp [sSeq, sSet, sRt, sNx, sDo, sIf, sAsg, sPar, eVar, eC, eBin, eCall, one1, aCons, aNil, eTup, eFn, eNeg, eNot, eAnd, eChain, eIsi, tst, bAnd, bOr, bNot, Out.bind, Out.of, tgT, tgsCons, tgsNil, tgN, natAt]
    dsimp only
    rw [e]
    exact hl
  show sSeq (sWhile gT gB1 (fun ρ => natAt ρ 1 + 1)) (sRt (eVar 0)) _ = _
  rw [seq_nx hw]
  simp [sSeq, sSet, sRt, sNx, sDo, sIf, sAsg, sPar, eVar, eC, eBin, eCall, one1, aCons, aNil, eTup, eFn, eNeg, eNot, eAnd, eChain, eIsi, tst, bAnd, bOr, bNot, Out.bind, Out.of, tgT, tgsCons, tgsNil, tgN]
theorem ldivisor_ok (a b : Int) (ha : sm a) (hb : sm b) : m__law_divisor [some (.int a), some (.int b)] = .ok (.int (Int.gcd a b : Int)) [some (.int a), some (.int b)] := by
  refine run_rt (ρ' := [some (.int (Int.gcd a b : Int)), some (.int 0)]) ?_
  show b__law_divisor [some (.int a), some (.int b)] = _
  have k1 : sPar 0 1 (eCall (two2 fun i j => if j > i then j else i) (aCons (eVar 0) (aCons (eNeg (eVar 0)) (aNil)))) (eCall (two2 fun i j => if j > i then j else i) (aCons (eVar 1) (aCons (eNeg (eVar 1)) (aNil)))) [some (.int a), some (.int b)] = .ok .nx [some (.int (a.natAbs : Int)), some (.int (b.natAbs : Int))] := by
    have e1 := max_nat a
    have e2 := max_nat b
    simp only [gt_iff_lt] at e1 e2
    simp [sSeq, sSet, sRt, sNx, sDo, sIf, sAsg, sPar, eVar, eC, eBin, eCall, one1, aCons, aNil, eTup, eFn, eNeg, eNot, eAnd, eChain, eIsi, tst, bAnd, bOr, bNot, Out.bind, Out.of, tgT, tgsCons, tgsNil, tgN, two2, e1, e2]
  have hl := gcd_loop (body := gB2) (fun x y hx hy h0 => gB2_step h0) (b.natAbs + 1) a.natAbs b.natAbs ha hb (Nat.lt_succ_self _)
  unfold b__law_divisor
  rw [seq_nx k1]
  have hw : sWhile gT gB2 (fun ρ => natAt ρ 1 + 1) [some (.int (a.natAbs : Int)), some (.int (b.natAbs : Int))] = .ok .nx [some (.int (Int.gcd a b : Int)), some (.int 0)] := by
    unfold sWhile
    have e : natAt [some (.int (a.natAbs : Int)), some (.int (b.natAbs : Int))] 1 = b.natAbs := by simp [sSeq, sSet, sRt, sNx, sDo, sIf, sAsg, sPar, eVar, eC, eBin, eCall, one1, aCons, aNil, eTup, eFn, eNeg, eNot, eAnd, eChain, eIsi, tst, bAnd, bOr, bNot, Out.bind, Out.of, tgT, tgsCons, tgsNil, tgN, natAt]
    dsimp only
    rw [e]
    exact hl
  show sSeq (sWhile gT gB2 (fun ρ => natAt ρ 1 + 1)) (sRt (eVar 0)) _ = _
  rw [seq_nx hw]
  simp [sSeq, sSet, sRt, sNx, sDo, sIf, sAsg, sPar, eVar, eC, eBin, eCall, one1, aCons, aNil, eTup, eFn, eNeg, eNot, eAnd, eChain, eIsi, tst, bAnd, bOr, bNot, Out.bind, Out.of, tgT, tgsCons, tgsNil, tgN]
theorem sm_gcd {x y : Int} (hx : sm x) (hy : sm y) : sm (Int.gcd x y : Int) := by
  unfold sm at *
  by_cases h : x = 0
  · subst h; simpa using hy
  · have := Int.gcd_le_natAbs_left y h
    simp only [Int.natAbs_natCast]
    omega
theorem gg_sm {x y z : Int} (hx : sm x) (hy : sm y) (hz : sm z) : sm (gg x y z) := sm_gcd (sm_gcd hx hy) hz
theorem three_line : (3 : Nat) ≤ sizeLine := by rw [sizeLine_eq]; decide
theorem lowered_ok (x y z : Int) (hx : sm x) (hy : sm y) (hz : sm z) (h0 : z ≠ 0) : m_lowered [some (.int x), some (.int y), some (.int z)] = .ok (lowT x y z) [some (.int x), some (.int y), some (.int z)] := by
  have h1 := divisor_ok x y hx hy
  have h2 := divisor_ok (Int.gcd x y : Int) z (sm_gcd hx hy) hz
  have hd : divOk (gg x y z) = true := divOk_sm (by have := gg_pos (x := x) (y := y) h0; omega) (gg_sm hx hy hz)
  have hp := gg_pos (x := x) (y := y) h0
  have e : ∀ i : Int, i.fdiv (gg x y z) = i / gg x y z := fun i => Int.fdiv_eq_ediv_of_nonneg _ (by omega)
  refine run_rt (ρ' := [some (.int x), some (.int y), some (.int z), some (.int (gg x y z))]) ?_
  have h3 := three_line
  unfold gg at hd e
  simp [sSeq, sSet, sRt, sNx, sDo, sIf, sAsg, sPar, eVar, eC, eBin, eCall, one1, aCons, aNil, eTup, eFn, eNeg, eNot, eAnd, eChain, eIsi, tst, bAnd, bOr, bNot, Out.bind, Out.of, tgT, tgsCons, tgsNil, tgN, b_lowered, h1, h2, fdivD, hd, e, lowT, gg, h3]
theorem llowered_ok (x y z : Int) (hx : sm x) (hy : sm y) (hz : sm z) (h0 : z ≠ 0) : m__law_lowered [some (.int x), some (.int y), some (.int z)] = .ok (lowT x y z) [some (.int x), some (.int y), some (.int z)] := by
  have h1 := ldivisor_ok x y hx hy
  have h2 := ldivisor_ok (Int.gcd x y : Int) z (sm_gcd hx hy) hz
  have hd : divOk (gg x y z) = true := divOk_sm (by have := gg_pos (x := x) (y := y) h0; omega) (gg_sm hx hy hz)
  have hp := gg_pos (x := x) (y := y) h0
  have e : ∀ i : Int, i.fdiv (gg x y z) = i / gg x y z := fun i => Int.fdiv_eq_ediv_of_nonneg _ (by omega)
  refine run_rt (ρ' := [some (.int x), some (.int y), some (.int z), some (.int (gg x y z))]) ?_
  have h3 := three_line
  unfold gg at hd e
  simp [sSeq, sSet, sRt, sNx, sDo, sIf, sAsg, sPar, eVar, eC, eBin, eCall, one1, aCons, aNil, eTup, eFn, eNeg, eNot, eAnd, eChain, eIsi, tst, bAnd, bOr, bNot, Out.bind, Out.of, tgT, tgsCons, tgsNil, tgN, b__law_lowered, h1, h2, fdivD, hd, e, lowT, gg, h3]
theorem fits_whole_ok (i lo hi : Int) : m_fits_whole [some (.int i), some (.int lo), some (.int hi)] = .ok (.bl (decide (lo ≤ i) && decide (i ≤ hi))) [some (.int i), some (.int lo), some (.int hi)] := by
  refine run_rt (ρ' := [some (.int i), some (.int lo), some (.int hi)]) ?_
  by_cases h : lo ≤ i
  · simp [sSeq, sSet, sRt, sNx, sDo, sIf, sAsg, sPar, eVar, eC, eBin, eCall, one1, aCons, aNil, eTup, eFn, eNeg, eNot, eAnd, eChain, eIsi, tst, bAnd, bOr, bNot, Out.bind, Out.of, tgT, tgsCons, tgsNil, tgN, b_fits_whole, isiI, isiB, leD, int2, h]
  · simp [sSeq, sSet, sRt, sNx, sDo, sIf, sAsg, sPar, eVar, eC, eBin, eCall, one1, aCons, aNil, eTup, eFn, eNeg, eNot, eAnd, eChain, eIsi, tst, bAnd, bOr, bNot, Out.bind, Out.of, tgT, tgsCons, tgsNil, tgN, b_fits_whole, isiI, isiB, leD, int2, h]
theorem is_tuple_ok (xs : List D) (lo hi : Int) : m_is_tuple_of [some (.tup xs), some (.int lo), some (.int hi)] = .ok (.bl (decide (lo ≤ (xs.length : Int)) && decide ((xs.length : Int) ≤ hi))) [some (.tup xs), some (.int lo), some (.int hi)] := by
  refine run_rt (ρ' := [some (.tup xs), some (.int lo), some (.int hi)]) ?_
  by_cases h : lo ≤ (xs.length : Int)
  · simp [sSeq, sSet, sRt, sNx, sDo, sIf, sAsg, sPar, eVar, eC, eBin, eCall, one1, aCons, aNil, eTup, eFn, eNeg, eNot, eAnd, eChain, eIsi, tst, bAnd, bOr, bNot, Out.bind, Out.of, tgT, tgsCons, tgsNil, tgN, b_is_tuple_of, isiT, lenD, lenS, leD, int2, h]
  · simp [sSeq, sSet, sRt, sNx, sDo, sIf, sAsg, sPar, eVar, eC, eBin, eCall, one1, aCons, aNil, eTup, eFn, eNeg, eNot, eAnd, eChain, eIsi, tst, bAnd, bOr, bNot, Out.bind, Out.of, tgT, tgsCons, tgsNil, tgN, b_is_tuple_of, isiT, lenD, lenS, leD, int2, h]
/-- a turn: whole, on the circle, not to be lowered, not too great -/
structure VT (x y z : Int) : Prop where
  pos : 0 < z
  circ : x * x + y * y = z * z
  prim : Int.gcd x y = 1
  far : z ≤ 1000000000000
theorem VT.abs {x y z : Int} (h : VT x y z) : x.natAbs ≤ z.natAbs ∧ y.natAbs ≤ z.natAbs := by
  have hz := h.pos
  have hc := h.circ
  have key : ∀ {a b : Int}, a * a + b * b = z * z → a.natAbs ≤ z.natAbs := fun {a b} hc => by
    have hb : 0 ≤ b * b := by
      by_cases hb : 0 ≤ b
      · exact Int.mul_nonneg hb hb
      · exact Int.mul_nonneg_of_nonpos_of_nonpos (by omega) (by omega)
    have h2 : a * a ≤ z * z := by omega
    have h3 : a.natAbs * a.natAbs ≤ z.natAbs * z.natAbs := by
      have e1 : ((a.natAbs * a.natAbs : Nat) : Int) = a * a := by simp [sSeq, sSet, sRt, sNx, sDo, sIf, sAsg, sPar, eVar, eC, eBin, eCall, one1, aCons, aNil, eTup, eFn, eNeg, eNot, eAnd, eChain, eIsi, tst, bAnd, bOr, bNot, Out.bind, Out.of, tgT, tgsCons, tgsNil, tgN]
      have e2 : ((z.natAbs * z.natAbs : Nat) : Int) = z * z := by simp [sSeq, sSet, sRt, sNx, sDo, sIf, sAsg, sPar, eVar, eC, eBin, eCall, one1, aCons, aNil, eTup, eFn, eNeg, eNot, eAnd, eChain, eIsi, tst, bAnd, bOr, bNot, Out.bind, Out.of, tgT, tgsCons, tgsNil, tgN]
      omega
    exact Nat.mul_self_le_mul_self_iff.mp h3
  exact ⟨key hc, key (a := y) (b := x) (by omega)⟩
theorem VT.bd {x y z : Int} (h : VT x y z) : bd 1000000000000 x ∧ bd 1000000000000 y ∧ bd 1000000000000 z := by
  obtain ⟨h1, h2⟩ := h.abs
  have h3 := h.pos
  have h4 := h.far
  unfold Pu.bd
  omega
theorem VT.neg {x y z : Int} (h : VT x y z) : VT x (-y) z := ⟨h.pos, by have := h.circ; rw [Int.neg_mul_neg]; exact this, by rw [Int.gcd_neg]; exact h.prim, h.far⟩
theorem len3 (a b c : D) : ((3 : Int) ≤ ([a, b, c] : List D).length) = True := by simp [sSeq, sSet, sRt, sNx, sDo, sIf, sAsg, sPar, eVar, eC, eBin, eCall, one1, aCons, aNil, eTup, eFn, eNeg, eNot, eAnd, eChain, eIsi, tst, bAnd, bOr, bNot, Out.bind, Out.of, tgT, tgsCons, tgsNil, tgN]
theorem fits_turn_ok {x y z : Int} (h : VT x y z) : m_fits_turn [some (.tup [.int x, .int y, .int z])] = .ok (.bl true) [some (.tup [.int x, .int y, .int z])] := by
  obtain ⟨bx, by_, bz⟩ := h.bd
  have sx := bd_sm bx (big_lt _)
  have sy := bd_sm by_ (big_lt _)
  have sz := bd_sm bz (big_lt _)
  have h1 := divisor_ok x y sx sy
  have hx := fits_whole_ok x (-1000000000000) 1000000000000
  have hy := fits_whole_ok y (-1000000000000) 1000000000000
  have hz := fits_whole_ok z (-1000000000000) 1000000000000
  have ht := is_tuple_ok [.int x, .int y, .int z] 3 3
  unfold Pu.bd at bx by_ bz
  have c1 : (decide (-1000000000000 ≤ x) && decide (x ≤ 1000000000000)) = true := by simp [sSeq, sSet, sRt, sNx, sDo, sIf, sAsg, sPar, eVar, eC, eBin, eCall, one1, aCons, aNil, eTup, eFn, eNeg, eNot, eAnd, eChain, eIsi, tst, bAnd, bOr, bNot, Out.bind, Out.of, tgT, tgsCons, tgsNil, tgN]; omega
  have c2 : (decide (-1000000000000 ≤ y) && decide (y ≤ 1000000000000)) = true := by simp [sSeq, sSet, sRt, sNx, sDo, sIf, sAsg, sPar, eVar, eC, eBin, eCall, one1, aCons, aNil, eTup, eFn, eNeg, eNot, eAnd, eChain, eIsi, tst, bAnd, bOr, bNot, Out.bind, Out.of, tgT, tgsCons, tgsNil, tgN]; omega
  have c3 : (decide (-1000000000000 ≤ z) && decide (z ≤ 1000000000000)) = true := by simp [sSeq, sSet, sRt, sNx, sDo, sIf, sAsg, sPar, eVar, eC, eBin, eCall, one1, aCons, aNil, eTup, eFn, eNeg, eNot, eAnd, eChain, eIsi, tst, bAnd, bOr, bNot, Out.bind, Out.of, tgT, tgsCons, tgsNil, tgN]; omega
  rw [c1] at hx
  rw [c2] at hy
  rw [c3] at hz
  rw [h.prim] at h1
  have c4 : (decide ((3 : Int) ≤ (([D.int x, .int y, .int z] : List D).length : Int)) && decide ((([D.int x, .int y, .int z] : List D).length : Int) ≤ 3)) = true := by simp [sSeq, sSet, sRt, sNx, sDo, sIf, sAsg, sPar, eVar, eC, eBin, eCall, one1, aCons, aNil, eTup, eFn, eNeg, eNot, eAnd, eChain, eIsi, tst, bAnd, bOr, bNot, Out.bind, Out.of, tgT, tgsCons, tgsNil, tgN]
  rw [c4] at ht
  have q1 : (0 : Nat) < sizeLine := by rw [sizeLine_eq]; decide
  have q2 : (1 : Nat) < sizeLine := by rw [sizeLine_eq]; decide
  have q3 : (2 : Nat) < sizeLine := by rw [sizeLine_eq]; decide
  have hp := h.pos
  have hc := h.circ
  refine run_rt (ρ' := [some (.tup [.int x, .int y, .int z]), some (.int x), some (.int y), some (.int z)]) ?_
  simp [sSeq, sSet, sRt, sNx, sDo, sIf, sAsg, sPar, eVar, eC, eBin, eCall, one1, aCons, aNil, eTup, eFn, eNeg, eNot, eAnd, eChain, eIsi, tst, bAnd, bOr, bNot, Out.bind, Out.of, tgT, tgsCons, tgsNil, tgN, b_fits_turn, ht, eLc, iSeq, wipeD, restD, lcM, tYesD, q1, q2, q3, hx, hy, hz, onBls, asBs, Pu.allB, gtD, int2, hp, mulD, mulI, mulOk_sm sx sx, mulOk_sm sy sy, mulOk_sm sz sz, addD, eqD_int, hc, h1]
theorem need_turn_ok {x y z : Int} (h : VT x y z) : m_need_turn [some (.tup [.int x, .int y, .int z])] = .ok .non [some (.tup [.int x, .int y, .int z])] := by
  have h1 := fits_turn_ok h
  unfold m_need_turn runM
  simp [sSeq, sSet, sRt, sNx, sDo, sIf, sAsg, sPar, eVar, eC, eBin, eCall, one1, aCons, aNil, eTup, eFn, eNeg, eNot, eAnd, eChain, eIsi, tst, bAnd, bOr, bNot, Out.bind, Out.of, tgT, tgsCons, tgsNil, tgN, b_need_turn, h1, pick]
/-- two turns together -/
theorem both_in_ok {x y z u v w : Int} (h : VT x y z) (k : VT u v w) : m_both_in [some (.tup [.int x, .int y, .int z]), some (.tup [.int u, .int v, .int w])] = .ok (lowT (x * u - y * v) (x * v + y * u) (z * w)) [some (.tup [.int x, .int y, .int z]), some (.tup [.int u, .int v, .int w])] := by
  obtain ⟨bx, by_, bz⟩ := h.bd
  obtain ⟨bu, bv, bw⟩ := k.bd
  have s : ∀ {i j : Int}, Pu.bd 1000000000000 i → Pu.bd 1000000000000 j → mulOk i j = true := fun a b => mulOk_sm (bd_sm a (big_lt _)) (bd_sm b (big_lt _))
  have h1 := lowered_ok (x * u - y * v) (x * v + y * u) (z * w) (bd_sm (bd_sub (bd_mul bx bu) (bd_mul by_ bv)) (big_lt _)) (bd_sm (bd_add (bd_mul bx bv) (bd_mul by_ bu)) (big_lt _)) (bd_sm (bd_mul bz bw) (big_lt _))
    (by have := Int.mul_pos h.pos k.pos; omega)
  refine run_rt (ρ' := [some (.tup [.int x, .int y, .int z]), some (.tup [.int u, .int v, .int w]), some (.int x), some (.int y), some (.int z), some (.int u), some (.int v), some (.int w)]) ?_
  simp [sSeq, sSet, sRt, sNx, sDo, sIf, sAsg, sPar, eVar, eC, eBin, eCall, one1, aCons, aNil, eTup, eFn, eNeg, eNot, eAnd, eChain, eIsi, tst, bAnd, bOr, bNot, Out.bind, Out.of, tgT, tgsCons, tgsNil, tgN, b_both_in, mulD, mulI, s bx bu, s by_ bv, s bx bv, s by_ bu, s bz bw, subD, int2, addD, h1]
theorem put_together_ok {x y z u v w : Int} (h : VT x y z) (k : VT u v w) : m_put_together [some (.tup [.int x, .int y, .int z]), some (.tup [.int u, .int v, .int w])] = .ok (lowT (x * u - y * v) (x * v + y * u) (z * w)) [some (.tup [.int x, .int y, .int z]), some (.tup [.int u, .int v, .int w])] := by
  have h1 := need_turn_ok h
  have h2 := need_turn_ok k
  have h3 := both_in_ok h k
  refine run_rt (ρ' := [some (.tup [.int x, .int y, .int z]), some (.tup [.int u, .int v, .int w])]) ?_
  simp [sSeq, sSet, sRt, sNx, sDo, sIf, sAsg, sPar, eVar, eC, eBin, eCall, one1, aCons, aNil, eTup, eFn, eNeg, eNot, eAnd, eChain, eIsi, tst, bAnd, bOr, bNot, Out.bind, Out.of, tgT, tgsCons, tgsNil, tgN, b_put_together, h1, h2, h3]
theorem at3 (a b c : D) : atI [a, b, c] 0 = some a ∧ atI [a, b, c] 1 = some b ∧ atI [a, b, c] 2 = some c := by
  refine ⟨?_, ?_, ?_⟩ <;> (unfold atI ixN; simp [sSeq, sSet, sRt, sNx, sDo, sIf, sAsg, sPar, eVar, eC, eBin, eCall, one1, aCons, aNil, eTup, eFn, eNeg, eNot, eAnd, eChain, eIsi, tst, bAnd, bOr, bNot, Out.bind, Out.of, tgT, tgsCons, tgsNil, tgN])
theorem undone_ok {x y z : Int} (h : VT x y z) : m_undone [some (.tup [.int x, .int y, .int z])] = .ok (.tup [.int x, .int (-y), .int z]) [some (.tup [.int x, .int y, .int z])] := by
  have h1 := need_turn_ok h
  obtain ⟨a0, a1, a2⟩ := at3 (.int x) (.int y) (.int z)
  have h2 : m_back_in [some (.tup [.int x, .int y, .int z])] = .ok (.tup [.int x, .int (-y), .int z]) [some (.tup [.int x, .int y, .int z])] := by
    refine run_rt (ρ' := [some (.tup [.int x, .int y, .int z])]) ?_
    have h3 := three_line
    simp [sSeq, sSet, sRt, sNx, sDo, sIf, sAsg, sPar, eVar, eC, eBin, eCall, one1, aCons, aNil, eTup, eFn, eNeg, eNot, eAnd, eChain, eIsi, tst, bAnd, bOr, bNot, Out.bind, Out.of, tgT, tgsCons, tgsNil, tgN, b_back_in, getD, ixD, a0, a1, a2, h3]
  refine run_rt (ρ' := [some (.tup [.int x, .int y, .int z])]) ?_
  simp [sSeq, sSet, sRt, sNx, sDo, sIf, sAsg, sPar, eVar, eC, eBin, eCall, one1, aCons, aNil, eTup, eFn, eNeg, eNot, eAnd, eChain, eIsi, tst, bAnd, bOr, bNot, Out.bind, Out.of, tgT, tgsCons, tgsNil, tgN, b_undone, h1, h2]
/-! ### the laws' turns -/
/-- the sides of a lowered triple on the circle have nothing in common -/
theorem low_prim {x y z : Int} (hz : 0 < z) (hc : x * x + y * y = z * z) : Int.gcd (x / gg x y z) (y / gg x y z) = 1 ∧ (x / gg x y z) * (x / gg x y z) + (y / gg x y z) * (y / gg x y z) = (z / gg x y z) * (z / gg x y z) ∧ 0 < z / gg x y z := by
  have hg := gg_pos (x := x) (y := y) (z := z) (by omega)
  obtain ⟨d1, d2, d3⟩ := gg_dvd (x := x) (y := y) (z := z)
  generalize hgg : gg x y z = g at *
  obtain ⟨a, rfl⟩ := d1
  obtain ⟨b, rfl⟩ := d2
  obtain ⟨c, rfl⟩ := d3
  have hne : g ≠ 0 := by omega
  rw [Int.mul_ediv_cancel_left _ hne, Int.mul_ediv_cancel_left _ hne, Int.mul_ediv_cancel_left _ hne]
  have hc2 : a * a + b * b = c * c := by
    have e1 : g * a * (g * a) + g * b * (g * b) = (g * g) * (a * a + b * b) := by
      rw [Int.mul_add]
      congr 1 <;> (simp only [Int.mul_assoc, Int.mul_left_comm, Int.mul_comm])
    have e2 : g * c * (g * c) = (g * g) * (c * c) := by simp only [Int.mul_assoc, Int.mul_left_comm, Int.mul_comm]
    rw [e1, e2] at hc
    exact Int.eq_of_mul_eq_mul_left (Int.mul_ne_zero hne hne) hc
  have hcp : 0 < c := by
    exact Int.pos_of_mul_pos_left (by rw [Int.mul_comm]; exact hz) hg
  refine ⟨?_, hc2, hcp⟩
  -- the common divisor of all three is one
  have h1 : gg a b c = 1 := by
    have e := gg_scale (x := a) (y := b) (z := c) hg
    rw [hgg] at e
    have e' : g * gg a b c = g * 1 := by omega
    exact Int.eq_of_mul_eq_mul_left hne e'
  -- and that of a and b divides c
  have hd : (Int.gcd a b) * (Int.gcd a b) ∣ c.natAbs * c.natAbs := by
    obtain ⟨a', ha⟩ := Int.gcd_dvd_left (a := a) (b := b)
    obtain ⟨b', hb⟩ := Int.gcd_dvd_right (a := a) (b := b)
    have key : ∀ d : Int, a = d * a' → b = d * b' → c * c = d * d * (a' * a' + b' * b') := fun d e1 e2 => by
      rw [← hc2, e1, e2, Int.mul_add]
      congr 1 <;> (simp only [Int.mul_assoc, Int.mul_left_comm, Int.mul_comm])
    have e := key _ ha hb
    have e2 : (((Int.gcd a b) * (Int.gcd a b) : Nat) : Int) ∣ ((c.natAbs * c.natAbs : Nat) : Int) := by
      rw [Int.natAbs_mul_self, e]
      exact ⟨_, by rw [Int.natCast_mul]⟩
    exact Int.natCast_dvd_natCast.mp e2
  have hd2 : Int.gcd a b ∣ c.natAbs := by
    have hd' : (Int.gcd a b) ^ 2 ∣ c.natAbs ^ 2 := by
      rw [Nat.pow_two, Nat.pow_two]
      exact hd
    exact (Nat.pow_dvd_pow_iff (n := 2) (by decide)).mp hd'
  unfold gg at h1
  have h2 : Int.gcd (Int.gcd a b : Int) c = Int.gcd a b := by
    show Nat.gcd (Int.natAbs (Int.gcd a b : Int)) c.natAbs = _
    rw [Int.natAbs_natCast]
    exact Nat.gcd_eq_left hd2
  rw [h2] at h1
  exact_mod_cast h1
theorem roll_k (cup : D) (many : Int) (hc : Cup cup) (hk : 0 < many ∧ many < 10000000000) : ∃ (v : Int) (cup' : D), m__law_roll [some cup, some (.int many)] = .ok (.int v) [some cup', some (.int many)] ∧ Cup cup' ∧ 0 ≤ v ∧ v < many :=
  roll_ok hc (by decide) (by decide) (by decide) hk
theorem cup_k (ns : List Int) (h1 : ns.length ≤ 63) : ∃ z, m__law_cup [some (.fzl (ns.map .int))] = .ok z [some (.fzl (ns.map .int))] ∧ Cup z :=
  cup_ok ns (by omega) (by decide) (by decide) (by decide) (by decide)
theorem some_k {cup : D} (hc : Cup cup) (xs : List D) (h0 : xs ≠ []) (hl : xs.length < 1000000) (t : D) (ht : t = .lst xs ∨ t = .tup xs) : ∃ (z : D) (cup' : D), m__law_some [some cup, some t] = .ok z [some cup', some t] ∧ Cup cup' ∧ z ∈ xs :=
  some_ok (mr := m__law_roll) roll_k hc xs h0 hl t ht
theorem same_k : ∀ (n : Nat) (t d : D), depV d < n → askV t d = true → m__law_same n [some t, some d] = .ok (.bl (sameV t d)) [some t, some d]
  | 0, _, _, h, _ => absurd h (Nat.not_lt_zero _)
  | n + 1, t, d, h, ha => same_step (mf := m__law_same n) ha fun t' d' ha' hd' => same_k n t' d' (by omega) ha'
theorem same_refl (n : Nat) (d : D) (h : depV d < n) (ha : askV d d = true) : m__law_same n [some d, some d] = .ok (.bl true) [some d, some d] := by
  rw [same_k n d d h ha, sameV_refl d ha]
/-- a turn that a law draws -/
theorem VT.axis : VT 1 0 1 ∧ VT 0 1 1 ∧ VT (-1) 0 1 ∧ VT 0 (-1) 1 := by
  refine ⟨⟨by decide, by decide, by decide, by decide⟩, ⟨by decide, by decide, by decide, by decide⟩, ⟨by decide, by decide, by decide, by decide⟩, ⟨by decide, by decide, by decide, by decide⟩⟩
theorem sq_nn (a : Int) : 0 ≤ a * a := by
  by_cases h : 0 ≤ a
  · exact Int.mul_nonneg h h
  · exact Int.mul_nonneg_of_nonpos_of_nonpos (by omega) (by omega)
theorem sq_zero {a : Int} (h : a * a = 0) : a = 0 := by
  rcases Int.mul_eq_zero.mp h with h | h <;> exact h
/-- the turn of a way -/
theorem way_turn {p q : Int} {n : Nat} (hp : bd n p) (hq : bd n q) (hn : n ≤ 500) (h0 : ¬ (p = 0 ∧ q = 0)) :
    ∃ x y z, lowT (p * p - q * q) (2 * p * q) (p * p + q * q) = .tup [.int x, .int y, .int z] ∧ VT x y z ∧ z ≤ 2 * (n : Int) * n := by
  have hz : 0 < p * p + q * q := by
    have h1 := sq_nn p
    have h2 := sq_nn q
    by_cases e : p * p + q * q = 0
    · exact absurd ⟨sq_zero (by omega), sq_zero (by omega)⟩ h0
    · omega
  have hc : (p * p - q * q) * (p * p - q * q) + 2 * p * q * (2 * p * q) = (p * p + q * q) * (p * p + q * q) := by
    have e : 2 * p * q * (2 * p * q) = 4 * (p * p) * (q * q) := by
      have : (2 : Int) * p * q * (2 * p * q) = (2 * 2) * (p * p) * (q * q) := by simp only [Int.mul_assoc, Int.mul_left_comm, Int.mul_comm]
      rw [this]; rfl
    rw [e]
    generalize p * p = a
    generalize q * q = b
    rw [Int.sub_mul, Int.mul_sub, Int.mul_sub, Int.add_mul, Int.mul_add, Int.mul_add]
    have e1 : b * a = a * b := Int.mul_comm _ _
    have e2 : 4 * a * b = 4 * (a * b) := Int.mul_assoc _ _ _
    omega
  obtain ⟨g1, g2, g3⟩ := low_prim hz hc
  have hb : bd (n * n + n * n) (p * p + q * q) := bd_add (bd_mul hp hp) (bd_mul hq hq)
  have hg := gg_pos (x := p * p - q * q) (y := 2 * p * q) (z := p * p + q * q) (by omega)
  have hle : (p * p + q * q) / gg (p * p - q * q) (2 * p * q) (p * p + q * q) ≤ p * p + q * q := Int.ediv_le_self _ (by omega)
  have hnn : n * n ≤ 500 * 500 := Nat.mul_le_mul hn hn
  have hcast : (2 : Int) * (n : Int) * n = ((n * n + n * n : Nat) : Int) := by
    rw [Int.natCast_add, Int.natCast_mul, Int.mul_assoc]; omega
  unfold Pu.bd at hb
  refine ⟨_, _, _, rfl, ⟨g3, g2, g1, by omega⟩, ?_⟩
  rw [hcast]
  omega
theorem two_line : (2 : Nat) ≤ sizeLine := by rw [sizeLine_eq]; decide
theorem four_line : (4 : Nat) ≤ sizeLine := by rw [sizeLine_eq]; decide
theorem eq00 (p q : Int) : eqD (.tup [.int p, .int q]) (.tup [.int 0, .int 0]) = some (.bl (decide (p = 0) && decide (q = 0))) := by
  have e1 := eqv_int p 0
  have e2 := eqv_int q 0
  have e : eqv (.tup [.int p, .int q]) (.tup [.int 0, .int 0]) = (decide (p = 0) && decide (q = 0)) := by
    rw [← e1, ← e2]
    simp [sSeq, sSet, sRt, sNx, sDo, sIf, sAsg, sPar, eVar, eC, eBin, eCall, one1, aCons, aNil, eTup, eFn, eNeg, eNot, eAnd, eChain, eIsi, tst, bAnd, bOr, bNot, Out.bind, Out.of, tgT, tgsCons, tgsNil, tgN, eqv, toP, toPs, PyData.eqv, PyData.eqvAll]
  have hs : shp (.tup [.int p, .int q]) = true := rfl
  have hs2 : shp (.tup [.int 0, .int 0]) = true := rfl
  have : eqP id (.tup [.int p, .int q]) (.tup [.int 0, .int 0]) = some (.bl (decide (p = 0) && decide (q = 0))) := by
    unfold eqP
    rw [hs, hs2, e]; rfl
  show Option.or none (Option.or none (Option.or none (eqP id (.tup [.int p, .int q]) (.tup [.int 0, .int 0])))) = _
  rw [this]; rfl
theorem law_turn_ok {cup : D} (hc : Cup cup) {n : Nat} (h1 : 1 ≤ n) (hn : n ≤ 500) : ∃ (x y z : Int) (cup' : D), m__law_turn [some cup, some (.int (n : Int))] = .ok (.tup [.int x, .int y, .int z]) [some cup', some (.int (n : Int))] ∧ Cup cup' ∧ VT x y z ∧ z ≤ 2 * (n : Int) * n := by
  obtain ⟨v1, cup1, e1, hc1, a1, b1⟩ := roll_k cup (2 * (n : Int) + 1) hc (by omega)
  obtain ⟨v2, cup2, e2, hc2, a2, b2⟩ := roll_k cup1 (2 * (n : Int) + 1) hc1 (by omega)
  have hm : mulOk 2 (n : Int) = true := mulOk_l (by decide)
  have k1 : sPar 2 3 (eBin subD (eFnI m__law_roll 0 (aCons (eBin addD (eBin mulD (eC (.int 2)) (eVar 1)) (eC (.int 1))) (aNil))) (eVar 1)) (eBin subD (eFnI m__law_roll 0 (aCons (eBin addD (eBin mulD (eC (.int 2)) (eVar 1)) (eC (.int 1))) (aNil))) (eVar 1)) [some cup, some (.int (n : Int)), none, none] =
      .ok .nx [some cup2, some (.int (n : Int)), some (.int (v1 - n)), some (.int (v2 - n))] := by
    simp [sSeq, sSet, sRt, sNx, sDo, sIf, sAsg, sPar, eVar, eC, eBin, eCall, one1, aCons, aNil, eTup, eFn, eNeg, eNot, eAnd, eChain, eIsi, tst, bAnd, bOr, bNot, Out.bind, Out.of, tgT, tgsCons, tgsNil, tgN, eFnI, mulD, mulI, hm, addD, subD, int2, e1, e2]
  have hp : bd n (v1 - n) := by unfold Pu.bd; omega
  have hq : bd n (v2 - n) := by unfold Pu.bd; omega
  generalize v1 - (n : Int) = p at *
  generalize v2 - (n : Int) = q at *
  by_cases h0 : p = 0 ∧ q = 0
  · obtain ⟨w, cup3, e3, hc3, hw⟩ := some_k hc2 [.tup [.int 1, .int 0, .int 1], .tup [.int 0, .int 1, .int 1], .tup [.int (-1), .int 0, .int 1], .tup [.int 0, .int (-1), .int 1]] (by simp [sSeq, sSet, sRt, sNx, sDo, sIf, sAsg, sPar, eVar, eC, eBin, eCall, one1, aCons, aNil, eTup, eFn, eNeg, eNot, eAnd, eChain, eIsi, tst, bAnd, bOr, bNot, Out.bind, Out.of, tgT, tgsCons, tgsNil, tgN]) (by decide) _ (.inl rfl)
    obtain ⟨q1, q2, q3, q4⟩ := VT.axis
    have hw' : ∃ x y z, w = .tup [.int x, .int y, .int z] ∧ VT x y z ∧ z = 1 := by
      simp only [List.mem_cons, List.not_mem_nil, or_false] at hw
      rcases hw with rfl | rfl | rfl | rfl
      · exact ⟨_, _, _, rfl, q1, rfl⟩
      · exact ⟨_, _, _, rfl, q2, rfl⟩
      · exact ⟨_, _, _, rfl, q3, rfl⟩
      · exact ⟨_, _, _, rfl, q4, rfl⟩
    obtain ⟨x, y, z, rfl, hv, rfl⟩ := hw'
    refine ⟨x, y, 1, cup3, run_rt (ρ' := [some cup3, some (.int (n : Int)), some (.int p), some (.int q)]) ?_, hc3, hv, ?_⟩
    · show b__law_turn [some cup, some (.int (n : Int)), none, none] = _
      unfold b__law_turn
      rw [seq_nx k1]
      have t3 := three_line
      have t2 := two_line
      have t4 := four_line
      have q := eq00 p q
      simp only [h0.1, h0.2, decide_true, Bool.and_self] at q
      simp [sSeq, sSet, sRt, sNx, sDo, sIf, sAsg, sPar, eVar, eC, eBin, eCall, one1, aCons, aNil, eTup, eFn, eNeg, eNot, eAnd, eChain, eIsi, tst, bAnd, bOr, bNot, Out.bind, Out.of, tgT, tgsCons, tgsNil, tgN, t2, t3, t4, eLst, eFnI, h0.1, h0.2, q, e3]
    · have : (n : Int) ≤ (n : Int) * n := by
        have := Int.mul_le_mul_of_nonneg_left (show (1 : Int) ≤ n by omega) (show (0 : Int) ≤ n by omega)
        omega
      rw [Int.mul_assoc]
      omega
  · obtain ⟨x, y, z, e3, hv, hz⟩ := way_turn hp hq hn h0
    have sp : sm p := bd_sm hp (Nat.lt_of_le_of_lt hn (big_lt _))
    have sq : sm q := bd_sm hq (Nat.lt_of_le_of_lt hn (big_lt _))
    have bnn : n * n + n * n < BIG := Nat.lt_of_le_of_lt (Nat.add_le_add (Nat.mul_le_mul hn hn) (Nat.mul_le_mul hn hn)) (big_lt _)
    have s1 : sm (p * p - q * q) := bd_sm (bd_sub (bd_mul hp hp) (bd_mul hq hq)) bnn
    have s2 : sm (p * p + q * q) := bd_sm (bd_add (bd_mul hp hp) (bd_mul hq hq)) bnn
    have b2 : bd (2 * n * n) (2 * p * q) := bd_mul (bd_mul (by unfold Pu.bd; decide) hp) hq
    have s3 : sm (2 * p * q) := bd_sm b2 (by have e : 2 * n * n = n * n + n * n := by rw [Nat.mul_assoc]; omega
                                             rw [e]; exact bnn)
    have hz0 : p * p + q * q ≠ 0 := by
      have h1 := sq_nn p
      have h2 := sq_nn q
      intro e
      exact h0 ⟨sq_zero (by omega), sq_zero (by omega)⟩
    have e4 := llowered_ok _ _ _ s1 s3 s2 hz0
    rw [e3] at e4
    refine ⟨x, y, z, cup2, run_rt (ρ' := [some cup2, some (.int (n : Int)), some (.int p), some (.int q)]) ?_, hc2, hv, hz⟩
    show b__law_turn [some cup, some (.int (n : Int)), none, none] = _
    unfold b__law_turn
    rw [seq_nx k1]
    have t2 := two_line
    have q' := eq00 p q
    have hf : (decide (p = 0) && decide (q = 0)) = false := by
      rw [Bool.and_eq_false_iff]
      by_cases hp0 : p = 0
      · exact .inr (decide_eq_false fun hq0 => h0 ⟨hp0, hq0⟩)
      · exact .inl (decide_eq_false hp0)
    rw [hf] at q'
    have m1 : mulOk (2 * p) q = true := mulOk_sm (bd_sm (bd_mul (m := 2) (n := n) (by unfold Pu.bd; decide) hp) (Nat.lt_of_le_of_lt (Nat.mul_le_mul_left 2 hn) (big_lt _))) sq
    simp [sSeq, sSet, sRt, sNx, sDo, sIf, sAsg, sPar, eVar, eC, eBin, eCall, one1, aCons, aNil, eTup, eFn, eNeg, eNot, eAnd, eChain, eIsi, tst, bAnd, bOr, bNot, Out.bind, Out.of, tgT, tgsCons, tgsNil, tgN, t2, q', mulD, mulI, mulOk_sm sp sp, mulOk_sm sq sq, mulOk_sm (show sm 2 from by unfold sm; exact big_lt _) sp, m1, subD, addD, int2, e4]
theorem need_point_ok {p q : Int} (hp : bd 1000000000000 p) (hq : bd 1000000000000 q) : m_need_point [some (.tup [.int p, .int q])] = .ok .non [some (.tup [.int p, .int q])] := by
  have hx := fits_whole_ok p (-1000000000000) 1000000000000
  have hy := fits_whole_ok q (-1000000000000) 1000000000000
  have ht := is_tuple_ok [.int p, .int q] 2 2
  unfold Pu.bd at hp hq
  have c1 : (decide (-1000000000000 ≤ p) && decide (p ≤ 1000000000000)) = true := by simp [sSeq, sSet, sRt, sNx, sDo, sIf, sAsg, sPar, eVar, eC, eBin, eCall, one1, aCons, aNil, eTup, eFn, eNeg, eNot, eAnd, eChain, eIsi, tst, bAnd, bOr, bNot, Out.bind, Out.of, tgT, tgsCons, tgsNil, tgN]; omega
  have c2 : (decide (-1000000000000 ≤ q) && decide (q ≤ 1000000000000)) = true := by simp [sSeq, sSet, sRt, sNx, sDo, sIf, sAsg, sPar, eVar, eC, eBin, eCall, one1, aCons, aNil, eTup, eFn, eNeg, eNot, eAnd, eChain, eIsi, tst, bAnd, bOr, bNot, Out.bind, Out.of, tgT, tgsCons, tgsNil, tgN]; omega
  rw [c1] at hx
  rw [c2] at hy
  have c4 : (decide ((2 : Int) ≤ (([D.int p, .int q] : List D).length : Int)) && decide ((([D.int p, .int q] : List D).length : Int) ≤ 2)) = true := by simp [sSeq, sSet, sRt, sNx, sDo, sIf, sAsg, sPar, eVar, eC, eBin, eCall, one1, aCons, aNil, eTup, eFn, eNeg, eNot, eAnd, eChain, eIsi, tst, bAnd, bOr, bNot, Out.bind, Out.of, tgT, tgsCons, tgsNil, tgN]
  rw [c4] at ht
  have q1 : (0 : Nat) < sizeLine := by rw [sizeLine_eq]; decide
  have q2 : (1 : Nat) < sizeLine := by rw [sizeLine_eq]; decide
  have hf : m_fits_point [some (.tup [.int p, .int q])] = .ok (.bl true) [some (.tup [.int p, .int q])] := by
    refine run_rt (ρ' := [some (.tup [.int p, .int q]), none]) ?_
    simp [sSeq, sSet, sRt, sNx, sDo, sIf, sAsg, sPar, eVar, eC, eBin, eCall, one1, aCons, aNil, eTup, eFn, eNeg, eNot, eAnd, eChain, eIsi, tst, bAnd, bOr, bNot, Out.bind, Out.of, tgT, tgsCons, tgsNil, tgN, b_fits_point, ht, eLc, iSeq, wipeD, restD, lcM, tYesD, q1, q2, hx, hy, onBls, asBs, Pu.allB]
  unfold m_need_point runM
  simp [sSeq, sSet, sRt, sNx, sDo, sIf, sAsg, sPar, eVar, eC, eBin, eCall, one1, aCons, aNil, eTup, eFn, eNeg, eNot, eAnd, eChain, eIsi, tst, bAnd, bOr, bNot, Out.bind, Out.of, tgT, tgsCons, tgsNil, tgN, b_need_point, hf, pick]
theorem at2 (a b : D) : atI [a, b] 0 = some a ∧ atI [a, b] 1 = some b := by
  refine ⟨?_, ?_⟩ <;> (unfold atI ixN; simp [sSeq, sSet, sRt, sNx, sDo, sIf, sAsg, sPar, eVar, eC, eBin, eCall, one1, aCons, aNil, eTup, eFn, eNeg, eNot, eAnd, eChain, eIsi, tst, bAnd, bOr, bNot, Out.bind, Out.of, tgT, tgsCons, tgsNil, tgN])
theorem turned_ok {x y z p q : Int} (h : VT x y z) (hp : bd 1000000000000 p) (hq : bd 1000000000000 q) : m_turned_point [some (.tup [.int x, .int y, .int z]), some (.tup [.int p, .int q])] = .ok (lowT (x * p - y * q) (y * p + x * q) z) [some (.tup [.int x, .int y, .int z]), some (.tup [.int p, .int q])] := by
  obtain ⟨bx, by_, bz⟩ := h.bd
  have s : ∀ {i j : Int}, Pu.bd 1000000000000 i → Pu.bd 1000000000000 j → mulOk i j = true := fun a b => mulOk_sm (bd_sm a (big_lt _)) (bd_sm b (big_lt _))
  have h1 := need_turn_ok h
  have h2 := need_point_ok hp hq
  have h3 := lowered_ok (x * p - y * q) (y * p + x * q) z (bd_sm (bd_sub (bd_mul bx hp) (bd_mul by_ hq)) (big_lt _)) (bd_sm (bd_add (bd_mul by_ hp) (bd_mul bx hq)) (big_lt _)) (bd_sm bz (big_lt _)) (by have := h.pos; omega)
  obtain ⟨a0, a1⟩ := at2 (.int p) (.int q)
  refine run_rt (ρ' := [some (.tup [.int x, .int y, .int z]), some (.tup [.int p, .int q]), some (.int x), some (.int y), some (.int z)]) ?_
  simp [sSeq, sSet, sRt, sNx, sDo, sIf, sAsg, sPar, eVar, eC, eBin, eCall, one1, aCons, aNil, eTup, eFn, eNeg, eNot, eAnd, eChain, eIsi, tst, bAnd, bOr, bNot, Out.bind, Out.of, tgT, tgsCons, tgsNil, tgN, b_turned_point, h1, h2, getD, ixD, a0, a1, mulD, mulI, s bx hp, s by_ hq, s by_ hp, s bx hq, subD, addD, int2, h3]
theorem stays_ok {x y z p q : Int} (h : VT x y z) (hp : bd 1000000000000 p) (hq : bd 1000000000000 q) : m_stays_whole [some (.tup [.int x, .int y, .int z]), some (.tup [.int p, .int q])] =
    .ok (.bl (decide (z / gg (x * p - y * q) (y * p + x * q) z = 1))) [some (.tup [.int x, .int y, .int z]), some (.tup [.int p, .int q])] := by
  have h1 := turned_ok h hp hq
  refine run_rt (ρ' := [some (.tup [.int x, .int y, .int z]), some (.tup [.int p, .int q])]) ?_
  unfold lowT at h1
  obtain ⟨a0, a1, a2⟩ := at3 (.int ((x * p - y * q) / gg (x * p - y * q) (y * p + x * q) z)) (.int ((y * p + x * q) / gg (x * p - y * q) (y * p + x * q) z)) (.int (z / gg (x * p - y * q) (y * p + x * q) z))
  simp [sSeq, sSet, sRt, sNx, sDo, sIf, sAsg, sPar, eVar, eC, eBin, eCall, one1, aCons, aNil, eTup, eFn, eNeg, eNot, eAnd, eChain, eIsi, tst, bAnd, bOr, bNot, Out.bind, Out.of, tgT, tgsCons, tgsNil, tgN, b_stays_whole, h1, getD, ixD, a2, eqD_int]
theorem between_ok {a b c d : Int} (ha : bd 1000000000000 a) (hb : bd 1000000000000 b) (hc : bd 1000000000000 c) (hd : bd 1000000000000 d) : m_turn_between [some (.tup [.int a, .int b]), some (.tup [.int c, .int d])] =
    .ok (if a * a + b * b = 0 ∨ c * c + d * d ≠ a * a + b * b then .non else lowT (a * c + b * d) (a * d - b * c) (a * a + b * b)) [some (.tup [.int a, .int b]), some (.tup [.int c, .int d])] := by
  have s : ∀ {i j : Int}, Pu.bd 1000000000000 i → Pu.bd 1000000000000 j → mulOk i j = true := fun a b => mulOk_sm (bd_sm a (big_lt _)) (bd_sm b (big_lt _))
  have h1 := need_point_ok ha hb
  have h2 := need_point_ok hc hd
  obtain ⟨a0, a1⟩ := at2 (.int a) (.int b)
  obtain ⟨c0, c1⟩ := at2 (.int c) (.int d)
  refine run_rt (ρ' := [some (.tup [.int a, .int b]), some (.tup [.int c, .int d]), some (.int (a * a + b * b))]) ?_
  show b_turn_between [some (.tup [.int a, .int b]), some (.tup [.int c, .int d]), none] = _
  have k1 : sDo (eFn m_need_point (aCons (eVar 0) (aNil))) [some (.tup [.int a, .int b]), some (.tup [.int c, .int d]), none] = .ok .nx [some (.tup [.int a, .int b]), some (.tup [.int c, .int d]), none] := by simp [sSeq, sSet, sRt, sNx, sDo, sIf, sAsg, sPar, eVar, eC, eBin, eCall, one1, aCons, aNil, eTup, eFn, eNeg, eNot, eAnd, eChain, eIsi, tst, bAnd, bOr, bNot, Out.bind, Out.of, tgT, tgsCons, tgsNil, tgN, h1]
  have k2 : sDo (eFn m_need_point (aCons (eVar 1) (aNil))) [some (.tup [.int a, .int b]), some (.tup [.int c, .int d]), none] = .ok .nx [some (.tup [.int a, .int b]), some (.tup [.int c, .int d]), none] := by simp [sSeq, sSet, sRt, sNx, sDo, sIf, sAsg, sPar, eVar, eC, eBin, eCall, one1, aCons, aNil, eTup, eFn, eNeg, eNot, eAnd, eChain, eIsi, tst, bAnd, bOr, bNot, Out.bind, Out.of, tgT, tgsCons, tgsNil, tgN, h2]
  unfold b_turn_between
  rw [seq_nx k1, seq_nx k2]
  by_cases e1 : a * a + b * b = 0
  · simp [sSeq, sSet, sRt, sNx, sDo, sIf, sAsg, sPar, eVar, eC, eBin, eCall, one1, aCons, aNil, eTup, eFn, eNeg, eNot, eAnd, eChain, eIsi, tst, bAnd, bOr, bNot, Out.bind, Out.of, tgT, tgsCons, tgsNil, tgN, getD, ixD, a0, a1, c0, c1, mulD, mulI, s ha ha, s hb hb, s hc hc, s hd hd, addD, eqD_int, e1]
  · by_cases e2 : c * c + d * d = a * a + b * b
    · have h3 := lowered_ok (a * c + b * d) (a * d - b * c) (a * a + b * b) (bd_sm (bd_add (bd_mul ha hc) (bd_mul hb hd)) (big_lt _)) (bd_sm (bd_sub (bd_mul ha hd) (bd_mul hb hc)) (big_lt _)) (bd_sm (bd_add (bd_mul ha ha) (bd_mul hb hb)) (big_lt _)) e1
      simp [sSeq, sSet, sRt, sNx, sDo, sIf, sAsg, sPar, eVar, eC, eBin, eCall, one1, aCons, aNil, eTup, eFn, eNeg, eNot, eAnd, eChain, eIsi, tst, bAnd, bOr, bNot, Out.bind, Out.of, tgT, tgsCons, tgsNil, tgN, getD, ixD, a0, a1, c0, c1, mulD, mulI, s ha ha, s hb hb, s hc hc, s hd hd, s ha hc, s hb hd, s ha hd, s hb hc, addD, subD, int2, eqD_int, neD_int, e1, e2, h3]
    · simp [sSeq, sSet, sRt, sNx, sDo, sIf, sAsg, sPar, eVar, eC, eBin, eCall, one1, aCons, aNil, eTup, eFn, eNeg, eNot, eAnd, eChain, eIsi, tst, bAnd, bOr, bNot, Out.bind, Out.of, tgT, tgsCons, tgsNil, tgN, getD, ixD, a0, a1, c0, c1, mulD, mulI, s ha ha, s hb hb, s hc hc, s hd hd, addD, eqD_int, neD_int, e1, e2]
/-- whole numbers as one side of an entry -/
def okE : D → Bool
  | .fzl _ => false | .obj _ _ => false | .fn _ => false
  | _ => true
def fitV (lo hi : Int) : D → Bool
  | .int i => decide (lo ≤ i) && decide (i ≤ hi)
  | _ => false
theorem fits_any (e : D) (lo hi : Int) (h : okE e = true) : m_fits_whole [some e, some (.int lo), some (.int hi)] = .ok (.bl (fitV lo hi e)) [some e, some (.int lo), some (.int hi)] := by
  cases e with
  | int i => exact fits_whole_ok i lo hi
  | fzl _ => cases h
  | obj _ _ => cases h
  | fn _ => cases h
  | _ =>
    unfold m_fits_whole runM
    simp [sSeq, sSet, sRt, sNx, sDo, sIf, sAsg, sPar, eVar, eC, eBin, eCall, one1, aCons, aNil, eTup, eFn, eNeg, eNot, eAnd, eChain, eIsi, tst, bAnd, bOr, bNot, Out.bind, Out.of, tgT, tgsCons, tgsNil, tgN, b_fits_whole, isiI, isiB, fitV, pick]
theorem tuple_any (v : D) (lo hi : Int) (h : okE v = true) (hn : ∀ xs, v ≠ .tup xs) : m_is_tuple_of [some v, some (.int lo), some (.int hi)] = .ok (.bl false) [some v, some (.int lo), some (.int hi)] := by
  refine run_rt (ρ' := [some v, some (.int lo), some (.int hi)]) ?_
  cases v with
  | tup xs => exact absurd rfl (hn xs)
  | fzl _ => cases h
  | obj _ _ => cases h
  | fn _ => cases h
  | _ => simp [sSeq, sSet, sRt, sNx, sDo, sIf, sAsg, sPar, eVar, eC, eBin, eCall, one1, aCons, aNil, eTup, eFn, eNeg, eNot, eAnd, eChain, eIsi, tst, bAnd, bOr, bNot, Out.bind, Out.of, tgT, tgsCons, tgsNil, tgN, b_is_tuple_of, isiT]
theorem eq333 (a b c x y z : Int) : eqD (.tup [.int a, .int b, .int c]) (.tup [.int x, .int y, .int z]) = some (.bl (decide (a = x) && (decide (b = y) && decide (c = z)))) := by
  have e1 := eqv_int a x
  have e2 := eqv_int b y
  have e3 := eqv_int c z
  have e : eqv (.tup [.int a, .int b, .int c]) (.tup [.int x, .int y, .int z]) = (decide (a = x) && (decide (b = y) && decide (c = z))) := by
    rw [← e1, ← e2, ← e3]
    simp [sSeq, sSet, sRt, sNx, sDo, sIf, sAsg, sPar, eVar, eC, eBin, eCall, one1, aCons, aNil, eTup, eFn, eNeg, eNot, eAnd, eChain, eIsi, tst, bAnd, bOr, bNot, Out.bind, Out.of, tgT, tgsCons, tgsNil, tgN, eqv, toP, toPs, PyData.eqv, PyData.eqvAll]
  have hs : shp (.tup [.int a, .int b, .int c]) = true := rfl
  have hs2 : shp (.tup [.int x, .int y, .int z]) = true := rfl
  have : eqP id (.tup [.int a, .int b, .int c]) (.tup [.int x, .int y, .int z]) = some (.bl (decide (a = x) && (decide (b = y) && decide (c = z)))) := by
    unfold eqP
    rw [hs, hs2, e]; rfl
  show Option.or none (Option.or none (Option.or none (eqP id (.tup [.int a, .int b, .int c]) (.tup [.int x, .int y, .int z])))) = _
  rw [this]; rfl
/-- is_turned tells what same tells of the turned point -/
theorem is_turned_ok {x y z p q : Int} (h : VT x y z) (hp : bd 1000000000000 p) (hq : bd 1000000000000 q) {a b c : Int} (hl : lowT (x * p - y * q) (y * p + x * q) z = .tup [.int a, .int b, .int c]) (ha : bd 100000000000000000000000000 a) (hb : bd 100000000000000000000000000 b) (hc : bd 100000000000000000000000000 c)
    (v : D) (hv : okE v = true) (hvs : ∀ xs, v = .tup xs → ∀ e ∈ xs, okE e = true) : m_is_turned [some (.tup [.int x, .int y, .int z]), some (.tup [.int p, .int q]), some v] = .ok (.bl (sameV v (.tup [.int a, .int b, .int c]))) [some (.tup [.int x, .int y, .int z]), some (.tup [.int p, .int q]), some v] := by
  have h1 := turned_ok h hp hq
  rw [hl] at h1
  refine run_rt (ρ' := [some (.tup [.int x, .int y, .int z]), some (.tup [.int p, .int q]), some v, some (.tup [.int a, .int b, .int c]), none]) ?_
  show b_is_turned [some (.tup [.int x, .int y, .int z]), some (.tup [.int p, .int q]), some v, none, none] = _
  have k1 : sSet 3 (eFn m_turned_point (aCons (eVar 0) (aCons (eVar 1) (aNil)))) [some (.tup [.int x, .int y, .int z]), some (.tup [.int p, .int q]), some v, none, none] = .ok .nx [some (.tup [.int x, .int y, .int z]), some (.tup [.int p, .int q]), some v, some (.tup [.int a, .int b, .int c]), none] := by simp [sSeq, sSet, sRt, sNx, sDo, sIf, sAsg, sPar, eVar, eC, eBin, eCall, one1, aCons, aNil, eTup, eFn, eNeg, eNot, eAnd, eChain, eIsi, tst, bAnd, bOr, bNot, Out.bind, Out.of, tgT, tgsCons, tgsNil, tgN, h1]
  unfold b_is_turned
  rw [seq_nx k1]
  by_cases ht : ∃ xs, v = .tup xs
  · obtain ⟨xs, rfl⟩ := ht
    have hxs := hvs xs rfl
    have k2 := is_tuple_ok xs 3 3
    by_cases hlen : xs.length = 3
    · obtain ⟨e1, e2, e3, rfl⟩ : ∃ e1 e2 e3, xs = [e1, e2, e3] := by
        match xs, hlen with
        | [e1, e2, e3], _ => exact ⟨e1, e2, e3, rfl⟩
      have f1 := fits_any e1 (-100000000000000000000000000) 100000000000000000000000000 (hxs e1 (by simp [sSeq, sSet, sRt, sNx, sDo, sIf, sAsg, sPar, eVar, eC, eBin, eCall, one1, aCons, aNil, eTup, eFn, eNeg, eNot, eAnd, eChain, eIsi, tst, bAnd, bOr, bNot, Out.bind, Out.of, tgT, tgsCons, tgsNil, tgN]))
      have f2 := fits_any e2 (-100000000000000000000000000) 100000000000000000000000000 (hxs e2 (by simp [sSeq, sSet, sRt, sNx, sDo, sIf, sAsg, sPar, eVar, eC, eBin, eCall, one1, aCons, aNil, eTup, eFn, eNeg, eNot, eAnd, eChain, eIsi, tst, bAnd, bOr, bNot, Out.bind, Out.of, tgT, tgsCons, tgsNil, tgN]))
      have f3 := fits_any e3 (-100000000000000000000000000) 100000000000000000000000000 (hxs e3 (by simp [sSeq, sSet, sRt, sNx, sDo, sIf, sAsg, sPar, eVar, eC, eBin, eCall, one1, aCons, aNil, eTup, eFn, eNeg, eNot, eAnd, eChain, eIsi, tst, bAnd, bOr, bNot, Out.bind, Out.of, tgT, tgsCons, tgsNil, tgN]))
      have c4 : (decide ((3 : Int) ≤ (([e1, e2, e3] : List D).length : Int)) && decide ((([e1, e2, e3] : List D).length : Int) ≤ 3)) = true := by simp [sSeq, sSet, sRt, sNx, sDo, sIf, sAsg, sPar, eVar, eC, eBin, eCall, one1, aCons, aNil, eTup, eFn, eNeg, eNot, eAnd, eChain, eIsi, tst, bAnd, bOr, bNot, Out.bind, Out.of, tgT, tgsCons, tgsNil, tgN]
      rw [c4] at k2
      have q1 : (0 : Nat) < sizeLine := by rw [sizeLine_eq]; decide
      have q2 : (1 : Nat) < sizeLine := by rw [sizeLine_eq]; decide
      have q3 : (2 : Nat) < sizeLine := by rw [sizeLine_eq]; decide
      have key : ∀ (e : D) (i : Int), Pu.bd 100000000000000000000000000 i → fitV (-100000000000000000000000000) 100000000000000000000000000 e = false → sameV e (.int i) = false := fun e i hi hf => by
        cases e with
        | int j =>
          unfold Pu.bd at hi
          simp only [fitV, Bool.and_eq_false_iff, decide_eq_false_iff_not] at hf
          simp only [sameV, decide_eq_false_iff_not]
          omega
        | _ => rfl
      have all3 : sameV (.tup [e1, e2, e3]) (.tup [.int a, .int b, .int c]) = (sameV e1 (.int a) && (sameV e2 (.int b) && (sameV e3 (.int c) && true))) := rfl
      rw [all3]
      cases g1 : fitV (-100000000000000000000000000) 100000000000000000000000000 e1 with
      | false =>
        rw [g1] at f1
        rw [key e1 a ha g1]
        simp [sSeq, sSet, sRt, sNx, sDo, sIf, sAsg, sPar, eVar, eC, eBin, eCall, one1, aCons, aNil, eTup, eFn, eNeg, eNot, eAnd, eChain, eIsi, tst, bAnd, bOr, bNot, Out.bind, Out.of, tgT, tgsCons, tgsNil, tgN, k2, eLc, iSeq, wipeD, restD, lcM, tYesD, q1, q2, q3, f1, f2, f3, onBls, asBs, Pu.allB]
      | true =>
        rw [g1] at f1
        cases g2 : fitV (-100000000000000000000000000) 100000000000000000000000000 e2 with
        | false =>
          rw [g2] at f2
          rw [key e2 b hb g2]
          simp [sSeq, sSet, sRt, sNx, sDo, sIf, sAsg, sPar, eVar, eC, eBin, eCall, one1, aCons, aNil, eTup, eFn, eNeg, eNot, eAnd, eChain, eIsi, tst, bAnd, bOr, bNot, Out.bind, Out.of, tgT, tgsCons, tgsNil, tgN, k2, eLc, iSeq, wipeD, restD, lcM, tYesD, q1, q2, q3, f1, f2, f3, onBls, asBs, Pu.allB]
        | true =>
          rw [g2] at f2
          cases g3 : fitV (-100000000000000000000000000) 100000000000000000000000000 e3 with
          | false =>
            rw [g3] at f3
            rw [key e3 c hc g3]
            simp [sSeq, sSet, sRt, sNx, sDo, sIf, sAsg, sPar, eVar, eC, eBin, eCall, one1, aCons, aNil, eTup, eFn, eNeg, eNot, eAnd, eChain, eIsi, tst, bAnd, bOr, bNot, Out.bind, Out.of, tgT, tgsCons, tgsNil, tgN, k2, eLc, iSeq, wipeD, restD, lcM, tYesD, q1, q2, q3, f1, f2, f3, onBls, asBs, Pu.allB]
          | true =>
            rw [g3] at f3
            obtain ⟨i1, rfl⟩ : ∃ i, e1 = .int i := by cases e1 <;> first | exact ⟨_, rfl⟩ | cases g1
            obtain ⟨i2, rfl⟩ : ∃ i, e2 = .int i := by cases e2 <;> first | exact ⟨_, rfl⟩ | cases g2
            obtain ⟨i3, rfl⟩ : ∃ i, e3 = .int i := by cases e3 <;> first | exact ⟨_, rfl⟩ | cases g3
            have eq := eq333 i1 i2 i3 a b c
            simp [sSeq, sSet, sRt, sNx, sDo, sIf, sAsg, sPar, eVar, eC, eBin, eCall, one1, aCons, aNil, eTup, eFn, eNeg, eNot, eAnd, eChain, eIsi, tst, bAnd, bOr, bNot, Out.bind, Out.of, tgT, tgsCons, tgsNil, tgN, k2, eLc, iSeq, wipeD, restD, lcM, tYesD, q1, q2, q3, f1, f2, f3, onBls, asBs, Pu.allB, eq, sameV]
    · have c4 : (decide ((3 : Int) ≤ (xs.length : Int)) && decide ((xs.length : Int) ≤ 3)) = false := by
        rw [Bool.and_eq_false_iff, decide_eq_false_iff_not, decide_eq_false_iff_not]; omega
      rw [c4] at k2
      have hs : sameV (.tup xs) (.tup [.int a, .int b, .int c]) = false := sameVs_len (by simpa using hlen)
      rw [hs]
      simp [sSeq, sSet, sRt, sNx, sDo, sIf, sAsg, sPar, eVar, eC, eBin, eCall, one1, aCons, aNil, eTup, eFn, eNeg, eNot, eAnd, eChain, eIsi, tst, bAnd, bOr, bNot, Out.bind, Out.of, tgT, tgsCons, tgsNil, tgN, k2]
  · have k2 := tuple_any v 3 3 hv fun xs e => ht ⟨xs, e⟩
    have hs : sameV v (.tup [.int a, .int b, .int c]) = false := by
      cases v with
      | tup xs => exact absurd ⟨xs, rfl⟩ ht
      | _ => rfl
    rw [hs]
    simp [sSeq, sSet, sRt, sNx, sDo, sIf, sAsg, sPar, eVar, eC, eBin, eCall, one1, aCons, aNil, eTup, eFn, eNeg, eNot, eAnd, eChain, eIsi, tst, bAnd, bOr, bNot, Out.bind, Out.of, tgT, tgsCons, tgsNil, tgN, k2]
theorem low_norm {X Y z N : Int} (hz : 0 < z) (h : X * X + Y * Y = N * (z * z)) : (X / gg X Y z) * (X / gg X Y z) + (Y / gg X Y z) * (Y / gg X Y z) = N * (z / gg X Y z) * (z / gg X Y z) := by
  have hg := gg_pos (x := X) (y := Y) (z := z) (by omega)
  obtain ⟨d1, d2, d3⟩ := gg_dvd (x := X) (y := Y) (z := z)
  generalize gg X Y z = g at *
  obtain ⟨a, rfl⟩ := d1
  obtain ⟨b, rfl⟩ := d2
  obtain ⟨c, rfl⟩ := d3
  have hne : g ≠ 0 := by omega
  rw [Int.mul_ediv_cancel_left _ hne, Int.mul_ediv_cancel_left _ hne, Int.mul_ediv_cancel_left _ hne]
  have e1 : g * a * (g * a) + g * b * (g * b) = (g * g) * (a * a + b * b) := by
    rw [Int.mul_add]
    congr 1 <;> (simp only [Int.mul_assoc, Int.mul_left_comm, Int.mul_comm])
  have e2 : N * (g * c * (g * c)) = (g * g) * (N * c * c) := by simp only [Int.mul_assoc, Int.mul_left_comm, Int.mul_comm]
  rw [e1, e2] at h
  exact Int.eq_of_mul_eq_mul_left (Int.mul_ne_zero hne hne) h
theorem norm_mul (x y p q : Int) : (x * p - y * q) * (x * p - y * q) + (y * p + x * q) * (y * p + x * q) = (p * p + q * q) * (x * x + y * y) := by
  have h1 : (x * p - y * q) * (x * p - y * q) = x * p * (x * p) - 2 * (x * p * (y * q)) + y * q * (y * q) := by
    generalize x * p = u
    generalize y * q = v
    rw [Int.sub_mul, Int.mul_sub, Int.mul_sub, Int.mul_comm v u]
    omega
  have h2 : (y * p + x * q) * (y * p + x * q) = y * p * (y * p) + 2 * (y * p * (x * q)) + x * q * (x * q) := by
    generalize y * p = u
    generalize x * q = v
    rw [Int.add_mul, Int.mul_add, Int.mul_add, Int.mul_comm v u]
    omega
  have h3 : x * p * (y * q) = y * p * (x * q) := by simp only [Int.mul_assoc, Int.mul_left_comm, Int.mul_comm]
  have h4 : (p * p + q * q) * (x * x + y * y) = x * p * (x * p) + y * p * (y * p) + (x * q * (x * q) + y * q * (y * q)) := by
    rw [Int.add_mul, Int.mul_add, Int.mul_add]
    have a1 : p * p * (x * x) = x * p * (x * p) := by simp only [Int.mul_assoc, Int.mul_left_comm, Int.mul_comm]
    have a2 : p * p * (y * y) = y * p * (y * p) := by simp only [Int.mul_assoc, Int.mul_left_comm, Int.mul_comm]
    have a3 : q * q * (x * x) = x * q * (x * q) := by simp only [Int.mul_assoc, Int.mul_left_comm, Int.mul_comm]
    have a4 : q * q * (y * y) = y * q * (y * q) := by simp only [Int.mul_assoc, Int.mul_left_comm, Int.mul_comm]
    rw [a1, a2, a3, a4]
  rw [h1, h2, h4, h3]
  omega
/-- a way there and back -/
theorem back_xy {x y z p q : Int} (h : x * x + y * y = z * z) : x * (x * p - y * q) - -y * (y * p + x * q) = z * (p * z) ∧ -y * (x * p - y * q) + x * (y * p + x * q) = z * (q * z) := by
  have e1 : x * (x * p - y * q) - -y * (y * p + x * q) = (x * x + y * y) * p := by
    rw [Int.mul_sub, Int.neg_mul, Int.mul_add, Int.add_mul]
    have a1 : x * (x * p) = x * x * p := (Int.mul_assoc _ _ _).symm
    have a2 : y * (y * p) = y * y * p := (Int.mul_assoc _ _ _).symm
    have a3 : x * (y * q) = y * (x * q) := Int.mul_left_comm _ _ _
    rw [a1, a2, a3]; omega
  have e2 : -y * (x * p - y * q) + x * (y * p + x * q) = (x * x + y * y) * q := by
    rw [Int.neg_mul, Int.mul_sub, Int.mul_add, Int.add_mul]
    have a1 : y * (x * p) = x * (y * p) := Int.mul_left_comm _ _ _
    have a2 : y * (y * q) = y * y * q := (Int.mul_assoc _ _ _).symm
    have a3 : x * (x * q) = x * x * q := (Int.mul_assoc _ _ _).symm
    rw [a1, a2, a3]; omega
  rw [e1, e2, h]
  exact ⟨by simp only [Int.mul_assoc, Int.mul_left_comm, Int.mul_comm], by simp only [Int.mul_assoc, Int.mul_left_comm, Int.mul_comm]⟩
theorem lowT_one (X Y : Int) : lowT X Y 1 = .tup [.int X, .int Y, .int 1] := by
  have h := gg_dvd (x := X) (y := Y) (z := 1)
  have hp := gg_pos (x := X) (y := Y) (z := 1) (by decide)
  have e : gg X Y 1 = 1 := by
    have := Int.le_of_dvd (by decide) h.2.2
    omega
  unfold lowT
  rw [e]
  simp [sSeq, sSet, sRt, sNx, sDo, sIf, sAsg, sPar, eVar, eC, eBin, eCall, one1, aCons, aNil, eTup, eFn, eNeg, eNot, eAnd, eChain, eIsi, tst, bAnd, bOr, bNot, Out.bind, Out.of, tgT, tgsCons, tgsNil, tgN]
/-- the great point's image is whole -/
theorem great_low {x y z p q : Int} (hz : 0 < z) : lowT (x * (p * z) - y * (q * z)) (y * (p * z) + x * (q * z)) z = .tup [.int (x * p - y * q), .int (y * p + x * q), .int 1] := by
  have e1 : x * (p * z) - y * (q * z) = z * (x * p - y * q) := by
    rw [Int.mul_sub]
    have a1 : x * (p * z) = z * (x * p) := by simp only [Int.mul_assoc, Int.mul_left_comm, Int.mul_comm]
    have a2 : y * (q * z) = z * (y * q) := by simp only [Int.mul_assoc, Int.mul_left_comm, Int.mul_comm]
    rw [a1, a2]
  have e2 : y * (p * z) + x * (q * z) = z * (y * p + x * q) := by
    rw [Int.mul_add]
    have a1 : y * (p * z) = z * (y * p) := by simp only [Int.mul_assoc, Int.mul_left_comm, Int.mul_comm]
    have a2 : x * (q * z) = z * (x * q) := by simp only [Int.mul_assoc, Int.mul_left_comm, Int.mul_comm]
    rw [a1, a2]
  have e3 : lowT (z * (x * p - y * q)) (z * (y * p + x * q)) (z * 1) = lowT (x * p - y * q) (y * p + x * q) 1 := lowT_scale hz (by decide)
  rw [e1, e2]
  rw [Int.mul_one] at e3
  rw [e3, lowT_one]
theorem back_low {x y z p q : Int} (hz : 0 < z) (h : x * x + y * y = z * z) : lowT (x * (x * p - y * q) - -y * (y * p + x * q)) (-y * (x * p - y * q) + x * (y * p + x * q)) z = .tup [.int (p * z), .int (q * z), .int 1] := by
  obtain ⟨e1, e2⟩ := back_xy (p := p) (q := q) h
  rw [e1, e2]
  have e3 : lowT (z * (p * z)) (z * (q * z)) (z * 1) = lowT (p * z) (q * z) 1 := lowT_scale hz (by decide)
  rw [Int.mul_one] at e3
  rw [e3, lowT_one]
/-- two turns of a great point -/
theorem chain_low {x y z u v w p q g a b c : Int} (hg : 0 < g) (hz : 0 < z) (hw : 0 < w) (hc : 0 < c) (ha : x * u - y * v = g * a) (hb : x * v + y * u = g * b) (hcc : z * w = g * c) :
    lowT (u * (x * p - y * q) - v * (y * p + x * q)) (v * (x * p - y * q) + u * (y * p + x * q)) w = lowT (a * (p * z) - b * (q * z)) (b * (p * z) + a * (q * z)) c := by
  rw [← lowT_scale (x := u * (x * p - y * q) - v * (y * p + x * q)) (y := v * (x * p - y * q) + u * (y * p + x * q)) (z := w) hz (by omega), ← lowT_scale (x := a * (p * z) - b * (q * z)) (y := b * (p * z) + a * (q * z)) (z := c) hg (by omega)]
  have r1 : g * (a * (p * z) - b * (q * z)) = z * (u * (x * p - y * q) - v * (y * p + x * q)) := by
    have : g * (a * (p * z) - b * (q * z)) = (g * a) * (p * z) - (g * b) * (q * z) := by rw [Int.mul_sub, Int.mul_assoc, Int.mul_assoc]
    rw [this, ← ha, ← hb, Int.sub_mul, Int.add_mul, Int.mul_sub, Int.mul_sub, Int.mul_add, Int.mul_sub, Int.mul_add]
    have a1 : x * u * (p * z) = z * (u * (x * p)) := by simp only [Int.mul_assoc, Int.mul_left_comm, Int.mul_comm]
    have a2 : y * v * (p * z) = z * (v * (y * p)) := by simp only [Int.mul_assoc, Int.mul_left_comm, Int.mul_comm]
    have a3 : x * v * (q * z) = z * (v * (x * q)) := by simp only [Int.mul_assoc, Int.mul_left_comm, Int.mul_comm]
    have a4 : y * u * (q * z) = z * (u * (y * q)) := by simp only [Int.mul_assoc, Int.mul_left_comm, Int.mul_comm]
    rw [a1, a2, a3, a4]; omega
  have r2 : g * (b * (p * z) + a * (q * z)) = z * (v * (x * p - y * q) + u * (y * p + x * q)) := by
    have : g * (b * (p * z) + a * (q * z)) = (g * b) * (p * z) + (g * a) * (q * z) := by rw [Int.mul_add, Int.mul_assoc, Int.mul_assoc]
    rw [this, ← ha, ← hb, Int.sub_mul, Int.add_mul, Int.mul_add, Int.mul_sub, Int.mul_add, Int.mul_sub, Int.mul_add]
    have a1 : x * u * (q * z) = z * (u * (x * q)) := by simp only [Int.mul_assoc, Int.mul_left_comm, Int.mul_comm]
    have a2 : y * v * (q * z) = z * (v * (y * q)) := by simp only [Int.mul_assoc, Int.mul_left_comm, Int.mul_comm]
    have a3 : x * v * (p * z) = z * (v * (x * p)) := by simp only [Int.mul_assoc, Int.mul_left_comm, Int.mul_comm]
    have a4 : y * u * (p * z) = z * (u * (y * p)) := by simp only [Int.mul_assoc, Int.mul_left_comm, Int.mul_comm]
    rw [a1, a2, a3, a4]; omega
  rw [r1, r2, hcc]
/-- what lies between -/
theorem between_low {x y z p q : Int} (hp : Int.gcd x y = 1) (hz : 0 < z) (h : x * x + y * y = z * z) (h0 : ¬ (p = 0 ∧ q = 0)) :
    lowT (p * z * (x * p - y * q) + q * z * (y * p + x * q)) (p * z * (y * p + x * q) - q * z * (x * p - y * q)) (p * z * (p * z) + q * z * (q * z)) = .tup [.int x, .int y, .int z] := by
  have hk : 0 < z * (p * p + q * q) := by
    refine Int.mul_pos hz ?_
    have h1 := sq_nn p
    have h2 := sq_nn q
    by_cases e : p * p + q * q = 0
    · exact absurd ⟨sq_zero (by omega), sq_zero (by omega)⟩ h0
    · omega
  have r1 : p * z * (x * p - y * q) + q * z * (y * p + x * q) = z * (p * p + q * q) * x := by
    rw [Int.mul_sub, Int.mul_add, Int.mul_add, Int.add_mul]
    have a1 : p * z * (x * p) = z * (p * p) * x := by simp only [Int.mul_assoc, Int.mul_left_comm, Int.mul_comm]
    have a2 : p * z * (y * q) = q * z * (y * p) := by simp only [Int.mul_assoc, Int.mul_left_comm, Int.mul_comm]
    have a3 : q * z * (x * q) = z * (q * q) * x := by simp only [Int.mul_assoc, Int.mul_left_comm, Int.mul_comm]
    rw [a1, a2, a3]; omega
  have r2 : p * z * (y * p + x * q) - q * z * (x * p - y * q) = z * (p * p + q * q) * y := by
    rw [Int.mul_sub, Int.mul_add, Int.mul_add, Int.add_mul]
    have a1 : p * z * (y * p) = z * (p * p) * y := by simp only [Int.mul_assoc, Int.mul_left_comm, Int.mul_comm]
    have a2 : p * z * (x * q) = q * z * (x * p) := by simp only [Int.mul_assoc, Int.mul_left_comm, Int.mul_comm]
    have a3 : q * z * (y * q) = z * (q * q) * y := by simp only [Int.mul_assoc, Int.mul_left_comm, Int.mul_comm]
    rw [a1, a2, a3]; omega
  have r3 : p * z * (p * z) + q * z * (q * z) = z * (p * p + q * q) * z := by
    rw [Int.mul_add, Int.add_mul]
    congr 1 <;> (simp only [Int.mul_assoc, Int.mul_left_comm, Int.mul_comm])
  rw [r1, r2, r3, lowT_scale hk (by omega), lowT_prim hp]
theorem great_norm {x y z p q : Int} (h : x * x + y * y = z * z) : (x * p - y * q) * (x * p - y * q) + (y * p + x * q) * (y * p + x * q) = p * z * (p * z) + q * z * (q * z) := by
  rw [norm_mul, h, Int.add_mul]
  congr 1 <;> (simp only [Int.mul_assoc, Int.mul_left_comm, Int.mul_comm])
theorem okey : powD (.int 10) (.int 6) = some (.int 1000000) ∧ powD (.int 10) (.int 12) = some (.int 1000000000000) := ⟨by kernel_rfl, by kernel_rfl⟩
theorem max_tup2 (a b : Int) : ∃ m : Int, maxA (.tup [.int a, .int b]) = some (.int m) := by
  by_cases h : ltP (.int a) (.int b) = true
  · exact ⟨b, by show Option.or none (some (if ltP (.int a) (.int b) = true then D.int b else D.int a)) = _; rw [if_pos h]; rfl⟩
  · exact ⟨a, by show Option.or none (some (if ltP (.int a) (.int b) = true then D.int b else D.int a)) = _; rw [if_neg h]; rfl⟩
theorem min_tup2 (a b : Int) : ∃ m : Int, minA (.tup [.int a, .int b]) = some (.int m) := by
  by_cases h : ltP (.int b) (.int a) = true
  · exact ⟨b, by show Option.or none (some (if ltP (.int b) (.int a) = true then D.int b else D.int a)) = _; rw [if_pos h]; rfl⟩
  · exact ⟨a, by show Option.or none (some (if ltP (.int b) (.int a) = true then D.int b else D.int a)) = _; rw [if_neg h]; rfl⟩
theorem max_tup3 (a b c : Int) : ∃ m : Int, maxA (.tup [.int a, .int b, .int c]) = some (.int m) := by
  obtain ⟨m, hm⟩ : ∃ m : Int, (if ltP (.int a) (.int b) = true then D.int b else D.int a) = .int m := by
    by_cases h : ltP (.int a) (.int b) = true
    · exact ⟨b, if_pos h⟩
    · exact ⟨a, if_neg h⟩
  have e : maxA (.tup [.int a, .int b, .int c]) = some (if ltP (if ltP (.int a) (.int b) = true then D.int b else D.int a) (.int c) = true then D.int c else (if ltP (.int a) (.int b) = true then D.int b else D.int a)) := rfl
  rw [e, hm]
  by_cases h : ltP (.int m) (.int c) = true
  · exact ⟨c, by rw [if_pos h]⟩
  · exact ⟨m, by rw [if_neg h]⟩
theorem cut2 (a b c : D) : slD (.tup [a, b, c]) none (some 2) = some (.tup [a, b]) := by kernel_rfl
theorem iter1 {s cup : D} (hc : Cup cup) {c2 c3 c4 c5 c6 c7 c8 c9 c10 c11 c12 c13 c14 c15 c16 c17 c18 : Option D} : ∃ (cup6 : D) (x y z u v w p q : Int), VT x y z ∧ VT u v w ∧ z ≤ 180000 ∧ w ≤ 180000 ∧ bd 1000000 p ∧ bd 1000000 q ∧ Cup cup6 ∧ ∃ (k4 k5 : Option D), ∀ rest : Fs, sSeq b_law_2 (sSeq b_law_3 (sSeq b_law_4 rest)) [some s, some cup, c2, c3, c4, c5, c6, c7, c8, c9, c10, c11, c12, c13, c14, c15, c16, c17, c18] = rest [some s, some cup6, c2, c3, k4, k5, some (.tup [.int x, .int y, .int z]), some (.tup [.int u, .int v, .int w]), some (.tup [.int p, .int q]), c9, c10, c11, c12, c13, c14, c15, c16, c17, c18] := by
  obtain ⟨w1, cup1, e1, hc1, hw1⟩ := some_k hc [.int 2, .int 6, .int 300] (by simp [sSeq, sSet, sRt, sNx, sDo, sIf, sAsg, sPar, eVar, eC, eBin, eCall, one1, aCons, aNil, eTup, eFn, eNeg, eNot, eAnd, eChain, eIsi, tst, bAnd, bOr, bNot, Out.bind, Out.of, tgT, tgsCons, tgsNil, tgN]) (by decide) _ (.inl rfl)
  obtain ⟨w2, cup2, e2, hc2, hw2⟩ := some_k hc1 [.int 3, .int 50, .int 1000000] (by simp [sSeq, sSet, sRt, sNx, sDo, sIf, sAsg, sPar, eVar, eC, eBin, eCall, one1, aCons, aNil, eTup, eFn, eNeg, eNot, eAnd, eChain, eIsi, tst, bAnd, bOr, bNot, Out.bind, Out.of, tgT, tgsCons, tgsNil, tgN]) (by decide) _ (.inl rfl)
  obtain ⟨m, rfl, m1, m2⟩ : ∃ m : Nat, w1 = .int (m : Int) ∧ 1 ≤ m ∧ m ≤ 300 := by
    simp only [List.mem_cons, List.not_mem_nil, or_false] at hw1
    rcases hw1 with rfl | rfl | rfl
    · exact ⟨2, rfl, by decide, by decide⟩
    · exact ⟨6, rfl, by decide, by decide⟩
    · exact ⟨300, rfl, by decide, by decide⟩
  obtain ⟨f, rfl, f1, f2⟩ : ∃ m : Nat, w2 = .int (m : Int) ∧ 1 ≤ m ∧ m ≤ 1000000 := by
    simp only [List.mem_cons, List.not_mem_nil, or_false] at hw2
    rcases hw2 with rfl | rfl | rfl
    · exact ⟨3, rfl, by decide, by decide⟩
    · exact ⟨50, rfl, by decide, by decide⟩
    · exact ⟨1000000, rfl, by decide, by decide⟩
  obtain ⟨x, y, z, cup3, e3, hc3, hv, hz⟩ := law_turn_ok hc2 m1 (by omega)
  obtain ⟨u, v, w, cup4, e4, hc4, hv2, hw⟩ := law_turn_ok hc3 m1 (by omega)
  obtain ⟨r1, cup5, e5, hc5, a1, b1⟩ := roll_k cup4 (2 * (f : Int) + 1) hc4 (by omega)
  obtain ⟨r2, cup6, e6, hc6, a2, b2⟩ := roll_k cup5 (2 * (f : Int) + 1) hc5 (by omega)
  have hmm : (2 : Int) * (m : Int) * m ≤ 180000 := by
    have h1 : m * m ≤ 300 * 300 := Nat.mul_le_mul m2 m2
    have h2 : (2 : Int) * (m : Int) * m = ((2 * (m * m) : Nat) : Int) := by rw [Int.natCast_mul, Int.natCast_mul, Int.mul_assoc]; rfl
    omega
  have t3 := three_line
  have t2 := two_line
  obtain ⟨p6, p12⟩ := okey
  have hm : mulOk 2 (f : Int) = true := mulOk_l (by decide)
  have k2 : b_law_2 [some s, some cup, c2, c3, c4, c5, c6, c7, c8, c9, c10, c11, c12, c13, c14, c15, c16, c17, c18] = .ok .nx [some s, some cup2, c2, c3, some (.int (m : Int)), some (.int (f : Int)), c6, c7, c8, c9, c10, c11, c12, c13, c14, c15, c16, c17, c18] := by
    simp [sSeq, sSet, sRt, sNx, sDo, sIf, sAsg, sPar, eVar, eC, eBin, eCall, one1, aCons, aNil, eTup, eFn, eNeg, eNot, eAnd, eChain, eIsi, tst, bAnd, bOr, bNot, Out.bind, Out.of, tgT, tgsCons, tgsNil, tgN, eLst, eFnI, t3, e1, e2, p6]
  have k3 : b_law_3 [some s, some cup2, c2, c3, some (.int (m : Int)), some (.int (f : Int)), c6, c7, c8, c9, c10, c11, c12, c13, c14, c15, c16, c17, c18] = .ok .nx [some s, some cup4, c2, c3, some (.int (m : Int)), some (.int (f : Int)), some (.tup [.int x, .int y, .int z]), some (.tup [.int u, .int v, .int w]), c8, c9, c10, c11, c12, c13, c14, c15, c16, c17, c18] := by
    simp [sSeq, sSet, sRt, sNx, sDo, sIf, sAsg, sPar, eVar, eC, eBin, eCall, one1, aCons, aNil, eTup, eFn, eNeg, eNot, eAnd, eChain, eIsi, tst, bAnd, bOr, bNot, Out.bind, Out.of, tgT, tgsCons, tgsNil, tgN, eFnI, e3, e4]
  have k4 : b_law_4 [some s, some cup4, c2, c3, some (.int (m : Int)), some (.int (f : Int)), some (.tup [.int x, .int y, .int z]), some (.tup [.int u, .int v, .int w]), c8, c9, c10, c11, c12, c13, c14, c15, c16, c17, c18] = .ok .nx [some s, some cup6, c2, c3, some (.int (m : Int)), some (.int (f : Int)), some (.tup [.int x, .int y, .int z]), some (.tup [.int u, .int v, .int w]), some (.tup [.int (r1 - f), .int (r2 - f)]), c9, c10, c11, c12, c13, c14, c15, c16, c17, c18] := by
    simp [sSeq, sSet, sRt, sNx, sDo, sIf, sAsg, sPar, eVar, eC, eBin, eCall, one1, aCons, aNil, eTup, eFn, eNeg, eNot, eAnd, eChain, eIsi, tst, bAnd, bOr, bNot, Out.bind, Out.of, tgT, tgsCons, tgsNil, tgN, eFnI, mulD, mulI, hm, addD, subD, int2, e5, e6, t2]
  refine ⟨cup6, x, y, z, u, v, w, r1 - f, r2 - f, hv, hv2, by omega, by omega, by unfold Pu.bd; omega, by unfold Pu.bd; omega, hc6, some (.int (m : Int)), some (.int (f : Int)), fun rest => ?_⟩
  rw [seq_nx k2, seq_nx k3, seq_nx k4]
theorem iter2 {s cup : D} {x y z u v w p q : Int} (hv : VT x y z) (hv2 : VT u v w) (hz : z ≤ 180000) (hw : w ≤ 180000) (hp : bd 1000000 p) (hq : bd 1000000 q) {c2 c3 c4 c5 c9 c10 c11 c12 c13 c14 c15 c16 c17 c18 : Option D} : ∃ (a b c : Int) (k9 k10 k12 k13 k14 : Option D), lowT (x * p - y * q) (y * p + x * q) z = .tup [.int a, .int b, .int c] ∧ bd 100000000000000000000000000 a ∧ bd 100000000000000000000000000 b ∧ bd 100000000000000000000000000 c ∧ ∀ rest : Fs, sSeq b_law_5 (sSeq b_law_6 (sSeq b_law_7 (sSeq b_law_9 (sSeq b_law_11 (sSeq b_law_12 (sSeq b_law_13 (sSeq b_law_15 (sSeq b_law_18 (sSeq b_law_19 (sSeq b_law_24 rest)))))))))) [some s, some cup, c2, c3, c4, c5, some (.tup [.int x, .int y, .int z]), some (.tup [.int u, .int v, .int w]), some (.tup [.int p, .int q]), c9, c10, c11, c12, c13, c14, c15, c16, c17, c18] = rest [some s, some cup, c2, some (.tup [.int a, .int b, .int c]), c4, c5, some (.tup [.int x, .int y, .int z]), some (.tup [.int u, .int v, .int w]), some (.tup [.int p, .int q]), k9, k10, some (.tup [.int a, .int b, .int c]), k12, k13, k14, c15, c16, c17, c18] := by
  obtain ⟨bx0, by0, bz0⟩ := hv.bd
  have hzp := hv.pos
  have hwp := hv2.pos
  have habs := hv.abs
  have habs2 := hv2.abs
  have bx : bd 180000 x := by unfold Pu.bd; omega
  have by_ : bd 180000 y := by unfold Pu.bd; omega
  have bz : bd 180000 z := by unfold Pu.bd; omega
  have bu : bd 180000 u := by unfold Pu.bd; omega
  have bv : bd 180000 v := by unfold Pu.bd; omega
  have bw : bd 180000 w := by unfold Pu.bd; omega
  have ms : ∀ {m n : Nat} {i j : Int}, bd m i → bd n j → (m < 1000000000000000000000000000000000000000000000000) → (n < 1000000000000000000000000000000000000000000000000) → mulOk i j = true := fun a b h1 h2 => mulOk_sm (bd_sm a (big_lt _ h1)) (bd_sm b (big_lt _ h2))
  have bX : bd 360000000000 (x * p - y * q) := bd_mono (bd_sub (bd_mul bx hp) (bd_mul by_ hq)) (by decide)
  have bY : bd 360000000000 (y * p + x * q) := bd_mono (bd_add (bd_mul by_ hp) (bd_mul bx hq)) (by decide)
  have bpz : bd 180000000000 (p * z) := bd_mono (bd_mul hp bz) (by decide)
  have bqz : bd 180000000000 (q * z) := bd_mono (bd_mul hq bz) (by decide)
  have hp12 : bd 1000000000000 p := bd_mono hp (by decide)
  have hq12 : bd 1000000000000 q := bd_mono hq (by decide)
  have bX12 : bd 1000000000000 (x * p - y * q) := bd_mono bX (by decide)
  have bY12 : bd 1000000000000 (y * p + x * q) := bd_mono bY (by decide)
  have bpz12 : bd 1000000000000 (p * z) := bd_mono bpz (by decide)
  have bqz12 : bd 1000000000000 (q * z) := bd_mono bqz (by decide)
  have t3 := three_line
  have t2 := two_line
  obtain ⟨o0, o1, o2⟩ := at3 (.int x) (.int y) (.int z)
  obtain ⟨p0, p1⟩ := at2 (.int p) (.int q)
  have g7 := turned_ok hv hp12 hq12
  have g6 := llowered_ok (x * p - y * q) (y * p + x * q) z (bd_sm bX (big_lt _)) (bd_sm bY (big_lt _)) (bd_sm bz (big_lt _)) (by omega)
  have g9 := stays_ok hv hp12 hq12
  have gn := low_norm (X := x * p - y * q) (Y := y * p + x * q) (z := z) (N := p * p + q * q) hzp (by rw [norm_mul, hv.circ])
  have ggp := gg_pos (x := x * p - y * q) (y := y * p + x * q) (z := z) (by omega)
  have dle : ∀ {n : Nat} {i : Int}, bd n i → bd n (i / gg (x * p - y * q) (y * p + x * q) z) := fun {n i} h => by
    unfold Pu.bd at *
    exact Nat.le_trans (Int.natAbs_ediv_le_natAbs _ _) h
  have ba := dle bX
  have bb := dle bY
  have bc := dle bz
  have hlow : lowT (x * p - y * q) (y * p + x * q) z = .tup [.int ((x * p - y * q) / gg (x * p - y * q) (y * p + x * q) z), .int ((y * p + x * q) / gg (x * p - y * q) (y * p + x * q) z), .int (z / gg (x * p - y * q) (y * p + x * q) z)] := rfl
  rw [hlow] at g7 g6
  refine ⟨(x * p - y * q) / gg (x * p - y * q) (y * p + x * q) z, (y * p + x * q) / gg (x * p - y * q) (y * p + x * q) z, z / gg (x * p - y * q) (y * p + x * q) z, some (.int (x * p - y * q)), some (.int (y * p + x * q)), some (.tup [.int (p * z), .int (q * z)]), some (.tup [.int (x * p - y * q), .int (y * p + x * q), .int 1]), some (if p = 0 ∧ q = 0 then .non else .tup [.int x, .int y, .int z]), rfl, bd_mono ba (by decide), bd_mono bb (by decide), bd_mono bc (by decide), fun rest => ?_⟩
  have m5 : mulOk x p = true ∧ mulOk y q = true ∧ mulOk y p = true ∧ mulOk x q = true := ⟨ms bx hp (by decide) (by decide), ms by_ hq (by decide) (by decide), ms by_ hp (by decide) (by decide), ms bx hq (by decide) (by decide)⟩
  obtain ⟨m51, m52, m53, m54⟩ := m5
  have k5 : b_law_5 [some s, some cup, c2, c3, c4, c5, some (.tup [.int x, .int y, .int z]), some (.tup [.int u, .int v, .int w]), some (.tup [.int p, .int q]), c9, c10, c11, c12, c13, c14, c15, c16, c17, c18] = .ok .nx [some s, some cup, c2, c3, c4, c5, some (.tup [.int x, .int y, .int z]), some (.tup [.int u, .int v, .int w]), some (.tup [.int p, .int q]), some (.int (x * p - y * q)), some (.int (y * p + x * q)), c11, c12, c13, c14, c15, c16, c17, c18] := by
    simp [sSeq, sSet, sRt, sNx, sDo, sIf, sAsg, sPar, eVar, eC, eBin, eCall, one1, aCons, aNil, eTup, eFn, eNeg, eNot, eAnd, eChain, eIsi, tst, bAnd, bOr, bNot, Out.bind, Out.of, tgT, tgsCons, tgsNil, tgN, getD, ixD, o0, o1, p0, p1, mulD, mulI, m51, m52, m53, m54, subD, addD, int2]
  rw [seq_nx k5]
  generalize hA : (x * p - y * q) / gg (x * p - y * q) (y * p + x * q) z = A at *
  generalize hB : (y * p + x * q) / gg (x * p - y * q) (y * p + x * q) z = B at *
  generalize hC : z / gg (x * p - y * q) (y * p + x * q) z = C at *
  obtain ⟨q0, q1, q2⟩ := at3 (.int A) (.int B) (.int C)
  have k6 : b_law_6 [some s, some cup, c2, c3, c4, c5, some (.tup [.int x, .int y, .int z]), some (.tup [.int u, .int v, .int w]), some (.tup [.int p, .int q]), some (.int (x * p - y * q)), some (.int (y * p + x * q)), c11, c12, c13, c14, c15, c16, c17, c18] = .ok .nx [some s, some cup, c2, c3, c4, c5, some (.tup [.int x, .int y, .int z]), some (.tup [.int u, .int v, .int w]), some (.tup [.int p, .int q]), some (.int (x * p - y * q)), some (.int (y * p + x * q)), some (.tup [.int A, .int B, .int C]), c12, c13, c14, c15, c16, c17, c18] := by
    simp [sSeq, sSet, sRt, sNx, sDo, sIf, sAsg, sPar, eVar, eC, eBin, eCall, one1, aCons, aNil, eTup, eFn, eNeg, eNot, eAnd, eChain, eIsi, tst, bAnd, bOr, bNot, Out.bind, Out.of, tgT, tgsCons, tgsNil, tgN, getD, ixD, o2, g6]
  rw [seq_nx k6]
  have k7 : b_law_7 [some s, some cup, c2, c3, c4, c5, some (.tup [.int x, .int y, .int z]), some (.tup [.int u, .int v, .int w]), some (.tup [.int p, .int q]), some (.int (x * p - y * q)), some (.int (y * p + x * q)), some (.tup [.int A, .int B, .int C]), c12, c13, c14, c15, c16, c17, c18] = .ok .nx [some s, some cup, c2, some (.tup [.int A, .int B, .int C]), c4, c5, some (.tup [.int x, .int y, .int z]), some (.tup [.int u, .int v, .int w]), some (.tup [.int p, .int q]), some (.int (x * p - y * q)), some (.int (y * p + x * q)), some (.tup [.int A, .int B, .int C]), c12, c13, c14, c15, c16, c17, c18] := by
    simp [sSeq, sSet, sRt, sNx, sDo, sIf, sAsg, sPar, eVar, eC, eBin, eCall, one1, aCons, aNil, eTup, eFn, eNeg, eNot, eAnd, eChain, eIsi, tst, bAnd, bOr, bNot, Out.bind, Out.of, tgT, tgsCons, tgsNil, tgN, g7]
  rw [seq_nx k7]
  have h9 := same_refl 40 (.tup [.tup [.int A, .int B, .int C], .bl (decide (C = 1))]) (show (2 : Nat) < 40 by decide) rfl
  have k9 : b_law_9 [some s, some cup, c2, some (.tup [.int A, .int B, .int C]), c4, c5, some (.tup [.int x, .int y, .int z]), some (.tup [.int u, .int v, .int w]), some (.tup [.int p, .int q]), some (.int (x * p - y * q)), some (.int (y * p + x * q)), some (.tup [.int A, .int B, .int C]), c12, c13, c14, c15, c16, c17, c18] = .ok .nx [some s, some cup, c2, some (.tup [.int A, .int B, .int C]), c4, c5, some (.tup [.int x, .int y, .int z]), some (.tup [.int u, .int v, .int w]), some (.tup [.int p, .int q]), some (.int (x * p - y * q)), some (.int (y * p + x * q)), some (.tup [.int A, .int B, .int C]), c12, c13, c14, c15, c16, c17, c18] := by
    simp [sSeq, sSet, sRt, sNx, sDo, sIf, sAsg, sPar, eVar, eC, eBin, eCall, one1, aCons, aNil, eTup, eFn, eNeg, eNot, eAnd, eChain, eIsi, tst, bAnd, bOr, bNot, Out.bind, Out.of, tgT, tgsCons, tgsNil, tgN, g9, getD, ixD, q2, eqD_int, t2, h9]
  rw [seq_nx k9]
  have m11 : mulOk A A = true ∧ mulOk B B = true ∧ mulOk p p = true ∧ mulOk q q = true := ⟨ms ba ba (by decide) (by decide), ms bb bb (by decide) (by decide), ms hp hp (by decide) (by decide), ms hq hq (by decide) (by decide)⟩
  obtain ⟨m111, m112, m113, m114⟩ := m11
  have m115 : mulOk (p * p + q * q) C = true := ms (bd_add (bd_mul hp hp) (bd_mul hq hq)) bc (by decide) (by decide)
  have m116 : mulOk ((p * p + q * q) * C) C = true := ms (bd_mul (bd_add (bd_mul hp hp) (bd_mul hq hq)) bc) bc (by decide) (by decide)
  have k11 : b_law_11 [some s, some cup, c2, some (.tup [.int A, .int B, .int C]), c4, c5, some (.tup [.int x, .int y, .int z]), some (.tup [.int u, .int v, .int w]), some (.tup [.int p, .int q]), some (.int (x * p - y * q)), some (.int (y * p + x * q)), some (.tup [.int A, .int B, .int C]), c12, c13, c14, c15, c16, c17, c18] = .ok .nx [some s, some cup, c2, some (.tup [.int A, .int B, .int C]), c4, c5, some (.tup [.int x, .int y, .int z]), some (.tup [.int u, .int v, .int w]), some (.tup [.int p, .int q]), some (.int (x * p - y * q)), some (.int (y * p + x * q)), some (.tup [.int A, .int B, .int C]), c12, c13, c14, c15, c16, c17, c18] := by
    simp [sSeq, sSet, sRt, sNx, sDo, sIf, sAsg, sPar, eVar, eC, eBin, eCall, one1, aCons, aNil, eTup, eFn, eNeg, eNot, eAnd, eChain, eIsi, tst, bAnd, bOr, bNot, Out.bind, Out.of, tgT, tgsCons, tgsNil, tgN, getD, ixD, q0, q1, q2, p0, p1, mulD, mulI, m111, m112, m113, m114, m115, m116, addD, neD_int, gn]
  rw [seq_nx k11]
  have m12 : mulOk p z = true ∧ mulOk q z = true := ⟨ms hp bz (by decide) (by decide), ms hq bz (by decide) (by decide)⟩
  obtain ⟨m121, m122⟩ := m12
  have k12 : b_law_12 [some s, some cup, c2, some (.tup [.int A, .int B, .int C]), c4, c5, some (.tup [.int x, .int y, .int z]), some (.tup [.int u, .int v, .int w]), some (.tup [.int p, .int q]), some (.int (x * p - y * q)), some (.int (y * p + x * q)), some (.tup [.int A, .int B, .int C]), c12, c13, c14, c15, c16, c17, c18] = .ok .nx [some s, some cup, c2, some (.tup [.int A, .int B, .int C]), c4, c5, some (.tup [.int x, .int y, .int z]), some (.tup [.int u, .int v, .int w]), some (.tup [.int p, .int q]), some (.int (x * p - y * q)), some (.int (y * p + x * q)), some (.tup [.int A, .int B, .int C]), some (.tup [.int (p * z), .int (q * z)]), c13, c14, c15, c16, c17, c18] := by
    simp [sSeq, sSet, sRt, sNx, sDo, sIf, sAsg, sPar, eVar, eC, eBin, eCall, one1, aCons, aNil, eTup, eFn, eNeg, eNot, eAnd, eChain, eIsi, tst, bAnd, bOr, bNot, Out.bind, Out.of, tgT, tgsCons, tgsNil, tgN, getD, ixD, o2, p0, p1, mulD, mulI, m121, m122, t2]
  rw [seq_nx k12]
  have g13 := turned_ok hv bpz12 bqz12
  rw [great_low hzp] at g13
  generalize hX : x * p - y * q = X at *
  generalize hY : y * p + x * q = Y at *
  obtain ⟨r0, r1, r2⟩ := at3 (.int X) (.int Y) (.int 1)
  obtain ⟨z0, z1⟩ := at2 (.int (p * z)) (.int (q * z))
  have k13 : b_law_13 [some s, some cup, c2, some (.tup [.int A, .int B, .int C]), c4, c5, some (.tup [.int x, .int y, .int z]), some (.tup [.int u, .int v, .int w]), some (.tup [.int p, .int q]), some (.int X), some (.int Y), some (.tup [.int A, .int B, .int C]), some (.tup [.int (p * z), .int (q * z)]), c13, c14, c15, c16, c17, c18] = .ok .nx [some s, some cup, c2, some (.tup [.int A, .int B, .int C]), c4, c5, some (.tup [.int x, .int y, .int z]), some (.tup [.int u, .int v, .int w]), some (.tup [.int p, .int q]), some (.int X), some (.int Y), some (.tup [.int A, .int B, .int C]), some (.tup [.int (p * z), .int (q * z)]), some (.tup [.int X, .int Y, .int 1]), c14, c15, c16, c17, c18] := by
    simp [sSeq, sSet, sRt, sNx, sDo, sIf, sAsg, sPar, eVar, eC, eBin, eCall, one1, aCons, aNil, eTup, eFn, eNeg, eNot, eAnd, eChain, eIsi, tst, bAnd, bOr, bNot, Out.bind, Out.of, tgT, tgsCons, tgsNil, tgN, g13]
  rw [seq_nx k13]
  have g15 := turned_ok hv.neg bX12 bY12
  have hback := back_low (p := p) (q := q) hzp hv.circ
  rw [hX, hY] at hback
  rw [hback] at g15
  have gu := undone_ok hv
  have c2' := cut2 (.int X) (.int Y) (.int 1)
  have h15 := same_refl 40 (.tup [.int (p * z), .int (q * z), .int 1]) (show (1 : Nat) < 40 by decide) rfl
  have k15 : b_law_15 [some s, some cup, c2, some (.tup [.int A, .int B, .int C]), c4, c5, some (.tup [.int x, .int y, .int z]), some (.tup [.int u, .int v, .int w]), some (.tup [.int p, .int q]), some (.int X), some (.int Y), some (.tup [.int A, .int B, .int C]), some (.tup [.int (p * z), .int (q * z)]), some (.tup [.int X, .int Y, .int 1]), c14, c15, c16, c17, c18] = .ok .nx [some s, some cup, c2, some (.tup [.int A, .int B, .int C]), c4, c5, some (.tup [.int x, .int y, .int z]), some (.tup [.int u, .int v, .int w]), some (.tup [.int p, .int q]), some (.int X), some (.int Y), some (.tup [.int A, .int B, .int C]), some (.tup [.int (p * z), .int (q * z)]), some (.tup [.int X, .int Y, .int 1]), c14, c15, c16, c17, c18] := by
    simp [sSeq, sSet, sRt, sNx, sDo, sIf, sAsg, sPar, eVar, eC, eBin, eCall, one1, aCons, aNil, eTup, eFn, eNeg, eNot, eAnd, eChain, eIsi, tst, bAnd, bOr, bNot, Out.bind, Out.of, tgT, tgsCons, tgsNil, tgN, getD, ixD, r2, neD_int, gu, eSlG, Pu.part, c2', g15, z0, z1, t3, h15]
  rw [seq_nx k15]
  have hmid : ∃ a b c : Int, lowT (x * u - y * v) (x * v + y * u) (z * w) = .tup [.int a, .int b, .int c] ∧ VT a b c ∧ ∃ g, 0 < g ∧ x * u - y * v = g * a ∧ x * v + y * u = g * b ∧ z * w = g * c := by
    have hcc : (x * u - y * v) * (x * u - y * v) + (x * v + y * u) * (x * v + y * u) = z * w * (z * w) := by
      have e := norm_mul x y u v
      have e2 : y * u + x * v = x * v + y * u := Int.add_comm _ _
      rw [e2, hv.circ, hv2.circ] at e
      rw [e]
      simp only [Int.mul_assoc, Int.mul_left_comm, Int.mul_comm]
    have hzw := Int.mul_pos hzp hwp
    obtain ⟨l1, l2, l3⟩ := low_prim hzw hcc
    have gp := gg_pos (x := x * u - y * v) (y := x * v + y * u) (z := z * w) (by omega)
    obtain ⟨d1, d2, d3⟩ := gg_dvd (x := x * u - y * v) (y := x * v + y * u) (z := z * w)
    have bzw : bd 32400000000 (z * w) := bd_mono (bd_mul bz bw) (by decide)
    have hle : z * w / gg (x * u - y * v) (x * v + y * u) (z * w) ≤ z * w := Int.ediv_le_self _ (by omega)
    unfold Pu.bd at bzw
    exact ⟨_, _, _, rfl, ⟨l3, l2, l1, by omega⟩, _, gp, (Int.mul_ediv_cancel' d1).symm, (Int.mul_ediv_cancel' d2).symm, (Int.mul_ediv_cancel' d3).symm⟩
  obtain ⟨a', b', c', hl', hvt, g, hg, ga, gb, gc⟩ := hmid
  have g17 := put_together_ok hv hv2
  rw [hl'] at g17
  have g18 := turned_ok hv2 bX12 bY12
  have g19 := turned_ok hvt bpz12 bqz12
  have hch := chain_low (p := p) (q := q) hg hzp hwp hvt.pos ga gb gc
  rw [hX, hY] at hch
  rw [← hch] at g19
  obtain ⟨mx, hmx⟩ := max_tup2 X Y
  obtain ⟨mn, hmn⟩ := min_tup2 X Y
  obtain ⟨m3, hm3⟩ := max_tup3 a' b' c'
  obtain ⟨p6, p12⟩ := okey
  have hne : ∀ a b c : Int, neD (.tup [.int a, .int b, .int c]) (.tup [.int a, .int b, .int c]) = some (.bl false) := fun a b c => by
    have e := eqv_int a a
    have e2 := eqv_int b b
    have e3 := eqv_int c c
    have ee : eqv (.tup [.int a, .int b, .int c]) (.tup [.int a, .int b, .int c]) = true := by
      have : eqv (.tup [.int a, .int b, .int c]) (.tup [.int a, .int b, .int c]) = (eqv (.int a) (.int a) && (eqv (.int b) (.int b) && eqv (.int c) (.int c))) := by
        simp [sSeq, sSet, sRt, sNx, sDo, sIf, sAsg, sPar, eVar, eC, eBin, eCall, one1, aCons, aNil, eTup, eFn, eNeg, eNot, eAnd, eChain, eIsi, tst, bAnd, bOr, bNot, Out.bind, Out.of, tgT, tgsCons, tgsNil, tgN, eqv, toP, toPs, PyData.eqv, PyData.eqvAll]
      rw [this, e, e2, e3]; simp [sSeq, sSet, sRt, sNx, sDo, sIf, sAsg, sPar, eVar, eC, eBin, eCall, one1, aCons, aNil, eTup, eFn, eNeg, eNot, eAnd, eChain, eIsi, tst, bAnd, bOr, bNot, Out.bind, Out.of, tgT, tgsCons, tgsNil, tgN]
    have : eqP not (.tup [.int a, .int b, .int c]) (.tup [.int a, .int b, .int c]) = some (.bl false) := by
      unfold eqP
      rw [show shp (.tup [.int a, .int b, .int c]) = true from rfl, ee]; rfl
    show Option.or none (Option.or none (Option.or none (eqP not (.tup [.int a, .int b, .int c]) (.tup [.int a, .int b, .int c])))) = _
    rw [this]; rfl
  have k17 : b_law_17 [some s, some cup, c2, some (.tup [.int A, .int B, .int C]), c4, c5, some (.tup [.int x, .int y, .int z]), some (.tup [.int u, .int v, .int w]), some (.tup [.int p, .int q]), some (.int X), some (.int Y), some (.tup [.int A, .int B, .int C]), some (.tup [.int (p * z), .int (q * z)]), some (.tup [.int X, .int Y, .int 1]), c14, c15, c16, c17, c18] = .ok .nx [some s, some cup, c2, some (.tup [.int A, .int B, .int C]), c4, c5, some (.tup [.int x, .int y, .int z]), some (.tup [.int u, .int v, .int w]), some (.tup [.int p, .int q]), some (.int X), some (.int Y), some (.tup [.int A, .int B, .int C]), some (.tup [.int (p * z), .int (q * z)]), some (.tup [.int X, .int Y, .int 1]), c14, c15, c16, c17, c18] := by
    have hlw : lowT (u * X - v * Y) (v * X + u * Y) w = .tup [.int ((u * X - v * Y) / gg (u * X - v * Y) (v * X + u * Y) w), .int ((v * X + u * Y) / gg (u * X - v * Y) (v * X + u * Y) w), .int (w / gg (u * X - v * Y) (v * X + u * Y) w)] := rfl
    rw [hlw] at g18 g19
    simp [sSeq, sSet, sRt, sNx, sDo, sIf, sAsg, sPar, eVar, eC, eBin, eCall, one1, aCons, aNil, eTup, eFn, eNeg, eNot, eAnd, eChain, eIsi, tst, bAnd, bOr, bNot, Out.bind, Out.of, tgT, tgsCons, tgsNil, tgN, eSlG, Pu.part, c2', g18, g17, g19, hne]
  have k18 : b_law_18 [some s, some cup, c2, some (.tup [.int A, .int B, .int C]), c4, c5, some (.tup [.int x, .int y, .int z]), some (.tup [.int u, .int v, .int w]), some (.tup [.int p, .int q]), some (.int X), some (.int Y), some (.tup [.int A, .int B, .int C]), some (.tup [.int (p * z), .int (q * z)]), some (.tup [.int X, .int Y, .int 1]), c14, c15, c16, c17, c18] = .ok .nx [some s, some cup, c2, some (.tup [.int A, .int B, .int C]), c4, c5, some (.tup [.int x, .int y, .int z]), some (.tup [.int u, .int v, .int w]), some (.tup [.int p, .int q]), some (.int X), some (.int Y), some (.tup [.int A, .int B, .int C]), some (.tup [.int (p * z), .int (q * z)]), some (.tup [.int X, .int Y, .int 1]), c14, c15, c16, c17, c18] := by
    have ht : ∃ bb : Bool, bAnd (tst (eBin leD (eCall (two2 fun i j => if j > i then j else i) (aCons (eCall (one1 maxA) (aCons (eSlG slD (eVar 13) none (some (eC (.int 2)))) (aNil))) (aCons (eNeg (eCall (one1 minA) (aCons (eSlG slD (eVar 13) none (some (eC (.int 2)))) (aNil)))) (aNil)))) (eBin powD (eC (.int 10)) (eC (.int 12))))) (tst (eBin leD (eCall (one1 maxA) (aCons (eFn m_put_together (aCons (eVar 6) (aCons (eVar 7) (aNil)))) (aNil))) (eBin powD (eC (.int 10)) (eC (.int 12))))) [some s, some cup, c2, some (.tup [.int A, .int B, .int C]), c4, c5, some (.tup [.int x, .int y, .int z]), some (.tup [.int u, .int v, .int w]), some (.tup [.int p, .int q]), some (.int X), some (.int Y), some (.tup [.int A, .int B, .int C]), some (.tup [.int (p * z), .int (q * z)]), some (.tup [.int X, .int Y, .int 1]), c14, c15, c16, c17, c18] = .ok bb [some s, some cup, c2, some (.tup [.int A, .int B, .int C]), c4, c5, some (.tup [.int x, .int y, .int z]), some (.tup [.int u, .int v, .int w]), some (.tup [.int p, .int q]), some (.int X), some (.int Y), some (.tup [.int A, .int B, .int C]), some (.tup [.int (p * z), .int (q * z)]), some (.tup [.int X, .int Y, .int 1]), c14, c15, c16, c17, c18] := by
      by_cases hle : (if -mn > mx then -mn else mx) ≤ 1000000000000
      · refine ⟨decide (m3 ≤ 1000000000000), ?_⟩
        simp only [gt_iff_lt] at hle
        simp [sSeq, sSet, sRt, sNx, sDo, sIf, sAsg, sPar, eVar, eC, eBin, eCall, one1, aCons, aNil, eTup, eFn, eNeg, eNot, eAnd, eChain, eIsi, tst, bAnd, bOr, bNot, Out.bind, Out.of, tgT, tgsCons, tgsNil, tgN, eSlG, Pu.part, c2', hmx, hmn, two2, leD, int2, p12, hle, g17, hm3]
      · refine ⟨false, ?_⟩
        simp only [gt_iff_lt] at hle
        simp [sSeq, sSet, sRt, sNx, sDo, sIf, sAsg, sPar, eVar, eC, eBin, eCall, one1, aCons, aNil, eTup, eFn, eNeg, eNot, eAnd, eChain, eIsi, tst, bAnd, bOr, bNot, Out.bind, Out.of, tgT, tgsCons, tgsNil, tgN, eSlG, Pu.part, c2', hmx, hmn, two2, leD, int2, p12, hle]
    obtain ⟨bb, ht⟩ := ht
    cases bb with
    | true => exact (if_t ht).trans k17
    | false => exact if_f ht
  rw [seq_nx k18]
  have g20 := between_ok bpz12 bqz12 bX12 bY12
  have hnorm := great_norm (p := p) (q := q) hv.circ
  rw [hX, hY] at hnorm
  have hbt : (if p * z * (p * z) + q * z * (q * z) = 0 ∨ X * X + Y * Y ≠ p * z * (p * z) + q * z * (q * z) then D.non else lowT (p * z * X + q * z * Y) (p * z * Y - q * z * X) (p * z * (p * z) + q * z * (q * z))) = if p = 0 ∧ q = 0 then .non else .tup [.int x, .int y, .int z] := by
    by_cases h0 : p = 0 ∧ q = 0
    · rw [if_pos h0, if_pos (.inl (by rw [h0.1, h0.2]; simp [sSeq, sSet, sRt, sNx, sDo, sIf, sAsg, sPar, eVar, eC, eBin, eCall, one1, aCons, aNil, eTup, eFn, eNeg, eNot, eAnd, eChain, eIsi, tst, bAnd, bOr, bNot, Out.bind, Out.of, tgT, tgsCons, tgsNil, tgN]))]
    · rw [if_neg h0, if_neg ?_]
      · have := between_low hv.prim hzp hv.circ h0
        rw [hX, hY] at this
        exact this
      · intro hh
        rcases hh with hh | hh
        · have h1 := sq_nn (p * z)
          have h2 := sq_nn (q * z)
          have e1 : p * z = 0 := sq_zero (by omega)
          have e2 : q * z = 0 := sq_zero (by omega)
          rcases Int.mul_eq_zero.mp e1 with e | e
          · rcases Int.mul_eq_zero.mp e2 with e' | e'
            · exact h0 ⟨e, e'⟩
            · omega
          · omega
        · exact hh hnorm
  rw [hbt] at g20
  have k19 : b_law_19 [some s, some cup, c2, some (.tup [.int A, .int B, .int C]), c4, c5, some (.tup [.int x, .int y, .int z]), some (.tup [.int u, .int v, .int w]), some (.tup [.int p, .int q]), some (.int X), some (.int Y), some (.tup [.int A, .int B, .int C]), some (.tup [.int (p * z), .int (q * z)]), some (.tup [.int X, .int Y, .int 1]), c14, c15, c16, c17, c18] = .ok .nx [some s, some cup, c2, some (.tup [.int A, .int B, .int C]), c4, c5, some (.tup [.int x, .int y, .int z]), some (.tup [.int u, .int v, .int w]), some (.tup [.int p, .int q]), some (.int X), some (.int Y), some (.tup [.int A, .int B, .int C]), some (.tup [.int (p * z), .int (q * z)]), some (.tup [.int X, .int Y, .int 1]), some (if p = 0 ∧ q = 0 then .non else .tup [.int x, .int y, .int z]), c15, c16, c17, c18] := by
    simp [sSeq, sSet, sRt, sNx, sDo, sIf, sAsg, sPar, eVar, eC, eBin, eCall, one1, aCons, aNil, eTup, eFn, eNeg, eNot, eAnd, eChain, eIsi, tst, bAnd, bOr, bNot, Out.bind, Out.of, tgT, tgsCons, tgsNil, tgN, eSlG, Pu.part, c2', g20]
  rw [seq_nx k19]
  have k24 : b_law_24 [some s, some cup, c2, some (.tup [.int A, .int B, .int C]), c4, c5, some (.tup [.int x, .int y, .int z]), some (.tup [.int u, .int v, .int w]), some (.tup [.int p, .int q]), some (.int X), some (.int Y), some (.tup [.int A, .int B, .int C]), some (.tup [.int (p * z), .int (q * z)]), some (.tup [.int X, .int Y, .int 1]), some (if p = 0 ∧ q = 0 then .non else .tup [.int x, .int y, .int z]), c15, c16, c17, c18] = .ok .nx [some s, some cup, c2, some (.tup [.int A, .int B, .int C]), c4, c5, some (.tup [.int x, .int y, .int z]), some (.tup [.int u, .int v, .int w]), some (.tup [.int p, .int q]), some (.int X), some (.int Y), some (.tup [.int A, .int B, .int C]), some (.tup [.int (p * z), .int (q * z)]), some (.tup [.int X, .int Y, .int 1]), some (if p = 0 ∧ q = 0 then .non else .tup [.int x, .int y, .int z]), c15, c16, c17, c18] := by
    have e0 := eq00 p q
    by_cases h0 : p = 0 ∧ q = 0
    · rw [if_pos h0]
      have hd : (decide (p = 0) && decide (q = 0)) = true := by simp [sSeq, sSet, sRt, sNx, sDo, sIf, sAsg, sPar, eVar, eC, eBin, eCall, one1, aCons, aNil, eTup, eFn, eNeg, eNot, eAnd, eChain, eIsi, tst, bAnd, bOr, bNot, Out.bind, Out.of, tgT, tgsCons, tgsNil, tgN, h0.1, h0.2]
      rw [hd] at e0
      simp [sSeq, sSet, sRt, sNx, sDo, sIf, sAsg, sPar, eVar, eC, eBin, eCall, one1, aCons, aNil, eTup, eFn, eNeg, eNot, eAnd, eChain, eIsi, tst, bAnd, bOr, bNot, Out.bind, Out.of, tgT, tgsCons, tgsNil, tgN, t2, e0, isnD2, isNn, isN]
    · rw [if_neg h0]
      have hd : (decide (p = 0) && decide (q = 0)) = false := by
        rw [Bool.and_eq_false_iff]
        by_cases hp0 : p = 0
        · exact .inr (decide_eq_false fun hq0 => h0 ⟨hp0, hq0⟩)
        · exact .inl (decide_eq_false hp0)
      rw [hd] at e0
      have hs := same_refl 40 (.tup [.int x, .int y, .int z]) (show (1 : Nat) < 40 by decide) rfl
      have bY1 : bd 1000000000000 (Y + 1) := by unfold Pu.bd at bY ⊢; omega
      have g24 := between_ok bpz12 bqz12 bX12 bY1
      have hne2 : X * X + (Y + 1) * (Y + 1) ≠ p * z * (p * z) + q * z * (q * z) := by
        have e : (Y + 1) * (Y + 1) = Y * Y + 2 * Y + 1 := by
          rw [Int.add_mul, Int.mul_add]; omega
        rw [e]; omega
      rw [if_pos (.inr hne2)] at g24
      simp [sSeq, sSet, sRt, sNx, sDo, sIf, sAsg, sPar, eVar, eC, eBin, eCall, one1, aCons, aNil, eTup, eFn, eNeg, eNot, eAnd, eChain, eIsi, tst, bAnd, bOr, bNot, Out.bind, Out.of, tgT, tgsCons, tgsNil, tgN, t2, e0, hs, getD, ixD, r0, r1, addD, g24, isnD2, isNn, isN]
  rw [seq_nx k24]
def goodB (v : D) : Bool := okE v && match v with
  | .tup xs => xs.all okE
  | _ => true
theorem good_ask {v : D} (h : goodB v = true) (a b c : Int) : askV v (.tup [.int a, .int b, .int c]) = true := by
  obtain ⟨h1, h2⟩ := Bool.and_eq_true_iff.mp h
  cases v with
  | tup xs =>
    have hx : xs.all okE = true := h2
    show (decide (xs.length ≠ 3) || (decide ((3 : Nat) < 1000000) && askV.askVs xs [.int a, .int b, .int c])) = true
    by_cases hl : xs.length = 3
    · obtain ⟨e1, e2, e3, rfl⟩ : ∃ e1 e2 e3, xs = [e1, e2, e3] := by
        match xs, hl with
        | [e1, e2, e3], _ => exact ⟨e1, e2, e3, rfl⟩
      have q : ∀ (e : D) (i : Int), okE e = true → askV e (.int i) = true := fun e i h => by cases e <;> first | rfl | cases h
      have hm := List.all_eq_true.mp hx
      have : askV.askVs [e1, e2, e3] [.int a, .int b, .int c] = true := by
        show (askV e1 (.int a) && (askV e2 (.int b) && (askV e3 (.int c) && true))) = true
        rw [q e1 a (hm e1 (by simp [sSeq, sSet, sRt, sNx, sDo, sIf, sAsg, sPar, eVar, eC, eBin, eCall, one1, aCons, aNil, eTup, eFn, eNeg, eNot, eAnd, eChain, eIsi, tst, bAnd, bOr, bNot, Out.bind, Out.of, tgT, tgsCons, tgsNil, tgN])), q e2 b (hm e2 (by simp [sSeq, sSet, sRt, sNx, sDo, sIf, sAsg, sPar, eVar, eC, eBin, eCall, one1, aCons, aNil, eTup, eFn, eNeg, eNot, eAnd, eChain, eIsi, tst, bAnd, bOr, bNot, Out.bind, Out.of, tgT, tgsCons, tgsNil, tgN])), q e3 c (hm e3 (by simp [sSeq, sSet, sRt, sNx, sDo, sIf, sAsg, sPar, eVar, eC, eBin, eCall, one1, aCons, aNil, eTup, eFn, eNeg, eNot, eAnd, eChain, eIsi, tst, bAnd, bOr, bNot, Out.bind, Out.of, tgT, tgsCons, tgsNil, tgN]))]; rfl
      rw [this]; rfl
    · rw [decide_eq_true (show xs.length ≠ 3 from hl), Bool.true_or]
  | fzl _ => cases h1
  | obj _ _ => cases h1
  | fn _ => cases h1
  | _ => rfl
/-- one value judged -/
theorem judge {s cup : D} {x y z p q a b c : Int} (hv : VT x y z) (hp : bd 1000000000000 p) (hq : bd 1000000000000 q) (hl : lowT (x * p - y * q) (y * p + x * q) z = .tup [.int a, .int b, .int c]) (ha : bd 100000000000000000000000000 a) (hb : bd 100000000000000000000000000 b) (hc : bd 100000000000000000000000000 c)
    {v : D} (hg : goodB v = true) {c2 c3 c4 c5 c7 c9 c10 c12 c13 c14 c15 c16 c18 : Option D} :
    b_law_L1 [some s, some cup, c2, c3, c4, c5, some (.tup [.int x, .int y, .int z]), c7, some (.tup [.int p, .int q]), c9, c10, some (.tup [.int a, .int b, .int c]), c12, c13, c14, c15, c16, some v, c18] = .ok .nx [some s, some cup, c2, c3, c4, c5, some (.tup [.int x, .int y, .int z]), c7, some (.tup [.int p, .int q]), c9, c10, some (.tup [.int a, .int b, .int c]), c12, c13, c14, c15, c16, some v, c18] := by
  obtain ⟨g1, g2⟩ := Bool.and_eq_true_iff.mp hg
  have h1 := is_turned_ok hv hp hq hl ha hb hc v g1 fun xs e => by
    subst e
    exact List.all_eq_true.mp (show xs.all okE = true from g2)
  have h2 := same_k 40 v (.tup [.int a, .int b, .int c]) (show (1 : Nat) < 40 by decide) (good_ask hg a b c)
  have h3 := same_refl 40 (.bl (sameV v (.tup [.int a, .int b, .int c]))) (show (0 : Nat) < 40 by decide) rfl
  show b_law_29 _ = _
  simp [sSeq, sSet, sRt, sNx, sDo, sIf, sAsg, sPar, eVar, eC, eBin, eCall, one1, aCons, aNil, eTup, eFn, eNeg, eNot, eAnd, eChain, eIsi, tst, bAnd, bOr, bNot, Out.bind, Out.of, tgT, tgsCons, tgsNil, tgN, h1, h2, h3]
def itemsAt (a b c : Int) (at_ : Nat) : List D := [.tup [.int a, .int b, .int c], .tup [.int a, .int b], .tup [.int a, .int b, .int c, .int 0], .lst [.int a, .int b, .int c], .tup [], .non, .int 5, .str "1", .tup [.int (2 * a), .int (2 * b), .int (2 * c)], .tup [.int (-a), .int (-b), .int (-c)]] ++
  ([.int ([a, b, c].getD at_ 0 + 1), .bl true, .non, .str "1", .tup [.int 1], .int (-([a, b, c].getD at_ 0)), .int ([a, b, c].getD at_ 0)] : List D).map fun e => .tup (([.int a, .int b, .int c] : List D).set at_ e)
theorem iter3 {s cup : D} (hcp : Cup cup) {x y z p q a b c : Int} (hv : VT x y z) (hp : bd 1000000000000 p) (hq : bd 1000000000000 q) (hl : lowT (x * p - y * q) (y * p + x * q) z = .tup [.int a, .int b, .int c]) (ha : bd 100000000000000000000000000 a) (hb : bd 100000000000000000000000000 b) (hc : bd 100000000000000000000000000 c)
    {c2 c4 c5 c7 c9 c10 c12 c13 c14 c15 c16 c17 c18 : Option D} : ∃ (cup' : D) (d15 d16 d17 d18 : Option D), Cup cup' ∧
    sSeq b_law_25 (sSeq b_law_26 (sSeq b_law_27 b_law_30)) [some s, some cup, c2, some (.tup [.int a, .int b, .int c]), c4, c5, some (.tup [.int x, .int y, .int z]), c7, some (.tup [.int p, .int q]), c9, c10, some (.tup [.int a, .int b, .int c]), c12, c13, c14, c15, c16, c17, c18] =
      .ok .nx [some s, some cup', c2, some (.tup [.int a, .int b, .int c]), c4, c5, some (.tup [.int x, .int y, .int z]), c7, some (.tup [.int p, .int q]), c9, c10, some (.tup [.int a, .int b, .int c]), c12, c13, c14, d15, d16, d17, d18] := by
  obtain ⟨v, cup1, e1, hc1, v0, v3⟩ := roll_k cup 3 hcp (by decide)
  have k25 : b_law_25 [some s, some cup, c2, some (.tup [.int a, .int b, .int c]), c4, c5, some (.tup [.int x, .int y, .int z]), c7, some (.tup [.int p, .int q]), c9, c10, some (.tup [.int a, .int b, .int c]), c12, c13, c14, c15, c16, c17, c18] =
      .ok .nx [some s, some cup1, c2, some (.tup [.int a, .int b, .int c]), c4, c5, some (.tup [.int x, .int y, .int z]), c7, some (.tup [.int p, .int q]), c9, c10, some (.tup [.int a, .int b, .int c]), c12, c13, c14, some (.int v), c16, c17, c18] := by
    simp [sSeq, sSet, sRt, sNx, sDo, sIf, sAsg, sPar, eVar, eC, eBin, eCall, one1, aCons, aNil, eTup, eFn, eNeg, eNot, eAnd, eChain, eIsi, tst, bAnd, bOr, bNot, Out.bind, Out.of, tgT, tgsCons, tgsNil, tgN, eFnI, e1]
  rw [seq_nx k25]
  have hm : ∀ i : Int, mulOk 2 i = true := fun i => mulOk_l (by decide)
  obtain ⟨q0, q1, q2⟩ := at3 (.int a) (.int b) (.int c)
  have t3 := three_line
  have t9 : (9 : Nat) ≤ sizeLine := by rw [sizeLine_eq]; decide
  have t1 : (1 : Nat) ≤ sizeLine := by rw [sizeLine_eq]; decide
  have t4 := four_line
  have k26 : b_law_26 [some s, some cup1, c2, some (.tup [.int a, .int b, .int c]), c4, c5, some (.tup [.int x, .int y, .int z]), c7, some (.tup [.int p, .int q]), c9, c10, some (.tup [.int a, .int b, .int c]), c12, c13, c14, some (.int v), c16, c17, c18] =
      .ok .nx [some s, some cup1, c2, some (.tup [.int a, .int b, .int c]), c4, c5, some (.tup [.int x, .int y, .int z]), c7, some (.tup [.int p, .int q]), c9, c10, some (.tup [.int a, .int b, .int c]), c12, c13, c14, some (.int v), some (.lst [.tup [.int a, .int b, .int c], .tup [.int a, .int b], .tup [.int a, .int b, .int c, .int 0], .lst [.int a, .int b, .int c], .tup [], .non, .int 5, .str "1", .tup [.int (2 * a), .int (2 * b), .int (2 * c)]]), c17, c18] := by
    have c2' := cut2 (.int a) (.int b) (.int c)
    simp [sSeq, sSet, sRt, sNx, sDo, sIf, sAsg, sPar, eVar, eC, eBin, eCall, one1, aCons, aNil, eTup, eFn, eNeg, eNot, eAnd, eChain, eIsi, tst, bAnd, bOr, bNot, Out.bind, Out.of, tgT, tgsCons, tgsNil, tgN, eLst, eSlG, Pu.part, c2', addD, listD, getD, ixD, q0, q1, q2, mulD, mulI, hm, t3, t9, t1, t4]
  rw [seq_nx k26]
  have k27 : b_law_27 [some s, some cup1, c2, some (.tup [.int a, .int b, .int c]), c4, c5, some (.tup [.int x, .int y, .int z]), c7, some (.tup [.int p, .int q]), c9, c10, some (.tup [.int a, .int b, .int c]), c12, c13, c14, some (.int v), some (.lst [.tup [.int a, .int b, .int c], .tup [.int a, .int b], .tup [.int a, .int b, .int c, .int 0], .lst [.int a, .int b, .int c], .tup [], .non, .int 5, .str "1", .tup [.int (2 * a), .int (2 * b), .int (2 * c)]]), c17, c18] =
      .ok .nx [some s, some cup1, c2, some (.tup [.int a, .int b, .int c]), c4, c5, some (.tup [.int x, .int y, .int z]), c7, some (.tup [.int p, .int q]), c9, c10, some (.tup [.int a, .int b, .int c]), c12, c13, c14, some (.int v), some (.lst [.tup [.int a, .int b, .int c], .tup [.int a, .int b], .tup [.int a, .int b, .int c, .int 0], .lst [.int a, .int b, .int c], .tup [], .non, .int 5, .str "1", .tup [.int (2 * a), .int (2 * b), .int (2 * c)], .tup [.int (-a), .int (-b), .int (-c)]]), c17, c18] := by
    have t10 : (9 : Nat) < sizeLine := by rw [sizeLine_eq]; decide
    simp [sSeq, sSet, sRt, sNx, sDo, sIf, sAsg, sPar, eVar, eC, eBin, eCall, one1, aCons, aNil, eTup, eFn, eNeg, eNot, eAnd, eChain, eIsi, tst, bAnd, bOr, bNot, Out.bind, Out.of, tgT, tgsCons, tgsNil, tgN, eMt, isLst, appM, getD, ixD, q0, q1, q2, t3, t10]
  rw [seq_nx k27]
  have hvv : v = ((v.toNat : Nat) : Int) := by omega
  have key : ∀ k : Nat, k < 3 → v = ((k : Nat) : Int) → iSeq (eBin addD (eVar 16) (eLc (iSeq (eTup (aCons (eBin addD (eBin getD (eVar 3) (eVar 15)) (eC (.int 1))) (aCons (eC (.bl true)) (aCons (eC .non) (aCons (eC (.str "1")) (aCons (eTup (aCons (eC (.int 1)) (aNil))) (aCons (eNeg (eBin getD (eVar 3) (eVar 15))) (aCons (eBin getD (eVar 3) (eVar 15)) (aNil)))))))))) (tgN 18) (tYesD) (eBin addD (eBin addD (eSlG slD (eVar 3) none (some (eVar 15))) (eTup (aCons (eVar 18) (aNil)))) (eSlG slD (eVar 3) (some (eBin addD (eVar 15) (eC (.int 1)))) none)) [18]))
      [some s, some cup1, c2, some (.tup [.int a, .int b, .int c]), c4, c5, some (.tup [.int x, .int y, .int z]), c7, some (.tup [.int p, .int q]), c9, c10, some (.tup [.int a, .int b, .int c]), c12, c13, c14, some (.int v), some (.lst [.tup [.int a, .int b, .int c], .tup [.int a, .int b], .tup [.int a, .int b, .int c, .int 0], .lst [.int a, .int b, .int c], .tup [], .non, .int 5, .str "1", .tup [.int (2 * a), .int (2 * b), .int (2 * c)], .tup [.int (-a), .int (-b), .int (-c)]]), c17, c18] =
      .ok (itemsAt a b c k) [some s, some cup1, c2, some (.tup [.int a, .int b, .int c]), c4, c5, some (.tup [.int x, .int y, .int z]), c7, some (.tup [.int p, .int q]), c9, c10, some (.tup [.int a, .int b, .int c]), c12, c13, c14, some (.int v), some (.lst [.tup [.int a, .int b, .int c], .tup [.int a, .int b], .tup [.int a, .int b, .int c, .int 0], .lst [.int a, .int b, .int c], .tup [], .non, .int 5, .str "1", .tup [.int (2 * a), .int (2 * b), .int (2 * c)], .tup [.int (-a), .int (-b), .int (-c)]]), c17, c18] := by
    intro k hk e
    subst e
    match k, hk with
    | 0, _ => kernel_rfl
    | 1, _ => kernel_rfl
    | 2, _ => kernel_rfl
  have hk := key v.toNat (by omega) hvv
  have hall : ((itemsAt a b c v.toNat).all goodB) = true := by
    have h3 : v.toNat < 3 := by omega
    match v.toNat, h3 with
    | 0, _ => rfl
    | 1, _ => rfl
    | 2, _ => rfl
  obtain ⟨ρ', h1, h2⟩ := forM_inv (tgt := tgN 17) (body := b_law_L1) (fun ρ => ∃ x17, ρ = [some s, some cup1, c2, some (.tup [.int a, .int b, .int c]), c4, c5, some (.tup [.int x, .int y, .int z]), c7, some (.tup [.int p, .int q]), c9, c10, some (.tup [.int a, .int b, .int c]), c12, c13, c14, some (.int v), some (.lst [.tup [.int a, .int b, .int c], .tup [.int a, .int b], .tup [.int a, .int b, .int c, .int 0], .lst [.int a, .int b, .int c], .tup [], .non, .int 5, .str "1", .tup [.int (2 * a), .int (2 * b), .int (2 * c)], .tup [.int (-a), .int (-b), .int (-c)]]), x17, c18]) (itemsAt a b c v.toNat)
    (fun d hd ρ hρ => by
      obtain ⟨x17, rfl⟩ := hρ
      exact ⟨_, _, rfl, judge hv hp hq hl ha hb hc (List.all_eq_true.mp hall d hd), _, rfl⟩)
    _ ⟨c17, rfl⟩
  obtain ⟨x17, rfl⟩ := h2
  refine ⟨cup1, some (.int v), some (.lst [.tup [.int a, .int b, .int c], .tup [.int a, .int b], .tup [.int a, .int b, .int c, .int 0], .lst [.int a, .int b, .int c], .tup [], .non, .int 5, .str "1", .tup [.int (2 * a), .int (2 * b), .int (2 * c)], .tup [.int (-a), .int (-b), .int (-c)]]), x17, c18, hc1, ?_⟩
  show sFor _ (tgN 17) b_law_L1 _ = _
  unfold sFor
  rw [hk]
  exact h1
/-- a turn of the law's loop -/
theorem iter {s cup : D} (hc : Cup cup) {c2 c3 c4 c5 c6 c7 c8 c9 c10 c11 c12 c13 c14 c15 c16 c17 c18 : Option D} : ∃ (cup' : D) (d3 d4 d5 d6 d7 d8 d9 d10 d11 d12 d13 d14 d15 d16 d17 d18 : Option D), Cup cup' ∧
    b_law_L2 [some s, some cup, c2, c3, c4, c5, c6, c7, c8, c9, c10, c11, c12, c13, c14, c15, c16, c17, c18] = .ok .nx [some s, some cup', c2, d3, d4, d5, d6, d7, d8, d9, d10, d11, d12, d13, d14, d15, d16, d17, d18] := by
  obtain ⟨cup6, x, y, z, u, v, w, p, q, hv, hv2, hz, hw, hp, hq, hc6, k4, k5, h1⟩ := iter1 (s := s) hc (c2 := c2) (c3 := c3) (c4 := c4) (c5 := c5) (c6 := c6) (c7 := c7) (c8 := c8) (c9 := c9) (c10 := c10) (c11 := c11) (c12 := c12) (c13 := c13) (c14 := c14) (c15 := c15) (c16 := c16) (c17 := c17) (c18 := c18)
  obtain ⟨a, b, c, k9, k10, k12, k13, k14, hl, ha, hb, hcc, h2⟩ := iter2 (s := s) (cup := cup6) hv hv2 hz hw hp hq (c2 := c2) (c3 := c3) (c4 := k4) (c5 := k5) (c9 := c9) (c10 := c10) (c11 := c11) (c12 := c12) (c13 := c13) (c14 := c14) (c15 := c15) (c16 := c16) (c17 := c17) (c18 := c18)
  obtain ⟨cup', d15, d16, d17, d18, hc', h3⟩ := iter3 (s := s) hc6 hv (bd_mono hp (by decide)) (bd_mono hq (by decide)) hl ha hb hcc (c2 := c2) (c4 := k4) (c5 := k5) (c7 := some (.tup [.int u, .int v, .int w])) (c9 := k9) (c10 := k10) (c12 := k12) (c13 := k13) (c14 := k14) (c15 := c15) (c16 := c16) (c17 := c17) (c18 := c18)
  have h : b_law_L2 [some s, some cup, c2, c3, c4, c5, c6, c7, c8, c9, c10, c11, c12, c13, c14, c15, c16, c17, c18] = .ok .nx [some s, some cup', c2, some (.tup [.int a, .int b, .int c]), k4, k5, some (.tup [.int x, .int y, .int z]), some (.tup [.int u, .int v, .int w]), some (.tup [.int p, .int q]), k9, k10, some (.tup [.int a, .int b, .int c]), k12, k13, k14, d15, d16, d17, d18] := by
    show sSeq b_law_2 (sSeq b_law_3 (sSeq b_law_4 _)) _ = _
    rw [h1, h2]
    exact h3
  exact ⟨cup', _, _, _, _, _, _, _, _, _, _, _, _, _, _, _, _, hc', h⟩
theorem math (ns : List Int) (h1 : ns.length ≤ 63) (h2 : ∀ z ∈ ns, PySem.Builtin.Int.intBits z ≤ 1048576) : ∃ ρ, m_law [some (.fzl (ns.map .int))] = .ok (.bl true) ρ := by
  obtain ⟨z, hz, hc⟩ := cup_k ns h1
  generalize D.fzl (ns.map .int) = s at *
  have k1 : b_law_1 [some s, none, none, none, none, none, none, none, none, none, none, none, none, none, none, none, none, none, none] = .ok .nx [some s, some z, none, none, none, none, none, none, none, none, none, none, none, none, none, none, none, none, none] := by
    simp [sSeq, sSet, sRt, sNx, sDo, sIf, sAsg, sPar, eVar, eC, eBin, eCall, one1, aCons, aNil, eTup, eFn, eNeg, eNot, eAnd, eChain, eIsi, tst, bAnd, bOr, bNot, Out.bind, Out.of, tgT, tgsCons, tgsNil, tgN, hz]
  obtain ⟨ρ', l1, l2⟩ := forM_inv (tgt := tgN 2) (body := b_law_L2) (fun ρ => ∃ cup c2 c3 c4 c5 c6 c7 c8 c9 c10 c11 c12 c13 c14 c15 c16 c17 c18, Cup cup ∧ ρ = [some s, some cup, c2, c3, c4, c5, c6, c7, c8, c9, c10, c11, c12, c13, c14, c15, c16, c17, c18]) (rng 0 6)
    (fun d hd ρ hρ => by
      obtain ⟨cup, c2, c3, c4, c5, c6, c7, c8, c9, c10, c11, c12, c13, c14, c15, c16, c17, c18, hcp, rfl⟩ := hρ
      obtain ⟨cup', d3, d4, d5, d6, d7, d8, d9, d10, d11, d12, d13, d14, d15, d16, d17, d18, hc', hb⟩ := iter (s := s) hcp (c2 := some d) (c3 := c3) (c4 := c4) (c5 := c5) (c6 := c6) (c7 := c7) (c8 := c8) (c9 := c9) (c10 := c10) (c11 := c11) (c12 := c12) (c13 := c13) (c14 := c14) (c15 := c15) (c16 := c16) (c17 := c17) (c18 := c18)
      exact ⟨_, _, rfl, hb, cup', _, _, _, _, _, _, _, _, _, _, _, _, _, _, _, _, _, hc', rfl⟩)
    [some s, some z, none, none, none, none, none, none, none, none, none, none, none, none, none, none, none, none, none] ⟨z, _, _, _, _, _, _, _, _, _, _, _, _, _, _, _, _, _, hc, rfl⟩
  obtain ⟨cup, c2, c3, c4, c5, c6, c7, c8, c9, c10, c11, c12, c13, c14, c15, c16, c17, c18, hcp, rfl⟩ := l2
  have k31 : b_law_31 [some s, some z, none, none, none, none, none, none, none, none, none, none, none, none, none, none, none, none, none] = .ok .nx [some s, some cup, c2, c3, c4, c5, c6, c7, c8, c9, c10, c11, c12, c13, c14, c15, c16, c17, c18] := by
    show sFor (iRng1 (eC (.int 6))) (tgN 2) b_law_L2 _ = _
    have hi : iRng1 (eC (.int 6)) [some s, some z, none, none, none, none, none, none, none, none, none, none, none, none, none, none, none, none, none] = .ok (rng 0 6) [some s, some z, none, none, none, none, none, none, none, none, none, none, none, none, none, none, none, none, none] := rfl
    unfold sFor
    rw [hi]
    exact l1
  have k32 : b_law_32 [some s, some cup, c2, c3, c4, c5, c6, c7, c8, c9, c10, c11, c12, c13, c14, c15, c16, c17, c18] = .ok .nx [some s, some cup, c2, some (.tup [.tup [.int 0, .int 1, .int 1], .tup [.int 3, .int (-4), .int 5], .non, .non]), c4, c5, c6, c7, c8, c9, c10, c11, c12, c13, c14, c15, c16, c17, c18] := by kernel_rfl
  have k33 : b_law_33 [some s, some cup, c2, some (.tup [.tup [.int 0, .int 1, .int 1], .tup [.int 3, .int (-4), .int 5], .non, .non]), c4, c5, c6, c7, c8, c9, c10, c11, c12, c13, c14, c15, c16, c17, c18] = .ok (.rt (.bl true)) [some s, some cup, c2, some (.tup [.tup [.int 0, .int 1, .int 1], .tup [.int 3, .int (-4), .int 5], .non, .non]), c4, c5, c6, c7, c8, c9, c10, c11, c12, c13, c14, c15, c16, c17, c18] := by kernel_rfl
  refine ⟨_, run_rt (ρ' := [some s, some cup, c2, some (.tup [.tup [.int 0, .int 1, .int 1], .tup [.int 3, .int (-4), .int 5], .non, .non]), c4, c5, c6, c7, c8, c9, c10, c11, c12, c13, c14, c15, c16, c17, c18]) ?_⟩
  show sSeq b_law_1 (sSeq b_law_31 (sSeq b_law_32 b_law_33)) [some s, none, none, none, none, none, none, none, none, none, none, none, none, none, none, none, none, none, none] = _
  rw [seq_nx k1, seq_nx k31, seq_nx k32, k33]
end K74

set_option maxHeartbeats 0
namespace K74
open PySem PySem.Spec PyProof.Rows L2 Pu
def loose0 : List PySem.Str := ["NumberError", "InvalidNumber", "InvalidTurn", "fits_whole", "is_tuple_of", "divisor_in", "FAR", "WIDE", "fits_turn", "need_turn", "fits_point", "need_point", "lowered", "both_in", "back_in", "put_together", "undone", "turned_point", "is_turned", "stays_whole", "turn_between", "_law_cup", "_law_roll", "_law_some", "_law_same", "_law_divisor", "_law_turn", "_law_lowered", "_law_both", "_law_is_turn"]
def loose : List PySem.Str := loose0
abbrev R : PySem.W.OpenRow := PySem.W.OpenLaw.row PySem.Challenge.rw_wholeyard_k74_whole_turned_points
abbrev hk : PySem.W.Hook := He.hookE 4 fa fn
def ob (s : PySem.W.SharedT) : He.Al := He.obsG 4 fa fn (HandSHeadRun.getT s)
theorem ob_eq (s : PySem.W.SharedT) : ob s = hk.obs s.abs := He.obsG_eq (HandSHeadRun.getT_eq s)
theorem run (w : World) : HandSHeadRun.RunEq R (PySem.W.view R.prog [34]) hk ob 6000 loose w := by
  intro os
  kernel_rfl
end K74
open PySem PySem.W PySem.Calls PyProof.Rows
theorem PySem.Challenge.cw_wholeyard_k74_whole_turned_points_holds : PySem.Challenge.rw_wholeyard_k74_whole_turned_points.Holds := by
  w_on; o_law
  refine HandSHeadRun.head_any (r := K74.R) (q := view K74.R.prog [34]) (H := K74.hk) (ob := K74.ob) (M := 6000) (loose := K74.loose) (d := HandSHeadRun.topDef K74.R.prog 34) (kwd := []) K74.ob_eq
    (by kernel_rfl) (fun s => by kernel_rfl) K74.run (by kernel_rfl) (by kernel_rfl) (by kernel_rfl) (by rfl) (by first | assumption | decide +kernel) (by decide +kernel) ⟨rfl, rfl, rfl, rfl, rfl, by decide +kernel⟩ ?hw ?hc
  case hw => w_witness2
  case hc => exact Pu.law_end (l := PySem.Challenge.rw_wholeyard_k74_whole_turned_points) (n := 63) (k := 42) rfl (by decide) (by kernel_rfl) ⟨rfl, by decide, by decide⟩ (by kernel_rfl) (fun w h z => z) (fun w K mg base T => K74.ok_law T) K74.math

