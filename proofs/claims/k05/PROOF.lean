import PyProof.Rows.All
import Wide.All
import OpenK.AllK
import Wide.FinOn
import HandS.ForMost
import HandS.Exc
import HandS.WordsExc
import HandS.Lambda
import HandS.IsInst
import HandS.Flow
import HandS.Gcd
import HandS.StrMore
import HandS.Codes
import HandS.Words
import HandS.Defaults
import KE.KOpsOwn
import KE.KCallOwn
import KE.KFmtOwn
import HandS.FStr
import HandS.RaiseMore
import PyProof.ReprRoads
import KE.KExcSuper
import HandS.ExcInit
import HandS.ExcField
import KE.KLam
import HandS.EndTab
import KE.KNestM
import PySem.Challenge.RW_leverheaps_k05_whole_number_texts
import KE.RegKIsAll
import KE.RegKTryMore
import KE.RegKSuper
set_option Elab.async false
set_option linter.all false
set_option maxRecDepth 100000
namespace DL
open PySem PySem.Spec PyProof.Rows L2
-- obj c fs: an instance of the class number c, its attributes in their order; st: the object of the state
abbrev St := L2.St
/-- a value as a tree -/
inductive D where
  | non | bl (b : Bool) | int (i : Int) | str (x : Str)
  | tup (xs : List D) | lst (xs : List D) | obj (c : Nat) (fs : List D) | st
structure DC where
  K : PySem.W.Frag
  cls : Nat → Addr
  flds : Nat → List Str
  st : Option Addr
  T : List (Addr × Str)
mutual
def Rep (C : DC) (F : Hp) : D → V → Prop
  | .non, v => v = .non
  | .bl b, v => v = .bl b
  | .int i, v => v = .int i
  | .str x, v => v = .str x
  | .tup xs, v => ∃ a vs, v = .ref a ∧ SqT C.K F a vs ∧ Reps C F xs vs
  | .lst xs, v => ∃ a vs, v = .ref a ∧ SqL C.K F a vs ∧ Reps C F xs vs
  | .obj c fs, v => ∃ a dx vs, v = .ref a ∧ F a = some (.ins (C.cls c) dx ((C.flds c).zip vs)) ∧ vs.length = (C.flds c).length ∧ Reps C F fs vs
  | .st, v => ∃ a, C.st = some a ∧ v = .ref a
def Reps (C : DC) (F : Hp) : List D → List V → Prop
  | [], vs => vs = []
  | d :: ds, vs => ∃ v r, vs = v :: r ∧ Rep C F d v ∧ Reps C F ds r
end
theorem sqT_same {K : PySem.W.Frag} {H H' : Hp} {a : Addr} {xs : List V} (e : Same H H') (h : SqT K H a xs) : SqT K H' a xs := by
  rcases h with (h | ⟨o, h⟩) | h
  · exact .inl (.inl (e _ _ h))
  · exact .inl (.inr ⟨o, e _ _ h⟩)
  · exact .inr h
mutual
theorem Rep.mono {C : DC} {F F' : Hp} (e : Same F F') : ∀ {d : D} {v : V}, Rep C F d v → Rep C F' d v
  | .non, _, h => h
  | .bl _, _, h => h
  | .int _, _, h => h
  | .str _, _, h => h
  | .tup _, _, ⟨a, vs, h1, h2, h3⟩ => ⟨a, vs, h1, sqT_same e h2, Reps.mono e h3⟩
  | .lst _, _, ⟨a, vs, h1, h2, h3⟩ => ⟨a, vs, h1, e.seq h2, Reps.mono e h3⟩
  | .obj _ _, _, ⟨a, dx, vs, h1, h2, hl, h3⟩ => ⟨a, dx, vs, h1, e _ _ h2, hl, Reps.mono e h3⟩
  | .st, _, h => h
theorem Reps.mono {C : DC} {F F' : Hp} (e : Same F F') : ∀ {ds : List D} {vs : List V}, Reps C F ds vs → Reps C F' ds vs
  | [], _, h => h
  | _ :: _, _, ⟨v, r, h1, h2, h3⟩ => ⟨v, r, h1, Rep.mono e h2, Reps.mono e h3⟩
end
theorem Reps.length {C : DC} {F : Hp} : ∀ {ds : List D} {vs : List V}, Reps C F ds vs → vs.length = ds.length
  | [], _, h => by subst h; rfl
  | _ :: _, _, ⟨_, _, h1, _, h3⟩ => by subst h1; simp [Reps.length h3]
theorem Reps.get {C : DC} {F : Hp} : ∀ {ds : List D} {vs : List V} {i : Nat} {d : D}, Reps C F ds vs → ds[i]? = some d → ∃ v, vs[i]? = some v ∧ Rep C F d v
  | [], _, _, _, _, e => by simp at e
  | _ :: _, _, 0, _, ⟨v, r, h1, h2, h3⟩, e => by subst h1; simp at e; subst e; exact ⟨v, rfl, h2⟩
  | _ :: ds, _, i + 1, d, ⟨v, r, h1, h2, h3⟩, e => by
    subst h1
    obtain ⟨u, a, b⟩ := Reps.get (i := i) (d := d) h3 (by simpa using e)
    exact ⟨u, by simpa using a, b⟩
theorem Reps.getv {C : DC} {F : Hp} : ∀ {ds : List D} {vs : List V} {i : Nat} {v : V}, Reps C F ds vs → vs[i]? = some v → ∃ d, ds[i]? = some d ∧ Rep C F d v
  | [], _, _, _, h, e => by subst h; simp at e
  | _ :: _, _, 0, _, ⟨v, r, h1, h2, h3⟩, e => by subst h1; simp at e; subst e; exact ⟨_, rfl, h2⟩
  | _ :: ds, _, i + 1, d, ⟨v, r, h1, h2, h3⟩, e => by
    subst h1
    obtain ⟨u, a, b⟩ := Reps.getv (i := i) h3 (by simpa using e)
    exact ⟨u, by simpa using a, b⟩
theorem Reps.append {C : DC} {F : Hp} : ∀ {ds es : List D} {vs us : List V}, Reps C F ds vs → Reps C F es us → Reps C F (ds ++ es) (vs ++ us)
  | [], _, _, _, h, k => by subst h; exact k
  | _ :: _, _, _, _, ⟨v, r, h1, h2, h3⟩, k => by subst h1; exact ⟨v, r ++ _, rfl, h2, Reps.append h3 k⟩
theorem Reps.set {C : DC} {F : Hp} {d : D} {v : V} (h : Rep C F d v) : ∀ {ds : List D} {vs : List V} (i : Nat), Reps C F ds vs → Reps C F (ds.set i d) (vs.set i v)
  | [], _, _, h => by subst h; rfl
  | _ :: _, _, 0, ⟨v, r, h1, h2, h3⟩ => by subst h1; exact ⟨_, r, rfl, h, h3⟩
  | _ :: _, _, i + 1, ⟨v, r, h1, h2, h3⟩ => by subst h1; exact ⟨v, r.set i _, rfl, h2, Reps.set h i h3⟩
theorem Reps.drop {C : DC} {F : Hp} : ∀ {ds : List D} {vs : List V} (n : Nat), Reps C F ds vs → Reps C F (ds.drop n) (vs.drop n)
  | _, _, 0, h => h
  | [], _, _ + 1, h => by subst h; rfl
  | _ :: _, _, n + 1, ⟨v, r, h1, h2, h3⟩ => by subst h1; exact Reps.drop n h3
theorem Reps.take {C : DC} {F : Hp} : ∀ {ds : List D} {vs : List V} (n : Nat), Reps C F ds vs → Reps C F (ds.take n) (vs.take n)
  | _, _, 0, h => rfl
  | [], _, _ + 1, h => by subst h; rfl
  | _ :: _, _, n + 1, ⟨v, r, h1, h2, h3⟩ => by subst h1; exact ⟨v, r.take n, rfl, h2, Reps.take n h3⟩
theorem Reps.one {C : DC} {F : Hp} {d : D} {v : V} (h : Rep C F d v) : Reps C F [d] [v] := ⟨v, [], rfl, h, rfl⟩
theorem Reps.ints {C : DC} {F : Hp} : ∀ {ns : List Int} , Reps C F (ns.map D.int) (ns.map V.int)
  | [] => rfl
  | n :: r => ⟨.int n, _, rfl, rfl, Reps.ints⟩
theorem Reps.of_ints {C : DC} {F : Hp} : ∀ {ns : List Int} {vs : List V}, Reps C F (ns.map D.int) vs → vs = ns.map V.int
  | [], _, h => h
  | n :: r, _, ⟨v, w, h1, h2, h3⟩ => by subst h1; rw [show v = V.int n from h2, Reps.of_ints h3]; rfl
/-- what a def may write besides its own new objects -/
structure SI (S : Type) where
  ex : Addr → Prop
  inv : S → Hp → Hp → Prop
  mono : ∀ {s F H F' H'}, inv s F H → Same F F' → (∀ a, ex a → F' a = F a ∧ H' a = H a) → inv s F' H'
  kind : ∀ {s F H a}, inv s F H → ex a → ∃ kvs, H a = some (.dK kvs)
  free : ∀ {s F H a}, inv s F H → ex a → F a = none
theorem SI.there {S : Type} (I : SI S) {s : S} {F H : Hp} {a : Addr} (h : I.inv s F H) (e : I.ex a) : H a ≠ none := by
  obtain ⟨kvs, q⟩ := I.kind h e
  rw [q]; simp
def SI.pure : SI Unit := ⟨fun _ => False, fun _ _ _ => True, fun _ _ _ => trivial, fun _ h => h.elim, fun _ h => h.elim⟩
inductive Slot where
  | no | d (x : D) | own (xs : List D) | ins (c : Nat) (xs : List D) | exc (c : Nat) (xs : List D) | fn
/-- the object that a body is told of: the instance that is made; the exception that a suite holds, with its class and its dict; the function that a def was handed -/
abbrev Me := Option (Addr × Value × Option Addr)
abbrev Env := List Slot
def SlotOk (C : DC) (me : Me) (F H : Hp) (u : Option (Option V)) : Slot → Prop
  | .no => True
  | .d x => ∃ v, u = some (some v) ∧ Rep C F x v
  | .own xs => ∃ a vs, u = some (some (.ref a)) ∧ F a = none ∧ H a = some (.lst vs) ∧ Reps C F xs vs
  | .ins c xs => ∃ a dx vs, u = some (some (.ref a)) ∧ me = some (a, .none, none) ∧ F a = none ∧ H a = some (.ins (C.cls c) dx (((C.flds c).take xs.length).zip vs)) ∧ xs.length ≤ (C.flds c).length ∧ Reps C F xs vs
  | .exc c xs => ∃ a dd vs, u = some (some (.ref a)) ∧ me = some (a, .ref (C.cls c), some dd) ∧ F dd = some (.xd ((C.flds c).zip vs)) ∧ vs.length = (C.flds c).length ∧ Reps C F xs vs
  | .fn => ∃ a, u = some (some (.ref a)) ∧ me = some (a, .bool true, none)
def isOwn : Slot → Bool
  | .own _ => true
  | .ins _ _ => true
  | _ => false
/-- the slot i holds an object of its own at a -/
def OwnAt (env : Env) (σ : St) (i : Nat) (a : Addr) : Prop := ∃ x, env[i]? = some x ∧ isOwn x = true ∧ σ[i]? = some (some (.ref a))
/-- no table -/
def NoTbl (F : Hp) : Prop := ∀ a ps, F a ≠ some (.tbl ps)
/-- the entry of a def -/
structure En where
  F0 : Hp
  H0 : Hp
  ex : Addr → Prop
  me : Me := none
structure Stt {S : Type} (C : DC) (I : SI S) (B : En) (F H : Hp) (σ : St) (env : Env) (s : S) : Prop where
  sub : Same F H
  nt : NoTbl F
  inv : I.inv s F H
  len : env.length = σ.length
  sl : ∀ (i : Nat) x, env[i]? = some x → SlotOk C B.me F H σ[i]? x
  dj : ∀ i j a, i ≠ j → OwnAt env σ i a → OwnAt env σ j a → False
  ni : ∀ i a, OwnAt env σ i a → ¬ I.ex a
  fr : ∀ a o, B.H0 a = some o → ¬ B.ex a → (∀ ps, o ≠ .tbl ps) → H a = some o
  f0 : Same B.F0 F
  nw : ∀ a o, F a = some o → B.F0 a = none → B.H0 a = none
  tb : LamX.Tabs C.T H
  al : ∀ a, B.H0 a ≠ none → H a ≠ none
  ie : ∀ a, I.ex a → B.ex a
  oe : ∀ i a, OwnAt env σ i a → B.H0 a = none ∨ B.ex a
/-- the outcome of a mirrored piece -/
inductive R (α ε : Type) where
  | ok (a : α) | exc (c : Nat) (fs : List D) (e : ε) | bad
abbrev M (S : Type) (α : Type) := Env → S → R (α × S) S
inductive Out where
  | nx (e : Env) | rt (d : D) | bk (e : Env) | ct (e : Env)
abbrev MS (S : Type) := Env → S → R (Out × S) (Env × S)
/-- an exception of the class c with the fields fs -/
def ExR (C : DC) (F H : Hp) (c : Nat) (fs : List D) (cls : Value) (dd : Option Addr) : Prop :=
  cls = .ref (C.cls c) ∧ ((fs = [] ∧ dd = none) ∨ ∃ d vs, dd = some d ∧ F d = some (.xd ((C.flds c).zip vs)) ∧ vs.length = (C.flds c).length ∧ Reps C F fs vs)
section
variable {S : Type} {C : DC} {I : SI S} {B : En} {F H F' H' : Hp} {σ : St} {env : Env} {s : S}
theorem Stt.exfree (T : Stt C I B F H σ env s) {p : Addr} (hp : H p = none) : ¬ I.ex p := fun h => T.inv |> fun i => I.there i h hp
theorem Stt.h0 (T : Stt C I B F H σ env s) {p : Addr} (hp : H p = none) : B.H0 p = none := by
  cases q : B.H0 p with
  | none => rfl
  | some o => exact absurd hp (T.al p (by rw [q]; simp))
theorem Stt.ff (T : Stt C I B F H σ env s) {p : Addr} (hp : H p = none) : F p = none := T.sub.free hp
theorem Stt.own_there (T : Stt C I B F H σ env s) {i : Nat} {a : Addr} (h : OwnAt env σ i a) : F a = none ∧ H a ≠ none ∧ ∀ ps, H a ≠ some (.tbl ps) := by
  obtain ⟨x, e1, e2, e3⟩ := h
  have q := T.sl i x e1
  rw [e3] at q
  cases x with
  | no => cases e2
  | d _ => cases e2
  | exc _ _ => cases e2
  | fn => cases e2
  | own xs =>
    obtain ⟨b, vs, h1, h2, h3, _⟩ := q
    cases h1
    exact ⟨h2, by rw [h3]; simp, fun ps => by rw [h3]; simp⟩
  | ins c xs =>
    obtain ⟨b, dx, vs, h1, _, h2, h3, _⟩ := q
    cases h1
    exact ⟨h2, by rw [h3]; simp, fun ps => by rw [h3]; simp⟩
theorem same_upd {p : Addr} {o : HO} (h : H p = none) : Same H (upd H p o) := fun a u e => by rw [upd_ne (ne_of_none e h)]; exact e
theorem noTbl_upd {p : Addr} {o : HO} (h : NoTbl F) (ho : ∀ ps, o ≠ .tbl ps) : NoTbl (upd F p o) := fun a ps => by
  by_cases e : a = p
  · subst e; rw [upd_same]; intro z; exact ho ps (Option.some.inj z)
  · rw [upd_ne e]; exact h a ps
theorem SlotOk.keep {me : Me} {u : Option (Option V)} {x : Slot} (h : SlotOk C me F H u x) (e : Same F F') (k : ∀ a, u = some (some (.ref a)) → isOwn x = true → F' a = none ∧ H' a = H a) : SlotOk C me F' H' u x := by
  cases x with
  | no => trivial
  | d x => obtain ⟨v, h1, h2⟩ := h; exact ⟨v, h1, h2.mono e⟩
  | own xs =>
    obtain ⟨a, vs, h1, h2, h3, h4⟩ := h
    obtain ⟨k1, k2⟩ := k a h1 rfl
    exact ⟨a, vs, h1, k1, k2.trans h3, h4.mono e⟩
  | ins c xs =>
    obtain ⟨a, dx, vs, h1, hm, h2, h3, hl, h4⟩ := h
    obtain ⟨k1, k2⟩ := k a h1 rfl
    exact ⟨a, dx, vs, h1, hm, k1, k2.trans h3, hl, h4.mono e⟩
  | exc c xs =>
    obtain ⟨a, dd, vs, h1, hm, h2, hl, h4⟩ := h
    exact ⟨a, dd, vs, h1, hm, e _ _ h2, hl, h4.mono e⟩
  | fn => exact h
theorem tabs_upd {T : List (Addr × Str)} {p : Addr} {o : HO} (h : LamX.Tabs T H) (hp : H p = none) : LamX.Tabs T (upd H p o) := h.ext (same_upd hp)
/-- a new object, frozen at once -/
theorem Stt.new (T : Stt C I B F H σ env s) {p : Addr} {o : HO} (hp : H p = none) (ho : ∀ ps, o ≠ .tbl ps) : Stt C I B (upd F p o) (upd H p o) σ env s where
  sub := fun a u e => by
    by_cases z : a = p
    · subst z; rw [upd_same] at e ⊢; exact e
    · rw [upd_ne z] at e ⊢; exact T.sub a u e
  nt := noTbl_upd T.nt ho
  inv := I.mono T.inv (same_upd (T.ff hp)) fun a ha => by
    have ne : a ≠ p := fun z => by subst z; exact T.exfree hp ha
    exact ⟨upd_ne ne, upd_ne ne⟩
  len := T.len
  sl := fun i x e => (T.sl i x e).keep (same_upd (T.ff hp)) fun a h1 h2 => by
    obtain ⟨k1, k2, _⟩ := T.own_there ⟨x, e, h2, h1⟩
    have z : a ≠ p := fun z => by subst z; exact k2 hp
    rw [upd_ne z, upd_ne z]; exact ⟨k1, rfl⟩
  dj := T.dj
  ni := T.ni
  fr := fun a u e n1 n2 => by rw [upd_ne (fun z => by subst z; rw [T.h0 hp] at e; cases e)]; exact T.fr a u e n1 n2
  f0 := T.f0.trans (same_upd (T.ff hp))
  nw := fun a u e n => by
    by_cases z : a = p
    · subst z; exact T.h0 hp
    · rw [upd_ne z] at e; exact T.nw a u e n
  tb := tabs_upd T.tb hp
  al := fun a n => by
    by_cases z : a = p
    · subst z; rw [upd_same]; simp
    · rw [upd_ne z]; exact T.al a n
  ie := T.ie
  oe := T.oe
/-- a new object that may still be written -/
theorem Stt.newM (T : Stt C I B F H σ env s) {p : Addr} {o : HO} (hp : H p = none) : Stt C I B F (upd H p o) σ env s where
  sub := T.sub.trans (same_upd hp)
  nt := T.nt
  inv := I.mono T.inv (Same.refl _) fun a ha => ⟨rfl, upd_ne fun z => by subst z; exact T.exfree hp ha⟩
  len := T.len
  sl := fun i x e => (T.sl i x e).keep (Same.refl _) fun a h1 h2 => by
    obtain ⟨k1, k2, _⟩ := T.own_there ⟨x, e, h2, h1⟩
    have z : a ≠ p := fun z => by subst z; exact k2 hp
    rw [upd_ne z]; exact ⟨k1, rfl⟩
  dj := T.dj
  ni := T.ni
  fr := fun a u e n1 n2 => by rw [upd_ne (fun z => by subst z; rw [T.h0 hp] at e; cases e)]; exact T.fr a u e n1 n2
  f0 := T.f0
  nw := T.nw
  tb := tabs_upd T.tb hp
  al := fun a n => by
    by_cases z : a = p
    · subst z; rw [upd_same]; simp
    · rw [upd_ne z]; exact T.al a n
  ie := T.ie
  oe := T.oe
theorem ownAt_set {env : Env} {σ : St} {i j : Nat} {x : Slot} {v : Option V} {a : Addr} (hl : env.length = σ.length) (h : OwnAt (env.set i x) (σ.set i v) j a) : (j = i ∧ isOwn x = true ∧ v = some (.ref a)) ∨ (j ≠ i ∧ OwnAt env σ j a) := by
  obtain ⟨y, e1, e2, e3⟩ := h
  by_cases z : j = i
  · subst z
    have h1 : j < env.length := by
      have := (List.getElem?_eq_some_iff.mp e1).1
      simpa using this
    rw [List.getElem?_set_self h1] at e1
    rw [List.getElem?_set_self (by omega)] at e3
    cases e1
    exact .inl ⟨rfl, e2, Option.some.inj e3⟩
  · rw [List.getElem?_set_ne (Ne.symm z)] at e1 e3
    exact .inr ⟨z, y, e1, e2, e3⟩
/-- a name is bound to a tree -/
theorem Stt.setD (T : Stt C I B F H σ env s) {i : Nat} {d : D} {v : V} (h : Rep C F d v) : Stt C I B F H (σ.set i (some v)) (env.set i (.d d)) s where
  sub := T.sub
  nt := T.nt
  inv := T.inv
  len := by rw [List.length_set, List.length_set]; exact T.len
  sl := fun j x e => by
    by_cases z : j = i
    · subst z
      have h1 : j < env.length := by
        have := (List.getElem?_eq_some_iff.mp e).1
        simpa using this
      rw [List.getElem?_set_self h1] at e
      cases e
      have h2 : j < σ.length := by rw [← T.len]; exact h1
      rw [List.getElem?_set_self h2]
      exact ⟨v, rfl, h⟩
    · rw [List.getElem?_set_ne (Ne.symm z)] at e ⊢
      exact T.sl j x e
  dj := fun j k a n h1 h2 => by
    rcases ownAt_set T.len h1 with ⟨_, z, _⟩ | ⟨_, h1⟩
    · cases z
    rcases ownAt_set T.len h2 with ⟨_, z, _⟩ | ⟨_, h2⟩
    · cases z
    exact T.dj j k a n h1 h2
  ni := fun j a h1 => by
    rcases ownAt_set T.len h1 with ⟨_, z, _⟩ | ⟨_, h1⟩
    · cases z
    exact T.ni j a h1
  fr := T.fr
  f0 := T.f0
  nw := T.nw
  tb := T.tb
  al := T.al
  ie := T.ie
  oe := fun j a h1 => by
    rcases ownAt_set T.len h1 with ⟨_, z, _⟩ | ⟨_, h1⟩
    · cases z
    exact T.oe j a h1
/-- all slots forgotten -/
theorem Stt.drop (T : Stt C I B F H σ env s) : Stt C I B F H [] [] s where
  sub := T.sub
  nt := T.nt
  inv := T.inv
  len := rfl
  sl := fun i x e => by simp at e
  dj := fun i j a _ h => by obtain ⟨x, e, _⟩ := h; simp at e
  ni := fun i a h => by obtain ⟨x, e, _⟩ := h; simp at e
  fr := T.fr
  f0 := T.f0
  nw := T.nw
  tb := T.tb
  al := T.al
  ie := T.ie
  oe := fun i a h => by obtain ⟨x, e, _⟩ := h; simp at e
end
end DL
set_option Elab.async false
set_option linter.all false
set_option maxRecDepth 100000
namespace DL
open PySem PySem.Spec PyProof.Rows L2
structure Ct (S : Type) where
  C : DC
  I : SI S
  B : En
  W : WX
/-- what follows from an outcome -/
def Fin {S α : Type} (c : Ct S) (F : Hp) (σ : St) (env : Env) (r : R (α × S) S) (Q : α → S → Hp → Hp → Prop) : Prop :=
  match r with
  | .ok (a, s') => ∀ F' H', Same F F' → Stt c.C c.I c.B F' H' σ env s' → Q a s' F' H'
  | .exc k fs s' => ∀ cls dd F' H', Same F F' → Stt c.C c.I c.B F' H' σ env s' → ExR c.C F' H' k fs cls dd → c.W cls dd σ H'
  | .bad => False
def bindM {S α β : Type} (m : M S α) (f : α → M S β) : M S β := fun env s => match m env s with
  | .ok (a, s') => f a env s'
  | .exc k fs s' => .exc k fs s'
  | .bad => .bad
def retM {S α : Type} (a : α) : M S α := fun _ s => .ok (a, s)
def optM {S α : Type} (o : Option α) : M S α := fun _ s => match o with | some a => .ok (a, s) | none => .bad
section
variable {S α β : Type} {c : Ct S} {F F1 H : Hp} {σ : St} {env : Env} {s : S}
theorem Fin.same {r : R (α × S) S} {Q : α → S → Hp → Hp → Prop} (h : Fin c F σ env r Q) (e : Same F F1) : Fin c F1 σ env r Q := by
  cases r with
  | ok a => exact fun F' H' x => h F' H' (e.trans x)
  | exc k fs s' => exact fun cls dd F' H' x => h cls dd F' H' (e.trans x)
  | bad => exact h
theorem Fin.imp {r : R (α × S) S} {Q Q' : α → S → Hp → Hp → Prop} (h : Fin c F σ env r Q) (k : ∀ a s' F' H', Same F F' → Stt c.C c.I c.B F' H' σ env s' → Q a s' F' H' → Q' a s' F' H') : Fin c F σ env r Q' := by
  cases r with
  | ok a => exact fun F' H' x t => k _ _ _ _ x t (h F' H' x t)
  | exc k fs s' => exact h
  | bad => exact h
theorem Fin.bind {m : M S α} {f : α → M S β} {Q : β → S → Hp → Hp → Prop} (h : Fin c F σ env (bindM m f env s) Q) :
    Fin c F σ env (m env s) fun a s1 F1 _ => Fin c F1 σ env (f a env s1) Q := by
  unfold bindM at h
  cases e : m env s with
  | ok a =>
    rw [e] at h
    exact fun F' H' x _ => Fin.same h x
  | exc k fs s' =>
    rw [e] at h
    exact h
  | bad =>
    rw [e] at h
    exact h
theorem Fin.opt {o : Option α} {Q : α → S → Hp → Hp → Prop} (h : Fin c F σ env (optM o env s) Q) (T : Stt c.C c.I c.B F H σ env s) : ∃ a, o = some a ∧ ∀ F' H', Same F F' → Stt c.C c.I c.B F' H' σ env s → Q a s F' H' := by
  cases o with
  | none => exact h.elim
  | some a => exact ⟨a, rfl, h⟩
end
/-- the readings of mirrored pieces -/
def tM {S : Type} (c : Ct S) (m : M S D) : TE := fun σ H Q => ∃ F env s, Stt c.C c.I c.B F H σ env s ∧ Fin c F σ env (m env s) fun d _ F' H' => ∀ v, Rep c.C F' d v → Q v H'
def tT {S : Type} (c : Ct S) (m : M S Bool) : TT := fun σ H Q => ∃ F env s, Stt c.C c.I c.B F H σ env s ∧ Fin c F σ env (m env s) fun b _ _ H' => Q b H'
def tA {S : Type} (c : Ct S) (m : M S (List D)) : TA := fun σ H Q => ∃ F env s, Stt c.C c.I c.B F H σ env s ∧ Fin c F σ env (m env s) fun ds _ F' H' => ∀ vs, Reps c.C F' ds vs → Q vs H'
theorem PEimp {X : Cx} {e : Expr} {t t' : TE} (h : PE X e t) (k : ∀ σ H Q, t' σ H Q → t σ H Q) : PE X e t' := ⟨fun pins s σ H Q I q => h.run pins s σ H Q I (k σ H Q q)⟩
theorem PTimp {X : Cx} {e : Expr} {t t' : TT} (h : PT X e t) (k : ∀ σ H Q, t' σ H Q → t σ H Q) : PT X e t' := ⟨fun pins s σ H Q I q => h.run pins s σ H Q I (k σ H Q q)⟩
theorem PWimp {X : Cx} {e : Expr} {t t' : TT} (h : PW X e t) (k : ∀ σ H Q, t' σ H Q → t σ H Q) : PW X e t' := ⟨fun w pins s σ H Q I q => h.run w pins s σ H Q I (k σ H Q q)⟩
theorem PAimp {X : Cx} {e : List Expr} {t t' : TA} (h : PA X e t) (k : ∀ σ H Q, t' σ H Q → t σ H Q) : PA X e t' := ⟨fun pos pins s σ H Q I q => h.run pos pins s σ H Q I (k σ H Q q)⟩
section
variable {S : Type} {c : Ct S} {X : Cx} {a b e o : Expr} {es : List Expr} {pos : Pos} {ma mb : M S D} {m : M S D} {ms : M S (List D)}
/-- one part, then another -/
theorem tM_bind {σ : St} {H : Hp} {f : D → M S D} {Q : VK} {g : V → Hp → Prop} (h : tM c (bindM ma f) σ H Q)
    (k : ∀ d s1 F1 H1 v env, Stt c.C c.I c.B F1 H1 σ env s1 → Rep c.C F1 d v → Fin c F1 σ env (f d env s1) (fun d _ F' H' => ∀ v, Rep c.C F' d v → Q v H') → g v H1) : tM c ma σ H g := by
  obtain ⟨F, env, s, T, h⟩ := h
  exact ⟨F, env, s, T, h.bind.imp fun d s1 F1 H1 x T1 q v rv => k d s1 F1 H1 v env T1 rv q⟩
def mVar (i : Nat) : M S D := fun env s => match env[i]? with | some (.d x) => .ok (x, s) | _ => .bad
theorem d_var (i : Nat) {x : Str} (hN : X.N[i]? = some x := by rfl) (hv : Vis X.env.scope x := by first | exact Or.inl rfl | exact Or.inr (Or.inl rfl) | exact Or.inr (Or.inr rfl)) (hd : (x == ("__debug__" : Str)) = false := by decide)
    (hcd : (x == ("__classdict__" : Str)) = false := by decide) : PE X (.Name x pos) (tM c (mVar i)) := by
  refine PEimp (pe_var hN hv hd hcd) fun σ H Q h => ?_
  obtain ⟨F, env, s, T, h⟩ := h
  unfold mVar at h
  cases q : env[i]? with
  | none => rw [q] at h; exact h.elim
  | some y =>
    rw [q] at h
    cases y with
    | d x =>
      obtain ⟨v, h1, h2⟩ := T.sl i _ q
      exact ⟨v, h1, h F H (Same.refl _) T v h2⟩
    | no => exact h.elim
    | own _ => exact h.elim
    | exc _ _ => exact h.elim
    | fn => exact h.elim
    | ins _ _ => exact h.elim
/-- a value that needs no heap -/
theorem d_const {v : V} {d : D} (hp : PE X e (tC v)) (hr : ∀ F, Rep c.C F d v) : PE X e (tM c (retM d)) := by
  refine PEimp hp fun σ H Q h => ?_
  obtain ⟨F, env, s, T, h⟩ := h
  exact h F H (Same.refl _) T v (hr F)
theorem d_int {i : Int} {j : Nat} : PE X (.Constant (.int i) j pos) (tM c (retM (.int i))) := d_const pe_int fun _ => rfl
theorem d_bl {i : Bool} {j : Nat} : PE X (.Constant (.bool i) j pos) (tM c (retM (.bl i))) := d_const pe_bl fun _ => rfl
theorem d_non {j : Nat} : PE X (.Constant .none j pos) (tM c (retM .non)) := d_const pe_non fun _ => rfl
theorem d_str {x : Str} {j : Nat} : PE X (.Constant (.str x) j pos) (tM c (retM (.str x))) := d_const pe_str fun _ => rfl
theorem d_globS {x y : Str} {t : Tok} (hm : X.mg x = some (.str y t)) (hg : Gl X x := by rfl) (hd : (x == ("__debug__" : Str)) = false := by decide) : PE X (.Name x pos) (tM c (retM (.str y))) := d_const (pe_glob (v := .str y) hg hm ⟨t, rfl⟩ hd) fun _ => rfl
theorem d_globI {x : Str} {y : Int} {t : Tok} (hm : X.mg x = some (.int y t)) (hg : Gl X x := by rfl) (hd : (x == ("__debug__" : Str)) = false := by decide) : PE X (.Name x pos) (tM c (retM (.int y))) := d_const (pe_glob (v := .int y) hg hm ⟨t, rfl⟩ hd) fun _ => rfl
/-- a rule on two values serves a mirrored operation -/
def Op2 (c : Ct S) (r : R2) (f : D → D → Option D) : Prop := ∀ σ F H env s x y dx dy d Q, Stt c.C c.I c.B F H σ env s → Rep c.C F dx x → Rep c.C F dy y → f dx dy = some d →
  (∀ F' H' v, Same F F' → Stt c.C c.I c.B F' H' σ env s → Rep c.C F' d v → Q v H') → r x y H Q
def m2 (f : D → D → Option D) (ma mb : M S D) : M S D := bindM ma fun x => bindM mb fun y => optM (f x y)
theorem tM_op2 {r : R2} {f : D → D → Option D} (h2 : Op2 c r f) {σ : St} {H : Hp} {Q : VK} (h : tM c (m2 f ma mb) σ H Q) : tOp r (tM c ma) (tM c mb) σ H Q := by
  refine tM_bind h fun dx s1 F1 H1 x env T1 rx q => ?_
  refine ⟨F1, env, s1, T1, q.bind.imp fun dy s2 F2 H2 e2 T2 q2 y ry => ?_⟩
  obtain ⟨d, e, q3⟩ := q2.opt T2
  exact h2 σ F2 H2 env s2 x y dx dy d Q T2 (rx.mono e2) ry e fun F' H' v e' T' rv => q3 F' H' e' T' v rv
theorem d_op {op : Operator} {r : R2} {f : D → D → Option D} (ho : OpR X (binaryOp op) r) (h2 : Op2 c r f) (ha : PE X a (tM c ma)) (hb : PE X b (tM c mb)) : PE X (.BinOp a op b pos) (tM c (m2 f ma mb)) :=
  PEimp (pe_op ho ha hb) fun σ H Q h => tM_op2 h2 h
theorem d_cmp {op : CmpOp} {r : R2} {f : D → D → Option D} (ho : OpR X (compareOp op) r) (h2 : Op2 c r f) (ha : PE X a (tM c ma)) (hb : PE X b (tM c mb)) (hm : behindInMarks op b = false) : PE X (.Compare a [op] [b] pos) (tM c (m2 f ma mb)) :=
  PEimp (pe_cmpR ho ha hb hm) fun σ H Q h => tM_op2 h2 h
/-- either rule -/
theorem Op2.or {r r' : R2} {f g : D → D → Option D} (h : Op2 c r f) (h' : Op2 c r' g) : Op2 c (fun x y H Q => r x y H Q ∨ r' x y H Q) (fun x y => match f x y with | some d => some d | none => g x y) := by
  intro σ F H env s x y dx dy d Q T rx ry e k
  cases q : f dx dy with
  | some d' =>
    simp only [q] at e
    cases e
    exact .inl (h σ F H env s x y dx dy d Q T rx ry q k)
  | none =>
    simp only [q] at e
    exact .inr (h' σ F H env s x y dx dy d Q T rx ry e k)
/-- a result that needs no heap -/
theorem Op2.flat {r : R2} {f : D → D → Option D} (k : ∀ F x y dx dy d, Rep c.C F dx x → Rep c.C F dy y → f dx dy = some d → ∃ v, (∀ F', Rep c.C F' d v) ∧ ∀ H Q, Q v H → r x y H Q) : Op2 c r f := by
  intro σ F H env s x y dx dy d Q T rx ry e q
  obtain ⟨v, h1, h2⟩ := k F x y dx dy d rx ry e
  exact h2 H Q (q F H v (Same.refl _) T (h1 F))
def mulOk (i j : Int) : Prop := i.natAbs.log2 + j.natAbs.log2 < 134000000
instance (i j : Int) : Decidable (mulOk i j) := by unfold mulOk; infer_instance
theorem mulOk.ok {i j : Int} (h : mulOk i j) : IntMulOk i j := by
  have b : ∀ x : Int, Builtin.Int.intBits x ≤ x.natAbs.log2 + 1 := fun x => by
    unfold Builtin.Int.intBits
    split <;> omega
  have h1 := b i
  have h2 := b j
  have h3 : i.natAbs.log2 + j.natAbs.log2 < 134000000 := h
  have e : bitsLine = 134217728 := by decide
  unfold IntMulOk
  intro z
  have z2 := (Bool.and_eq_true_iff.mp z).2
  have z3 := z2
  unfold Builtin.Int.intTooBig at z3
  have z4 := of_decide_eq_true z3
  rw [e] at z4
  omega
def addD : D → D → Option D
  | .int i, .int j => some (.int (i + j))
  | .str x, .str y => if x.length + y.length ≤ sizeLine then some (.str (x ++ y)) else none
  | _, _ => none
def subD : D → D → Option D
  | .int i, .int j => some (.int (i - j))
  | .bl p, .bl q => some (.int (b2i p - b2i q))
  | _, _ => none
def mulD : D → D → Option D
  | .int i, .int j => if mulOk i j then some (.int (i * j)) else none
  | _, _ => none
def fdivD : D → D → Option D
  | .int i, .int j => if j ≠ 0 ∧ j.natAbs.log2 < 9000 then some (.int (i.fdiv j)) else none
  | _, _ => none
def modD : D → D → Option D
  | .int i, .int j => if j ≠ 0 then some (.int (i.fmod j)) else none
  | _, _ => none
def powD : D → D → Option D
  | .int i, .int j => if 0 ≤ j ∧ j ≤ 1000000 ∧ i.natAbs < 2 ^ 64 then some (.int (i ^ j.toNat)) else none
  | _, _ => none
theorem rep_int {C : DC} {F : Hp} {i : Int} {v : V} (h : Rep C F (.int i) v) : v = .int i := h
theorem rep_str {C : DC} {F : Hp} {i : Str} {v : V} (h : Rep C F (.str i) v) : v = .str i := h
theorem rep_bl {C : DC} {F : Hp} {i : Bool} {v : V} (h : Rep C F (.bl i) v) : v = .bl i := h
theorem rep_non {C : DC} {F : Hp} {v : V} (h : Rep C F .non v) : v = .non := h
theorem op_subB : OpR X (binaryOp .Sub) (fun x y H Q => ∃ p q, x = .bl p ∧ y = .bl q ∧ Q (.int (b2i p - b2i q)) H) := by
  intro pins s σ H x y v u Q I rx ry h
  obtain ⟨p, q, rfl, rfl, h⟩ := h
  cases rx
  cases ry
  exact sub_bool ⟨.int (b2i p - b2i q), H, I.tok _, ⟨_, rfl⟩, h⟩
theorem op_mulM : OpR X (binaryOp .Mult) (rI mulOk fun i j => .int (i * j)) := opI fun _ _ _ _ _ _ _ hc q => mul_int q hc.ok
theorem op_fdivM : OpR X (binaryOp .FloorDiv) (rI (fun _ j => j ≠ 0 ∧ j.natAbs.log2 < 9000) fun i j => .int (i.fdiv j)) := opI fun _ _ _ _ _ _ _ hc q => floordiv_int hc.1 q (.inl (PyProof.noPylong_of_log2 hc.2))
theorem d_add (ha : PE X a (tM c ma)) (hb : PE X b (tM c mb)) : PE X (.BinOp a .Add b pos) (tM c (m2 addD ma mb)) := by
  refine d_op (op_add.or op_add_str) (Op2.flat fun F x y dx dy d rx ry e => ?_) ha hb
  unfold addD at e
  split at e
  · cases e; cases rep_int rx; cases rep_int ry
    exact ⟨_, fun _ => rfl, fun H Q q => .inl ⟨_, _, rfl, rfl, q⟩⟩
  · split at e
    · rename_i hl
      cases e; cases rep_str rx; cases rep_str ry
      exact ⟨_, fun _ => rfl, fun H Q q => .inr ⟨_, _, rfl, rfl, hl, q⟩⟩
    · cases e
  · cases e
theorem d_sub (ha : PE X a (tM c ma)) (hb : PE X b (tM c mb)) : PE X (.BinOp a .Sub b pos) (tM c (m2 subD ma mb)) := by
  refine d_op (op_sub.or op_subB) (Op2.flat fun F x y dx dy d rx ry e => ?_) ha hb
  unfold subD at e
  split at e
  · cases e; cases rep_int rx; cases rep_int ry
    exact ⟨_, fun _ => rfl, fun H Q q => .inl ⟨_, _, rfl, rfl, q⟩⟩
  · cases e; cases rep_bl rx; cases rep_bl ry
    exact ⟨_, fun _ => rfl, fun H Q q => .inr ⟨_, _, rfl, rfl, q⟩⟩
  · cases e
theorem d_mul (ha : PE X a (tM c ma)) (hb : PE X b (tM c mb)) : PE X (.BinOp a .Mult b pos) (tM c (m2 mulD ma mb)) := by
  refine d_op op_mulM (Op2.flat fun F x y dx dy d rx ry e => ?_) ha hb
  unfold mulD at e
  split at e
  · split at e
    · rename_i hl
      cases e; cases rep_int rx; cases rep_int ry
      exact ⟨_, fun _ => rfl, fun H Q q => ⟨_, _, rfl, rfl, hl, q⟩⟩
    · cases e
  · cases e
theorem d_fdiv (ha : PE X a (tM c ma)) (hb : PE X b (tM c mb)) : PE X (.BinOp a .FloorDiv b pos) (tM c (m2 fdivD ma mb)) := by
  refine d_op op_fdivM (Op2.flat fun F x y dx dy d rx ry e => ?_) ha hb
  unfold fdivD at e
  split at e
  · split at e
    · rename_i hl
      cases e; cases rep_int rx; cases rep_int ry
      exact ⟨_, fun _ => rfl, fun H Q q => ⟨_, _, rfl, rfl, hl, q⟩⟩
    · cases e
  · cases e
theorem d_mod (ha : PE X a (tM c ma)) (hb : PE X b (tM c mb)) : PE X (.BinOp a .Mod b pos) (tM c (m2 modD ma mb)) := by
  refine d_op op_modN (Op2.flat fun F x y dx dy d rx ry e => ?_) ha hb
  unfold modD at e
  split at e
  · split at e
    · rename_i hl
      cases e; cases rep_int rx; cases rep_int ry
      exact ⟨_, fun _ => rfl, fun H Q q => ⟨_, _, rfl, rfl, hl, q⟩⟩
    · cases e
  · cases e
theorem d_pow (ha : PE X a (tM c ma)) (hb : PE X b (tM c mb)) : PE X (.BinOp a .Pow b pos) (tM c (m2 powD ma mb)) := by
  refine d_op op_pow (Op2.flat fun F x y dx dy d rx ry e => ?_) ha hb
  unfold powD at e
  split at e
  · split at e
    · rename_i hl
      cases e; cases rep_int rx; cases rep_int ry
      exact ⟨_, fun _ => rfl, fun H Q q => ⟨_, _, rfl, rfl, hl, q⟩⟩
    · cases e
  · cases e
/-- one part -/
def m1 (f : D → Option D) (ma : M S D) : M S D := bindM ma fun x => optM (f x)
theorem tM_un {r : V → Hp → VK → Prop} {f : D → Option D} (k : ∀ F x dx d, Rep c.C F dx x → f dx = some d → ∃ v, (∀ F', Rep c.C F' d v) ∧ ∀ H Q, Q v H → r x H Q) {σ : St} {H : Hp} {Q : VK} (h : tM c (m1 f ma) σ H Q) : tM c ma σ H fun x H1 => r x H1 Q := by
  refine tM_bind h fun dx s1 F1 H1 x env T1 rx q => ?_
  obtain ⟨d, e, q⟩ := q.opt T1
  obtain ⟨v, h1, h2⟩ := k F1 x dx d rx e
  exact h2 H1 Q (q F1 H1 (Same.refl _) T1 v (h1 F1))
def negD : D → Option D
  | .int i => some (.int (-i))
  | _ => none
theorem d_neg (ha : PE X a (tM c ma)) : PE X (.UnaryOp .USub a pos) (tM c (m1 negD ma)) := by
  refine PEimp (pe_un un_neg ha) fun σ H Q h => tM_un (r := rU fun i => .int (-i)) (fun F x dx d rx e => ?_) h
  unfold negD at e
  split at e
  · cases e; cases rep_int rx
    exact ⟨_, fun _ => rfl, fun H Q q => ⟨_, rfl, q⟩⟩
  · cases e
def ltD : D → D → Option D
  | .int i, .int j => some (.bl (decide (i < j)))
  | _, _ => none
def leD : D → D → Option D
  | .int i, .int j => some (.bl (decide (i ≤ j)))
  | _, _ => none
def gtD : D → D → Option D
  | .int i, .int j => some (.bl (decide (j < i)))
  | _, _ => none
def geD : D → D → Option D
  | .int i, .int j => some (.bl (decide (j ≤ i)))
  | _, _ => none
theorem cmp_int {op : CmpOp} {p : Int → Int → Bool} {f : D → D → Option D} (ho : ∀ {ta tb : TE}, PE X a ta → PE X b tb → PC X op a b (tCmp p ta tb)) (hf : ∀ x y d, f x y = some d → ∃ i j, x = .int i ∧ y = .int j ∧ d = .bl (p i j))
    (ha : PE X a (tM c ma)) (hb : PE X b (tM c mb)) (hm : behindInMarks op b = false) : PE X (.Compare a [op] [b] pos) (tM c (m2 f ma mb)) := by
  refine PEimp (pe_cmp (ho ha hb) hm) fun σ H Q h => ?_
  refine tM_op2 (r := fun x y H Q => ∃ i j, x = .int i ∧ y = .int j ∧ Q (.bl (p i j)) H) (Op2.flat fun F x y dx dy d rx ry e => ?_) h
  obtain ⟨i, j, e1, e2, e3⟩ := hf dx dy d e
  subst e1; subst e2; subst e3
  cases rep_int rx; cases rep_int ry
  exact ⟨_, fun _ => rfl, fun H Q q => ⟨_, _, rfl, rfl, q⟩⟩
theorem d_lt (ha : PE X a (tM c ma)) (hb : PE X b (tM c mb)) : PE X (.Compare a [.Lt] [b] pos) (tM c (m2 ltD ma mb)) :=
  cmp_int pc_lt (fun x y d e => by unfold ltD at e; split at e <;> first | (cases e; exact ⟨_, _, rfl, rfl, rfl⟩) | cases e) ha hb (nomark _)
theorem d_le (ha : PE X a (tM c ma)) (hb : PE X b (tM c mb)) : PE X (.Compare a [.LtE] [b] pos) (tM c (m2 leD ma mb)) :=
  cmp_int pc_le (fun x y d e => by unfold leD at e; split at e <;> first | (cases e; exact ⟨_, _, rfl, rfl, rfl⟩) | cases e) ha hb (nomark _)
theorem d_gt (ha : PE X a (tM c ma)) (hb : PE X b (tM c mb)) : PE X (.Compare a [.Gt] [b] pos) (tM c (m2 gtD ma mb)) :=
  cmp_int pc_gt (fun x y d e => by unfold gtD at e; split at e <;> first | (cases e; exact ⟨_, _, rfl, rfl, rfl⟩) | cases e) ha hb (nomark _)
theorem d_ge (ha : PE X a (tM c ma)) (hb : PE X b (tM c mb)) : PE X (.Compare a [.GtE] [b] pos) (tM c (m2 geD ma mb)) :=
  cmp_int pc_ge (fun x y d e => by unfold geD at e; split at e <;> first | (cases e; exact ⟨_, _, rfl, rfl, rfl⟩) | cases e) ha hb (nomark _)
/-- is None -/
def isNon : D → Bool
  | .non => true
  | _ => false
theorem rep_isNon {C : DC} {F : Hp} {d : D} {v : V} (h : Rep C F d v) : decide (v = .non) = isNon d := by
  cases d with
  | non => cases rep_non h; rfl
  | bl _ => cases rep_bl h; rfl
  | int _ => cases rep_int h; rfl
  | str _ => cases rep_str h; rfl
  | tup _ => obtain ⟨a, vs, e, _⟩ := h; subst e; rfl
  | lst _ => obtain ⟨a, vs, e, _⟩ := h; subst e; rfl
  | obj _ _ => obtain ⟨a, dx, vs, e, _⟩ := h; subst e; rfl
  | st => obtain ⟨a, _, e⟩ := h; subst e; rfl
theorem d_isN {j : Nat} {p : Pos} (ha : PE X a (tM c ma)) : PE X (.Compare a [.Is] [.Constant .none j p] pos) (tM c (m1 (fun x => some (.bl (isNon x))) ma)) := by
  refine PEimp (pe_cmp (pc_isN ha)) fun σ H Q h => tM_un (r := fun x H Q => Q (.bl (decide (x = .non))) H) (fun F x dx d rx e => ?_) h
  cases e
  exact ⟨_, fun _ => rfl, fun H Q q => by rw [rep_isNon rx]; exact q⟩
theorem d_notN {j : Nat} {p : Pos} (ha : PE X a (tM c ma)) : PE X (.Compare a [.IsNot] [.Constant .none j p] pos) (tM c (m1 (fun x => some (.bl (!isNon x))) ma)) := by
  refine PEimp (pe_cmp (pc_notN ha)) fun σ H Q h => tM_un (r := fun x H Q => Q (.bl (!decide (x = .non))) H) (fun F x dx d rx e => ?_) h
  cases e
  exact ⟨_, fun _ => rfl, fun H Q q => by rw [rep_isNon rx]; exact q⟩
mutual
def toPy : D → Option PyData
  | .non => some .none
  | .bl b => some (.bool b)
  | .int i => some (.int i)
  | .str x => if PyData.strOk x then some (.str x) else none
  | .tup xs => (toPys xs).map .tuple
  | .lst xs => (toPys xs).map .list
  | .obj _ _ => none
  | .st => none
def toPys : List D → Option (List PyData)
  | [] => some []
  | d :: ds => match toPy d, toPys ds with | some p, some ps => some (p :: ps) | _, _ => none
end
mutual
theorem dp_of {C : DC} {F H : Hp} (e : Same F H) : ∀ {d : D} {v : V} {p : PyData}, Rep C F d v → toPy d = some p → Dp C.K H v p ∧ p.canLay0 = true
  | .non, _, _, h, q => by cases q; cases rep_non h; exact ⟨.non, rfl⟩
  | .bl _, _, _, h, q => by cases q; cases rep_bl h; exact ⟨.bl _, rfl⟩
  | .int _, _, _, h, q => by cases q; cases rep_int h; exact ⟨.int _, rfl⟩
  | .str x, _, _, h, q => by
    unfold toPy at q
    split at q
    · rename_i hs
      cases q; cases rep_str h
      exact ⟨.str _, hs⟩
    · cases q
  | .tup xs, _, _, h, q => by
    obtain ⟨a, vs, h1, h2, h3⟩ := h
    unfold toPy at q
    cases z : toPys xs with
    | none => rw [z] at q; cases q
    | some ps =>
      rw [z] at q; cases q; subst h1
      obtain ⟨k1, k2⟩ := dps_of e h3 z
      exact ⟨.tup (sqT_same e h2) k1, k2⟩
  | .lst xs, _, _, h, q => by
    obtain ⟨a, vs, h1, h2, h3⟩ := h
    unfold toPy at q
    cases z : toPys xs with
    | none => rw [z] at q; cases q
    | some ps =>
      rw [z] at q; cases q; subst h1
      obtain ⟨k1, k2⟩ := dps_of e h3 z
      exact ⟨.lst (e.seq h2) k1, k2⟩
  | .obj _ _, _, _, _, q => by unfold toPy at q; cases q
  | .st, _, _, _, q => by unfold toPy at q; cases q
theorem dps_of {C : DC} {F H : Hp} (e : Same F H) : ∀ {ds : List D} {vs : List V} {ps : List PyData}, Reps C F ds vs → toPys ds = some ps → DpAll C.K H vs ps ∧ PyData.canLayAll0 ps = true
  | [], _, _, h, q => by cases q; cases (show _ = [] from h); exact ⟨.nil, rfl⟩
  | d :: ds, _, _, ⟨v, r, h1, h2, h3⟩, q => by
    unfold toPys at q
    cases z : toPy d with
    | none => rw [z] at q; cases q
    | some p =>
      cases z2 : toPys ds with
      | none => rw [z, z2] at q; cases q
      | some ps =>
        rw [z, z2] at q; cases q; subst h1
        obtain ⟨k1, k2⟩ := dp_of e h2 z
        obtain ⟨k3, k4⟩ := dps_of e h3 z2
        exact ⟨.cons k1 k3, Bool.and_eq_true_iff.mpr ⟨k2, k4⟩⟩
end
def eqvD (x y : D) : Option Bool := match toPy x, toPy y with
  | some p, some q => if p.depth ≤ 64 ∧ q.depth ≤ 64 then some (PyData.eqv p q) else none
  | _, _ => none
def eqD (x y : D) : Option D := (eqvD x y).map .bl
def neD (x y : D) : Option D := (eqvD x y).map fun b => .bl (!b)
theorem op2_eq : Op2 c (rEqD c.C.K) eqD := by
  intro σ F H env s x y dx dy d Q T rx ry e q
  unfold eqD eqvD at e
  cases z : toPy dx with
  | none => rw [z] at e; cases e
  | some p =>
    cases z2 : toPy dy with
    | none => rw [z, z2] at e; cases e
    | some p2 =>
      rw [z, z2] at e
      dsimp only at e
      split at e
      · rename_i hd
        cases e
        obtain ⟨k1, k2⟩ := dp_of T.sub rx z
        obtain ⟨k3, k4⟩ := dp_of T.sub ry z2
        exact ⟨p, p2, k1, k3, Bool.and_eq_true_iff.mpr ⟨k2, decide_eq_true hd.1⟩, Bool.and_eq_true_iff.mpr ⟨k4, decide_eq_true hd.2⟩, q F H _ (Same.refl _) T rfl⟩
      · cases e
theorem op2_ne : Op2 c (rNeD c.C.K) neD := by
  intro σ F H env s x y dx dy d Q T rx ry e q
  unfold neD eqvD at e
  cases z : toPy dx with
  | none => rw [z] at e; cases e
  | some p =>
    cases z2 : toPy dy with
    | none => rw [z, z2] at e; cases e
    | some p2 =>
      rw [z, z2] at e
      dsimp only at e
      split at e
      · rename_i hd
        cases e
        obtain ⟨k1, k2⟩ := dp_of T.sub rx z
        obtain ⟨k3, k4⟩ := dp_of T.sub ry z2
        exact ⟨p, p2, k1, k3, Bool.and_eq_true_iff.mpr ⟨k2, decide_eq_true hd.1⟩, Bool.and_eq_true_iff.mpr ⟨k4, decide_eq_true hd.2⟩, q F H _ (Same.refl _) T rfl⟩
      · cases e
theorem d_eq (hk : c.C.K = X.K) (hu : X.A.units + 64 < cLine) (ha : PE X a (tM c ma)) (hb : PE X b (tM c mb)) : PE X (.Compare a [.Eq] [b] pos) (tM c (m2 eqD ma mb)) :=
  d_cmp (op_eqD hu) (hk ▸ op2_eq) ha hb (nomark _)
theorem d_ne (hk : c.C.K = X.K) (hu : X.A.units + 64 < cLine) (ha : PE X a (tM c ma)) (hb : PE X b (tM c mb)) : PE X (.Compare a [.NotEq] [b] pos) (tM c (m2 neD ma mb)) :=
  d_cmp (op_neD hu) (hk ▸ op2_ne) ha hb (nomark _)
end
end DL
set_option Elab.async false
set_option linter.all false
set_option maxRecDepth 100000
namespace DL
open PySem PySem.Spec PyProof.Rows L2
section
variable {S : Type} {c : Ct S} {X : Cx} {a b e o : Expr} {es rest : List Expr} {pos apos : Pos} {ma mb : M S D} {m : M S D} {ms : M S (List D)} {ta tb : M S Bool}
def truD : D → Option Bool
  | .non => some false
  | .bl b => some b
  | .int i => some (i != 0)
  | .str x => if x.length ≤ sizeLine then some ((x.length : Int) != 0) else none
  | .tup xs => some (!xs.isEmpty)
  | .lst xs => some (!xs.isEmpty)
  | .obj _ _ => none
  | .st => none
theorem isEmpty_reps {C : DC} {F : Hp} {ds : List D} {vs : List V} (h : Reps C F ds vs) : (!vs.isEmpty) = !ds.isEmpty := by
  have := h.length
  cases vs <;> cases ds <;> simp_all
theorem tru_of {C : DC} {F H : Hp} (e : Same F H) {d : D} {v : V} {k : Bool} (h : Rep C F d v) (q : truD d = some k) : TruV C.K v H k := by
  cases d with
  | non => cases rep_non h; cases q; rfl
  | bl _ => cases rep_bl h; cases q; rfl
  | int _ => cases rep_int h; cases q; rfl
  | str x =>
    cases rep_str h
    simp only [truD] at q
    split at q
    · rename_i hl; cases q; exact ⟨hl, rfl⟩
    · cases q
  | tup xs =>
    obtain ⟨a, vs, h1, h2, h3⟩ := h
    subst h1; cases q
    exact .inr (.inl ⟨vs, sqT_same e h2, (isEmpty_reps h3).symm⟩)
  | lst xs =>
    obtain ⟨a, vs, h1, h2, h3⟩ := h
    subst h1; cases q
    exact .inl ⟨vs, e.seq h2, (isEmpty_reps h3).symm⟩
  | obj _ _ => cases q
  | st => cases q
def truM (ma : M S D) : M S Bool := bindM ma fun x => optM (truD x)
theorem tT_of {σ : St} {H : Hp} {K : PySem.W.Frag} (hk : c.C.K = K) {Q : Bool → Hp → Prop} (h : tT c (truM ma) σ H Q) : tM c ma σ H fun x H' => ∃ k, TruV K x H' k ∧ Q k H' := by
  obtain ⟨F, env, s, T, h⟩ := h
  refine ⟨F, env, s, T, h.bind.imp fun dx s1 F1 H1 e1 T1 q v rv => ?_⟩
  obtain ⟨k, e, q⟩ := q.opt T1
  exact ⟨k, by rw [← hk]; exact tru_of T1.sub rv e, q F1 H1 (Same.refl _) T1⟩
/-- a value as a test -/
theorem d_test (hk : c.C.K = X.K) (ha : PE X a (tM c ma)) (he : ∀ whole, isTrue a X.env whole = (do let v ← whole; standAt a.pos; holding [v] (truthy v)) := by intro _; rfl) : PT X a (tT c (truM ma)) :=
  PTimp (pt_truth ha he) fun σ H Q h => tT_of hk h
def andT (ta tb : M S Bool) : M S Bool := bindM ta fun k => if k = true then tb else retM false
def orT (ta tb : M S Bool) : M S Bool := bindM ta fun k => if k = true then retM true else tb
def notT (ta : M S Bool) : M S Bool := bindM ta fun k => retM (!k)
theorem t_and1 (ha : PT X a (tT c ta)) : PW X (.BoolOp .And [a] pos) (tT c ta) := pw_and1 ha
theorem t_or1 (ha : PT X a (tT c ta)) : PW X (.BoolOp .Or [a] pos) (tT c ta) := pw_or1 ha
theorem t_and (ha : PT X a (tT c ta)) (hb : PW X (.BoolOp .And (b :: rest) pos) (tT c tb)) : PW X (.BoolOp .And (a :: b :: rest) pos) (tT c (andT ta tb)) := by
  refine PWimp (pw_and ha hb) fun σ H Q h => ?_
  obtain ⟨F, env, s, T, h⟩ := h
  refine ⟨F, env, s, T, h.bind.imp fun k s1 F1 H1 e1 T1 q => ?_⟩
  cases k with
  | true => exact (if_pos rfl).mpr ⟨F1, env, s1, T1, q⟩
  | false => exact (if_neg Bool.false_ne_true).mpr (q F1 H1 (Same.refl _) T1)
theorem t_or (ha : PT X a (tT c ta)) (hb : PW X (.BoolOp .Or (b :: rest) pos) (tT c tb)) : PW X (.BoolOp .Or (a :: b :: rest) pos) (tT c (orT ta tb)) := by
  refine PWimp (pw_or ha hb) fun σ H Q h => ?_
  obtain ⟨F, env, s, T, h⟩ := h
  refine ⟨F, env, s, T, h.bind.imp fun k s1 F1 H1 e1 T1 q => ?_⟩
  cases k with
  | true => exact (if_pos rfl).mpr (q F1 H1 (Same.refl _) T1)
  | false => exact (if_neg Bool.false_ne_true).mpr ⟨F1, env, s1, T1, q⟩
theorem t_not (ha : PT X a (tT c ta)) : PT X (.UnaryOp .Not a pos) (tT c (notT ta)) := by
  refine PTimp (pt_not ha) fun σ H Q h => ?_
  obtain ⟨F, env, s, T, h⟩ := h
  exact ⟨F, env, s, T, h.bind.imp fun k s1 F1 H1 e1 T1 q => q F1 H1 (Same.refl _) T1⟩
def andV (ma mb : M S D) : M S D := bindM ma fun x => bindM (optM (truD x)) fun k => if k = true then mb else retM x
def orV (ma mb : M S D) : M S D := bindM ma fun x => bindM (optM (truD x)) fun k => if k = true then retM x else mb
def notV (ma : M S D) : M S D := m1 (fun x => (truD x).map fun k => .bl (!k)) ma
theorem d_one {op : BoolOp} (ha : PE X a (tM c ma)) : PE X (.BoolOp op [a] pos) (tM c ma) := pe_one ha
theorem d_and (hk : c.C.K = X.K) (ha : PE X a (tM c ma)) (hb : PE X (.BoolOp .And (b :: rest) pos) (tM c mb)) : PE X (.BoolOp .And (a :: b :: rest) pos) (tM c (andV ma mb)) := by
  refine PEimp (pe_andT ha hb) fun σ H Q h => tM_bind h fun dx s1 F1 H1 x env T1 rx q => ?_
  obtain ⟨k, e, _⟩ := q.bind.opt T1
  refine ⟨k, by rw [← hk]; exact tru_of T1.sub rx e, ?_⟩
  rw [e] at q
  have q : Fin c F1 σ env ((if k = true then mb else retM dx) env s1) _ := q
  cases k with
  | true => exact (if_pos rfl).mpr ⟨F1, env, s1, T1, q⟩
  | false => exact (if_neg Bool.false_ne_true).mpr (q F1 H1 (Same.refl _) T1 x rx)
theorem d_or (hk : c.C.K = X.K) (ha : PE X a (tM c ma)) (hb : PE X (.BoolOp .Or (b :: rest) pos) (tM c mb)) : PE X (.BoolOp .Or (a :: b :: rest) pos) (tM c (orV ma mb)) := by
  refine PEimp (pe_orT ha hb) fun σ H Q h => tM_bind h fun dx s1 F1 H1 x env T1 rx q => ?_
  obtain ⟨k, e, _⟩ := q.bind.opt T1
  refine ⟨k, by rw [← hk]; exact tru_of T1.sub rx e, ?_⟩
  rw [e] at q
  have q : Fin c F1 σ env ((if k = true then retM dx else mb) env s1) _ := q
  cases k with
  | true => exact (if_pos rfl).mpr (q F1 H1 (Same.refl _) T1 x rx)
  | false => exact (if_neg Bool.false_ne_true).mpr ⟨F1, env, s1, T1, q⟩
theorem d_not (hk : c.C.K = X.K) (ha : PE X a (tM c ma)) : PE X (.UnaryOp .Not a pos) (tM c (notV ma)) := by
  refine PEimp (pe_notT ha) fun σ H Q h => tM_bind h fun dx s1 F1 H1 x env T1 rx q => ?_
  obtain ⟨d, e, q⟩ := q.opt T1
  have e : (truD dx).map (fun k => D.bl (!k)) = some d := e
  cases z : truD dx with
  | none => rw [z] at e; cases e
  | some k =>
    rw [z] at e; cases e
    exact ⟨k, by rw [← hk]; exact tru_of T1.sub rx z, q F1 H1 (Same.refl _) T1 _ rfl⟩
def ifM (t : M S Bool) (ma mb : M S D) : M S D := bindM t fun k => if k = true then ma else mb
theorem d_ifE {t : Expr} {mt : M S Bool} (ht : PT X t (tT c mt)) (ha : PE X a (tM c ma)) (hb : PE X b (tM c mb)) : PE X (.IfExp t a b pos) (tM c (ifM mt ma mb)) := by
  refine PEimp (pe_ifExp ht ha hb) fun σ H Q h => ?_
  obtain ⟨F, env, s, T, h⟩ := h
  refine ⟨F, env, s, T, h.bind.imp fun k s1 F1 H1 e1 T1 q => ?_⟩
  cases k with
  | true => exact (if_pos rfl).mpr ⟨F1, env, s1, T1, q⟩
  | false => exact (if_neg Bool.false_ne_true).mpr ⟨F1, env, s1, T1, q⟩
def consM (ma : M S D) (ms : M S (List D)) : M S (List D) := bindM ma fun x => bindM ms fun xs => retM (x :: xs)
theorem a_nil : PA X [] (tA c (retM [])) := PAimp pa_nil fun σ H Q h => by
  obtain ⟨F, env, s, T, h⟩ := h
  exact h F H (Same.refl _) T [] rfl
theorem a_cons (ha : PE X e (tM c ma)) (hr : PA X es (tA c ms)) (hs : starEach (e :: es) X.env = (false, eval e X.env) :: starEach es X.env := by rfl) : PA X (e :: es) (tA c (consM ma ms)) := by
  refine PAimp (pa_cons ha hr hs) fun σ H Q h => ?_
  obtain ⟨F, env, s, T, h⟩ := h
  refine ⟨F, env, s, T, h.bind.imp fun dx s1 F1 H1 e1 T1 q x rx => ?_⟩
  refine ⟨F1, env, s1, T1, q.bind.imp fun ds s2 F2 H2 e2 T2 q2 vs rvs => ?_⟩
  exact q2 F2 H2 (Same.refl _) T2 (x :: vs) ⟨x, vs, rfl, rx.mono e2, rvs⟩
theorem le_line {n : Nat} (h : n ≤ 1000) : n ≤ sizeLine := by rw [sizeLine_eq]; omega
def tupD (ds : List D) : Option D := if ds.length ≤ 1000 then some (.tup ds) else none
def lstD (ds : List D) : Option D := if ds.length ≤ 1000 then some (.lst ds) else none
theorem d_tup {x1} (h : PA X es (tA c ms)) : PE X (.Tuple es x1 pos) (tM c (bindM ms fun ds => optM (tupD ds))) := by
  refine PEimp (pe_tup h) fun σ H Q h => ?_
  obtain ⟨F, env, s, T, h⟩ := h
  refine ⟨F, env, s, T, h.bind.imp fun ds s1 F1 H1 e1 T1 q vs rvs => ?_⟩
  obtain ⟨d, e, q⟩ := q.opt T1
  unfold tupD at e
  split at e
  · rename_i hl
    cases e
    refine ⟨by rw [rvs.length]; exact le_line hl, fun p np => ?_⟩
    exact q (upd F1 p (.tup vs)) _ (same_upd (T1.ff np)) (T1.new np (fun ps z => by cases z)) _ ⟨p, vs, rfl, SqT.of upd_same, rvs.mono (same_upd (T1.ff np))⟩
  · cases e
theorem d_lst (h : PA X es (tA c ms)) : PE X (.List es pos) (tM c (bindM ms fun ds => optM (lstD ds))) := by
  refine PEimp (pe_lst h) fun σ H Q h => ?_
  obtain ⟨F, env, s, T, h⟩ := h
  refine ⟨F, env, s, T, h.bind.imp fun ds s1 F1 H1 e1 T1 q vs rvs => ?_⟩
  obtain ⟨d, e, q⟩ := q.opt T1
  unfold lstD at e
  split at e
  · rename_i hl
    cases e
    refine ⟨by rw [rvs.length]; exact le_line hl, fun p np => ?_⟩
    exact q (upd F1 p (.lst vs)) _ (same_upd (T1.ff np)) (T1.new np (fun ps z => by cases z)) _ ⟨p, vs, rfl, SqL.of upd_same, rvs.mono (same_upd (T1.ff np))⟩
  · cases e
theorem Reps.at {C : DC} {F : Hp} {ds : List D} {vs : List V} {i : Int} {d : D} (h : Reps C F ds vs) (e : atI ds i = some d) : ∃ v, atI vs i = some v ∧ Rep C F d v := by
  unfold atI at e ⊢
  rw [h.length]
  cases q : ixN ds.length i with
  | none => rw [q] at e; cases e
  | some j =>
    rw [q] at e
    exact h.get e
def ixD : D → D → Option D
  | .lst xs, .int i => atI xs i
  | .tup xs, .int i => atI xs i
  | .str x, .int i => if x.length ≤ sizeLine then (atI x.cps.toList i).map fun k => .str ⟨#[k]⟩ else none
  | _, _ => none
theorem op2_ix : Op2 c (rIx c.C.K) ixD := by
  intro σ F H env s x y dx dy d Q T rx ry e q
  unfold ixD at e
  split at e
  · cases rep_int ry
    obtain ⟨p, vs, h1, h2, h3⟩ := rx
    obtain ⟨v, h4, h5⟩ := h3.at e
    exact .inl ⟨p, vs, _, v, h1, rfl, T.sub.seq h2, h4, q F H v (Same.refl _) T h5⟩
  · cases rep_int ry
    obtain ⟨p, vs, h1, h2, h3⟩ := rx
    obtain ⟨v, h4, h5⟩ := h3.at e
    exact .inr (.inl ⟨p, vs, _, v, h1, rfl, sqT_same T.sub h2, h4, q F H v (Same.refl _) T h5⟩)
  · cases rep_int ry
    cases rep_str rx
    split at e
    · rename_i hl
      rename_i x i
      cases z : atI x.cps.toList i with
      | none => rw [z] at e; cases e
      | some k =>
        rw [z] at e; cases e
        exact .inr (.inr ⟨_, _, _, rfl, rfl, hl, z, q F H _ (Same.refl _) T rfl⟩)
    · cases e
  · cases e
theorem d_ix (hk : c.C.K = X.K) (ha : PE X a (tM c ma)) (hb : PE X b (tM c mb)) (hs : PlainIx b := by intro _ _; rfl) : PE X (.Subscript a b pos) (tM c (m2 ixD ma mb)) :=
  PEimp (pe_ix (ix_seq) ha hb hs) fun σ H Q h => tM_op2 (hk ▸ op2_ix) h
def cutL {α : Type} (xs : List α) (lo hi : Option Int) : List α := (xs.drop (HT.sIx xs.length 0 lo)).take (HT.sIx xs.length xs.length hi - HT.sIx xs.length 0 lo)
def partD : D → Option (Option Int)
  | .int i => some (some i)
  | _ => none
/-- a part of a slice -/
def tO (c : Ct S) (m : M S (Option Int)) : TO := fun σ H Q => ∃ F env s, Stt c.C c.I c.B F H σ env s ∧ Fin c F σ env (m env s) fun o _ _ H' => Q o H'
theorem o_none : PO X none (tO c (retM none)) := by
  refine ⟨fun pins s σ H Q I h => ?_⟩
  obtain ⟨F, env, s', T, h⟩ := h
  exact (po_none (X := X)).run pins s σ H Q I (h F H (Same.refl _) T)
theorem o_some (h : PE X e (tM c m)) : PO X (some e) (tO c (bindM m fun x => optM (partD x))) := by
  refine ⟨fun pins s σ H Q I h' => (po_some h).run pins s σ H Q I ?_⟩
  obtain ⟨F, env, s', T, h'⟩ := h'
  refine ⟨F, env, s', T, h'.bind.imp fun dx s1 F1 H1 e1 T1 q v rv => ?_⟩
  obtain ⟨oi, e, q⟩ := q.opt T1
  unfold partD at e
  split at e
  · cases e; cases rep_int rv
    exact ⟨_, rfl, q F1 H1 (Same.refl _) T1⟩
  · cases e
def sliceD (lo hi : Option Int) : D → Option D
  | .str x => if x.length ≤ sizeLine then some (.str (cutS x lo hi)) else none
  | .lst xs => some (.lst (cutL xs lo hi))
  | .tup xs => if (cutL xs lo hi).length < xs.length then some (.tup (cutL xs lo hi)) else none
  | _ => none
def sliceM (m : M S D) (ml mh : M S (Option Int)) : M S D := bindM m fun x => bindM ml fun lo => bindM mh fun hi => optM (sliceD lo hi x)
theorem Reps.cut {C : DC} {F : Hp} {ds : List D} {vs : List V} (h : Reps C F ds vs) (lo hi : Option Int) : Reps C F (cutL ds lo hi) (cutV vs lo hi) := by
  unfold cutL cutV
  rw [h.length]
  exact (h.drop _).take _
theorem tM_slice {r : V → Option Int → Option Int → Hp → VK → Prop} {ml mh : M S (Option Int)} (hr : ∀ σ F H env s lo hi x dx d Q, Stt c.C c.I c.B F H σ env s → Rep c.C F dx x → sliceD lo hi dx = some d →
    (∀ F' H' v, Same F F' → Stt c.C c.I c.B F' H' σ env s → Rep c.C F' d v → Q v H') → r x lo hi H Q) {σ : St} {H : Hp} {Q : VK} (h : tM c (sliceM m ml mh) σ H Q) : tSl r (tM c m) (tO c ml) (tO c mh) σ H Q := by
  refine tM_bind h fun dx s1 F1 H1 x env T1 rx q => ?_
  refine ⟨F1, env, s1, T1, q.bind.imp fun lo s2 F2 H2 e2 T2 q2 => ?_⟩
  refine ⟨F2, env, s2, T2, q2.bind.imp fun hi s3 F3 H3 e3 T3 q3 => ?_⟩
  obtain ⟨d, e, q3⟩ := q3.opt T3
  exact hr σ F3 H3 env s3 lo hi x dx d Q T3 ((rx.mono e2).mono e3) e fun F' H' v e' T' rv => q3 F' H' e' T' v rv
theorem sl_all : SlR X (fun x lo hi H Q => rSlS x lo hi H Q ∨ rSlL X.K x lo hi H Q ∨ rSlT X.K x lo hi H Q) := sl_str.or (sl_list.or sl_tup)
theorem d_slice {lo hi : Option Expr} {p2 : Pos} {ml mh : M S (Option Int)} (hk : c.C.K = X.K) (he : PE X e (tM c m)) (hl : PO X lo (tO c ml)) (hu : PO X hi (tO c mh)) : PE X (.Subscript e (.Slice lo hi none p2) pos) (tM c (sliceM m ml mh)) := by
  refine PEimp (pe_slice sl_all he hl hu) fun σ H Q h => tM_slice (fun σ F H env s lo hi x dx d Q T rx e q => ?_) h
  unfold sliceD at e
  split at e
  · split at e
    · rename_i hl
      cases e; cases rep_str rx
      exact .inl ⟨_, rfl, hl, q F H _ (Same.refl _) T rfl⟩
    · cases e
  · cases e
    obtain ⟨p, vs, h1, h2, h3⟩ := rx
    refine .inr (.inl ⟨p, vs, h1, by rw [← hk]; exact T.sub.seq h2, fun p' np => ?_⟩)
    exact q _ _ _ (same_upd (T.ff np)) (T.new np (fun ps z => by cases z)) ⟨p', _, rfl, SqL.of upd_same, (h3.cut lo hi).mono (same_upd (T.ff np))⟩
  · split at e
    · rename_i hl
      cases e
      obtain ⟨p, vs, h1, h2, h3⟩ := rx
      have hc := (h3.cut lo hi).length
      have hv := h3.length
      refine .inr (.inr ⟨p, vs, h1, by rw [← hk]; exact sqT_same T.sub h2, ?_, fun p' np => ?_⟩)
      · rintro ⟨z1, z2⟩
        unfold cutV at hc
        rw [z1, z2, List.drop_zero, Nat.sub_zero, List.take_length] at hc
        omega
      · exact q _ _ _ (same_upd (T.ff np)) (T.new np (fun ps z => by cases z)) ⟨p', _, rfl, SqT.of upd_same, (h3.cut lo hi).mono (same_upd (T.ff np))⟩
    · cases e
  · cases e
end
end DL
set_option Elab.async false
set_option linter.all false
set_option maxRecDepth 100000
namespace DL
open PySem PySem.Spec PyProof.Rows L2
section
variable {S : Type} {c : Ct S} {X : Cx} {a b e o : Expr} {es rest : List Expr} {pos apos : Pos} {ma mb : M S D} {m : M S D} {ms : M S (List D)}
/-- a rule on argument lists serves a mirrored function -/
def CallD (c : Ct S) (r : List V → Hp → VK → Prop) (f : List D → Option D) : Prop := ∀ σ F H env s vs ds d Q, Stt c.C c.I c.B F H σ env s → Reps c.C F ds vs → f ds = some d →
  (∀ F' H' v, Same F F' → Stt c.C c.I c.B F' H' σ env s → Rep c.C F' d v → Q v H') → r vs H Q
def callM (f : List D → Option D) (ms : M S (List D)) : M S D := bindM ms fun ds => optM (f ds)
theorem tM_call {r : List V → Hp → VK → Prop} {f : List D → Option D} (h : CallD c r f) {σ : St} {H : Hp} {Q : VK} (q : tM c (callM f ms) σ H Q) : tCB r (tA c ms) σ H Q := by
  obtain ⟨F, env, s, T, q⟩ := q
  refine ⟨F, env, s, T, q.bind.imp fun ds s1 F1 H1 e1 T1 q vs rvs => ?_⟩
  obtain ⟨d, e, q⟩ := q.opt T1
  exact h σ F1 H1 env s1 vs ds d Q T1 rvs e fun F' H' v e' T' rv => q F' H' e' T' v rv
theorem d_callB {id : String} {x : Str} {p : Pos} {r : List V → Hp → VK → Prop} {f : List D → Option D} (hc : CallR X (.builtin id) r) (h : CallD c r f) (hm : X.mg x = none) (ha : PA X (e :: es) (tA c ms)) (hg : Gl X x := by rfl) (hv : bootBuiltins x = some (.builtin id) := by decide +kernel) (hn : x ≠ "__name__" := by decide) (hdb : (x == ("__debug__" : Str)) = false := by decide)
    (he : starEach (e :: es) X.env = (false, eval e X.env) :: starEach es X.env := by rfl) (hpl : (backTo pos (starEach es X.env)).any (·.1) = false := by rfl) : PE X (.Call (.Name x p) (e :: es) [] pos) (tM c (callM f ms)) :=
  PEimp (pe_callB hc hg hm hv ha hn hdb he hpl) fun σ H Q q => tM_call h q
theorem d_callTy {T : String} {x : Str} {p : Pos} {r : List V → Hp → VK → Prop} {f : List D → Option D} (hc : CallR X (.type T) r) (h : CallD c r f) (hm : X.mg x = none) (ha : PA X (e :: es) (tA c ms)) (hg : Gl X x := by rfl) (hv : bootBuiltins x = some (.type T) := by decide +kernel) (hn : x ≠ "__name__" := by decide) (hdb : (x == ("__debug__" : Str)) = false := by decide)
    (he : starEach (e :: es) X.env = (false, eval e X.env) :: starEach es X.env := by rfl) (hpl : (backTo pos (starEach es X.env)).any (·.1) = false := by rfl) : PE X (.Call (.Name x p) (e :: es) [] pos) (tM c (callM f ms)) :=
  PEimp (pe_callTy hc hg hm hv ha hn hdb he hpl) fun σ H Q q => tM_call h q
theorem d_callG {id : String} {x : Str} {p : Pos} {r : List V → Hp → VK → Prop} {f : List D → Option D} (hc : CallR X (.builtin id) r) (h : CallD c r f) (hm : X.mg x = some (.builtin id)) (ha : PA X (e :: es) (tA c ms)) (hg : Gl X x := by rfl) (hdb : (x == ("__debug__" : Str)) = false := by decide)
    (he : starEach (e :: es) X.env = (false, eval e X.env) :: starEach es X.env := by rfl) (hpl : (backTo pos (starEach es X.env)).any (·.1) = false := by rfl) : PE X (.Call (.Name x p) (e :: es) [] pos) (tM c (callM f ms)) :=
  PEimp (pe_callBfun hc hg hm ha hdb he hpl) fun σ H Q q => tM_call h q
/-- a result that needs no heap -/
theorem CallD.flat {r : List V → Hp → VK → Prop} {f : List D → Option D} (k : ∀ F H vs ds d, Same F H → Reps c.C F ds vs → f ds = some d → ∃ v, (∀ F', Rep c.C F' d v) ∧ ∀ Q : VK, Q v H → r vs H Q) : CallD c r f := by
  intro σ F H env s vs ds d Q T rv e q
  obtain ⟨v, h1, h2⟩ := k F H vs ds d T.sub rv e
  exact h2 Q (q F H v (Same.refl _) T (h1 F))
theorem reps1 {C : DC} {F : Hp} {d : D} {vs : List V} (h : Reps C F [d] vs) : ∃ v, vs = [v] ∧ Rep C F d v := by
  obtain ⟨v, r, h1, h2, h3⟩ := h
  cases (show r = [] from h3)
  exact ⟨v, h1, h2⟩
theorem reps2 {C : DC} {F : Hp} {d d' : D} {vs : List V} (h : Reps C F [d, d'] vs) : ∃ v v', vs = [v, v'] ∧ Rep C F d v ∧ Rep C F d' v' := by
  obtain ⟨v, r, h1, h2, h3⟩ := h
  obtain ⟨v', h4, h5⟩ := reps1 h3
  subst h4
  exact ⟨v, v', h1, h2, h5⟩
theorem reps0 {C : DC} {F : Hp} {vs : List V} (h : Reps C F [] vs) : vs = [] := h
def lenD : List D → Option D
  | [.str x] => if x.length ≤ sizeLine then some (.int x.length) else none
  | [.lst xs] => some (.int xs.length)
  | [.tup xs] => some (.int xs.length)
  | _ => none
theorem callD_len : CallD c (fun xs H Q => ∃ x n, xs = [x] ∧ LenV c.C.K x H n ∧ Q (.int n) H) lenD := CallD.flat fun F H vs ds d sm rv e => by
  unfold lenD at e
  split at e
  · obtain ⟨v, rfl, r⟩ := reps1 rv
    cases rep_str r
    split at e
    · rename_i hl
      cases e
      exact ⟨_, fun _ => rfl, fun Q q => ⟨_, _, rfl, ⟨hl, rfl⟩, q⟩⟩
    · cases e
  · obtain ⟨v, rfl, a, vs, h1, h2, h3⟩ := reps1 rv
    cases e; subst h1
    exact ⟨_, fun _ => rfl, fun Q q => ⟨_, _, rfl, .inl ⟨vs, sm.seq h2, rfl⟩, by rw [h3.length]; exact q⟩⟩
  · obtain ⟨v, rfl, a, vs, h1, h2, h3⟩ := reps1 rv
    cases e; subst h1
    exact ⟨_, fun _ => rfl, fun Q q => ⟨_, _, rfl, .inr ⟨vs, sqT_same sm h2, rfl⟩, by rw [h3.length]; exact q⟩⟩
  · cases e
theorem d_len {p : Pos} (hk : c.C.K = X.K) (hm : X.mg "len" = none) (ha : PE X a (tM c ma)) (hs : starEach [a] X.env = (false, eval a X.env) :: starEach [] X.env := by rfl) (hg : Gl X "len" := by rfl) : PE X (.Call (.Name "len" p) [a] [] pos) (tM c (callM lenD (consM ma (retM [])))) :=
  d_callB call_len (hk ▸ callD_len) hm (a_cons ha a_nil hs) hg PySem.boot_len (he := hs)
def absD : List D → Option D
  | [.int i] => some (.int (if i < 0 then -i else i))
  | _ => none
theorem d_abs {p : Pos} (hm : X.mg "abs" = none) (ha : PE X a (tM c ma)) (hs : starEach [a] X.env = (false, eval a X.env) :: starEach [] X.env := by rfl) (hg : Gl X "abs" := by rfl) : PE X (.Call (.Name "abs" p) [a] [] pos) (tM c (callM absD (consM ma (retM [])))) := by
  refine d_callB call_abs (CallD.flat fun F H vs ds d sm rv e => ?_) hm (a_cons ha a_nil hs) hg (he := hs)
  unfold absD at e
  split at e
  · obtain ⟨v, rfl, r⟩ := reps1 rv
    cases rep_int r; cases e
    exact ⟨_, fun _ => rfl, fun Q q => ⟨_, rfl, q⟩⟩
  · cases e
def intD : List D → Option D
  | [.int i] => some (.int i)
  | [.bl b] => some (.int (if b then 1 else 0))
  | [.str x] => if x.length ≤ 640 then (PySem.intText? x).map .int else none
  | _ => none
theorem d_intC {p : Pos} (hm : X.mg "int" = none) (ha : PE X a (tM c ma)) (hs : starEach [a] X.env = (false, eval a X.env) :: starEach [] X.env := by rfl) (hg : Gl X "int" := by rfl) : PE X (.Call (.Name "int" p) [a] [] pos) (tM c (callM intD (consM ma (retM [])))) := by
  refine d_callTy (call_int1.or call_int_str) (CallD.flat fun F H vs ds d sm rv e => ?_) hm (a_cons ha a_nil hs) hg (he := hs)
  unfold intD at e
  split at e
  · obtain ⟨v, rfl, r⟩ := reps1 rv
    cases rep_int r; cases e
    exact ⟨_, fun _ => rfl, fun Q q => .inl (.inl ⟨_, rfl, q⟩)⟩
  · obtain ⟨v, rfl, r⟩ := reps1 rv
    cases rep_bl r; cases e
    exact ⟨_, fun _ => rfl, fun Q q => .inl (.inr ⟨_, rfl, q⟩)⟩
  · split at e
    · rename_i x hl
      obtain ⟨v, rfl, r⟩ := reps1 rv
      cases rep_str r
      cases z : PySem.intText? x with
      | none => rw [z] at e; cases e
      | some n =>
        rw [z] at e; cases e
        exact ⟨_, fun _ => rfl, fun Q q => .inr ⟨_, _, rfl, z, hl, q⟩⟩
    · cases e
  · cases e
def strCD : List D → Option D
  | [.int i] => if i.natAbs.log2 < 1920 then some (.str (toString i)) else none
  | _ => none
theorem d_strC {p : Pos} (hm : X.mg "str" = none) (ha : PE X a (tM c ma)) (hs : starEach [a] X.env = (false, eval a X.env) :: starEach [] X.env := by rfl) (hg : Gl X "str" := by rfl) : PE X (.Call (.Name "str" p) [a] [] pos) (tM c (callM strCD (consM ma (retM [])))) := by
  refine d_callTy call_str_int (CallD.flat fun F H vs ds d sm rv e => ?_) hm (a_cons ha a_nil hs) hg (he := hs)
  unfold strCD at e
  split at e
  · split at e
    · rename_i hl
      obtain ⟨v, rfl, r⟩ := reps1 rv
      cases rep_int r; cases e
      exact ⟨_, fun _ => rfl, fun Q q => ⟨_, rfl, hl, q⟩⟩
    · cases e
  · cases e
def gcdD : List D → Option D
  | [.int a, .int b] => some (.int ((Nat.gcd a.natAbs b.natAbs : Nat) : Int))
  | _ => none
theorem d_gcd {p : Pos} (hm : X.mg "gcd" = some (.builtin "math.gcd")) (ha : PA X (e :: es) (tA c ms)) (hg : Gl X "gcd" := by rfl)
    (he : starEach (e :: es) X.env = (false, eval e X.env) :: starEach es X.env := by rfl) (hpl : (backTo pos (starEach es X.env)).any (·.1) = false := by rfl) : PE X (.Call (.Name "gcd" p) (e :: es) [] pos) (tM c (callM gcdD ms)) := by
  refine d_callG cr_gcd (CallD.flat fun F H vs ds d sm rv e => ?_) hm ha hg (he := he) (hpl := hpl)
  unfold gcdD at e
  split at e
  · obtain ⟨v, v', rfl, r, r'⟩ := reps2 rv
    cases rep_int r; cases rep_int r'; cases e
    exact ⟨_, fun _ => rfl, fun Q q => ⟨_, _, rfl, q⟩⟩
  · cases e
def listD : List D → Option D
  | [.lst xs] => some (.lst xs)
  | [.tup xs] => some (.lst xs)
  | _ => none
theorem d_listC {p : Pos} (hk : c.C.K = X.K) (hm : X.mg "list" = none) (ha : PE X a (tM c ma)) (hs : starEach [a] X.env = (false, eval a X.env) :: starEach [] X.env := by rfl) (hg : Gl X "list" := by rfl) : PE X (.Call (.Name "list" p) [a] [] pos) (tM c (callM listD (consM ma (retM [])))) := by
  refine d_callTy call_list_of (fun σ F H env s vs ds d Q T rv e q => ?_) hm (a_cons ha a_nil hs) hg (he := hs)
  have fin : ∀ ys xs (p : Addr), Reps c.C F xs ys → d = .lst xs → ∀ l, H l = none → Q (.ref l) (upd H l (.lst ys)) := fun ys xs p r e l hl => by
    subst e
    exact q _ _ _ (same_upd (T.ff hl)) (T.new hl (fun ps z => by cases z)) ⟨l, ys, rfl, SqL.of upd_same, r.mono (same_upd (T.ff hl))⟩
  unfold listD at e
  split at e
  · obtain ⟨v, rfl, p', ys, h1, h2, h3⟩ := reps1 rv
    subst h1
    exact ⟨p', ys, rfl, .inl (by rw [← hk]; exact T.sub.seq h2), fin ys _ p' h3 (by cases e; rfl)⟩
  · obtain ⟨v, rfl, p', ys, h1, h2, h3⟩ := reps1 rv
    subst h1
    exact ⟨p', ys, rfl, .inr (by rw [← hk]; exact sqT_same T.sub h2), fin ys _ p' h3 (by cases e; rfl)⟩
  · cases e
def tupleD : List D → Option D
  | [.lst xs] => some (.tup xs)
  | [.tup xs] => some (.tup xs)
  | _ => none
theorem d_tupleC {p : Pos} (hk : c.C.K = X.K) (hm : X.mg "tuple" = none) (ha : PE X a (tM c ma)) (hs : starEach [a] X.env = (false, eval a X.env) :: starEach [] X.env := by rfl) (hg : Gl X "tuple" := by rfl) : PE X (.Call (.Name "tuple" p) [a] [] pos) (tM c (callM tupleD (consM ma (retM [])))) := by
  refine d_callTy call_tuple_of (fun σ F H env s vs ds d Q T rv e q => ?_) hm (a_cons ha a_nil hs) hg (he := hs)
  unfold tupleD at e
  split at e
  · obtain ⟨v, rfl, p', ys, h1, h2, h3⟩ := reps1 rv
    subst h1; cases e
    refine ⟨p', ys, rfl, .inl ⟨by rw [← hk]; exact T.sub.seq h2, fun l hl => ?_⟩⟩
    exact q _ _ _ (same_upd (T.ff hl)) (T.new hl (fun ps z => by cases z)) ⟨l, ys, rfl, SqT.of upd_same, h3.mono (same_upd (T.ff hl))⟩
  · obtain ⟨v, rfl, p', ys, h1, h2, h3⟩ := reps1 rv
    subst h1; cases e
    refine ⟨p', ys, rfl, .inr ⟨by rw [← hk]; exact sqT_same T.sub h2, ?_⟩⟩
    exact q F H _ (Same.refl _) T ⟨p', ys, rfl, h2, h3⟩
  · cases e
def blsD : List D → Option (List Bool)
  | [] => some []
  | .bl b :: r => (blsD r).map (b :: ·)
  | _ :: _ => none
theorem bls_of {C : DC} {F : Hp} : ∀ {ds : List D} {vs : List V} {bs : List Bool}, Reps C F ds vs → blsD ds = some bs → vs = bs.map V.bl
  | [], _, _, h, e => by cases e; exact h
  | d :: ds, _, _, ⟨v, r, h1, h2, h3⟩, e => by
    cases d with
    | bl b =>
      cases z : blsD ds with
      | none => simp [blsD, z] at e
      | some bs' =>
        simp [blsD, z] at e
        subst e
        rw [h1, rep_bl h2, bls_of h3 z]
        all_goals rfl
    | _ => cases e
def anyD : List D → Option D
  | [.lst xs] => (blsD xs).map fun bs => .bl (bs.any id)
  | _ => none
def allD : List D → Option D
  | [.lst xs] => (blsD xs).map fun bs => .bl (bs.all id)
  | _ => none
theorem d_any {p : Pos} (hk : c.C.K = X.K) (hc : X.calm = true) (hm : X.mg "any" = none) (ha : PE X a (tM c ma)) (hs : starEach [a] X.env = (false, eval a X.env) :: starEach [] X.env := by rfl) (hg : Gl X "any" := by rfl) : PE X (.Call (.Name "any" p) [a] [] pos) (tM c (callM anyD (consM ma (retM [])))) := by
  refine d_callB (cr_any hc) (CallD.flat fun F H vs ds d sm rv e => ?_) hm (a_cons ha a_nil hs) hg (he := hs)
  unfold anyD at e
  split at e
  · rename_i xs
    obtain ⟨v, rfl, p', ys, h1, h2, h3⟩ := reps1 rv
    subst h1
    cases z : blsD xs with
    | none => rw [z] at e; cases e
    | some bs =>
      rw [z] at e; cases e
      exact ⟨_, fun _ => rfl, fun Q q => ⟨p', bs, rfl, by rw [← hk, ← bls_of h3 z]; exact sm.seq h2, q⟩⟩
  · cases e
theorem d_all {p : Pos} (hk : c.C.K = X.K) (hc : X.calm = true) (hm : X.mg "all" = none) (ha : PE X a (tM c ma)) (hs : starEach [a] X.env = (false, eval a X.env) :: starEach [] X.env := by rfl) (hg : Gl X "all" := by rfl) : PE X (.Call (.Name "all" p) [a] [] pos) (tM c (callM allD (consM ma (retM [])))) := by
  refine d_callB (cr_all hc) (CallD.flat fun F H vs ds d sm rv e => ?_) hm (a_cons ha a_nil hs) hg (he := hs)
  unfold allD at e
  split at e
  · rename_i xs
    obtain ⟨v, rfl, p', ys, h1, h2, h3⟩ := reps1 rv
    subst h1
    cases z : blsD xs with
    | none => rw [z] at e; cases e
    | some bs =>
      rw [z] at e; cases e
      exact ⟨_, fun _ => rfl, fun Q q => ⟨p', bs, rfl, by rw [← hk, ← bls_of h3 z]; exact sm.seq h2, q⟩⟩
  · cases e
def isStr : D → Bool
  | .str _ => true
  | _ => false
def mStr1 (f : D → D → Option D) (ma mb : M S D) : M S D := bindM ma fun x => if isStr x = true then bindM mb fun y => optM (f x y) else fun _ _ => .bad
theorem d_str1 {id : String} {name : Str} {r : V → List V → Hp → VK → Prop} {f : D → D → Option D} (slot : PySem.Slot "str" name id) (ty : typeOf (.builtin id) = pure (.type "method_descriptor")) (rule : MtR X id r)
    (h2 : ∀ σ F H env s x y dx dy d Q, Stt c.C c.I c.B F H σ env s → Rep c.C F dx x → Rep c.C F dy y → f dx dy = some d → (∀ F' H' v, Same F F' → Stt c.C c.I c.B F' H' σ env s → Rep c.C F' d v → Q v H') → r x [y] H Q)
    (ho : PE X o (tM c ma)) (he : PE X e (tM c mb)) (hs : starEach [e] X.env = [(false, eval e X.env)] := by rfl) (hbase : attributeBase o name X.env (eval o X.env) = eval o X.env := by rfl) (hline : (apos.endLine == pos.line) = true := by rfl) :
    PE X (.Call (.Attribute o name apos) [e] [] pos) (tM c (mStr1 f ma mb)) := by
  refine PEimp (pe_m1 slot ty rule ho he hs hbase hline) fun σ H Q h => ?_
  refine tM_bind h fun dx s1 F1 H1 x env T1 rx q => ?_
  cases dx with
  | str z =>
    have q : Fin c F1 σ env (bindM mb (fun y => optM (f (.str z) y)) env s1) _ := q
    cases rep_str rx
    refine ⟨⟨z, rfl⟩, F1, env, s1, T1, q.bind.imp fun dy s2 F2 H2 e2 T2 q2 y ry => ?_⟩
    obtain ⟨d, e, q3⟩ := q2.opt T2
    exact h2 σ F2 H2 env s2 _ y _ dy d Q T2 (rx.mono e2) ry e fun F' H' v e' T' rv => q3 F' H' e' T' v rv
  | _ => exact q.elim
def startsD : D → D → Option D
  | .str a, .str b => some (.bl (Txt.startswith a b))
  | _, _ => none
theorem d_startswith (ho : PE X o (tM c ma)) (he : PE X e (tM c mb)) (hs : starEach [e] X.env = [(false, eval e X.env)] := by rfl) (hbase : attributeBase o "startswith" X.env (eval o X.env) = eval o X.env := by rfl) (hline : (apos.endLine == pos.line) = true := by rfl) :
    PE X (.Call (.Attribute o "startswith" apos) [e] [] pos) (tM c (mStr1 startsD ma mb)) := by
  refine d_str1 F.slot_str_startswith F.type_str_startswith mt_startswith (fun σ F H env s x y dx dy d Q T rx ry e q => ?_) ho he hs hbase hline
  unfold startsD at e
  split at e
  · cases e; cases rep_str rx; cases rep_str ry
    exact ⟨_, _, rfl, rfl, q F H _ (Same.refl _) T rfl⟩
  · cases e
def partitionD : D → D → Option D
  | .str a, .str b => if b.length ≠ 0 ∧ a.length ≤ sizeLine then some (.tup [.str (Txt.partition a b).1, .str (Txt.partition a b).2.1, .str (Txt.partition a b).2.2]) else none
  | _, _ => none
theorem d_partition (ho : PE X o (tM c ma)) (he : PE X e (tM c mb)) (hs : starEach [e] X.env = [(false, eval e X.env)] := by rfl) (hbase : attributeBase o "partition" X.env (eval o X.env) = eval o X.env := by rfl) (hline : (apos.endLine == pos.line) = true := by rfl) :
    PE X (.Call (.Attribute o "partition" apos) [e] [] pos) (tM c (mStr1 partitionD ma mb)) := by
  refine d_str1 F.slot_str_partition F.type_str_partition mt_partition (fun σ F H env s x y dx dy d Q T rx ry e q => ?_) ho he hs hbase hline
  unfold partitionD at e
  split at e
  · split at e
    · rename_i hl
      cases e; cases rep_str rx; cases rep_str ry
      refine ⟨_, _, rfl, rfl, beq_eq_false_iff_ne.mpr hl.1, hl.2, fun p np => ?_⟩
      refine q _ _ _ (same_upd (T.ff np)) (T.new np (fun ps z => by cases z)) ⟨p, _, rfl, SqT.of upd_same, _, _, rfl, rfl, _, _, rfl, rfl, _, _, rfl, rfl, rfl⟩
    · cases e
  · cases e
/-- s.index(t), t stands there -/
def indexD : D → D → Option D
  | .str a, .str b => (Txt.index0 a b).map fun (k : Nat) => .int (k : Int)
  | _, _ => none
theorem d_index (hk : c.C.K = X.K) (hc : X.calm = true) (tk : Takes X c.W) (ho : PE X o (tM c ma)) (he : PE X e (tM c mb)) (hs : starEach [e] X.env = (false, eval e X.env) :: starEach [] X.env := by rfl) (hbase : attributeBase o "index" X.env (eval o X.env) = eval o X.env := by rfl) (hline : (apos.endLine == pos.line) = true := by rfl)
    (hfew : ((backTo pos (starEach [e] X.env)).all (fun x => !x.1) && (backToKw pos (keywordEach [] X.env)).all (fun x => x.1.isSome) && decide ([e].length + ([] : List Keyword).length + (if ([] : List Keyword).isEmpty then 0 else 1) < 30)) = true := by rfl) (hplain : (backTo pos (starEach [] X.env)).any (·.1) = false := by rfl) :
    PE X (.Call (.Attribute o "index" apos) [e] [] pos) (tM c (mStr1 indexD ma mb)) := by
  refine PEimp (pe_bmS PySem.F.plainAttrs_str PySem.F.slot_str_index PySem.F.type_str_index (mt_indexX hc tk) ho (a_cons he a_nil hs) hbase hfew hline hs hplain) fun σ H Q h => ?_
  refine tM_bind h fun dx s1 F1 H1 x env T1 rx q => ?_
  cases dx with
  | str z =>
    have q : Fin c F1 σ env (bindM mb (fun y => optM (indexD (.str z) y)) env s1) _ := q
    cases rep_str rx
    have q' : Fin c F1 σ env (consM mb (retM []) env s1) (fun ds s2 F2 H2 => ∀ vs, Reps c.C F2 ds vs → rIndexX c.W σ (.str z) vs H2 Q) := by
      unfold consM bindM retM
      unfold bindM at q
      cases r : mb env s1 with
      | exc k fs s' => rw [r] at q; exact q
      | bad => rw [r] at q; exact q
      | ok p =>
        rw [r] at q
        intro F2 H2 e2 T2 vs rvs
        obtain ⟨y, rfl, ry⟩ := reps1 rvs
        have q2 := Fin.same q e2
        obtain ⟨d, e, q3⟩ := q2.opt T2
        unfold indexD at e
        split at e
        · rename_i a b e1 e2
          cases e1
          rw [e2] at ry
          cases rep_str ry
          cases w : Txt.index0 z b with
          | none => rw [w] at e; cases e
          | some k =>
            rw [w] at e; cases e
            refine ⟨z, b, rfl, rfl, fun k' e' => ?_, fun e' => ?_⟩
            · cases w.symm.trans e'
              exact q3 F2 H2 (Same.refl _) T2 _ rfl
            · rw [w] at e'; cases e'
        · cases e
    exact ⟨by first | trivial | rfl | exact ⟨_, rfl⟩, F1, env, s1, T1, q'⟩
  | _ => exact q.elim
end
end DL
set_option Elab.async false
set_option linter.all false
set_option maxRecDepth 100000
namespace DL
open PySem PySem.Spec PyProof.Rows L2
section
variable {S : Type} {C : DC} {I : SI S} {B : En} {F H F' H' : Hp} {σ : St} {env : Env} {s s' : S}
/-- the entry of a part that begins here -/
def En.at (B : En) (I : SI S) (F H : Hp) (σ : St) (env : Env) : En := ⟨F, H, (fun a => I.ex a ∨ ∃ i, OwnAt env σ i a), B.me⟩
theorem Stt.rebase (T : Stt C I B F H σ env s) : Stt C I (B.at I F H σ env) F H σ env s where
  sub := T.sub
  nt := T.nt
  inv := T.inv
  len := T.len
  sl := T.sl
  dj := T.dj
  ni := T.ni
  fr := fun _ _ e _ _ => e
  f0 := Same.refl _
  nw := fun a o e n => by rw [show F a = none from n] at e; cases e
  tb := T.tb
  al := fun _ n => n
  ie := fun _ h => .inl h
  oe := fun i a h => .inr (.inr ⟨i, h⟩)
theorem Stt.back {σ' : St} {env' : Env} (T : Stt C I B F H σ env s) (U : Stt C I (B.at I F H σ env) F' H' σ' env' s') (ho : ∀ i a, OwnAt env' σ' i a → B.H0 a = none ∨ B.ex a) : Stt C I B F' H' σ' env' s' where
  sub := U.sub
  nt := U.nt
  inv := U.inv
  len := U.len
  sl := U.sl
  dj := U.dj
  ni := U.ni
  fr := fun a o e n1 n2 => U.fr a o (T.fr a o e n1 n2) (fun z => by
    rcases z with z | ⟨i, z⟩
    · exact n1 (T.ie a z)
    · rcases T.oe i a z with q | q
      · rw [q] at e; cases e
      · exact n1 q) n2
  f0 := T.f0.trans U.f0
  nw := fun a o e n => by
    cases q : F a with
    | some o' => exact T.nw a o' q n
    | none =>
      have z := U.nw a o e q
      cases w : B.H0 a with
      | none => rfl
      | some o2 => exact absurd z (T.al a (by rw [w]; simp))
  tb := U.tb
  al := fun a n => U.al a (T.al a n)
  ie := T.ie
  oe := ho
/-- behind a call: its end, told from its entry -/
theorem Stt.after (T : Stt C I B F H σ env s) {ex : Addr → Prop} {me : Me} (hex : ∀ a, ex a → I.ex a ∨ (B.H0 a = none ∧ ∀ i, ¬ OwnAt env σ i a)) (A : Stt C I ⟨F, H, ex, me⟩ F' H' [] [] s') : Stt C I B F' H' σ env s' where
  sub := A.sub
  nt := A.nt
  inv := A.inv
  len := T.len
  sl := fun i x e => (T.sl i x e).keep A.f0 fun a h1 h2 => by
    have q : OwnAt env σ i a := ⟨x, e, h2, h1⟩
    obtain ⟨k1, k2, k3⟩ := T.own_there q
    cases w : H a with
    | none => exact absurd w k2
    | some o =>
      have e2 := A.fr a o w (fun z => (hex a z).elim (T.ni i a q) fun w => w.2 i q) (fun ps z => k3 ps (by rw [w, z]))
      refine ⟨?_, e2⟩
      cases z : F' a with
      | none => rfl
      | some o' =>
        have z2 := A.nw a o' z k1
        rw [show H a = none from z2] at w; cases w
  dj := T.dj
  ni := T.ni
  fr := fun a o e n1 n2 => A.fr a o (T.fr a o e n1 n2) (fun z => (hex a z).elim (fun w => n1 (T.ie a w)) fun w => by rw [w.1] at e; cases e) n2
  f0 := T.f0.trans A.f0
  nw := fun a o e n => by
    cases q : F a with
    | some o' => exact T.nw a o' q n
    | none =>
      have z : H a = none := A.nw a o e q
      cases w : B.H0 a with
      | none => rfl
      | some o2 => exact absurd z (T.al a (by rw [w]; simp))
  tb := A.tb
  al := fun a n => A.al a (T.al a n)
  ie := T.ie
  oe := T.oe
/-- a written object of ours is closed: it is read only from now on -/
theorem Stt.freeze (T : Stt C I B F H σ env s) {p : Addr} {o : HO} (hp : H p = some o) (hf : F p = none) (ho : ∀ ps, o ≠ .tbl ps) (hi : ¬ I.ex p) (hn : ∀ i, ¬ OwnAt env σ i p) (h0 : B.H0 p = none) : Stt C I B (upd F p o) H σ env s where
  sub := fun a u e => by
    by_cases z : a = p
    · subst z; rw [upd_same] at e; cases e; exact hp
    · rw [upd_ne z] at e; exact T.sub a u e
  nt := noTbl_upd T.nt ho
  inv := I.mono T.inv (same_upd hf) fun a ha => ⟨upd_ne fun z => hi (z ▸ ha), rfl⟩
  len := T.len
  sl := fun i x e => (T.sl i x e).keep (same_upd hf) fun a h1 h2 => by
    have q : OwnAt env σ i a := ⟨x, e, h2, h1⟩
    obtain ⟨k1, k2, k3⟩ := T.own_there q
    rw [upd_ne (fun z => by subst z; exact hn i q)]
    exact ⟨k1, rfl⟩
  dj := T.dj
  ni := T.ni
  fr := T.fr
  f0 := T.f0.trans (same_upd hf)
  nw := fun a u e n => by
    by_cases z : a = p
    · subst z; exact h0
    · rw [upd_ne z] at e; exact T.nw a u e n
  tb := T.tb
  al := T.al
  ie := T.ie
  oe := T.oe
/-- the entry of a def -/
theorem Stt.start {ds : List D} {vs : List V} {ex : Addr → Prop} {me : Me} {k : Nat} (hs : Same F H) (hn : NoTbl F) (hi : I.inv s F H) (ht : LamX.Tabs C.T H) (hr : Reps C F ds vs) (hex : ∀ a, I.ex a → ex a) :
    Stt C I ⟨F, H, ex, me⟩ F H (vs.map some ++ List.replicate k none) (ds.map Slot.d ++ List.replicate k Slot.no) s where
  sub := hs
  nt := hn
  inv := hi
  len := by simp [hr.length]
  sl := fun i x e => by
    by_cases h : i < ds.length
    · have h2 : i < vs.length := by rw [hr.length]; exact h
      rw [List.getElem?_append_left (by simpa using h)] at e
      rw [List.getElem?_append_left (by simpa using h2)]
      rw [List.getElem?_map] at e ⊢
      cases q : ds[i]? with
      | none => rw [q] at e; cases e
      | some d =>
        rw [q] at e; cases e
        obtain ⟨v, a, b⟩ := hr.get q
        rw [a]
        exact ⟨v, rfl, b⟩
    · rw [List.getElem?_append_right (by simpa using h), List.getElem?_replicate] at e
      split at e
      · cases e; trivial
      · cases e
  dj := fun i j a _ h => by
    exfalso
    obtain ⟨x, e, o, _⟩ := h
    by_cases h : i < ds.length
    · rw [List.getElem?_append_left (by simpa using h), List.getElem?_map] at e
      cases q : ds[i]? with
      | none => rw [q] at e; cases e
      | some d => rw [q] at e; cases e; cases o
    · rw [List.getElem?_append_right (by simpa using h), List.getElem?_replicate] at e
      split at e
      · cases e; cases o
      · cases e
  ni := fun i a h => by
    exfalso
    obtain ⟨x, e, o, _⟩ := h
    by_cases h : i < ds.length
    · rw [List.getElem?_append_left (by simpa using h), List.getElem?_map] at e
      cases q : ds[i]? with
      | none => rw [q] at e; cases e
      | some d => rw [q] at e; cases e; cases o
    · rw [List.getElem?_append_right (by simpa using h), List.getElem?_replicate] at e
      split at e
      · cases e; cases o
      · cases e
  fr := fun _ _ e _ _ => e
  f0 := Same.refl _
  nw := fun a o e n => by rw [show F a = none from n] at e; cases e
  tb := ht
  al := fun _ n => n
  ie := hex
  oe := fun i a h => by
    exfalso
    obtain ⟨x, e, o, _⟩ := h
    by_cases h : i < ds.length
    · rw [List.getElem?_append_left (by simpa using h), List.getElem?_map] at e
      cases q : ds[i]? with
      | none => rw [q] at e; cases e
      | some d => rw [q] at e; cases e; cases o
    · rw [List.getElem?_append_right (by simpa using h), List.getElem?_replicate] at e
      split at e
      · cases e; cases o
      · cases e
/-- a slot forgotten -/
theorem Stt.wipe (T : Stt C I B F H σ env s) {i : Nat} {v : Option V} : Stt C I B F H (σ.set i v) (env.set i .no) s where
  sub := T.sub
  nt := T.nt
  inv := T.inv
  len := by rw [List.length_set, List.length_set]; exact T.len
  sl := fun j x e => by
    by_cases z : j = i
    · subst z
      have h1 : j < env.length := by
        have := (List.getElem?_eq_some_iff.mp e).1
        simpa using this
      rw [List.getElem?_set_self h1] at e
      cases e
      trivial
    · rw [List.getElem?_set_ne (Ne.symm z)] at e ⊢
      exact T.sl j x e
  dj := fun j k a n h1 h2 => by
    rcases ownAt_set T.len h1 with ⟨_, z, _⟩ | ⟨_, h1⟩
    · cases z
    rcases ownAt_set T.len h2 with ⟨_, z, _⟩ | ⟨_, h2⟩
    · cases z
    exact T.dj j k a n h1 h2
  ni := fun j a h1 => by
    rcases ownAt_set T.len h1 with ⟨_, z, _⟩ | ⟨_, h1⟩
    · cases z
    exact T.ni j a h1
  fr := T.fr
  f0 := T.f0
  nw := T.nw
  tb := T.tb
  al := T.al
  ie := T.ie
  oe := fun j a h1 => by
    rcases ownAt_set T.len h1 with ⟨_, z, _⟩ | ⟨_, h1⟩
    · cases z
    exact T.oe j a h1
end
def FinS {S : Type} (c : Ct S) (F : Hp) (r : R (Out × S) (Env × S)) (D : Ends) : Prop :=
  match r with
  | .ok (.nx env', s') => ∀ σ' F' H', Same F F' → Stt c.C c.I c.B F' H' σ' env' s' → D.nx σ' H'
  | .ok (.rt d, s') => ∀ v σ' env' F' H', Same F F' → Stt c.C c.I c.B F' H' σ' env' s' → Rep c.C F' d v → D.rt v H'
  | .ok (.bk env', s') => ∀ σ' F' H', Same F F' → Stt c.C c.I c.B F' H' σ' env' s' → D.bk σ' H'
  | .ok (.ct env', s') => ∀ σ' F' H', Same F F' → Stt c.C c.I c.B F' H' σ' env' s' → D.ct σ' H'
  | .exc k fs (env', s') => ∀ cls dd σ' F' H', Same F F' → Stt c.C c.I c.B F' H' σ' env' s' → ExR c.C F' H' k fs cls dd → c.W cls dd σ' H'
  | .bad => False
theorem FinS.same {S : Type} {c : Ct S} {F F1 : Hp} {r : R (Out × S) (Env × S)} {D : Ends} (h : FinS c F r D) (e : Same F F1) : FinS c F1 r D := by
  cases r with
  | ok a =>
    obtain ⟨o, s'⟩ := a
    cases o with
    | nx env' => exact fun σ' F' H' x => h σ' F' H' (e.trans x)
    | rt d => exact fun v σ' env' F' H' x => h v σ' env' F' H' (e.trans x)
    | bk env' => exact fun σ' F' H' x => h σ' F' H' (e.trans x)
    | ct env' => exact fun σ' F' H' x => h σ' F' H' (e.trans x)
  | exc k fs p => exact fun cls dd σ' F' H' x => h cls dd σ' F' H' (e.trans x)
  | bad => exact h
def tS {S : Type} (c : Ct S) (m : MS S) : TS := fun D σ H => ∃ F env s, Stt c.C c.I c.B F H σ env s ∧ FinS c F (m env s) D
theorem PSimp {X : Cx} {st : Stmt} {t t' : TS} (h : PS X st t) (k : ∀ D σ H, t' D σ H → t D σ H) : PS X st t' := ⟨fun pins s σ H D I q => h.run pins s σ H D I (k D σ H q)⟩
theorem PSsimp {X : Cx} {st : List Stmt} {t t' : TS} (h : PSs X st t) (k : ∀ D σ H, t' D σ H → t D σ H) : PSs X st t' := ⟨fun pins s σ H D I q => h.run pins s σ H D I (k D σ H q)⟩
/-- an expression's outcome, then a statement's -/
def thenS {S α : Type} (m : M S α) (f : α → MS S) : MS S := fun env s => match m env s with
  | .ok (a, s') => f a env s'
  | .exc k fs s' => .exc k fs (env, s')
  | .bad => .bad
theorem FinS.bind {S α : Type} {c : Ct S} {F : Hp} {σ : St} {env : Env} {s : S} {m : M S α} {f : α → MS S} {D : Ends} (h : FinS c F (thenS m f env s) D) : Fin c F σ env (m env s) fun a s1 F1 _ => FinS c F1 (f a env s1) D := by
  unfold thenS at h
  cases e : m env s with
  | ok a =>
    rw [e] at h
    exact fun F' H' x _ => FinS.same h x
  | exc k fs s' =>
    rw [e] at h
    exact fun cls dd F' H' x T r => h cls dd σ F' H' x T r
  | bad =>
    rw [e] at h
    exact h
section
variable {S : Type} {c : Ct S} {X : Cx} {a b e o : Expr} {es rest : List Expr} {st : Stmt} {sts : List Stmt} {pos : Pos} {ma mb : M S D} {m : M S D} {ms : M S (List D)} {m1' m2' : MS S}
def nextS : MS S := fun env s => .ok (.nx env, s)
def seqS (m1 m2 : MS S) : MS S := fun env s => match m1 env s with
  | .ok (.nx env', s') => m2 env' s'
  | r => r
theorem ss_nil : PSs X [] (tS c nextS) := PSsimp pss_nil fun D σ H h => by
  obtain ⟨F, env, s, T, h⟩ := h
  exact h σ F H (Same.refl _) T
theorem ss_cons (h1 : PS X st (tS c m1')) (h2 : PSs X sts (tS c m2')) : PSs X (st :: sts) (tS c (seqS m1' m2')) := by
  refine PSsimp (pss_cons h1 h2) fun D σ H h => ?_
  obtain ⟨F, env, s, T, h⟩ := h
  refine ⟨F, env, s, T, ?_⟩
  unfold seqS at h
  cases q : m1' env s with
  | ok a =>
    obtain ⟨o, s'⟩ := a
    rw [q] at h
    cases o with
    | nx env' => exact fun σ' F' H' x T' => ⟨F', env', s', T', h.same x⟩
    | rt d => exact h
    | bk env' => exact h
    | ct env' => exact h
  | exc k fs p => rw [q] at h; exact h
  | bad => rw [q] at h; exact h
theorem ss_one (h1 : PS X st (tS c m1')) : PSs X [st] (tS c m1') := pss_one h1
def exprS (m : M S D) : MS S := thenS m fun _ => nextS
theorem s_expr (he : PE X e (tM c m)) (hs : swapsWith e none pos.line X.env = pure false := by rfl) : PS X (.Expr e pos) (tS c (exprS m)) := by
  refine PSimp (ps_expr he hs) fun D σ H h => ?_
  obtain ⟨F, env, s, T, h⟩ := h
  exact ⟨F, env, s, T, h.bind.imp fun d s1 F1 H1 e1 T1 q v _ => q σ F1 H1 (Same.refl _) T1⟩
theorem s_pass : PS X (.Pass pos) (tS c nextS) := PSimp ps_pass fun D σ H h => by
  obtain ⟨F, env, s, T, h⟩ := h
  exact h σ F H (Same.refl _) T
def breakS : MS S := fun env s => .ok (.bk env, s)
def contS : MS S := fun env s => .ok (.ct env, s)
theorem s_break : PS X (.Break pos) (tS c breakS) := PSimp ps_break fun D σ H h => by
  obtain ⟨F, env, s, T, h⟩ := h
  exact h σ F H (Same.refl _) T
theorem s_continue : PS X (.Continue pos) (tS c contS) := PSimp ps_continue fun D σ H h => by
  obtain ⟨F, env, s, T, h⟩ := h
  exact h σ F H (Same.refl _) T
def retS (m : M S D) : MS S := thenS m fun d => fun _ s => .ok (.rt d, s)
theorem s_ret (he : PE X e (tM c m)) : PS X (.Return (some e) pos) (tS c (retS m)) := by
  refine PSimp (ps_ret he) fun D σ H h => ?_
  obtain ⟨F, env, s, T, h⟩ := h
  exact ⟨F, env, s, T, h.bind.imp fun d s1 F1 H1 e1 T1 q v rv => q v σ env F1 H1 (Same.refl _) T1 rv⟩
theorem s_retN : PS X (.Return none pos) (tS c (retS (retM .non))) := PSimp ps_retN fun D σ H h => by
  obtain ⟨F, env, s, T, h⟩ := h
  exact h _ σ env F H (Same.refl _) T rfl
def ifS (t : M S Bool) (m1 m2 : MS S) : MS S := thenS t fun k => if k = true then m1 else m2
theorem s_if {t : Expr} {p q : List Stmt} {mt : M S Bool} (ht : PT X t (tT c mt)) (h1 : PSs X p (tS c m1')) (h2 : PSs X q (tS c m2')) : PS X (.If t p q pos) (tS c (ifS mt m1' m2')) := by
  refine PSimp (ps_if ht h1 h2) fun D σ H h => ?_
  obtain ⟨F, env, s, T, h⟩ := h
  refine ⟨F, env, s, T, h.bind.imp fun k s1 F1 H1 e1 T1 q => ?_⟩
  cases k with
  | true => exact (if_pos rfl).mpr ⟨F1, env, s1, T1, q⟩
  | false => exact (if_neg Bool.false_ne_true).mpr ⟨F1, env, s1, T1, q⟩
def setS (i : Nat) (m : M S D) : MS S := thenS m fun d => fun env s => .ok (.nx (env.set i (.d d)), s)
theorem s_set {i : Nat} {x : Str} {p : Pos} (hN : X.N.Nodup) (he : PE X e (tM c m)) (hi : X.N[i]? = some x := by rfl) (hx : Loc X.env.scope x := by first | exact Or.inl rfl | exact Or.inr rfl) (hs : swapsWith e (some (.Name x p)) pos.line X.env = pure false := by rfl) (hf : X.fn x = true ∨ X.env.scope.names.lookup x = some .local := by first | exact .inl rfl | exact .inr rfl) :
    PS X (.Assign [.Name x p] e pos) (tS c (setS i m)) := by
  refine PSimp (ps_set hN hi hx he hs hf) fun D σ H h => ?_
  obtain ⟨F, env, s, T, h⟩ := h
  exact ⟨F, env, s, T, h.bind.imp fun d s1 F1 H1 e1 T1 q v rv => q _ F1 H1 (Same.refl _) (T1.setD rv)⟩
/-- a, b = e1, e2 -/
def parS (i j : Nat) (ms : M S (List D)) : MS S := thenS ms fun ds => fun env s => match ds with
  | [x, y] => .ok (.nx ((env.set i (.d x)).set j (.d y)), s)
  | _ => .bad
theorem s_par {i j : Nat} {x y : Str} {px py pt : Pos} {kt k2 pt2} (hc : X.calm = true) (hN : X.N.Nodup) (ha : PA X [a, b] (tA c ms)) (hi : X.N[i]? = some x := by rfl) (hj : X.N[j]? = some y := by rfl) (hij : i ≠ j := by decide)
    (hx : X.env.scope.names.lookup x = some .local := by rfl) (hy : X.env.scope.names.lookup y = some .local := by rfl)
    (hw : swappedStores [.Tuple [.Name x px, .Name y py] kt pt] (.Tuple [a, b] k2 pt2) X.env = pure (some [x, y]) := by rfl)
    (hs : swapsWithSole [.Tuple [.Name x px, .Name y py] kt pt] (.Tuple [a, b] k2 pt2) pos.line X.env = pure false := by rfl) :
    PS X (.Assign [.Tuple [.Name x px, .Name y py] kt pt] (.Tuple [a, b] k2 pt2) pos) (tS c (parS i j ms)) := by
  refine PSimp (ps_par hc hN hi hj hij hx hy ha hw hs) fun D σ H h => ?_
  obtain ⟨F, env, s, T, h⟩ := h
  refine ⟨F, env, s, T, h.bind.imp fun ds s1 F1 H1 e1 T1 q vs rvs => ?_⟩
  match ds, q, rvs with
  | [x, y], q, rvs =>
    obtain ⟨v, v', rfl, r1, r2⟩ := reps2 rvs
    exact ⟨v, v', rfl, q _ F1 H1 (Same.refl _) ((T1.setD r1).setD r2)⟩
  | [], q, _ => exact q.elim
  | [_], q, _ => exact q.elim
  | _ :: _ :: _ :: _, q, _ => exact q.elim
inductive Tg where
  | nm (i : Nat) | tp (is : List Nat)
def gNames : List Nat → TGs
  | [] => gNil
  | i :: is => gCons (gName i) (gNames is)
def gT (K : PySem.W.Frag) : Tg → TG
  | .nm i => gName i
  | .tp is => gTup K is.length (gNames is)
def setAll : List Nat → List D → Env → Env
  | i :: is, d :: ds, env => setAll is ds (env.set i (.d d))
  | _, _, env => env
def assignT : Tg → D → Env → Option Env
  | .nm i, d, env => some (env.set i (.d d))
  | .tp is, .tup ds, env => if ds.length = is.length then some (setAll is ds env) else none
  | .tp _, _, _ => none
theorem names_set {F H : Hp} {Q : St → Hp → Prop} : ∀ {is : List Nat} {ds : List D} {vs : List V} {σ : St} {env : Env} {s : S}, ds.length = is.length → Reps c.C F ds vs → Stt c.C c.I c.B F H σ env s →
    (∀ σ', Stt c.C c.I c.B F H σ' (setAll is ds env) s → Q σ' H) → gNames is vs σ H Q
  | [], [], _, σ, env, s, _, r, T, q => by cases (show _ = [] from r); exact ⟨rfl, q σ T⟩
  | i :: is, d :: ds, _, σ, env, s, hl, ⟨v, w, h1, h2, h3⟩, T, q => by
    subst h1
    exact ⟨v, w, rfl, names_set (by simpa using hl) h3 (T.setD h2) q⟩
theorem tg_set {F H : Hp} {Q : St → Hp → Prop} {tg : Tg} {d : D} {v : V} {σ : St} {env env' : Env} {s : S} (T : Stt c.C c.I c.B F H σ env s) (r : Rep c.C F d v) (e : assignT tg d env = some env')
    (q : ∀ σ', Stt c.C c.I c.B F H σ' env' s → Q σ' H) : gT c.C.K tg v σ H Q := by
  cases tg with
  | nm i => cases e; exact q _ (T.setD r)
  | tp is =>
    cases d with
    | tup ds =>
      simp only [assignT] at e
      split at e
      · rename_i hl
        cases e
        obtain ⟨a, vs, h1, h2, h3⟩ := r
        exact ⟨a, vs, h1, sqT_same T.sub h2, h3.length.trans hl, names_set hl h3 T q⟩
      · cases e
    | _ => cases e
theorem g_name {i : Nat} {x : Str} (hN : X.N.Nodup) (hi : X.N[i]? = some x := by rfl) (hx : Loc X.env.scope x := by first | exact Or.inl rfl | exact Or.inr rfl) (hf : X.fn x = true ∨ X.env.scope.names.lookup x = some .local := by first | exact .inl rfl | exact .inr rfl) : PG X (.Name x pos) (gT c.C.K (.nm i)) := pg_name hN hi hx hf
theorem g_nil : PGs X [] (gNames []) := pgs_nil
theorem g_cons {x : Expr} {es : List Expr} {i : Nat} {is : List Nat} (h1 : PG X x (gName i)) (h2 : PGs X es (gNames is)) (hs : (assignEach (x :: es) X.env).map (·.2) = assign x X.env :: (assignEach es X.env).map (·.2) := by rfl) : PGs X (x :: es) (gNames (i :: is)) := pgs_cons h1 h2 hs
theorem g_tup {es : List Expr} {k : Nat} {is : List Nat} (hk : c.C.K = X.K) (hc : X.calm = true) (h : PGs X es (gNames is)) (hn : (assignEach es X.env).length = is.length := by rfl) (hst : (assignEach es X.env).findIdx? (·.1) = none := by rfl) : PG X (.Tuple es k pos) (gT c.C.K (.tp is)) := by
  rw [hk]; exact pg_tup hc h hn hst
/-- targets = e, any form of gT -/
def asgS (tg : Tg) (m : M S D) : MS S := thenS m fun d => fun env s => match assignT tg d env with
  | some env' => .ok (.nx env', s)
  | none => .bad
theorem s_asg {t : Expr} {tg : Tg} (he : PE X e (tM c m)) (hg : PG X t (gT c.C.K tg)) (hs : swapsWithSole [t] e pos.line X.env = pure false := by rfl) (hw : swappedStores [t] e X.env = pure none := by rfl)
    (h1 : (assignEach [t] X.env).map (·.2) = [assign t X.env] := by rfl) : PS X (.Assign [t] e pos) (tS c (asgS tg m)) := by
  refine PSimp (ps_asg he hg hs hw h1) fun D σ H h => ?_
  obtain ⟨F, env, s, T, h⟩ := h
  refine ⟨F, env, s, T, h.bind.imp fun d s1 F1 H1 e1 T1 q v rv => ?_⟩
  cases z : assignT tg d env with
  | none =>
    rw [z] at q; exact q.elim
  | some env' =>
    rw [z] at q
    exact tg_set T1 rv z fun σ' T' => q σ' F1 H1 (Same.refl _) T'
end
end DL
set_option Elab.async false
set_option linter.all false
set_option maxRecDepth 100000
namespace DL
open PySem PySem.Spec PyProof.Rows L2
/-- an iterator yields the trees ds -/
structure JOk (C : DC) (J : It) (F : Hp) (ds : List D) : Prop where
  go : ∀ i F' H, Same F F' → Same F' H → i < ds.length → J.go i H
  yl : ∀ i F' H x H' d, Same F F' → Same F' H → ds[i]? = some d → J.yld i H x H' → (H' = H ∧ Rep C F' d x) ∨ ∃ p o, H p = none ∧ (∀ ps, o ≠ .tbl ps) ∧ H' = upd H p o ∧ Rep C (upd F' p o) d x
  stop : ∀ i F' H, Same F F' → Same F' H → ds.length ≤ i → J.stop i H
theorem JOk.same {C : DC} {J : It} {F F1 : Hp} {ds : List D} (h : JOk C J F ds) (e : Same F F1) : JOk C J F1 ds :=
  ⟨fun i F' H a b => h.go i F' H (e.trans a) b, fun i F' H x H' d a b => h.yl i F' H x H' d (e.trans a) b, fun i F' H a b => h.stop i F' H (e.trans a) b⟩
section
variable {S : Type} {c : Ct S} {X : Cx} {a b e o iter tg : Expr} {es rest : List Expr} {st : Stmt} {sts body : List Stmt} {pos : Pos} {ma mb : M S D} {m : M S D} {ms mi : M S (List D)} {m1' m2' : MS S}
def tI (c : Ct S) (m : M S (List D)) : TI := fun σ H R => ∃ F env s, Stt c.C c.I c.B F H σ env s ∧ Fin c F σ env (m env s) fun ds _ F' H' => ∀ J, JOk c.C J F' ds → R J H'
theorem PIimp {wi wi' : TI} (h : PI X tg e wi) (k : ∀ σ H R, wi' σ H R → wi σ H R) : PI X tg e wi' := ⟨fun pins s σ H R I q => h.run pins s σ H R I (k σ H R q)⟩
theorem jok_list {C : DC} {K : PySem.W.Frag} (hk : C.K = K) {F : Hp} {a : Addr} {vs : List V} {ds : List D} (h : SqL K F a vs) (r : Reps C F ds vs) : JOk C (Itl K a) F ds where
  go := fun i F' H e1 e2 hi => by
    obtain ⟨v, hv, _⟩ := r.get (List.getElem?_eq_getElem hi)
    exact ⟨vs, v, e2.seq (e1.seq h), hv⟩
  yl := fun i F' H x H' d e1 e2 hd y => by
    obtain ⟨rfl, y⟩ := y
    obtain ⟨v, hv, rv⟩ := r.get hd
    have z := y vs (e2.seq (e1.seq h))
    rw [hv] at z; cases z
    exact .inl ⟨rfl, rv.mono e1⟩
  stop := fun i F' H e1 e2 hi => ⟨vs, e2.seq (e1.seq h), by rw [r.length]; exact hi⟩
theorem jok_tup {C : DC} {K : PySem.W.Frag} (hk : C.K = K) {F : Hp} {a : Addr} {vs : List V} {ds : List D} (h : SqT K F a vs) (r : Reps C F ds vs) : JOk C (Itt K a) F ds where
  go := fun i F' H e1 e2 hi => by
    obtain ⟨v, hv, _⟩ := r.get (List.getElem?_eq_getElem hi)
    exact ⟨vs, v, sqT_same e2 (sqT_same e1 h), hv⟩
  yl := fun i F' H x H' d e1 e2 hd y => by
    obtain ⟨rfl, y⟩ := y
    obtain ⟨v, hv, rv⟩ := r.get hd
    have z := y vs (sqT_same e2 (sqT_same e1 h))
    rw [hv] at z; cases z
    exact .inl ⟨rfl, rv.mono e1⟩
  stop := fun i F' H e1 e2 hi => ⟨vs, sqT_same e2 (sqT_same e1 h), by rw [r.length]; exact hi⟩
def rangeL (lo : Int) (n : Nat) : List D := (List.range n).map fun i : Nat => D.int (lo + (i : Int))
theorem jok_range {C : DC} {F : Hp} {lo : Int} {n : Nat} : JOk C (Itr lo n) F (rangeL lo n) where
  go := fun i F' H _ _ hi => by show i < n; simpa [rangeL] using hi
  yl := fun i F' H x H' d _ _ hd y => by
    obtain ⟨rfl, rfl⟩ := y
    simp only [rangeL, List.getElem?_map] at hd
    cases q : (List.range n)[i]? with
    | none => rw [q] at hd; cases hd
    | some j =>
      rw [q] at hd; cases hd
      have : j = i := by
        have := List.getElem?_eq_some_iff.mp q
        obtain ⟨h1, h2⟩ := this
        simpa using h2.symm
      subst this
      exact .inl ⟨rfl, rfl⟩
  stop := fun i F' H _ _ hi => by show n ≤ i; simpa [rangeL] using hi
def signsL (x : Str) : List D := x.cps.toList.map fun k => D.str ⟨#[k]⟩
theorem jok_str {C : DC} {F : Hp} {x : Str} : JOk C (Its x) F (signsL x) where
  go := fun i F' H _ _ hi => by show i < x.cps.size; simpa [signsL] using hi
  yl := fun i F' H v H' d _ _ hd y => by
    obtain ⟨rfl, k, hk, rfl⟩ := y
    simp only [signsL, List.getElem?_map, Array.getElem?_toList, hk] at hd
    cases hd
    exact .inl ⟨rfl, rfl⟩
  stop := fun i F' H _ _ hi => by show x.cps.size ≤ i; simpa [signsL] using hi
def lstOf : D → Option (List D)
  | .lst xs => some xs
  | _ => none
def tupOf : D → Option (List D)
  | .tup xs => some xs
  | _ => none
def strOf : D → Option (List D)
  | .str x => some (signsL x)
  | _ => none
def itM (f : D → Option (List D)) (m : M S D) : M S (List D) := bindM m fun d => optM (f d)
theorem i_list (hk : c.C.K = X.K) (he : PE X e (tM c m)) : PI X tg e (tI c (itM lstOf m)) := by
  refine PIimp (pi_list he) fun σ H R h => ?_
  obtain ⟨F, env, s, T, h⟩ := h
  refine ⟨F, env, s, T, h.bind.imp fun d s1 F1 H1 e1 T1 q v rv => ?_⟩
  obtain ⟨ds, e, q⟩ := q.opt T1
  unfold lstOf at e
  split at e
  · cases e
    obtain ⟨a, vs, h1, h2, h3⟩ := rv
    rw [hk] at h2
    exact ⟨a, h1, ⟨vs, T1.sub.seq h2⟩, q F1 H1 (Same.refl _) T1 _ (jok_list hk h2 h3)⟩
  · cases e
theorem i_tup (hk : c.C.K = X.K) (he : PE X e (tM c m)) : PI X tg e (tI c (itM tupOf m)) := by
  refine PIimp (pi_tup he) fun σ H R h => ?_
  obtain ⟨F, env, s, T, h⟩ := h
  refine ⟨F, env, s, T, h.bind.imp fun d s1 F1 H1 e1 T1 q v rv => ?_⟩
  obtain ⟨ds, e, q⟩ := q.opt T1
  unfold tupOf at e
  split at e
  · cases e
    obtain ⟨a, vs, h1, h2, h3⟩ := rv
    rw [hk] at h2
    exact ⟨a, h1, ⟨vs, sqT_same T1.sub h2⟩, q F1 H1 (Same.refl _) T1 _ (jok_tup hk h2 h3)⟩
  · cases e
theorem i_str (he : PE X e (tM c m)) : PI X tg e (tI c (itM strOf m)) := by
  refine PIimp (pi_str he) fun σ H R h => ?_
  obtain ⟨F, env, s, T, h⟩ := h
  refine ⟨F, env, s, T, h.bind.imp fun d s1 F1 H1 e1 T1 q v rv => ?_⟩
  obtain ⟨ds, e, q⟩ := q.opt T1
  unfold strOf at e
  split at e
  · cases e
    cases rep_str rv
    exact ⟨_, rfl, q F1 H1 (Same.refl _) T1 _ jok_str⟩
  · cases e
def rng1 : List D → Option (List D)
  | [.int j] => if -(2 ^ 62) ≤ j ∧ j < 2 ^ 62 then some (rangeL 0 j.toNat) else none
  | _ => none
def rng2 : List D → Option (List D)
  | [.int i, .int j] => if -(2 ^ 62) ≤ i ∧ i < 2 ^ 62 ∧ -(2 ^ 62) ≤ j ∧ j < 2 ^ 62 then some (rangeL i (j - i).toNat) else none
  | _ => none
def itA (f : List D → Option (List D)) (ms : M S (List D)) : M S (List D) := bindM ms fun ds => optM (f ds)
theorem i_range1 {p : Pos} (hm : X.mg "range" = none) (ha : PA X [a] (tA c ms)) (hg : Gl X "range" := by rfl) (hs : starEach [a] X.env = [(false, eval a X.env)] := by rfl) : PI X tg (.Call (.Name "range" p) [a] [] pos) (tI c (itA rng1 ms)) := by
  refine PIimp (pi_range1 hg hm ha hs) fun σ H R h => ?_
  obtain ⟨F, env, s, T, h⟩ := h
  refine ⟨F, env, s, T, h.bind.imp fun ds s1 F1 H1 e1 T1 q vs rvs => ?_⟩
  obtain ⟨is, e, q⟩ := q.opt T1
  unfold rng1 at e
  split at e
  · split at e
    · rename_i hl
      cases e
      obtain ⟨v, rfl, r⟩ := reps1 rvs
      cases rep_int r
      exact ⟨_, rfl, hl.1, hl.2, q F1 H1 (Same.refl _) T1 _ jok_range⟩
    · cases e
  · cases e
theorem i_range2 {p : Pos} (hm : X.mg "range" = none) (ha : PA X [a, b] (tA c ms)) (hg : Gl X "range" := by rfl) (hs : starEach [a, b] X.env = [(false, eval a X.env), (false, eval b X.env)] := by rfl) (hs2 : starEach [b] X.env = [(false, eval b X.env)] := by rfl) : PI X tg (.Call (.Name "range" p) [a, b] [] pos) (tI c (itA rng2 ms)) := by
  refine PIimp (pi_range2 hg hm ha hs hs2) fun σ H R h => ?_
  obtain ⟨F, env, s, T, h⟩ := h
  refine ⟨F, env, s, T, h.bind.imp fun ds s1 F1 H1 e1 T1 q vs rvs => ?_⟩
  obtain ⟨is, e, q⟩ := q.opt T1
  unfold rng2 at e
  split at e
  · split at e
    · rename_i hl
      cases e
      obtain ⟨v, v', rfl, r, r'⟩ := reps2 rvs
      cases rep_int r; cases rep_int r'
      exact ⟨_, _, rfl, hl, q F1 H1 (Same.refl _) T1 _ jok_range⟩
    · cases e
  · cases e
def forLoop (tg : Tg) (mb : MS S) : List D → MS S
  | [], env, s => .ok (.nx env, s)
  | d :: r, env, s => match assignT tg d env with
    | none => .bad
    | some env1 => match mb env1 s with
      | .ok (.nx e, s') => forLoop tg mb r e s'
      | .ok (.ct e, s') => forLoop tg mb r e s'
      | .ok (.bk e, s') => .ok (.nx e, s')
      | .ok (.rt d, s') => .ok (.rt d, s')
      | .exc k fs p => .exc k fs p
      | .bad => .bad
def forS (tg : Tg) (mi : M S (List D)) (mb : MS S) : MS S := thenS mi fun ds => forLoop tg mb ds
theorem s_for {mb : MS S} {g : Tg} (hp : PassesOwn (model X.prog X.w) X.A X.env X.xe) (hc : X.calm = true) (hi : PI X tg iter (tI c mi)) (hg : PG X tg (gT c.C.K g)) (hb : PSs X body (tS c mb))
    (hs : ∀ x, foldedSetIterable iter X.env x = pure x := by intro _; rfl) : PS X (.For tg iter body [] pos) (tS c (forS g mi mb)) := by
  refine PSimp (ps_for hp hc hi hg hb hs) fun D σ H h => ?_
  obtain ⟨F, env, s, T, h⟩ := h
  refine ⟨F, env, s, T, h.bind.imp fun ds s1 F1 H1 e1 T1 q J hJ => ?_⟩
  refine ⟨fun i m σ H => m = ds.length - i ∧ i ≤ ds.length ∧ ∃ F env s, Same F1 F ∧ Stt c.C c.I c.B F H σ env s ∧ FinS c F (forLoop g mb (ds.drop i) env s) D, ⟨ds.length, by simp, Nat.zero_le _, F1, env, s1, Same.refl _, T1, q⟩, ?_⟩
  rintro i m σ H ⟨rfl, hi, F2, env2, s2, e2, T2, q2⟩
  by_cases hlt : i < ds.length
  · have ed : ds.drop i = ds[i] :: ds.drop (i + 1) := List.drop_eq_getElem_cons hlt
    rw [ed] at q2
    unfold forLoop at q2
    refine .inr ⟨hJ.go i F2 H e2 T2.sub hlt, fun σ' H' => i + 1 ≤ ds.length ∧ ∃ F env s, Same F1 F ∧ Stt c.C c.I c.B F H' σ' env s ∧ FinS c F (forLoop g mb (ds.drop (i + 1)) env s) D, fun σ' H' ⟨k1, k2⟩ => ⟨ds.length - (i + 1), by omega, rfl, k1, k2⟩, fun x H' y => ?_⟩
    have body : ∀ F3 H3, Same F2 F3 → Stt c.C c.I c.B F3 H3 σ env2 s2 → Rep c.C F3 ds[i] x → gT c.C.K g x σ H3 fun σ2 H2 => tS c mb { D with nx := fun σ' H' => i + 1 ≤ ds.length ∧ ∃ F env s, Same F1 F ∧ Stt c.C c.I c.B F H' σ' env s ∧ FinS c F (forLoop g mb (ds.drop (i + 1)) env s) D, ct := fun σ' H' => i + 1 ≤ ds.length ∧ ∃ F env s, Same F1 F ∧ Stt c.C c.I c.B F H' σ' env s ∧ FinS c F (forLoop g mb (ds.drop (i + 1)) env s) D, bk := D.nx } σ2 H2 := by
      intro F3 H3 e3 T3 r3
      cases z : assignT g ds[i] env2 with
      | none => rw [z] at q2; exact q2.elim
      | some env3 =>
        rw [z] at q2
        refine tg_set T3 r3 z fun σ3 T4 => ⟨F3, env3, s2, T4, ?_⟩
        dsimp only at q2
        cases w : mb env3 s2 with
        | ok a =>
          obtain ⟨o, s'⟩ := a
          rw [w] at q2
          cases o with
          | nx e => exact fun σ' F' H' x T' => ⟨hlt, F', e, s', (e2.trans e3).trans x, T', q2.same (e3.trans x)⟩
          | ct e => exact fun σ' F' H' x T' => ⟨hlt, F', e, s', (e2.trans e3).trans x, T', q2.same (e3.trans x)⟩
          | bk e => exact fun σ' F' H' x T' => q2 σ' F' H' (e3.trans x) T'
          | rt d => exact fun v σ' env' F' H' x T' r => q2 v σ' env' F' H' (e3.trans x) T' r
        | exc k fs p =>
          rw [w] at q2
          exact fun cls dd σ' F' H' x T' r => q2 cls dd σ' F' H' (e3.trans x) T' r
        | bad => rw [w] at q2; exact q2
    rcases hJ.yl i F2 H x H' ds[i] e2 T2.sub (List.getElem?_eq_getElem hlt) y with ⟨rfl, r⟩ | ⟨p, o, hp', ho, rfl, r⟩
    · exact body F2 _ (Same.refl _) T2 r
    · exact body _ _ (same_upd (T2.ff hp')) (T2.new hp' ho) r
  · have e : i = ds.length := by omega
    subst e
    rw [List.drop_length] at q2
    exact .inl ⟨hJ.stop _ F2 H e2 T2.sub (Nat.le_refl _), q2 σ F2 H (Same.refl _) T2⟩
def whileN (t : M S Bool) (mb : MS S) : Nat → MS S
  | 0, _, _ => .bad
  | n + 1, env, s => match t env s with
    | .ok (false, s') => .ok (.nx env, s')
    | .ok (true, s') => match mb env s' with
      | .ok (.nx e, s2) => whileN t mb n e s2
      | .ok (.ct e, s2) => whileN t mb n e s2
      | .ok (.bk e, s2) => .ok (.nx e, s2)
      | .ok (.rt d, s2) => .ok (.rt d, s2)
      | .exc k fs p => .exc k fs p
      | .bad => .bad
    | .exc k fs s' => .exc k fs (env, s')
    | .bad => .bad
def whileS (fuel : Env → Nat) (t : M S Bool) (mb : MS S) : MS S := fun env s => whileN t mb (fuel env) env s
theorem s_while {t : Expr} {mt : M S Bool} {mb : MS S} {fuel : Env → Nat} (hp : PassesOwn (model X.prog X.w) X.A X.env X.xe) (ht : PT X t (tT c mt)) (hb : PSs X body (tS c mb)) : PS X (.While t body [] pos) (tS c (whileS fuel mt mb)) := by
  refine PSimp (ps_while hp ht hb) fun D σ H h => ?_
  obtain ⟨F, env, s, T, h⟩ := h
  refine ⟨fun m σ H => ∃ F env s, Stt c.C c.I c.B F H σ env s ∧ FinS c F (whileN mt mb m env s) D, ⟨_, F, env, s, T, h⟩, ?_⟩
  rintro m σ H ⟨F, env, s, T, h⟩
  cases m with
  | zero => exact h.elim
  | succ n =>
    unfold whileN at h
    refine ⟨F, env, s, T, ?_⟩
    cases w : mt env s with
    | bad => rw [w] at h; exact h
    | exc k fs s' =>
      rw [w] at h
      exact fun cls dd F' H' x T' r => h cls dd σ F' H' x T' r
    | ok a =>
      obtain ⟨k, s'⟩ := a
      rw [w] at h
      intro F1 H1 e1 T1
      cases k with
      | false => exact (if_neg Bool.false_ne_true).mpr (h σ F1 H1 e1 T1)
      | true =>
        refine (if_pos rfl).mpr ⟨fun σ' H' => ∃ F env s, Stt c.C c.I c.B F H' σ' env s ∧ FinS c F (whileN mt mb n env s) D, fun σ' H' q => ⟨n, Nat.lt_succ_self _, q⟩, F1, env, s', T1, ?_⟩
        dsimp only at h
        cases w2 : mb env s' with
        | ok a =>
          obtain ⟨o, s2⟩ := a
          rw [w2] at h
          cases o with
          | nx e => exact fun σ' F' H' x T' => ⟨F', e, s2, T', h.same (e1.trans x)⟩
          | ct e => exact fun σ' F' H' x T' => ⟨F', e, s2, T', h.same (e1.trans x)⟩
          | bk e => exact fun σ' F' H' x T' => h σ' F' H' (e1.trans x) T'
          | rt d => exact fun v σ' env' F' H' x T' r => h v σ' env' F' H' (e1.trans x) T' r
        | exc k fs p =>
          rw [w2] at h
          exact fun cls dd σ' F' H' x T' r => h cls dd σ' F' H' (e1.trans x) T' r
        | bad => rw [w2] at h; exact h
def wipeE (env : Env) : List Nat → Env
  | [] => env
  | v :: vs => (wipeE env vs).set v .no
theorem stt_wipe {F H : Hp} {σ : St} {env : Env} {s : S} {B : En} (T : Stt c.C c.I B F H σ env s) : ∀ vs : List Nat, Stt c.C c.I B F H (wipe σ vs) (wipeE env vs) s
  | [] => T
  | v :: vs => (stt_wipe T vs).wipe
def lcLoop (tg : Tg) (t : M S Bool) (m : M S D) : List D → List D → Env → S → R (List D × S) S
  | [], acc, _, s => .ok (acc, s)
  | d :: r, acc, env, s => match assignT tg d env with
    | none => .bad
    | some e1 => match t e1 s with
      | .ok (false, s1) => lcLoop tg t m r acc env s1
      | .ok (true, s1) => if acc.length < 1000000 then (match m e1 s1 with
        | .ok (x, s2) => lcLoop tg t m r (acc ++ [x]) env s2
        | _ => .bad) else .bad
      | _ => .bad
/-- no slot of vs holds an object of its own -/
def noOwn (env : Env) (vs : List Nat) : Bool := vs.all fun i => match env[i]? with | some x => !isOwn x | none => true
def lcM (tg : Tg) (mi : M S (List D)) (t : M S Bool) (m : M S D) (vs : List Nat) : M S D := bindM mi fun ds env s => if noOwn env vs = true then (match lcLoop tg t m ds [] (wipeE env vs) s with
  | .ok (xs, s') => .ok (.lst xs, s')
  | _ => .bad) else .bad
/-- the context of a part that begins here and lets nothing out -/
abbrev Ct.sub (c : Ct S) (B : En) : Ct S := { c with B := B, W := fun _ _ _ _ => False }
def yesM : M S Bool := retM true
def tgSlots : Tg → List Nat
  | .nm i => [i]
  | .tp is => is
theorem wipe_get (σ : St) (i : Nat) : ∀ vs : List Nat, (wipe σ vs)[i]? = if i ∈ vs then σ[i]?.map (fun _ => none) else σ[i]?
  | [] => by simp [wipe]
  | v :: vs => by
    unfold wipe
    by_cases e : i = v
    · subst e
      rw [if_pos List.mem_cons_self]
      by_cases hl : i < σ.length
      · rw [List.getElem?_set_self (by rw [wipe_length]; exact hl), List.getElem?_eq_getElem hl]; rfl
      · rw [List.getElem?_eq_none (by rw [List.length_set, wipe_length]; omega), List.getElem?_eq_none (by omega)]; rfl
    · rw [List.getElem?_set_ne (Ne.symm e), wipe_get σ i vs]
      by_cases h : i ∈ vs
      · rw [if_pos h, if_pos (List.mem_cons_of_mem _ h)]
      · rw [if_neg h, if_neg (by simp [e, h])]
theorem wipeE_length (env : Env) : ∀ vs : List Nat, (wipeE env vs).length = env.length
  | [] => rfl
  | v :: vs => by unfold wipeE; rw [List.length_set, wipeE_length env vs]
theorem wipeE_get (env : Env) (i : Nat) : ∀ vs : List Nat, (wipeE env vs)[i]? = if i ∈ vs then env[i]?.map (fun _ => Slot.no) else env[i]?
  | [] => by simp [wipeE]
  | v :: vs => by
    unfold wipeE
    by_cases e : i = v
    · subst e
      rw [if_pos List.mem_cons_self]
      by_cases hl : i < env.length
      · rw [List.getElem?_set_self (by rw [wipeE_length]; exact hl), List.getElem?_eq_getElem hl]; rfl
      · rw [List.getElem?_eq_none (by rw [List.length_set, wipeE_length]; omega), List.getElem?_eq_none (by omega)]; rfl
    · rw [List.getElem?_set_ne (Ne.symm e), wipeE_get env i vs]
      by_cases h : i ∈ vs
      · rw [if_pos h, if_pos (List.mem_cons_of_mem _ h)]
      · rw [if_neg h, if_neg (by simp [e, h])]
/-- as tg_set, with what stays -/
theorem names_set' {F H : Hp} {Q : St → Hp → Prop} : ∀ {is : List Nat} {ds : List D} {vs : List V} {σ : St} {env : Env} {s : S}, ds.length = is.length → Reps c.C F ds vs → Stt c.C c.I c.B F H σ env s →
    (∀ σ', (∀ i, i ∉ is → σ'[i]? = σ[i]? ∧ (setAll is ds env)[i]? = env[i]?) → σ'.length = σ.length → Stt c.C c.I c.B F H σ' (setAll is ds env) s → Q σ' H) → gNames is vs σ H Q
  | [], [], _, σ, env, s, _, r, T, q => by cases (show _ = [] from r); exact ⟨rfl, q σ (fun i _ => ⟨rfl, rfl⟩) rfl T⟩
  | i :: is, d :: ds, _, σ, env, s, hl, ⟨v, w, h1, h2, h3⟩, T, q => by
    subst h1
    refine ⟨v, w, rfl, names_set' (by simpa using hl) h3 (T.setD h2) fun σ' k1 k2 T' => q σ' (fun j hj => ?_) (by rw [k2, List.length_set]) T'⟩
    simp only [List.mem_cons, not_or] at hj
    obtain ⟨a, b⟩ := k1 j hj.2
    rw [List.getElem?_set_ne (Ne.symm hj.1)] at a b
    exact ⟨a, b⟩
theorem tg_set' {F H : Hp} {Q : St → Hp → Prop} {tg : Tg} {d : D} {v : V} {σ : St} {env env' : Env} {s : S} (T : Stt c.C c.I c.B F H σ env s) (r : Rep c.C F d v) (e : assignT tg d env = some env')
    (q : ∀ σ', (∀ i, i ∉ tgSlots tg → σ'[i]? = σ[i]? ∧ env'[i]? = env[i]?) → σ'.length = σ.length → Stt c.C c.I c.B F H σ' env' s → Q σ' H) : gT c.C.K tg v σ H Q := by
  cases tg with
  | nm i =>
    cases e
    refine q _ (fun j hj => ?_) (by rw [List.length_set]) (T.setD r)
    simp only [tgSlots, List.mem_singleton] at hj
    rw [List.getElem?_set_ne (Ne.symm hj), List.getElem?_set_ne (Ne.symm hj)]
    exact ⟨rfl, rfl⟩
  | tp is =>
    cases d with
    | tup ds =>
      simp only [assignT] at e
      split at e
      · rename_i hl
        cases e
        obtain ⟨a, vs, h1, h2, h3⟩ := r
        exact ⟨a, vs, h1, sqT_same T.sub h2, h3.length.trans hl, names_set' hl h3 T q⟩
      · cases e
    | _ => cases e
theorem wipe_same {σ σ' : St} {vs : List Nat} {ts : List Nat} (hsub : ∀ i ∈ ts, i ∈ vs) (hl : σ'.length = σ.length) (h : ∀ i, i ∉ ts → σ'[i]? = (wipe σ vs)[i]?) : wipe σ' vs = wipe σ vs := by
  apply List.ext_getElem?
  intro i
  rw [wipe_get, wipe_get]
  by_cases hm : i ∈ vs
  · rw [if_pos hm, if_pos hm]
    by_cases hi : i < σ.length
    · rw [List.getElem?_eq_getElem hi, List.getElem?_eq_getElem (by omega)]; rfl
    · rw [List.getElem?_eq_none (by omega), List.getElem?_eq_none (by omega)]
  · rw [if_neg hm, if_neg hm, h i (fun z => hm (hsub i z)), wipe_get, if_neg hm]
theorem tabs_write {T : List (Addr × Str)} {H : Hp} {p : Addr} {o : HO} {xs : List V} (h : LamX.Tabs T H) (hp : H p = some (.lst xs)) : LamX.Tabs T (upd H p o) := fun q hq => by
  obtain ⟨ps, h1, h2, h3⟩ := h q hq
  have n1 : q.1 ≠ p := fun z => by rw [z, hp] at h1; cases h1
  refine ⟨ps, by rw [upd_ne n1]; exact h1, h2, fun pos cv hc => ?_⟩
  obtain ⟨k, e1, e2⟩ := h3 pos cv hc
  have n2 : k ≠ p := fun z => by rw [z, hp] at e2; unfold LamX.CodeO at e2; cases e2
  exact ⟨k, e1, by rw [upd_ne n2]; exact e2⟩
/-- an object that no slot holds is written -/
theorem Stt.writeM {C : DC} {I : SI S} {B : En} {F H : Hp} {σ : St} {env : Env} {s : S} (T : Stt C I B F H σ env s) {p : Addr} {xs : List V} {o : HO} (hp : H p = some (.lst xs)) (hf : F p = none) (hi : ¬ I.ex p) (hn : ∀ i, ¬ OwnAt env σ i p) (h0 : B.H0 p = none) : Stt C I B F (upd H p o) σ env s where
  sub := fun a u e => by rw [upd_ne (fun z => by subst z; rw [hf] at e; cases e)]; exact T.sub a u e
  nt := T.nt
  inv := I.mono T.inv (Same.refl _) fun a ha => ⟨rfl, upd_ne fun z => by subst z; exact hi ha⟩
  len := T.len
  sl := fun i x e => (T.sl i x e).keep (Same.refl _) fun a h1 h2 => by
    have q : OwnAt env σ i a := ⟨x, e, h2, h1⟩
    obtain ⟨k1, _, _⟩ := T.own_there q
    rw [upd_ne (fun z => by subst z; exact hn i q)]
    exact ⟨k1, rfl⟩
  dj := T.dj
  ni := T.ni
  fr := fun a u e n1 n2 => by rw [upd_ne (fun z => by subst z; rw [h0] at e; cases e)]; exact T.fr a u e n1 n2
  f0 := T.f0
  nw := T.nw
  tb := tabs_write T.tb hp
  al := fun a n => by
    by_cases z : a = p
    · subst z; rw [upd_same]; simp
    · rw [upd_ne z]; exact T.al a n
  ie := T.ie
  oe := T.oe
theorem lc_run {g : Tg} {mt : M S Bool} {me : M S D} {vs : List Nat} (hsub : ∀ i ∈ tgSlots g, i ∈ vs) {Q : VK} {σ : St} {F1 H1 : Hp} {env : Env} {s1 : S} {ds : List D} {J : It} (T1 : Stt c.C c.I c.B F1 H1 σ env s1) (hJ : JOk c.C J F1 ds)
    (hno : noOwn env vs = true) (q : Fin c F1 σ env (match lcLoop g mt me ds [] (wipeE env vs) s1 with | .ok (xs, s') => .ok (D.lst xs, s') | _ => .bad) fun d _ F' H' => ∀ v, Rep c.C F' d v → Q v H')
    {tt : TT} {te : TE} (htt : ∀ B σ H Q, tT (c.sub B) mt σ H Q → tt σ H Q) (hte : ∀ B σ H Q, tM (c.sub B) me σ H Q → te σ H Q) : ∀ D, H1 D = none → ∃ W : Nat → Nat → Hp → Prop, (∃ m, W 0 m (upd H1 D (.lst []))) ∧ ∀ i m H, W i m H →
      (J.stop i H ∧ Q (.ref D) H) ∨ (J.go i H ∧ ∃ Nx : Hp → Prop, (∀ H', Nx H' → ∃ m', m' < m ∧ W (i + 1) m' H') ∧ ∀ x H', J.yld i H x H' → gT c.C.K g x (wipe σ vs) H' fun σ2 H2 => wipe σ2 vs = wipe σ vs ∧ tt σ2 H2 fun b H3 =>
        if b = true then te σ2 H3 fun y H4 => ∃ acc, H4 D = some (.lst acc) ∧ acc.length < sizeLine ∧ Nx (upd H4 D (.lst (acc ++ [y]))) else Nx H3) := by
  intro L nL
  -- what holds between the turns
  let P : Nat → Hp → Prop := fun i H => i ≤ ds.length ∧ ∃ F s acc as, Same F1 F ∧ Stt c.C c.I c.B F H σ env s ∧ H L = some (.lst as) ∧ F L = none ∧ Reps c.C F acc as ∧ ∃ xs s', lcLoop g mt me (ds.drop i) acc (wipeE env vs) s = .ok (xs, s') ∧ ∀ F' H', Same F1 F' → Stt c.C c.I c.B F' H' σ env s' → ∀ v, Rep c.C F' (.lst xs) v → Q v H'
  have ix : ¬ c.I.ex L := T1.exfree nL
  have h0 : c.B.H0 L = none := T1.h0 nL
  have no : ∀ {F H : Hp} {s : S}, Stt c.C c.I c.B F H σ env s → ∀ i, ¬ OwnAt env σ i L := fun T i z => by
    obtain ⟨_, k, _⟩ := T1.own_there z
    exact k nL
  refine ⟨fun i m H => m = ds.length - i ∧ P i H, ⟨ds.length, by simp, Nat.zero_le _, F1, s1, [], [], Same.refl _, T1.newM nL, upd_same, T1.ff nL, rfl, ?_⟩, ?_⟩
  · rw [List.drop_zero]
    cases z : lcLoop g mt me ds [] (wipeE env vs) s1 with
    | ok p => obtain ⟨xs, s'⟩ := p; rw [z] at q; exact ⟨xs, s', rfl, fun F' H' e T' v r => q F' H' e T' v r⟩
    | exc _ _ _ => rw [z] at q; exact q.elim
    | bad => rw [z] at q; exact q.elim
  · rintro i m H ⟨rfl, hi, F, s, acc, as, e1, T, hL, fL, ra, xs, s', z, qq⟩
    by_cases hlt : i < ds.length
    · have ed : ds.drop i = ds[i] :: ds.drop (i + 1) := List.drop_eq_getElem_cons hlt
      rw [ed] at z
      unfold lcLoop at z
      refine .inr ⟨hJ.go i F H e1 T.sub hlt, P (i + 1), fun H' p => ⟨ds.length - (i + 1), by omega, rfl, p⟩, fun x H' y => ?_⟩
      have turn : ∀ F3 H3, Same F F3 → Stt c.C c.I c.B F3 H3 σ env s → H3 L = some (.lst as) → F3 L = none → Rep c.C F3 ds[i] x → gT c.C.K g x (wipe σ vs) H3 fun σ2 H2 => wipe σ2 vs = wipe σ vs ∧ tt σ2 H2 fun b H3 =>
          if b = true then te σ2 H3 fun y H4 => ∃ acc, H4 L = some (.lst acc) ∧ acc.length < sizeLine ∧ P (i + 1) (upd H4 L (.lst (acc ++ [y]))) else P (i + 1) H3 := by
        intro F3 H3 e3 T3 h3L f3L r3
        have Tr := (stt_wipe (c := c) T3 vs).rebase
        cases w : assignT g ds[i] (wipeE env vs) with
        | none => rw [w] at z; cases z
        | some env3 =>
          rw [w] at z
          refine tg_set' (c := c.sub (c.B.at c.I F3 H3 (wipe σ vs) (wipeE env vs))) Tr r3 w fun σ3 st3 l3 T4 => ⟨wipe_same hsub (by rw [l3, wipe_length]) (fun j hj => (st3 j hj).1), ?_⟩
          refine htt (c.B.at c.I F3 H3 (wipe σ vs) (wipeE env vs)) _ _ _ ⟨F3, env3, s, T4, ?_⟩
          dsimp only at z
          have own3 : ∀ j a, OwnAt (wipeE env vs) (wipe σ vs) j a → OwnAt env σ j a := fun j a ⟨x, e1, e2, e3⟩ => by
            rw [wipeE_get] at e1
            by_cases hm : j ∈ vs
            · rw [if_pos hm] at e1
              cases q : env[j]? with
              | none => rw [q] at e1; cases e1
              | some y => rw [q] at e1; cases e1; cases e2
            · rw [if_neg hm] at e1
              exact ⟨x, e1, e2, (wipe_some e3).1⟩
          -- behind a part, the list stands as it was
          have keepL : ∀ {F5 H5 : Hp} {s5 : S}, Stt c.C c.I (c.B.at c.I F3 H3 (wipe σ vs) (wipeE env vs)) F5 H5 σ3 env3 s5 → H5 L = some (.lst as) ∧ F5 L = none := fun {F5 H5 s5} T5 => by
            refine ⟨T5.fr L _ h3L (fun z => ?_) (fun ps z => by cases z), ?_⟩
            · rcases z with z | ⟨j, z⟩
              · exact ix z
              · exact no T3 j (own3 j L z)
            · cases q : F5 L with
              | none => rfl
              | some o =>
                have h3n : H3 L = none := T5.nw L o q f3L
                rw [h3L] at h3n; cases h3n
          -- back in the def's own state
          have backTo : ∀ {F5 H5 : Hp} {s5 : S}, Stt c.C c.I (c.B.at c.I F3 H3 (wipe σ vs) (wipeE env vs)) F5 H5 σ3 env3 s5 → Same F3 F5 ∧ Stt c.C c.I c.B F5 H5 σ env s5 := fun {F5 H5 s5} T5 => by
            refine ⟨T5.f0, ?_⟩
            refine { sub := T5.sub, nt := T5.nt, inv := T5.inv, len := T3.len, sl := fun j x e => ?_, dj := T3.dj, ni := T3.ni, fr := fun a o e n1 n2 => T5.fr a o (T3.fr a o e n1 n2) (fun z => ?_) n2, f0 := T3.f0.trans T5.f0, nw := fun a o e n => ?_, tb := T5.tb, al := fun a n => T5.al a (T3.al a n), ie := T3.ie, oe := T3.oe }
            · by_cases hm : j ∈ vs
              · refine (T3.sl j x e).keep T5.f0 fun a _ ho => ?_
                have zz := List.all_eq_true.mp hno j hm
                rw [e] at zz
                dsimp only at zz
                rw [ho] at zz
                cases zz
              · have hj : j ∉ tgSlots g := fun q => hm (hsub j q)
                obtain ⟨k1, k2⟩ := st3 j hj
                rw [wipe_get, if_neg hm] at k1
                rw [wipeE_get, if_neg hm, e] at k2
                have q := T5.sl j x k2
                rw [k1] at q
                exact q
            · rcases z with z | ⟨j, z⟩
              · exact n1 (T3.ie a z)
              · rcases T3.oe j a (own3 j a z) with q | q
                · rw [q] at e; cases e
                · exact n1 q
            · cases q : F3 a with
              | some o' => exact T3.nw a o' q n
              | none =>
                have h3n : H3 a = none := T5.nw a o e q
                cases w : c.B.H0 a with
                | none => rfl
                | some o2 => exact absurd h3n (T3.al a (by rw [w]; simp))
          cases w2 : mt env3 s with
          | bad => rw [w2] at z; cases z
          | exc _ _ _ => rw [w2] at z; cases z
          | ok p =>
            obtain ⟨k, s2⟩ := p
            rw [w2] at z
            intro F5 H5 e5 T5
            obtain ⟨k1, k2⟩ := keepL T5
            obtain ⟨k3, k4⟩ := backTo T5
            cases k with
            | false =>
              refine (if_neg Bool.false_ne_true).mpr ⟨hlt, F5, s2, acc, as, (e1.trans e3).trans k3, k4, k1, k2, ra.mono (e3.trans k3), xs, s', z, qq⟩
            | true =>
              refine (if_pos rfl).mpr (hte (c.B.at c.I F3 H3 (wipe σ vs) (wipeE env vs)) _ _ _ ⟨F5, env3, s2, T5, ?_⟩)
              dsimp only at z
              by_cases hacc : acc.length < 1000000
              · rw [if_pos hacc] at z
                cases w3 : me env3 s2 with
                | bad => rw [w3] at z; cases z
                | exc _ _ _ => rw [w3] at z; cases z
                | ok p =>
                  obtain ⟨x2, s3⟩ := p
                  rw [w3] at z
                  intro F6 H6 e6 T6 y ry
                  obtain ⟨k5, k6⟩ := keepL T6
                  obtain ⟨k7, k8⟩ := backTo T6
                  exact ⟨as, k5, by rw [ra.length, sizeLine_eq]; omega, hlt, F6, s3, acc ++ [x2], as ++ [y], (e1.trans e3).trans k7, k8.writeM k5 k6 ix (no k8) h0, upd_same, k6, (ra.mono (e3.trans k7)).append (Reps.one ry), xs, s', z, qq⟩
              · rw [if_neg hacc] at z; cases z
      rcases hJ.yl i F H x H' ds[i] e1 T.sub (List.getElem?_eq_getElem hlt) y with ⟨rfl, r⟩ | ⟨p, o, hp', ho, rfl, r⟩
      · exact turn F _ (Same.refl _) T hL fL r
      · have np : L ≠ p := fun e => by rw [e, hp'] at hL; cases hL
        exact turn _ _ (same_upd (T.ff hp')) (T.new hp' ho) (by rw [upd_ne np]; exact hL) (by rw [upd_ne np]; exact fL) r
    · have e : i = ds.length := by omega
      subst e
      rw [List.drop_length] at z
      cases z
      refine .inl ⟨hJ.stop _ F H e1 T.sub (Nat.le_refl _), ?_⟩
      have Tf := T.freeze hL fL (fun ps z => by cases z) ix (no T) h0
      exact qq _ H (e1.trans (same_upd fL)) Tf _ ⟨L, as, rfl, SqL.of upd_same, ra.mono (same_upd fL)⟩
theorem tM_lc {g : Tg} {mt : M S Bool} {me : M S D} {vs : List Nat} (hsub : ∀ i ∈ tgSlots g, i ∈ vs) {σ : St} {H : Hp} {Q : VK} (h : tM c (lcM g mi mt me vs) σ H Q) :
    tLc (tI c mi) (gT c.C.K g) (fun σ H Q => ∃ B, tT (c.sub B) mt σ H Q) (fun σ H Q => ∃ B, tM (c.sub B) me σ H Q) vs σ H Q := by
  obtain ⟨F, env, s, T, h⟩ := h
  refine ⟨F, env, s, T, h.bind.imp fun ds s1 F1 H1 e1 T1 q J hJ => ?_⟩
  by_cases hno : noOwn env vs = true
  · rw [if_pos hno] at q
    exact lc_run hsub T1 hJ hno q (tt := fun σ H Q => ∃ B, tT (c.sub B) mt σ H Q) (te := fun σ H Q => ∃ B, tM (c.sub B) me σ H Q) (fun B σ H Q h => ⟨B, h⟩) (fun B σ H Q h => ⟨B, h⟩)
  · rw [if_neg hno] at q
    exact q.elim
theorem PTex {Y : Cx} {t : Expr} {f : En → TT} (h : ∀ B, PT Y t (f B)) : PT Y t (fun σ H Q => ∃ B, f B σ H Q) := ⟨fun pins s σ H Q I ⟨B, q⟩ => (h B).run pins s σ H Q I q⟩
theorem PEex {Y : Cx} {t : Expr} {f : En → TE} (h : ∀ B, PE Y t (f B)) : PE Y t (fun σ H Q => ∃ B, f B σ H Q) := ⟨fun pins s σ H Q I ⟨B, q⟩ => (h B).run pins s σ H Q I q⟩
theorem PTsex {Y : Cx} {t : List Expr} {f : En → TT} (h : ∀ B, PTs Y t (f B)) : PTs Y t (fun σ H Q => ∃ B, f B σ H Q) := ⟨fun pins s σ H Q I ⟨B, q⟩ => (h B).run pins s σ H Q I q⟩
theorem ts_nil : PTs X [] (tT c yesM) := ⟨fun pins s σ H Q I h => by
  obtain ⟨F, env, s', T, h⟩ := h
  exact (pts_nil (X := X)).run pins s σ H Q I (h F H (Same.refl _) T)⟩
theorem ts_one {t : Expr} {mt : M S Bool} (h : PT X t (tT c mt)) : PTs X [t] (tT c mt) := pts_one h
/-- the block of a comprehension -/
abbrev Cx.bk (X : Cx) (s : Shared) (H : Hp) (scope : Scope) (C : Addr) (cl : List (Str × Addr)) (fp : List Addr) : Cx := X.blk s H scope (compEnvC scope cl C X.env) fp
/-- [elt for tg in iter if ..] -/
theorem d_lc {elt : Expr} {ifs : List Expr} {scope : Scope} {own : List (Str × Nat)} {g : Tg} {mt : M S Bool} {me : M S D} (hc : X.calm = true) (hN : X.N.Nodup) (hi : PI X tg iter (tI c mi)) (ok : BlkOk X.N X.env.scope scope own)
    (hg : ∀ (s : Shared) (H : Hp) (C : Addr) (cl : List (Str × Addr)) (fp : List Addr), PG (Cx.bk X s H scope C cl fp) tg (gT c.C.K g))
    (ht : ∀ (s : Shared) (H : Hp) (C : Addr) (cl : List (Str × Addr)) (fp : List Addr) (B : En), PTs (Cx.bk X s H scope C cl fp) ifs (tT (c.sub B) mt))
    (he : ∀ (s : Shared) (H : Hp) (C : Addr) (cl : List (Str × Addr)) (fp : List Addr) (B : En), PE (Cx.bk X s H scope C cl fp) elt (tM (c.sub B) me))
    (hsub : ∀ i ∈ tgSlots g, i ∈ own.map (·.2)) (hs : ∀ x, foldedSetIterable iter X.env x = pure x := by intro _; rfl) :
    PE X (.ListComp elt [⟨tg, iter, ifs, 0⟩] scope pos) (tM c (lcM g mi mt me (own.map (·.2)))) :=
  PEimp (pe_lc hc hN hi ok hg (fun s H C cl fp => PTsex (ht s H C cl fp)) (fun s H C cl fp => PEex (he s H C cl fp)) hs) fun σ H Q h => tM_lc hsub h
/-- y = [elt for tg in iter if ..] -/
theorem s_lc {elt : Expr} {ifs : List Expr} {scope : Scope} {own : List (Str × Nat)} {g : Tg} {mt : M S Bool} {me : M S D} {i : Nat} {y : Str} {py spos : Pos} (hc : X.calm = true) (hN : X.N.Nodup) (hi : PI X tg iter (tI c mi)) (ok : BlkOk X.N X.env.scope scope own)
    (hg : ∀ (s : Shared) (H : Hp) (C : Addr) (cl : List (Str × Addr)) (fp : List Addr), PG (Cx.bk X s H scope C cl fp) tg (gT c.C.K g))
    (ht : ∀ (s : Shared) (H : Hp) (C : Addr) (cl : List (Str × Addr)) (fp : List Addr) (B : En), PTs (Cx.bk X s H scope C cl fp) ifs (tT (c.sub B) mt))
    (he : ∀ (s : Shared) (H : Hp) (C : Addr) (cl : List (Str × Addr)) (fp : List Addr) (B : En), PE (Cx.bk X s H scope C cl fp) elt (tM (c.sub B) me))
    (hsub : ∀ i ∈ tgSlots g, i ∈ own.map (·.2)) (hy : X.N[i]? = some y := by rfl) (hyl : X.env.scope.names.lookup y = some .local := by rfl)
    (hsw : swapsWith (.ListComp elt [⟨tg, iter, ifs, 0⟩] scope pos) (some (.Name y py)) spos.line X.env = pure true := by exact sw_true rfl rfl rfl (by decide +kernel)) (hs : ∀ x, foldedSetIterable iter X.env x = pure x := by intro _; rfl) :
    PS X (.Assign [.Name y py] (.ListComp elt [⟨tg, iter, ifs, 0⟩] scope pos) spos) (tS c (setS i (lcM g mi mt me (own.map (·.2))))) := by
  refine PSimp (ps_setLc hc hN hy hyl hsw hi ok hg (fun s H C cl fp => PTsex (ht s H C cl fp)) (fun s H C cl fp => PEex (he s H C cl fp)) hs) fun D σ H h => ?_
  obtain ⟨F, env, s, T, h⟩ := h
  refine tM_lc hsub ⟨F, env, s, T, h.bind.imp fun d s1 F1 H1 e1 T1 q v rv => ?_⟩
  exact q _ F1 H1 (Same.refl _) (T1.setD rv)
end
end DL
set_option Elab.async false
set_option linter.all false
set_option maxRecDepth 100000
namespace DL
open PySem PySem.Spec PyProof.Rows L2
/-- a def that keeps a promise wherever no repr is under way -/
structure FnD (P : Program) (w : World) (K : PySem.W.Frag) (mg : Str → Option Value) (base : Heap) (k : Nat) (f : Addr) (fd : FuncData) (ps : List Str) (sp : Sp) : Prop where
  many : ∀ {vs H Q E}, sp vs H Q E → vs.length = ps.length
  goes : ∀ {A : Around} {outer : List PySem.Env} {s : Shared} {H : Hp} {args : Args} {us : List Value} {vs : List V} {Q : VK} {E : XK}, Room k A → A.guards = some [] → Env0 P w K mg base A outer s H → BindsTo s fd args (ps.zip us) → Vals vs us → sp vs H Q E →
    codeAny (model P w) A (.call (.ref f) args) (CR (L2.CX P w) outer P w H s Q E) s
/-- what each rule asks of the place where it is used -/
structure XO {S : Type} (X : Cx) (c : Ct S) (k : Nat) : Prop where
  hk : c.C.K = X.K
  rm : Room k X.A
  gd : X.A.guards = some []
  tk : Takes X c.W
  cm : X.calm = true
  ps : PassesOwn (model X.prog X.w) X.A X.env X.xe
theorem XO.hu {S : Type} {X : Cx} {c : Ct S} {k : Nat} (o : XO X c k) : X.A.units + 64 < cLine := o.rm.units
theorem XO.bk {S : Type} {X : Cx} {c : Ct S} {k : Nat} (o : XO X c k) (s : Shared) (H : Hp) (scope : Scope) (C : Addr) (cl : List (Str × Addr)) (fp : List Addr) (B : En) : XO (Cx.bk X s H scope C cl fp) (c.sub B) k :=
  ⟨o.hk, o.rm, o.gd, L2.takes0, o.cm, PassesOwn.never⟩
section
variable {S : Type} {c : Ct S} {X : Cx} {pins : List (Addr × Obj)} {σ : St} {H : Hp} {s : Shared} {k j : Nat} {f : Addr} {fd : FuncData} {ps : List Str} {sp : Sp} {dvs : List V} {ds us : List Value} {vs : List V} {Q : VK}
/-- the call of such a def with values, from where the machine stands at A -/
theorem FnD.callAt {A : Around} (D : FnD X.prog X.w X.K X.mg X.base k f fd ps sp) (hr : Room k A) (hg : A.guards = some []) (tk : Takes X c.W) (e0 : Env0 X.prog X.w X.K X.mg X.base A X.stack s H) (hb : Binds X.K fd ps ds) (hd : Vals dvs ds) (I : Inv X pins σ H s) (r : Vals vs us) (h : sp (vs ++ dvs) H Q fun cls dd H' => c.W cls dd σ H') :
    wpAny (model X.prog X.w) A (PySem.call (.ref f) us) (EP X pins σ Q) X.xe s := by
  have both := r.append hd
  have number : (us ++ ds).length = ps.length := both.length.symm.trans (D.many h)
  refine wpAny_call (codeAny_mono (D.goes hr hg e0 (hb s us I.kIn number) both h) fun res s' hr => ?_)
  match res, hr with
  | .error e, hr => exact tk e s' (XE.of_call I (fun _ _ _ z => z) hr)
  | .ok (.ret u), hr => exact I.after hr
/-- the call of such a def with values -/
theorem FnD.call (D : FnD X.prog X.w X.K X.mg X.base k f fd ps sp) (o : XO X c j) (hkj : k ≤ j) (hb : Binds X.K fd ps ds) (hd : Vals dvs ds) (I : Inv X pins σ H s) (r : Vals vs us) (h : sp (vs ++ dvs) H Q fun cls dd H' => c.W cls dd σ H') :
    wpAny (model X.prog X.w) X.A (PySem.call (.ref f) us) (EP X pins σ Q) X.xe s := D.callAt (o.rm.mono hkj) o.gd o.tk I.env0 hb hd I r h
end
/-- the promise of a mirrored def of n parameters. dc: how trees lie, by the state's object; J: the state -/
def spD {S : Type} (dc : Option Addr → DC) (J : Option Addr → SI S) (n : Nat) (m : List D → S → R (D × S) S) : Sp := fun vs H Q E => vs.length = n ∧ ∃ st F ds s, Same F H ∧ NoTbl F ∧ (J st).inv s F H ∧ LamX.Tabs (dc st).T H ∧ Reps (dc st) F ds vs ∧
  Fin ⟨dc st, J st, ⟨F, H, (J st).ex, none⟩, fun cls dd _ H' => E cls dd H'⟩ F [] [] (m ds s) fun d _ F' H' => ∀ v, Rep (dc st) F' d v → Q v H'
/-- .. of an __init__ of the class number q -/
def spI {S : Type} (dc : Option Addr → DC) (J : Option Addr → SI S) (n : Nat) (q : Nat) (m : List D → S → R (List D × S) S) : Sp := fun vs H Q E => vs.length = n ∧ ∃ st F ds s p dx rest, vs = .ref p :: rest ∧ Same F H ∧ NoTbl F ∧ (J st).inv s F H ∧ LamX.Tabs (dc st).T H ∧ Reps (dc st) F ds rest ∧
  H p = some (.ins ((dc st).cls q) dx []) ∧ F p = none ∧ ¬ (J st).ex p ∧
  Fin ⟨dc st, J st, ⟨F, H, (fun a => (J st).ex a ∨ a = p), some (p, .none, none)⟩, fun cls dd _ H' => E cls dd H'⟩ F [] [] (m ds s) fun fs _ F' H' => ∀ dx' us, H' p = some (.ins ((dc st).cls q) dx' (((dc st).flds q).zip us)) → us.length = ((dc st).flds q).length → F' p = none → Reps (dc st) F' fs us → Q .non H'
/-- a mirrored body of n names -/
def runF {S : Type} (n : Nat) (mb : MS S) (ds : List D) (s : S) : R (D × S) S := match mb (ds.map Slot.d ++ List.replicate (n - ds.length) Slot.no) s with
  | .ok (.nx _, s') => .ok (.non, s')
  | .ok (.rt d, s') => .ok (d, s')
  | .ok (.bk _, _) => .bad
  | .ok (.ct _, _) => .bad
  | .exc k fs p => .exc k fs p.2
  | .bad => .bad
def runI {S : Type} (n q many : Nat) (mb : MS S) (ds : List D) (s : S) : R (List D × S) S := match mb (Slot.ins q [] :: (ds.map Slot.d ++ List.replicate (n - (ds.length + 1)) Slot.no)) s with
  | .ok (.nx (.ins k fs :: _), s') => if k = q ∧ fs.length = many then .ok (fs, s') else .bad
  | .exc k fs p => .exc k fs p.2
  | _ => .bad
section
variable {S : Type} {P : Program} {w : World} {K : PySem.W.Frag} {mg : Str → Option Value} {base : Heap} {dc : Option Addr → DC} {J : Option Addr → SI S}
/-- the context of a def's body -/
abbrev cxD (P : Program) (w : World) (K : PySem.W.Frag) (mg : Str → Option Value) (base : Heap) (N : List Str) (qual : Str) (st : Stmt) (f : Addr) (cd : Value) (A : Around) (outer : List PySem.Env) (s : Shared) (H : Hp) (E : XK) : Cx := cxOf (L2.CX P w) P w K mg base N qual (defScope st) f cd A outer s H E
abbrev ctD (dc : Option Addr → DC) (J : Option Addr → SI S) (so : Option Addr) (B : En) (E : XK) : Ct S := ⟨dc so, J so, B, fun cls dd _ H' => E cls dd H'⟩
theorem xo_def {N : List Str} {qual : Str} {st : Stmt} {f : Addr} {cd : Value} {A : Around} {outer : List PySem.Env} {s : Shared} {H : Hp} {E : XK} {k : Nat} {so : Option Addr} {B : En} (hK : ∀ so, (dc so).K = K) (hr : Room k (A.deeper (envOfC qual (defScope st) s.heap.objs.size f cd))) (hg : A.guards = some []) :
    XO (cxD P w K mg base N qual st f cd A outer s H E) (ctD dc J so B E) k :=
  ⟨hK so, hr, hg, takes_of rfl rfl rfl rfl, rfl, passes_of (K := fun e s'' => L2.CX P w outer H s E e s'') rfl⟩
/-- THE RULE for a mirrored def -/
theorem fnD_of {x qual : Str} {dvs : List V} {kws : List (Str × V)} {st : Stmt} {f : Addr} {fd : FuncData} {N ps : List Str} {k : Nat} {mb : MS S} {n : Nat} (Fu : FunD K x qual (defArgs st) (defBody st) (defScope st) dvs kws f fd) (Sc : FnScope N ps (defScope st)) (hK : ∀ so, (dc so).K = K) (hn : ps.length = n)
    (hbody : ∀ {cd : Value} {A : Around} {outer : List PySem.Env} {s : Shared} {H : Hp} {E : XK} {so : Option Addr} {B : En}, XO (cxD P w K mg base N qual st f cd A outer s H E) (ctD dc J so B E) k → PSs (cxD P w K mg base N qual st f cd A outer s H E) (defBody st) (tS (ctD dc J so B E) mb)) :
    FnD P w K mg base (k + 1) f fd ps (spD dc J n (runF N.length mb)) := by
  obtain ⟨oc, od, dV, kV, doc, pm, an, cdv, ct, osl, rfl, lk, hcd, _, _⟩ := Fu.ex
  refine ⟨fun h => h.1.trans hn.symm, fun {A outer s H args us vs Q E} hr hg e0 hb r h => ?_⟩
  refine LamX.run_ofS (N := N) (ps := ps) lk hcd Sc hr e0 hb r (h.1.trans hn.symm) fun hr' => ?_
  obtain ⟨hlen, so, F, ds, s0, hs, nt, hi, ht, hrep, hfin⟩ := h
  refine ⟨_, hbody (so := so) (B := ⟨F, H, (J so).ex, none⟩) (xo_def hK hr' hg), F, ds.map Slot.d ++ List.replicate (N.length - ds.length) Slot.no, s0, ?_, ?_⟩
  · have e : L2.start N vs = vs.map some ++ List.replicate (N.length - ds.length) none := by
      unfold L2.start
      rw [hrep.length]
    rw [e]
    exact Stt.start hs nt hi ht hrep fun _ z => z
  · unfold runF at hfin
    cases z : mb (ds.map Slot.d ++ List.replicate (N.length - ds.length) Slot.no) s0 with
    | bad => rw [z] at hfin; exact hfin
    | exc q fs p =>
      rw [z] at hfin
      exact fun cls dd σ' F' H' e T r => hfin cls dd F' H' e T.drop r
    | ok p =>
      obtain ⟨o, s'⟩ := p
      rw [z] at hfin
      cases o with
      | nx env' => exact fun σ' F' H' e T => hfin F' H' e T.drop .non rfl
      | rt d => exact fun v σ' env' F' H' e T r => hfin F' H' e T.drop v r
      | bk _ => exact hfin.elim
      | ct _ => exact hfin.elim
theorem Stt.startI {C : DC} {I : SI S} {F H : Hp} {s : S} {ds : List D} {vs : List V} {k q : Nat} {p dx : Addr} (hs : Same F H) (hn : NoTbl F) (hi : I.inv s F H) (ht : LamX.Tabs C.T H) (hr : Reps C F ds vs) (hp : H p = some (.ins (C.cls q) dx [])) (hf : F p = none) (hx : ¬ I.ex p) :
    Stt C I ⟨F, H, (fun a => I.ex a ∨ a = p), some (p, .none, none)⟩ F H (some (.ref p) :: (vs.map some ++ List.replicate k none)) (Slot.ins q [] :: (ds.map Slot.d ++ List.replicate k Slot.no)) s := by
  have T := Stt.start (me := some (p, .none, none)) (ex := fun a => I.ex a ∨ a = p) (k := k) hs hn hi ht hr (fun _ z => Or.inl z)
  have own : ∀ i a, OwnAt (Slot.ins q [] :: (ds.map Slot.d ++ List.replicate k Slot.no)) (some (.ref p) :: (vs.map some ++ List.replicate k none)) i a → i = 0 ∧ a = p := fun i a h => by
    cases i with
    | zero => obtain ⟨x, e1, e2, e3⟩ := h; simp at e3; exact ⟨rfl, e3.symm⟩
    | succ i =>
      exfalso
      obtain ⟨x, e1, e2, e3⟩ := h
      simp only [List.getElem?_cons_succ] at e1 e3
      have q : OwnAt (ds.map Slot.d ++ List.replicate k Slot.no) (vs.map some ++ List.replicate k none) i a := ⟨x, e1, e2, e3⟩
      obtain ⟨k1, k2, _⟩ := T.own_there q
      have : ∀ y ∈ ds.map Slot.d ++ List.replicate k Slot.no, isOwn y = false := fun y hy => by
        rcases List.mem_append.mp hy with z | z
        · obtain ⟨d, _, rfl⟩ := List.mem_map.mp z; rfl
        · rw [List.mem_replicate] at z; rw [z.2]; rfl
      rw [this x (List.mem_of_getElem? e1)] at e2
      cases e2
  exact { sub := hs, nt := hn, inv := hi, len := by simp [hr.length],
          sl := fun i x e => by
            cases i with
            | zero =>
              simp at e; subst e
              exact ⟨p, dx, [], rfl, rfl, hf, by simpa using hp, by simp, rfl⟩
            | succ i => simpa using T.sl i x (by simpa using e),
          dj := fun i j a n h1 h2 => n ((own i a h1).1.trans (own j a h2).1.symm),
          ni := fun i a h => by rw [(own i a h).2]; exact hx,
          fr := fun _ _ e _ _ => e, f0 := Same.refl _, nw := fun a o e n => (by rw [show F a = none from n] at e; cases e),
          tb := ht, al := fun _ n => n, ie := fun a z => Or.inl z, oe := fun i a h => Or.inr (Or.inr (own i a h).2) }
/-- .. for a mirrored __init__ -/
theorem fnI_of {x qual : Str} {dvs : List V} {kws : List (Str × V)} {st : Stmt} {f : Addr} {fd : FuncData} {N ps : List Str} {k : Nat} {mb : MS S} {n q many : Nat} (Fu : FunD K x qual (defArgs st) (defBody st) (defScope st) dvs kws f fd) (Sc : FnScope N ps (defScope st)) (hK : ∀ so, (dc so).K = K) (hn : ps.length = n) (hm : ∀ so, ((dc so).flds q).length = many)
    (hbody : ∀ {cd : Value} {A : Around} {outer : List PySem.Env} {s : Shared} {H : Hp} {E : XK} {so : Option Addr} {B : En}, XO (cxD P w K mg base N qual st f cd A outer s H E) (ctD dc J so B E) k → PSs (cxD P w K mg base N qual st f cd A outer s H E) (defBody st) (tS (ctD dc J so B E) mb)) :
    FnD P w K mg base (k + 1) f fd ps (spI dc J n q (runI N.length q many mb)) := by
  obtain ⟨oc, od, dV, kV, doc, pm, an, cdv, ct, osl, rfl, lk, hcd, _, _⟩ := Fu.ex
  refine ⟨fun h => h.1.trans hn.symm, fun {A outer s H args us vs Q E} hr hg e0 hb r h => ?_⟩
  refine LamX.run_ofS (N := N) (ps := ps) lk hcd Sc hr e0 hb r (h.1.trans hn.symm) fun hr' => ?_
  obtain ⟨hlen, so, F, ds, s0, p, dx, rest, ev, hs, nt, hi, ht, hrep, hp, hf, hx, hfin⟩ := h
  subst ev
  refine ⟨_, hbody (so := so) (B := ⟨F, H, (fun a => (J so).ex a ∨ a = p), some (p, .none, none)⟩) (xo_def hK hr' hg), F, Slot.ins q [] :: (ds.map Slot.d ++ List.replicate (N.length - (ds.length + 1)) Slot.no), s0, ?_, ?_⟩
  · have e : L2.start N (V.ref p :: rest) = some (V.ref p) :: (rest.map some ++ List.replicate (N.length - (ds.length + 1)) none) := by
      unfold L2.start
      rw [List.length_cons, hrep.length]
      rfl
    rw [e]
    exact Stt.startI hs nt hi ht hrep hp hf hx
  · unfold runI at hfin
    cases z : mb (Slot.ins q [] :: (ds.map Slot.d ++ List.replicate (N.length - (ds.length + 1)) Slot.no)) s0 with
    | bad => rw [z] at hfin; exact hfin
    | exc q fs p =>
      rw [z] at hfin
      exact fun cls dd σ' F' H' e T r => hfin cls dd F' H' e T.drop r
    | ok p2 =>
      obtain ⟨o, s'⟩ := p2
      rw [z] at hfin
      cases o with
      | rt d => exact hfin.elim
      | bk _ => exact hfin.elim
      | ct _ => exact hfin.elim
      | nx env' =>
        cases env' with
        | nil => exact hfin.elim
        | cons y env' =>
          cases y with
          | no => exact hfin.elim
          | d _ => exact hfin.elim
          | own _ => exact hfin.elim
          | exc _ _ => exact hfin.elim
          | fn => exact hfin.elim
          | ins k2 fs =>
            dsimp only at hfin
            by_cases hc : k2 = q ∧ fs.length = many
            · rw [if_pos hc] at hfin
              obtain ⟨rfl, hl⟩ := hc
              intro σ' F' H' e T
              obtain ⟨a, dx', us, h1, h2, h3, h4, h5, h6⟩ := T.sl 0 _ rfl
              cases h2
              rw [List.take_of_length_le (by rw [hm so, hl]; exact Nat.le_refl _)] at h4
              exact hfin F' H' e T.drop dx' us h4 (by rw [h6.length, hl, hm so]) h3 h6
            · rw [if_neg hc] at hfin; exact hfin.elim
end
structure GF (P : Program) (w : World) (K : PySem.W.Frag) (mg : Str → Option Value) (base : Heap) (dc : Option Addr → DC) (k : Nat) (x : Str) (dds : List D) (sp : Sp) : Prop where
  ex : ∃ (f : Addr) (fd : FuncData) (ps : List Str) (ds : List Value) (dvs : List V), FnD P w K mg base k f fd ps sp ∧ mg x = some (.ref f) ∧ PySem.W.keepIn K (.ref f) = true ∧ Binds K fd ps ds ∧ Vals dvs ds ∧ ∀ so F, Reps (dc so) F dds dvs
/-- a method of the class number q -/
structure GM (P : Program) (w : World) (K : PySem.W.Frag) (mg : Str → Option Value) (base : Heap) (dc : Option Addr → DC) (k : Nat) (q : Nat) (x : Str) (dds : List D) (sp : Sp) : Prop where
  ex : ∃ (f : Addr) (fd : FuncData) (ps : List Str) (ds : List Value) (dvs : List V), FnD P w K mg base k f fd ps sp ∧ (∀ so, Meth K ((dc so).cls q) x f) ∧ (∀ so, x ∉ (dc so).flds q) ∧ Binds K fd ps ds ∧ Vals dvs ds ∧ ∀ so F, Reps (dc so) F dds dvs
/-- a class that is made by its name -/
structure GI (P : Program) (w : World) (K : PySem.W.Frag) (mg : Str → Option Value) (base : Heap) (dc : Option Addr → DC) (k : Nat) (x : Str) (q : Nat) (dds : List D) (sp : Sp) : Prop where
  ex : ∃ (f : Addr) (fd : FuncData) (ps : List Str) (ds : List Value) (dvs : List V), FnD P w K mg base k f fd ps sp ∧ (∀ so, mg x = some (.ref ((dc so).cls q))) ∧ (∀ so, Mk K ((dc so).cls q) f) ∧ Binds K fd ps ds ∧ Vals dvs ds ∧ ∀ so F, Reps (dc so) F dds dvs
/-- what is known of an own class -/
structure ClsD (C : DC) (q : Nat) : Prop where
  cl : Cls C.K (C.cls q)
  nf : ∀ f ∈ C.flds q, NoAttr C.K (C.cls q) f
  nd : (C.flds q).Nodup
  ls : (C.flds q).length < 1000
section
variable {S : Type} {c : Ct S} {X : Cx} {a b e o : Expr} {es rest : List Expr} {st : Stmt} {pos apos p : Pos} {ma mb mo : M S D} {m : M S D} {ms : M S (List D)} {dc : Option Addr → DC} {J : Option Addr → SI S} {so : Option Addr} {k j n q : Nat} {x : Str} {dds : List D} {mf : List D → S → R (D × S) S}
def callF (n : Nat) (mf : List D → S → R (D × S) S) (dds : List D) (ms : M S (List D)) : M S D := bindM ms fun ds _ s => if (ds ++ dds).length = n then mf (ds ++ dds) s else .bad
/-- from a state: what a callee is handed, and what comes back -/
theorem spD_of {F H : Hp} {σ : St} {env : Env} {s : S} {ds : List D} {vs : List V} {Q : VK} (hC : c.C = dc so) (hI : c.I = J so) (T : Stt c.C c.I c.B F H σ env s) (hl : vs.length = n) (r : Reps c.C F ds vs)
    (q : Fin c F σ env (mf ds s) fun d _ F' H' => ∀ v, Rep c.C F' d v → Q v H') : spD dc J n mf vs H Q fun cls dd H' => c.W cls dd σ H' := by
  obtain ⟨C, I, B, W⟩ := c
  dsimp only at hC hI
  subst hC
  subst hI
  refine ⟨hl, so, F, ds, s, T.sub, T.nt, T.inv, T.tb, r, ?_⟩
  cases z : mf ds s with
  | bad => rw [z] at q; exact q
  | exc k fs s' =>
    rw [z] at q
    exact fun cls dd F' H' e U x => q cls dd F' H' e (T.after (fun _ z => .inl z) U) x
  | ok p =>
    rw [z] at q
    exact fun F' H' e U => q F' H' e (T.after (fun _ z => .inl z) U)
theorem d_call (G : GF X.prog X.w X.K X.mg X.base dc k x dds (spD dc J n mf)) (o : XO X c j) (ha : PA X (e :: es) (tA c ms)) (hkj : k ≤ j := by decide) (hC : c.C = dc so := by rfl) (hI : c.I = J so := by rfl) (hg : Gl X x := by rfl) (hdb : (x == ("__debug__" : Str)) = false := by decide)
    (he : starEach (e :: es) X.env = (false, eval e X.env) :: starEach es X.env := by rfl) (hpl : (backTo pos (starEach es X.env)).any (·.1) = false := by rfl) : PE X (.Call (.Name x p) (e :: es) [] pos) (tM c (callF n mf dds ms)) := by
  obtain ⟨f, fd, ps, ds, dvs, D, hm, kp, hb, hd, hrd⟩ := G.ex
  refine ⟨fun pins s σ H Q I h => ?_⟩
  obtain ⟨F, env, s0, T, h⟩ := h
  refine wpAny_Call_Name_kw (ld_glob I hg hm ?_ hdb)
  refine PySem.W.callWith_K (h₀ := X.base) I.ok.mod.kin kp (thn (ha.run pos pins s σ H (fun vs H1 => spD dc J n mf (vs ++ dvs) H1 Q fun cls dd H' => c.W cls dd σ H') I ⟨F, env, s0, T, h.bind.imp fun xs s1 F1 H1 e1 T1 q vs rvs => ?_⟩) fun us s1 ⟨vs, H1, I1, r, q⟩ => ⟨I1.kIn, D.call o hkj hb hd I1 r q⟩) he hpl
  have r2 : Reps c.C F1 (xs ++ dds) (vs ++ dvs) := rvs.append (by rw [hC]; exact hrd so F1)
  by_cases hl : (xs ++ dds).length = n
  · rw [if_pos hl] at q
    exact spD_of hC hI T1 (r2.length.trans hl) r2 q
  · rw [if_neg hl] at q; exact q.elim
theorem d_call0 (G : GF X.prog X.w X.K X.mg X.base dc k x dds (spD dc J n mf)) (o : XO X c j) (hkj : k ≤ j := by decide) (hC : c.C = dc so := by rfl) (hI : c.I = J so := by rfl) (hg : Gl X x := by rfl) (hdb : (x == ("__debug__" : Str)) = false := by decide) : PE X (.Call (.Name x p) [] [] pos) (tM c (callF n mf dds (retM []))) := by
  obtain ⟨f, fd, ps, ds, dvs, D, hm, kp, hb, hd, hrd⟩ := G.ex
  refine ⟨fun pins s σ H Q I h => ?_⟩
  obtain ⟨F, env, s0, T, h⟩ := h
  refine wpAny_Call_Name_kw (ld_glob I hg hm ?_ hdb)
  have q : Fin c F σ env (if ([] ++ dds).length = n then mf ([] ++ dds) s0 else .bad) _ := h
  by_cases hl : ([] ++ dds).length = n
  · rw [if_pos hl] at q
    have r2 : Reps c.C F ([] ++ dds) ([] ++ dvs) := by rw [hC]; exact hrd so F
    exact PySem.W.callWith_K0 I.kIn kp (D.call (us := []) (vs := []) o hkj hb hd I .nil (spD_of hC hI T (r2.length.trans hl) r2 q))
  · rw [if_neg hl] at q; exact q.elim
theorem zip_look {N : List Str} (nd : N.Nodup) : ∀ {vs : List V} {i : Nat} {f : Str} {v : V}, N[i]? = some f → vs[i]? = some v → (N.zip vs).lookup f = some v := by
  induction N with
  | nil => intro vs i f v h; simp at h
  | cons g N ih =>
    intro vs i f v h1 h2
    cases vs with
    | nil => simp at h2
    | cons u vs =>
      cases i with
      | zero =>
        simp at h1 h2
        subst h1; subst h2
        simp [List.lookup]
      | succ i =>
        simp only [List.getElem?_cons_succ] at h1 h2
        have ne : (f == g) = false := beq_eq_false_iff_ne.mpr fun z => (List.nodup_cons.mp nd).1 (z ▸ List.mem_of_getElem? h1)
        show (((g, u) :: N.zip vs).lookup f) = some v
        simp only [List.lookup, ne]
        exact ih (List.nodup_cons.mp nd).2 h1 h2
def fldD (tb : List (Nat × Nat)) : D → Option D
  | .obj q fs => (tb.lookup q).bind fun i => fs[i]?
  | _ => none
/-- each class of the table has the attribute at its place -/
def TbOk (C : DC) (f : Str) : List (Nat × Nat) → Prop
  | [] => True
  | (q, i) :: r => (ClsD C q ∧ (C.flds q)[i]? = some f) ∧ TbOk C f r
theorem TbOk.at {C : DC} {f : Str} : ∀ {tb : List (Nat × Nat)} {q i : Nat}, TbOk C f tb → tb.lookup q = some i → ClsD C q ∧ (C.flds q)[i]? = some f
  | (q', i') :: r, q, i, h, e => by
    simp only [List.lookup] at e
    split at e
    · rename_i z
      cases e
      rw [beq_iff_eq.mp z]
      exact h.1
    · exact TbOk.at h.2 e
theorem d_fld {f : Str} (hk : c.C.K = X.K) (tb : List (Nat × Nat)) (ht : TbOk c.C f tb) (ho : PE X o (tM c mo)) (hb : attributeBase o f X.env (eval o X.env) = eval o X.env := by rfl) : PE X (.Attribute o f pos) (tM c (m1 (fldD tb) mo)) := by
  refine PEimp (pe_fld ho hb) fun σ H Q h => ?_
  refine tM_bind h fun dx s1 F1 H1 x env T1 rx q => ?_
  obtain ⟨d, e, q3⟩ := q.opt T1
  clear q
  unfold fldD at e
  split at e
  · rename_i k fs
    obtain ⟨p, dx, vs, h1, h2, h3, h4⟩ := rx
    cases z : tb.lookup k with
    | none => rw [z] at e; cases e
    | some i =>
      rw [z] at e
      obtain ⟨cd, hf⟩ := ht.at z
      obtain ⟨v, hv, rv⟩ := h4.get e
      exact ⟨p, c.C.cls k, dx, _, v, h1, T1.sub _ _ h2, hk ▸ cd.cl, hk ▸ cd.nf f (List.mem_of_getElem? hf), zip_look cd.nd hf hv, q3 F1 H1 (Same.refl _) T1 v rv⟩
  · cases e
/-- self.f, self the instance that is being made -/
def mSelf (i q jx : Nat) : M S D := fun env s => match env[i]? with
  | some (.ins k fs) => if k = q then (match fs[jx]? with | some d => .ok (d, s) | none => .bad) else .bad
  | _ => .bad
theorem d_self {f y : Str} {i jx : Nat} (hk : c.C.K = X.K) (cd : ClsD c.C q) (hf : (c.C.flds q)[jx]? = some f) (hN : X.N[i]? = some y := by rfl) (hv : Vis X.env.scope y := by first | exact Or.inl rfl | exact Or.inr (Or.inl rfl) | exact Or.inr (Or.inr rfl)) (hd : (y == ("__debug__" : Str)) = false := by decide)
    (hcd : (y == ("__classdict__" : Str)) = false := by decide) (hb : attributeBase (.Name y p) f X.env (eval (.Name y p) X.env) = eval (.Name y p) X.env := by rfl) : PE X (.Attribute (.Name y p) f pos) (tM c (mSelf i q jx)) := by
  refine PEimp (pe_fld (pe_var hN hv hd hcd) hb) fun σ H Q h => ?_
  obtain ⟨F, env, s, T, h⟩ := h
  unfold mSelf at h
  cases z : env[i]? with
  | none => rw [z] at h; exact h.elim
  | some y =>
    rw [z] at h
    cases y with
    | ins k fs =>
      dsimp only at h
      by_cases hkq : k = q
      · subst hkq
        rw [if_pos rfl] at h
        cases w : fs[jx]? with
        | none => rw [w] at h; exact h.elim
        | some d =>
          rw [w] at h
          obtain ⟨a, dx, vs, h1, h2, h3, h4, h5, h6⟩ := T.sl i _ z
          obtain ⟨v, hv, rv⟩ := h6.get w
          have hj : jx < fs.length := (List.getElem?_eq_some_iff.mp w).1
          refine ⟨.ref a, h1, a, c.C.cls k, dx, _, v, rfl, h4, hk ▸ cd.cl, hk ▸ cd.nf f (List.mem_of_getElem? hf), zip_look (cd.nd.sublist (List.take_sublist _ _)) (by rw [List.getElem?_take_of_lt hj]; exact hf) hv, h F H (Same.refl _) T v rv⟩
      · rw [if_neg hkq] at h; exact h.elim
    | no => exact h.elim
    | d _ => exact h.elim
    | own _ => exact h.elim
    | exc _ _ => exact h.elim
    | fn => exact h.elim
theorem putF_snoc {N : List Str} (nd : N.Nodup) : ∀ {vs : List V} {f : Str} {v : V} {k : Nat}, vs.length = k → N[k]? = some f → putF f v ((N.take k).zip vs) = (N.take (k + 1)).zip (vs ++ [v]) := by
  induction N with
  | nil => intro vs f v k _ h; simp at h
  | cons g N ih =>
    intro vs f v k hl h
    cases k with
    | zero =>
      cases vs with
      | nil => simp at h; subst h; simp [putF]
      | cons _ _ => simp at hl
    | succ k =>
      cases vs with
      | nil => simp at hl
      | cons u vs =>
        simp only [List.getElem?_cons_succ] at h
        have ne : g ≠ f := fun z => (List.nodup_cons.mp nd).1 (z ▸ List.mem_of_getElem? h)
        show putF f v ((g, u) :: ((N.take k).zip vs)) = _
        rw [show putF f v ((g, u) :: ((N.take k).zip vs)) = (if g = f then (g, v) :: ((N.take k).zip vs) else (g, u) :: putF f v ((N.take k).zip vs)) from rfl, if_neg ne, ih (List.nodup_cons.mp nd).2 (by simpa using hl) h]
        rfl
/-- self.f = e, the next attribute of the instance that is being made -/
def selfS (i q jx : Nat) (m : M S D) : MS S := thenS m fun d => fun env s => match env[i]? with
  | some (.ins k fs) => if k = q ∧ fs.length = jx then .ok (.nx (env.set i (.ins q (fs ++ [d]))), s) else .bad
  | _ => .bad
theorem s_self {f y : Str} {i jx : Nat} {pos' : Pos} (hk : c.C.K = X.K) (cd : ClsD c.C q) (hf : (c.C.flds q)[jx]? = some f) (hv : PE X e (tM c m)) (hN : X.N[i]? = some y := by rfl) (hvi : Vis X.env.scope y := by first | exact Or.inl rfl | exact Or.inr (Or.inl rfl) | exact Or.inr (Or.inr rfl)) (hd : (y == ("__debug__" : Str)) = false := by decide)
    (hcd : (y == ("__classdict__" : Str)) = false := by decide) (hs : swapsWith e (some (.Attribute (.Name y p) f pos')) pos.line X.env = pure false := by rfl) : PS X (.Assign [.Attribute (.Name y p) f pos'] e pos) (tS c (selfS i q jx m)) := by
  refine PSimp (ps_fld (pe_var hN hvi hd hcd) hv hs) fun D σ H h => ?_
  obtain ⟨F, env, s, T, h⟩ := h
  refine ⟨F, env, s, T, h.bind.imp fun d s1 F1 H1 e1 T1 h v rv => ?_⟩
  cases z : env[i]? with
  | none => rw [z] at h; exact h.elim
  | some y =>
    rw [z] at h
    cases y with
    | ins k fs =>
      dsimp only at h
      by_cases hkq : k = q ∧ fs.length = jx
      · rw [if_pos hkq] at h
        obtain ⟨rfl, hl⟩ := hkq
        obtain ⟨a, dx, vs, h1, h2, h3, h4, h5, h6⟩ := T1.sl i _ z
        have lz := h6.length
        refine ⟨.ref a, h1, a, c.C.cls k, dx, _, rfl, h4, hk ▸ cd.cl, hk ▸ cd.nf f (List.mem_of_getElem? hf), ?_, ?_⟩
        · have := cd.ls
          rw [List.length_zip]
          omega
        · rw [putF_snoc cd.nd lz (by rw [hl]; exact hf)]
          have oa : OwnAt env σ i a := ⟨_, z, rfl, h1⟩
          have li : i < env.length := (List.getElem?_eq_some_iff.mp z).1
          have ow : ∀ j b, OwnAt (env.set i (.ins k (fs ++ [d]))) σ j b → OwnAt env σ j b := fun j b ⟨x, e1, e2, e3⟩ => by
            by_cases hj : j = i
            · subst hj
              rw [List.getElem?_set_self li] at e1
              rw [h1] at e3; cases e3
              exact oa
            · rw [List.getElem?_set_ne (Ne.symm hj)] at e1
              exact ⟨x, e1, e2, e3⟩
          refine h σ F1 _ (Same.refl _) { sub := fun b u e => ?_, nt := T1.nt, inv := ?_, len := by rw [List.length_set]; exact T1.len, sl := fun j x e => ?_, dj := fun j l b n o1 o2 => T1.dj j l b n (ow j b o1) (ow l b o2), ni := fun j b o1 => T1.ni j b (ow j b o1), fr := fun b u e n1 n2 => ?_, f0 := T1.f0, nw := T1.nw, tb := ?_, al := fun b n => ?_, ie := T1.ie, oe := fun j b o1 => T1.oe j b (ow j b o1) }
          · rw [upd_ne (fun z => by subst z; rw [h3] at e; cases e)]; exact T1.sub b u e
          · exact c.I.mono T1.inv (Same.refl _) fun b hb => ⟨rfl, upd_ne fun z => by subst z; exact T1.ni i _ oa hb⟩
          · by_cases hj : j = i
            · subst hj
              rw [List.getElem?_set_self li] at e
              cases e
              refine ⟨a, dx, vs ++ [v], h1, h2, h3, ?_, ?_, h6.append (Reps.one rv)⟩
              · rw [upd_same, List.length_append, List.length_singleton]
              · rw [List.length_append, List.length_singleton, hl]
                exact (List.getElem?_eq_some_iff.mp hf).1
            · rw [List.getElem?_set_ne (Ne.symm hj)] at e
              refine (T1.sl j x e).keep (Same.refl _) fun b k1 k2 => ?_
              have ob : OwnAt env σ j b := ⟨x, e, k2, k1⟩
              have nb : b ≠ a := fun z => by subst z; exact T1.dj j i _ hj ob oa
              exact ⟨(T1.own_there ob).1, upd_ne nb⟩
          · rcases T1.oe i a oa with z | z
            · rw [upd_ne (fun w => by subst w; rw [z] at e; cases e)]; exact T1.fr b u e n1 n2
            · rw [upd_ne (fun w => by subst w; exact n1 z)]; exact T1.fr b u e n1 n2
          · refine fun w hw => ?_
            obtain ⟨ps, k1, k2, k3⟩ := T1.tb w hw
            refine ⟨ps, by rw [upd_ne (fun z => by rw [z, h4] at k1; cases k1)]; exact k1, k2, fun pos cv hc => ?_⟩
            obtain ⟨u, e1, e2⟩ := k3 pos cv hc
            exact ⟨u, e1, by rw [upd_ne (fun z => by rw [z, h4] at e2; unfold LamX.CodeO at e2; cases e2)]; exact e2⟩
          · by_cases w : b = a
            · subst w; rw [upd_same]; simp
            · rw [upd_ne w]; exact T1.al b n
      · rw [if_neg hkq] at h; exact h.elim
    | no => exact h.elim
    | d _ => exact h.elim
    | own _ => exact h.elim
    | exc _ _ => exact h.elim
    | fn => exact h.elim
end
end DL
set_option Elab.async false
set_option linter.all false
set_option maxRecDepth 100000
namespace DL
open PySem PySem.Spec PyProof.Rows L2
section
variable {S : Type} {c : Ct S} {X : Cx} {a b e o : Expr} {es rest : List Expr} {st : Stmt} {pos apos p : Pos} {ma mb mo : M S D} {m : M S D} {ms : M S (List D)} {dc : Option Addr → DC} {J : Option Addr → SI S} {so : Option Addr} {k j n q : Nat} {x : Str} {dds : List D} {mf : List D → S → R (D × S) S} {mi : List D → S → R (List D × S) S}
theorem guards_make {A : Around} {C : Addr} {us : List Value} (h : A.guards = some []) : (A.under (.builtin "type.__call__" ⟨.ref C :: us, []⟩)).guards = some [] := by
  have e : Code.guards (.builtin "type.__call__" ⟨.ref C :: us, []⟩) = [] := by
    unfold Code.guards
    rw [if_neg (by simp [Code.isGuard, guardIds])]
  show pushGuards (Code.guards (.builtin "type.__call__" ⟨.ref C :: us, []⟩)) A.guards = some []
  rw [e, h]
  rfl
def makeR (q n : Nat) (mi : List D → S → R (List D × S) S) (ds : List D) (s : S) : R (D × S) S := if ds.length = n then (match mi ds s with
  | .ok (fs, s') => .ok (.obj q fs, s')
  | .exc k fs s' => .exc k fs s'
  | .bad => .bad) else .bad
theorem spI_of {F H : Hp} {σ : St} {env : Env} {s : S} {ds : List D} {vs : List V} {Q : VK} {p dx : Addr} (hC : c.C = dc so) (hI : c.I = J so) (T : Stt c.C c.I c.B F H σ env s) (hl : vs.length = n) (r : Reps c.C F ds vs) (np : H p = none) (nd : H dx = none) (ne : dx ≠ p)
    (h : Fin c F σ env (match mi ds s with | .ok (fs, s') => .ok (.obj q fs, s') | .exc k fs s' => .exc k fs s' | .bad => .bad) fun d _ F' H' => ∀ v, Rep c.C F' d v → Q v H') :
    spI dc J (n + 1) q mi (.ref p :: vs) (upd (upd H dx (.own p)) p (.ins (c.C.cls q) dx [])) (fun v H' => v = .non ∧ Q (.ref p) H') fun cls dd H' => c.W cls dd σ H' := by
  have np2 : upd H dx (.own p) p = none := by rw [upd_ne (Ne.symm ne)]; exact np
  have T2 : Stt c.C c.I c.B F (upd (upd H dx (.own p)) p (.ins (c.C.cls q) dx [])) σ env s := (T.newM nd).newM np2
  have fp : F p = none := T.ff np
  have xp : ¬ c.I.ex p := T.exfree np
  have hp0 : c.B.H0 p = none := T.h0 np
  have nop : ∀ i, ¬ OwnAt env σ i p := fun i z => (T.own_there z).2.1 np
  obtain ⟨C, I, B, W⟩ := c
  dsimp only at hC hI
  subst hC
  subst hI
  refine ⟨by simp [hl], so, F, ds, s, p, dx, vs, rfl, T2.sub, T2.nt, T2.inv, T2.tb, r, upd_same, fp, xp, ?_⟩
  have hex : ∀ a, ((J so).ex a ∨ a = p) → (J so).ex a ∨ (B.H0 a = none ∧ ∀ i, ¬ OwnAt env σ i a) := fun a z => z.elim .inl fun w => .inr (by subst w; exact ⟨hp0, nop⟩)
  cases z : mi ds s with
  | bad => rw [z] at h; exact h
  | exc k fs s' =>
    rw [z] at h
    exact fun cls dd F' H' e U x => h cls dd F' H' e (T2.after hex U) x
  | ok w =>
    obtain ⟨fs, s'⟩ := w
    rw [z] at h
    intro F' H' e U dx' us h1 h2 h3 h4
    have T3 := T2.after hex U
    have T4 := T3.freeze h1 h3 (fun ps z => by cases z) xp nop hp0
    exact ⟨rfl, h _ H' (e.trans (same_upd h3)) T4 _ ⟨p, dx', us, rfl, upd_same, h2, h4.mono (same_upd h3)⟩⟩
def makeF (q n : Nat) (mi : List D → S → R (List D × S) S) (dds : List D) (ms : M S (List D)) : M S D := bindM ms fun ds _ s => makeR q n mi (ds ++ dds) s
/-- C(e, ..) -/
theorem d_make (G : GI X.prog X.w X.K X.mg X.base dc k x q dds (spI dc J (n + 1) q mi)) (o : XO X c j) (ha : PA X (e :: es) (tA c ms)) (hkj : k + 1 ≤ j := by decide) (hC : c.C = dc so := by rfl) (hI : c.I = J so := by rfl) (hg : Gl X x := by rfl) (hdb : (x == ("__debug__" : Str)) = false := by decide)
    (he : starEach (e :: es) X.env = (false, eval e X.env) :: starEach es X.env := by rfl) (hpl : (backTo pos (starEach es X.env)).any (·.1) = false := by rfl) : PE X (.Call (.Name x p) (e :: es) [] pos) (tM c (makeF q n mi dds ms)) := by
  obtain ⟨f, fd, ps, ds, dvs, D, hm, Mk, hb, hd, hrd⟩ := G.ex
  refine ⟨fun pins s σ H Q I h => ?_⟩
  obtain ⟨F, env, s0, T, h⟩ := h
  refine wpAny_Call_Name_kw (ld_glob I hg (hm so) ?_ hdb)
  refine PySem.W.callWith_K (h₀ := X.base) I.ok.mod.kin (Mk so).kp (thn (ha.run pos pins s σ H (fun vs H1 => ∀ p dx, H1 p = none → H1 dx = none → dx ≠ p → spI dc J (n + 1) q mi (.ref p :: (vs ++ dvs)) (upd (upd H1 dx (.own p)) p (.ins (c.C.cls q) dx [])) (fun v H' => v = .non ∧ Q (.ref p) H') fun cls dd H' => c.W cls dd σ H') I ⟨F, env, s0, T, h.bind.imp fun xs s1 F1 H1 e1 T1 hq vs rvs => ?_⟩) fun us s1 ⟨vs, H1, I1, r, hq⟩ => ⟨I1.kIn, ?_⟩) he hpl
  · intro p dx np nd ne
    have r2 : Reps c.C F1 (xs ++ dds) (vs ++ dvs) := rvs.append (by rw [hC]; exact hrd so F1)
    unfold makeR at hq
    by_cases hl : (xs ++ dds).length = n
    · rw [if_pos hl] at hq
      exact spI_of hC hI T1 (r2.length.trans hl) r2 np nd ne hq
    · rw [if_neg hl] at hq; exact hq.elim
  · have at_ := hq (s1.heap.objs.size + 1) s1.heap.objs.size (I1.hok.fresh (Nat.le_succ _)) (I1.hok.fresh (Nat.le_refl _)) (Nat.ne_of_lt (Nat.lt_succ_self _))
    have I2 := Inv.made (C := c.C.cls q) I1
    have both : Vals (V.ref (s1.heap.objs.size + 1) :: (vs ++ dvs)) (Value.ref (s1.heap.objs.size + 1) :: (us ++ ds)) := .cons rfl (r.append hd)
    have number : (Value.ref (s1.heap.objs.size + 1) :: us ++ ds).length = ps.length := both.length.symm.trans (D.many at_)
    rw [hC] at at_ I2
    refine wpAny_call (make_map (f := f) I1.kIn (Mk so).makes (Mk so).init (beq_iff_eq.mp (Mk so).fn) (codeAny_mono (D.goes ((o.rm.mono hkj).make _ us []) (guards_make o.gd) (I2.env0.make _ us []) (hb _ (Value.ref (s1.heap.objs.size + 1) :: us) I2.kIn number) both at_) fun res s' hres => ?_))
    match res, hres with
    | .error e, hres => exact o.tk e s' (XE.of_call I2 (fun _ _ _ z => z) hres)
    | .ok (.ret u), hres =>
      obtain ⟨v, H', I3, rv, ⟨ev, q3⟩⟩ := I2.after hres
      subst ev
      exact ⟨rv, ⟨V.ref (s1.heap.objs.size + 1), H', I3, rfl, q3⟩⟩
def methF (q n : Nat) (mf : List D → S → R (D × S) S) (dds : List D) (mo : M S D) (ms : M S (List D)) : M S D := bindM mo fun x => match x with
  | .obj k _ => if k = q then (bindM ms fun ds _ s => if (x :: (ds ++ dds)).length = n then mf (x :: (ds ++ dds)) s else .bad) else fun _ _ => .bad
  | _ => fun _ _ => .bad
theorem d_meth {pl : Sem Bool} (G : GM X.prog X.w X.K X.mg X.base dc k q x dds (spD dc J n mf)) (cd : ClsD c.C q) (o' : XO X c j) (ho : PE X o (tM c mo)) (ha : PA X (e :: es) (tA c ms)) (hkj : k ≤ j := by decide) (hC : c.C = dc so := by rfl) (hI : c.I = J so := by rfl)
    (hst : starEach (e :: es) X.env = (false, eval e X.env) :: starEach es X.env := by rfl) (hpl : (backTo pos (starEach es X.env)).any (·.1) = false := by rfl)
    (ht : eval (.Call (.Attribute o x apos) (e :: es) [] pos) X.env = (do
      let ov ← eval o X.env
      standAt apos.atName
      let (f, first) ← holding [ov] (getMethod ov x pl)
      callWith pos f first (backTo pos (starEach (e :: es) X.env)) (backToKw pos (keywordEach [] X.env))) := by rfl) : PE X (.Call (.Attribute o x apos) (e :: es) [] pos) (tM c (methF q n mf dds mo ms)) := by
  obtain ⟨f, fd, ps, ds, dvs, Df, hm, hnf, hb, hd, hrd⟩ := G.ex
  refine ⟨fun pins s σ H Q I h => ?_⟩
  refine PySem.W.methodCall_KW (pl := pl) (thn (ho.run pins s σ H (fun y H1 => ∃ a dx us, y = .ref a ∧ H1 a = some (.ins (c.C.cls q) dx ((c.C.flds q).zip us)) ∧ tA c ms σ H1 fun vs H2 => spD dc J n mf (.ref a :: (vs ++ dvs)) H2 Q fun cls dd H' => c.W cls dd σ H') I ?_) fun u s1 ⟨y, H1, I1, ry, a, dx, us, ey, ea, hq⟩ => ?_) ht
  · refine tM_bind h fun dy s1 F1 H1 y env T1 ry hq => ?_
    cases dy with
    | obj k2 fs =>
      dsimp only at hq
      by_cases hk2 : k2 = q
      · subst hk2
        rw [if_pos rfl] at hq
        obtain ⟨a, dx, us, e1, e2, e3, e4⟩ := ry
        refine ⟨a, dx, us, e1, T1.sub _ _ e2, F1, env, s1, T1, hq.bind.imp fun xs s2 F2 H2 ex T2 hq vs rvs => ?_⟩
        have r2 : Reps c.C F2 (.obj k2 fs :: (xs ++ dds)) (.ref a :: (vs ++ dvs)) := ⟨_, _, rfl, ⟨a, dx, us, rfl, ex _ _ e2, e3, e4.mono ex⟩, rvs.append (by rw [hC]; exact hrd so F2)⟩
        by_cases hl : (D.obj k2 fs :: (xs ++ dds)).length = n
        · rw [if_pos hl] at hq
          exact spD_of hC hI T2 (r2.length.trans hl) r2 hq
        · rw [if_neg hl] at hq; exact hq.elim
      · rw [if_neg hk2] at hq; exact hq.elim
    | _ => exact hq.elim
  · subst ey
    obtain rfl : u = Value.ref a := ry
    have nl : ((c.C.flds q).zip us).lookup x = none := by
      have nm : x ∉ c.C.flds q := by rw [hC]; exact hnf so
      have go : ∀ (N : List Str) (us : List V), x ∉ N → (N.zip us).lookup x = none := by
        intro N
        induction N with
        | nil => intro us _; rfl
        | cons g N ih =>
          intro us hx
          cases us with
          | nil => rfl
          | cons w us =>
            have ne : (x == g) = false := beq_eq_false_iff_ne.mpr fun z => hx (z ▸ List.mem_cons_self)
            show ((g, w) :: N.zip us).lookup x = none
            simp only [List.lookup, ne]
            exact ih us fun z => hx (List.mem_cons_of_mem _ z)
      exact go _ us nm
    have me : Meth X.K (c.C.cls q) x f := by rw [← o'.hk, hC]; have := hm so; rw [← hC, o'.hk] at *; exact this
    refine getmeth_ok I1 ea (o'.hk ▸ cd.cl) me nl ?_
    refine PySem.W.callWith_K (first := [.ref a]) (h₀ := X.base) I.ok.mod.kin me.kp (thn (ha.run pos pins s1 σ H1 _ I1 hq) fun us s2 ⟨vs, H2, I2, r, q2⟩ => ⟨I2.kIn, ?_⟩) hst hpl
    exact Df.call (us := .ref a :: us) (vs := .ref a :: vs) o' hkj hb hd I2 (.cons rfl r) q2
end
end DL
set_option Elab.async false
set_option linter.all false
set_option maxRecDepth 100000
namespace DL
open PySem PySem.Spec PyProof.Rows L2
section
variable {S : Type} {c : Ct S} {X : Cx} {a b e o : Expr} {es rest : List Expr} {st : Stmt} {pos apos p : Pos} {ma mb mo : M S D} {m : M S D} {ms : M S (List D)} {dc : Option Addr → DC} {J : Option Addr → SI S} {so : Option Addr} {k j n q : Nat} {x : Str} {dds : List D} {mf : List D → S → R (D × S) S}
/-- from a method's promise: what calls it with these values -/
structure MCall (X : Cx) (c : Ct S) (k n q : Nat) (x : Str) (mf : List D → S → R (D × S) S) : Prop where
  ex : ∃ (f : Addr) (fd : FuncData) (ps : List Str) (sp : Sp), FnD X.prog X.w X.K X.mg X.base k f fd ps sp ∧ Meth X.K (c.C.cls q) x f ∧ Binds X.K fd ps [] ∧ ∀ {F H : Hp} {σ : St} {env : Env} {s : S} {ds : List D} {vs : List V} {Q : VK}, Stt c.C c.I c.B F H σ env s → ds.length = n → Reps c.C F ds vs →
    (Fin c F σ env (mf ds s) fun d _ F' H' => ∀ v, Rep c.C F' d v → Q v H') → sp vs H Q fun cls dd H' => c.W cls dd σ H'
theorem GM.call (G : GM X.prog X.w X.K X.mg X.base dc k q x [] (spD dc J n mf)) (o : XO X c j) (hC : c.C = dc so := by rfl) (hI : c.I = J so := by rfl) : MCall X c k n q x mf := by
  obtain ⟨f, fd, ps, ds, dvs, Df, hm, hnf, hb, hd, hrd⟩ := G.ex
  have e0 : dvs = [] := hrd so (fun _ => none)
  subst e0
  cases hd
  have me : Meth X.K (c.C.cls q) x f := by have := hm so; rw [← hC] at this; exact this
  exact ⟨f, fd, ps, _, Df, me, hb, fun T hl r h => spD_of hC hI T (r.length.trans hl) r h⟩
def oneF (q : Nat) (mf : List D → S → R (D × S) S) (x : D) : M S D := fun _ s => match x with
  | .obj k _ => if k = q then mf [x] s else .bad
  | _ => .bad
def negO (q : Nat) (mf : List D → S → R (D × S) S) (ma : M S D) : M S D := bindM ma fun x => match x with
  | .int i => retM (.int (-i))
  | _ => oneF q mf x
theorem obj_at {F H : Hp} {fs : List D} {v : V} (hs : Same F H) (r : Rep c.C F (.obj q fs) v) : ∃ p dx us, v = .ref p ∧ H p = some (.ins (c.C.cls q) dx ((c.C.flds q).zip us)) := by
  obtain ⟨p, dx, us, h1, h2, _⟩ := r
  exact ⟨p, dx, us, h1, hs _ _ h2⟩
theorem d_negO (G : MCall X c k 1 q "__neg__" mf) (o' : XO X c j) (ha : PE X a (tM c ma)) (hkj : k ≤ j := by decide) : PE X (.UnaryOp .USub a pos) (tM c (negO q mf ma)) := by
  obtain ⟨f, fd, ps, sp, Df, me, hb, hsp⟩ := G.ex
  refine ⟨fun pins s σ H Q I h => ?_⟩
  refine UnaryOp_ (thn (ha.run pins s σ H (fun y H1 => (∃ i, y = .int i ∧ Q (.int (-i)) H1) ∨ ∃ p dx us, y = .ref p ∧ H1 p = some (.ins (c.C.cls q) dx us) ∧ sp [.ref p] H1 Q fun cls dd H' => c.W cls dd σ H') I (tM_bind h fun dy s1 F1 H1 y env T1 ry hq => ?_)) fun u s1 ⟨y, H1, I1, ry, hy⟩ => ?_)
  · cases dy with
    | int i => cases rep_int ry; exact .inl ⟨i, rfl, hq F1 H1 (Same.refl _) T1 _ rfl⟩
    | obj k2 fs =>
      by_cases hk : k2 = q
      · subst hk
        have hq : Fin c F1 σ env (if k2 = k2 then mf [.obj k2 fs] s1 else .bad) _ := hq
        rw [if_pos rfl] at hq
        obtain ⟨p, dx, us, e1, e2⟩ := obj_at T1.sub ry
        subst e1
        exact .inr ⟨p, dx, _, rfl, e2, hsp T1 rfl (Reps.one ry) hq⟩
      · have hq : Fin c F1 σ env (if k2 = q then mf [.obj k2 fs] s1 else .bad) _ := hq
        rw [if_neg hk] at hq; exact hq.elim
    | _ => exact hq.elim
  · rcases hy with ⟨i, rfl, hq⟩ | ⟨p, dx, us, rfl, hp, hq⟩
    · obtain ⟨t, rfl⟩ := ry
      exact neg_int ⟨.int (-i), H1, I1.tok _, ⟨_, rfl⟩, hq⟩
    · obtain rfl : u = Value.ref p := ry
      obtain ⟨mA, O, _⟩ := ins_get I1.hok hp
      obtain ⟨od, IA, _⟩ := O.look
      obtain ⟨mm, Fr'⟩ := I1.fr
      exact PySem.W.ksp_neg Fr' I.ok.mod.kin IA me.at_ me.fn (Df.call (us := [.ref p]) (vs := [.ref p]) o' hkj hb .nil I1 (.cons rfl .nil) hq)
/-- str(x) of an own class's instance, of an int, of a text -/
def strO (q : Nat) (mf : List D → S → R (D × S) S) (ma : M S D) : M S D := bindM ma fun x => match x with
  | .int i => if i.natAbs.log2 < 1920 then retM (.str (toString i)) else fun _ _ => .bad
  | .obj k _ => fun _ s => if k = q then (match mf [x] s with
    | .ok (.str y, s') => .ok (.str y, s')
    | .exc k fs s' => .exc k fs s'
    | _ => .bad) else .bad
  | _ => fun _ _ => .bad
theorem d_strO {p : Pos} (G : MCall X c k 1 q "__str__" mf) (o' : XO X c j) (hm : X.mg "str" = none) (ha : PE X a (tM c ma)) (hkj : k + 2 ≤ j := by decide) (hs : starEach [a] X.env = (false, eval a X.env) :: starEach [] X.env := by rfl) (hg : Gl X "str" := by rfl) (hpl : (backTo pos (starEach [] X.env)).any (·.1) = false := by rfl) : PE X (.Call (.Name "str" p) [a] [] pos) (tM c (strO q mf ma)) := by
  obtain ⟨f, fd, ps, sp, Df, me, hb, hsp⟩ := G.ex
  refine ⟨fun pins s σ H Q I h => ?_⟩
  refine wpAny_Call_Name_kw (ld_blt I hg hm PyProof.Rows.boot_str ?_)
  refine PyProof.Rows.callWith_type1 (thn ((L2.pa_cons ha L2.pa_nil hs).run pos pins s σ H (fun ys H1 => ∃ y, ys = [y] ∧ ((∃ i, y = .int i ∧ i.natAbs.log2 < 1920 ∧ Q (.str (toString i)) H1) ∨ ∃ p dx us, y = .ref p ∧ H1 p = some (.ins (c.C.cls q) dx us) ∧ sp [.ref p] H1 (fun v H' => ∃ z, v = .str z ∧ Q v H') fun cls dd H' => c.W cls dd σ H')) I (tM_bind h fun dy s1 F1 H1 y env T1 ry hq => ⟨y, rfl, ?_⟩)) fun us s1 ⟨ys, H1, I1, r1, y, ey, hy⟩ => ?_) hs hpl
  · cases dy with
    | int i =>
      cases rep_int ry
      by_cases hl : i.natAbs.log2 < 1920
      · simp only [if_pos hl] at hq
        exact .inl ⟨i, rfl, hl, hq F1 H1 (Same.refl _) T1 _ rfl⟩
      · simp only [if_neg hl] at hq
        exact hq.elim
    | obj k2 fs =>
      dsimp only at hq
      by_cases hk : k2 = q
      · subst hk
        rw [if_pos rfl] at hq
        obtain ⟨p, dx, us, e1, e2⟩ := obj_at T1.sub ry
        subst e1
        refine .inr ⟨p, dx, _, rfl, e2, hsp T1 rfl (Reps.one ry) ?_⟩
        cases z : mf [D.obj k2 fs] s1 with
        | bad => rw [z] at hq; exact hq
        | exc k fs s' => rw [z] at hq; exact hq
        | ok w =>
          obtain ⟨d, s'⟩ := w
          rw [z] at hq
          cases d with
          | str y => exact fun F' H' e T' v rv => ⟨y, rep_str rv, hq F' H' e T' v rv⟩
          | _ => exact hq.elim
      · rw [if_neg hk] at hq; exact hq.elim
    | _ => exact hq.elim
  · subst ey
    obtain ⟨u, rfl, ru⟩ := vals1 r1
    rcases hy with ⟨i, rfl, hl, hq⟩ | ⟨p, dx, us, rfl, hp, hq⟩
    · obtain ⟨t, rfl⟩ := ru
      exact PySem.P.str_of_int hl ⟨.str _, H1, I1.tok _, ⟨_, rfl⟩, hq⟩
    · obtain rfl : u = Value.ref p := ru
      obtain ⟨mA, O, _⟩ := ins_get I1.hok hp
      obtain ⟨od, IA, _⟩ := O.look
      have r0 := o'.rm.mono hkj
      refine PySem.W.kso_call (by have := r0.units; show X.A.units + 1 + 1 < _; omega) I1.kIn IA me.at_ me.fn (thn (Df.callAt (A := X.A.in1.in1) (us := [.ref p]) (vs := [.ref p]) r0.in1.in1 o'.gd o'.tk I1.env0.in1.in1 hb .nil I1 (.cons rfl .nil) hq) fun v s2 ⟨y, H2, I2, ry, z, ez, hz⟩ => ?_)
      subst ez
      obtain ⟨t, rfl⟩ := ry
      exact ⟨.str z, H2, I2, ⟨t, rfl⟩, hz⟩
def fmtD : D → Option D
  | .str y => if y.length ≤ sizeLine then some (.str y) else none
  | .int i => if i.natAbs.log2 < 1920 then some (.str (toString i)) else none
  | _ => none
theorem d_fmt (he : PE X e (tM c m)) : PE X (.FormattedValue e (-1) none pos) (tM c (m1 fmtD m)) := by
  refine PEimp (pe_fmt he) fun σ H Q h => ?_
  refine tM_un (r := fun x H Q => (∃ y : Str, x = .str y ∧ y.length ≤ sizeLine ∧ Q (.str y) H) ∨ ∃ i : Int, x = .int i ∧ i.natAbs.log2 < 1920 ∧ Q (.str (toString i)) H) (fun F x dx d rx e => ?_) h
  unfold fmtD at e
  split at e
  · split at e
    · rename_i hl
      cases e; cases rep_str rx
      exact ⟨_, fun _ => rfl, fun H Q q => .inl ⟨_, rfl, hl, q⟩⟩
    · cases e
  · split at e
    · rename_i hl
      cases e; cases rep_int rx
      exact ⟨_, fun _ => rfl, fun H Q q => .inr ⟨_, rfl, hl, q⟩⟩
    · cases e
  · cases e
def catM : List (M S D) → Str → M S D
  | [], acc => retM (.str acc)
  | m :: ms, acc => bindM m fun d => match d with
    | .str y => if (acc ++ y).length ≤ sizeLine then catM ms (acc ++ y) else fun _ _ => .bad
    | _ => fun _ _ => .bad
def catK (ms : List (M S D)) (acc : Str) (d : D) : M S D := match d with
    | .str y => if (acc ++ y).length ≤ sizeLine then catM ms (acc ++ y) else fun _ _ => .bad
    | _ => fun _ _ => .bad
inductive DJ (X : Cx) (c : Ct S) : List Expr → List (M S D) → Prop where
  | nil : DJ X c [] []
  | cons {e : Expr} {m : M S D} {es : List Expr} {ms : List (M S D)} (h : PE X e (tM c m)) (r : DJ X c es ms) : DJ X c (e :: es) (m :: ms)
theorem DJ.pj {es : List Expr} {mz : List (M S D)} (h : DJ X c es mz) : PJ X es (mz.map (tM c)) := by
  induction h with
  | nil => exact .nil
  | cons h r ih => exact .cons h ih
theorem tJs_of : ∀ {mz : List (M S D)} {acc : Str} {F H : Hp} {σ : St} {env : Env} {s : S} {Q : VK}, Stt c.C c.I c.B F H σ env s → (Fin c F σ env (catM mz acc env s) fun d _ F' H' => ∀ v, Rep c.C F' d v → Q v H') → tJs (mz.map (tM c)) acc σ H fun out H1 => Q (.str out) H1
  | [], acc, F, H, σ, env, s, Q, T, h => h F H (Same.refl _) T _ rfl
  | m :: mz, acc, F, H, σ, env, s, Q, T, h => by
    have h : Fin c F σ env (bindM m (catK mz acc) env s) (fun d _ F' H' => ∀ v, Rep c.C F' d v → Q v H') := by unfold catM at h; exact h
    refine ⟨F, env, s, T, h.bind.imp fun d s1 F1 H1 e1 T1 q v rv => ?_⟩
    unfold catK at q
    cases d with
    | str y =>
      cases rep_str rv
      dsimp only at q
      by_cases hl : (acc ++ y).length ≤ sizeLine
      · rw [if_pos hl] at q
        exact ⟨y, rfl, hl, tJs_of T1 q⟩
      · rw [if_neg hl] at q; exact q.elim
    | _ => exact q.elim
theorem d_joined {v1 v2 : Expr} {rest : List Expr} {mz : List (M S D)} (h : DJ X c (v1 :: v2 :: rest) mz) : PE X (.JoinedStr (v1 :: v2 :: rest) pos) (tM c (catM mz Str.empty)) :=
  PEimp (pe_joined h.pj) fun σ H Q q => by
    obtain ⟨F, env, s, T, q⟩ := q
    exact tJs_of T q
/-- what isinstance asks of an own class -/
structure InsD (K : PySem.W.Frag) (C : Addr) : Prop where
  cl : Cls K C
  ha : PySem.W.findIn K (.ref C) "__class__" = some (some (.builtin "object.__class__"))
  hn : PySem.W.specialIn K (.builtin "object.__class__") "__get__" = some (some (.builtin "getset_descriptor.__get__"))
  htk : PySem.W.takesIn K (.builtin "object.__class__") = some true
  hm : PySem.W.mroIn K C (.type "object") = some true
def isiD (bn bb bi bs bt bl : Bool) (tb : List (Nat × Bool)) : D → Option D
  | .non => some (.bl bn)
  | .bl _ => some (.bl bb)
  | .int _ => some (.bl bi)
  | .str _ => some (.bl bs)
  | .tup _ => some (.bl bt)
  | .lst _ => some (.bl bl)
  | .obj q _ => (tb.lookup q).map .bl
  | .st => none
/-- the answers of isinstance for a class u, by kind -/
structure KTab (K : PySem.W.Frag) (u : Value) (bn bb bi bs bt bl : Bool) : Prop where
  n : PySem.W.kitOne K (.type "NoneType") u = some bn
  b : PySem.W.kitOne K (.type "bool") u = some bb
  i : PySem.W.kitOne K (.type "int") u = some bi
  s : PySem.W.kitOne K (.type "str") u = some bs
  t : PySem.W.kitOne K (.type "tuple") u = some bt
  l : PySem.W.kitOne K (.type "list") u = some bl
def KTb (K : PySem.W.Frag) (cls : Nat → Addr) (u : Value) : List (Nat × Bool) → Prop
  | [] => True
  | (q, b) :: r => (InsD K (cls q) ∧ PySem.W.kitOne K (.ref (cls q)) u = some b) ∧ KTb K cls u r
theorem KTb.at {K : PySem.W.Frag} {cls : Nat → Addr} {u : Value} : ∀ {tb : List (Nat × Bool)} {q : Nat} {b : Bool}, KTb K cls u tb → tb.lookup q = some b → InsD K (cls q) ∧ PySem.W.kitOne K (.ref (cls q)) u = some b
  | (q', b') :: r, q, b, h, e => by
    simp only [List.lookup] at e
    split at e
    · rename_i z
      cases e
      rw [beq_iff_eq.mp z]
      exact h.1
    · exact KTb.at h.2 e
theorem sqT_ty {K : PySem.W.Frag} {H : Hp} {a : Addr} {xs : List V} (h : SqT K H a xs) : TyX K H (.ref a) (.type "tuple") := by
  rcases h with (h | ⟨o, h⟩) | ⟨o, its, n, h, hc, _⟩
  · exact .base (.tup h)
  · exact .fTuple h
  · exact .kTuple h hc
theorem sqL_ty {K : PySem.W.Frag} {H : Hp} {a : Addr} {xs : List V} (h : SqL K H a xs) : TyX K H (.ref a) (.type "list") := by
  rcases h with (h | ⟨o, h⟩) | ⟨o, its, n, h, hc, _⟩
  · exact .base (.lst h)
  · exact .base (.frz h)
  · exact .kList h hc
/-- the class of a tree -/
def tyD (cls : Nat → Addr) : D → Value
  | .non => .type "NoneType"
  | .bl _ => .type "bool"
  | .int _ => .type "int"
  | .str _ => .type "str"
  | .tup _ => .type "tuple"
  | .lst _ => .type "list"
  | .obj q _ => .ref (cls q)
  | .st => .type "dict"
theorem isi_of {F H : Hp} (hs : Same F H) {u : Value} {bn bb bi bs bt bl : Bool} {tb : List (Nat × Bool)} (kt : KTab c.C.K u bn bb bi bs bt bl) (kb : KTb c.C.K c.C.cls u tb) {dx : D} {v : V} {d : D} (r : Rep c.C F dx v) (e : isiD bn bb bi bs bt bl tb dx = some d) :
    ∃ b, d = .bl b ∧ TyX c.C.K H v (tyD c.C.cls dx) ∧ PySem.W.kitOne c.C.K (tyD c.C.cls dx) u = some b := by
  cases dx with
  | non => cases e; cases rep_non r; exact ⟨_, rfl, .base .non, kt.n⟩
  | bl _ => cases e; cases rep_bl r; exact ⟨_, rfl, .base (.bl _), kt.b⟩
  | int _ => cases e; cases rep_int r; exact ⟨_, rfl, .base (.int _), kt.i⟩
  | str _ => cases e; cases rep_str r; exact ⟨_, rfl, .base (.str _), kt.s⟩
  | tup _ => cases e; obtain ⟨a, vs, h1, h2, _⟩ := r; subst h1; exact ⟨_, rfl, sqT_ty (sqT_same hs h2), kt.t⟩
  | lst _ => cases e; obtain ⟨a, vs, h1, h2, _⟩ := r; subst h1; exact ⟨_, rfl, sqL_ty (hs.seq h2), kt.l⟩
  | obj q fs =>
    simp only [isiD] at e
    cases z : tb.lookup q with
    | none => rw [z] at e; cases e
    | some b =>
      rw [z] at e; cases e
      obtain ⟨iD, hk⟩ := kb.at z
      obtain ⟨p, dx, us, e1, e2⟩ := obj_at hs r
      subst e1
      exact ⟨_, rfl, .base (.ins e2 iD.cl iD.ha iD.hn iD.htk iD.hm), hk⟩
  | st => cases e
/-- isinstance(e, T), T one class -/
theorem d_isi {t : Expr} {p : Pos} {T : V} {u : Value} {bn bb bi bs bt bl : Bool} {tb : List (Nat × Bool)} (hk : c.C.K = X.K) (hm : X.mg "isinstance" = none) (cv : ClsV T u) (kt : KTab c.C.K u bn bb bi bs bt bl) (kb : KTb c.C.K c.C.cls u tb) (he : PE X e (tM c m)) (ht : PE X t (tC T))
    (hg : Gl X "isinstance" := by rfl) (h1 : starEach [e, t] X.env = (false, eval e X.env) :: starEach [t] X.env := by rfl) (h2 : starEach [t] X.env = (false, eval t X.env) :: starEach [] X.env := by rfl) (hpl : (backTo pos (starEach [t] X.env)).any (·.1) = false := by rfl) : PE X (.Call (.Name "isinstance" p) [e, t] [] pos) (tM c (m1 (isiD bn bb bi bs bt bl tb) m)) := by
  refine PEimp (pe_callB call_isi hg hm PyProof.Rows.boot_isinstance (L2.pa_cons he (L2.pa_cons ht L2.pa_nil h2) h1) (he := h1) (hpl := hpl)) fun σ H Q h => ?_
  refine tM_bind h fun dy s1 F1 H1 y env T1 ry hq => ?_
  obtain ⟨d, ed, hq⟩ := hq.opt T1
  obtain ⟨bv, rfl, ty, hko⟩ := isi_of T1.sub kt kb ry ed
  rw [hk] at ty hko
  exact ⟨y, T, _, u, bv, rfl, cv, ty, hko, hq F1 H1 (Same.refl _) T1 _ rfl⟩
/-- isinstance(e, (T1, T2)) -/
theorem d_isi2 {t1 t2 : Expr} {p tp : Pos} {kx} {T1 T2 : V} {u1 u2 : Value} {bn bb bi bs bt bl bn' bb' bi' bs' bt' bl' : Bool} {tb tb' : List (Nat × Bool)} (hk : c.C.K = X.K) (hm : X.mg "isinstance" = none) (cv1 : ClsV T1 u1) (cv2 : ClsV T2 u2) (kt1 : KTab c.C.K u1 bn bb bi bs bt bl) (kb1 : KTb c.C.K c.C.cls u1 tb) (kt2 : KTab c.C.K u2 bn' bb' bi' bs' bt' bl') (kb2 : KTb c.C.K c.C.cls u2 tb')
    (he : PE X e (tM c m)) (ht1 : PE X t1 (tC T1)) (ht2 : PE X t2 (tC T2)) (hg : Gl X "isinstance" := by rfl) (h1 : starEach [e, .Tuple [t1, t2] kx tp] X.env = (false, eval e X.env) :: starEach [.Tuple [t1, t2] kx tp] X.env := by rfl) (h2 : starEach [.Tuple [t1, t2] kx tp] X.env = (false, eval (.Tuple [t1, t2] kx tp) X.env) :: starEach [] X.env := by rfl)
    (h3 : starEach [t1, t2] X.env = (false, eval t1 X.env) :: starEach [t2] X.env := by rfl) (h4 : starEach [t2] X.env = (false, eval t2 X.env) :: starEach [] X.env := by rfl) (hpl : (backTo pos (starEach [.Tuple [t1, t2] kx tp] X.env)).any (·.1) = false := by rfl) :
    PE X (.Call (.Name "isinstance" p) [e, .Tuple [t1, t2] kx tp] [] pos) (tM c (m1 (fun d => match isiD bn bb bi bs bt bl tb d, isiD bn' bb' bi' bs' bt' bl' tb' d with | some (.bl x), some (.bl y) => some (.bl (x || y)) | _, _ => none) m)) := by
  refine PEimp (pe_callB call_isiT hg hm PyProof.Rows.boot_isinstance (L2.pa_cons he (L2.pa_cons (L2.pe_tup (L2.pa_cons ht1 (L2.pa_cons ht2 L2.pa_nil h4) h3)) L2.pa_nil h2) h1) (he := h1) (hpl := hpl)) fun σ H Q h => ?_
  refine tM_bind h fun dy s1 F1 H1 y env T3 ry hq => ?_
  obtain ⟨d, ed, hq⟩ := hq.opt T3
  dsimp only at ed
  cases z1 : isiD bn bb bi bs bt bl tb dy with
  | none => rw [z1] at ed; cases ed
  | some d1 =>
    cases z2 : isiD bn' bb' bi' bs' bt' bl' tb' dy with
    | none => rw [z1, z2] at ed; cases d1 <;> cases ed
    | some d2 =>
      rw [z1, z2] at ed
      refine ⟨by show 2 ≤ sizeLine; decide, fun pt npt => ?_⟩
      have T4 := T3.newM (o := .tup [T1, T2]) npt
      obtain ⟨bv, rfl, ty, hko⟩ := isi_of T4.sub kt1 kb1 ry z1
      obtain ⟨bv2, rfl, ty2, hko2⟩ := isi_of T4.sub kt2 kb2 ry z2
      cases ed
      rw [hk] at ty hko hko2
      refine ⟨y, pt, [T1, T2], _, [u1, u2], bv || bv2, rfl, upd_same, .cons cv1 (.cons cv2 .nil), ty, ?_, hq F1 _ (Same.refl _) T4 _ rfl⟩
      refine kitAny_cons hko (fun hb => ?_) fun hb => by rw [hb]; rfl
      refine kitAny_cons hko2 (fun hb2 => ?_) fun hb2 => by rw [hb2, Bool.or_true]
      rw [hb, hb2]
      exact kitAny_nil
theorem ktab_ty {K : PySem.W.Frag} {T : String} {bn bb bi bs bt bl : Bool} (h : (kitB "NoneType" T == some bn && kitB "bool" T == some bb && kitB "int" T == some bi && kitB "str" T == some bs && kitB "tuple" T == some bt && kitB "list" T == some bl) = true) : KTab K (.type T) bn bb bi bs bt bl := by
  simp only [Bool.and_eq_true, beq_iff_eq] at h
  obtain ⟨⟨⟨⟨⟨h1, h2⟩, h3⟩, h4⟩, h5⟩, h6⟩ := h
  exact ⟨kit_ty h1, kit_ty h2, kit_ty h3, kit_ty h4, kit_ty h5, kit_ty h6⟩
theorem kt_int {K : PySem.W.Frag} : KTab K (.type "int") false true true false false false := ktab_ty (by decide +kernel)
theorem kt_bool {K : PySem.W.Frag} : KTab K (.type "bool") false true false false false false := ktab_ty (by decide +kernel)
theorem kt_str {K : PySem.W.Frag} : KTab K (.type "str") false false false true false false := ktab_ty (by decide +kernel)
theorem kt_tuple {K : PySem.W.Frag} : KTab K (.type "tuple") false false false false true false := ktab_ty (by decide +kernel)
theorem kt_list {K : PySem.W.Frag} : KTab K (.type "list") false false false false false true := ktab_ty (by decide +kernel)
end
end DL
set_option Elab.async false
set_option linter.all false
set_option maxRecDepth 100000
namespace DL
open PySem PySem.Spec PyProof.Rows L2
mutual
theorem reads_of {X : Cx} {pins : List (Addr × Obj)} {σ : L2.St} {H : Hp} {s : Shared} (I : Inv X pins σ H s) {C : DC} {F : Hp} (hk : C.K = X.K) (e : Same F H) : ∀ {d : D} {v : V} {u : Value} {p : PyData}, Rep C F d v → RelV v u → toPy d = some p → ∃ as, Reads s.heap u p as
  | .non, _, _, _, h, r, q => by cases q; cases rep_non h; obtain rfl : _ = Value.none := r; exact ⟨_, .none⟩
  | .bl _, _, _, _, h, r, q => by cases q; cases rep_bl h; obtain rfl := (show _ = Value.bool _ from r); exact ⟨_, .bool _⟩
  | .int _, _, _, _, h, r, q => by cases q; cases rep_int h; obtain ⟨t, rfl⟩ := r; exact ⟨_, .int _ t⟩
  | .str x, _, _, _, h, r, q => by
    unfold toPy at q
    split at q
    · cases q; cases rep_str h; obtain ⟨t, rfl⟩ := r; exact ⟨_, .str _ t⟩
    · cases q
  | .tup xs, _, _, _, h, r, q => by
    obtain ⟨a, vs, h1, h2, h3⟩ := h
    unfold toPy at q
    cases z : toPys xs with
    | none => rw [z] at q; cases q
    | some ps =>
      rw [z] at q; cases q; subst h1
      obtain rfl : _ = Value.ref a := r
      obtain ⟨its, rv, ⟨o, ho, hcl, n, hd⟩, _⟩ := I.tuple (hk ▸ sqT_same e h2)
      obtain ⟨as, ra⟩ := readss_of I hk e h3 rv z
      exact ⟨_, .tuple ho hcl hd (by simpa using ra)⟩
  | .lst xs, _, _, _, h, r, q => by
    obtain ⟨a, vs, h1, h2, h3⟩ := h
    unfold toPy at q
    cases z : toPys xs with
    | none => rw [z] at q; cases q
    | some ps =>
      rw [z] at q; cases q; subst h1
      obtain rfl : _ = Value.ref a := r
      obtain ⟨its, rv, ⟨o, n, ho, hcl, _, hd⟩, _⟩ := I.list (hk ▸ e.seq h2)
      obtain ⟨as, ra⟩ := readss_of I hk e h3 rv z
      exact ⟨_, .list ho hcl hd (by simpa using ra)⟩
  | .obj _ _, _, _, _, _, _, q => by unfold toPy at q; cases q
  | .st, _, _, _, _, _, q => by unfold toPy at q; cases q
theorem readss_of {X : Cx} {pins : List (Addr × Obj)} {σ : L2.St} {H : Hp} {s : Shared} (I : Inv X pins σ H s) {C : DC} {F : Hp} (hk : C.K = X.K) (e : Same F H) : ∀ {ds : List D} {vs : List V} {us : List Value} {ps : List PyData}, Reps C F ds vs → Vals vs us → toPys ds = some ps → ∃ as, ReadsAll s.heap us ps as
  | [], _, _, _, h, r, q => by cases q; cases (show _ = [] from h); cases r; exact ⟨_, .nil⟩
  | d :: ds, _, _, _, ⟨v, rr, h1, h2, h3⟩, r, q => by
    unfold toPys at q
    cases z : toPy d with
    | none => rw [z] at q; cases q
    | some p =>
      cases z2 : toPys ds with
      | none => rw [z, z2] at q; cases q
      | some ps =>
        rw [z, z2] at q; cases q; subst h1
        cases r with
        | cons r1 r2 =>
          obtain ⟨as, k1⟩ := reads_of I hk e h2 r1 z
          obtain ⟨bs, k2⟩ := readss_of I hk e h3 r2 z2
          exact ⟨_, .cons k1 k2⟩
end
mutual
theorem noDict_of : ∀ {d : D} {p : PyData}, toPy d = some p → p.hasDict = false
  | .non, _, q => by cases q; rfl
  | .bl _, _, q => by cases q; rfl
  | .int _, _, q => by cases q; rfl
  | .str x, _, q => by unfold toPy at q; split at q <;> cases q; rfl
  | .tup xs, _, q => by
    unfold toPy at q
    cases z : toPys xs with
    | none => rw [z] at q; cases q
    | some ps => rw [z] at q; cases q; exact noDicts_of z
  | .lst xs, _, q => by
    unfold toPy at q
    cases z : toPys xs with
    | none => rw [z] at q; cases q
    | some ps => rw [z] at q; cases q; exact noDicts_of z
  | .obj _ _, _, q => by unfold toPy at q; cases q
  | .st, _, q => by unfold toPy at q; cases q
theorem noDicts_of : ∀ {ds : List D} {ps : List PyData}, toPys ds = some ps → PyData.hasDictAll ps = false
  | [], _, q => by cases q; rfl
  | d :: ds, _, q => by
    unfold toPys at q
    cases z : toPy d with
    | none => rw [z] at q; cases q
    | some p =>
      cases z2 : toPys ds with
      | none => rw [z, z2] at q; cases q
      | some ps =>
        rw [z, z2] at q; cases q
        show (p.hasDict || PyData.hasDictAll ps) = false
        rw [noDict_of z, noDicts_of z2]; rfl
end
/-- repr(x) -/
def reprV (d : D) : Option Str := match toPy d with
  | some p => if p.showable = true ∧ p.depth ≤ 60 ∧ p.shown.length ≤ sizeLine then some p.shown else none
  | none => none
def reprD : List D → Option D
  | [d] => (reprV d).map .str
  | _ => none
section
variable {S : Type} {c : Ct S} {X : Cx} {a b e o : Expr} {es rest : List Expr} {pos apos : Pos} {ma mb : M S D} {m : M S D} {ms : M S (List D)}
/-- the call of repr -/
theorem repr_call {pins : List (Addr × Obj)} {σ : L2.St} {H F : Hp} {s : Shared} {A : Around} {E : Value → Shared → Prop} (I : Inv X pins σ H s) {C : DC} (hk : C.K = X.K) (hg : A.guards = some []) (hu : A.units + 64 < cLine) (e : Same F H) {d : D} {v : V} {u : Value} {x : Str} (r : Rep C F d v) (rv : RelV v u) (q : reprV d = some x) {Q : VK} (h : Q (.str x) H) :
    wpAny (model X.prog X.w) A (PySem.call (.builtin "repr") [u]) (EP X pins σ Q) E s := by
  unfold reprV at q
  cases z : toPy d with
  | none => rw [z] at q; cases q
  | some p =>
    rw [z] at q
    dsimp only at q
    by_cases hp : p.showable = true ∧ p.depth ≤ 60 ∧ p.shown.length ≤ sizeLine
    · rw [if_pos hp] at q
      cases q
      obtain ⟨hs, hd, hz⟩ := hp
      obtain ⟨as, R⟩ := reads_of I hk e r rv z
      have nd := noDict_of z
      have big : (∃ a, u = .ref a) → wpAny (model X.prog X.w) A (PySem.call (.builtin "repr") [u]) (EP X pins σ Q) E s := by
        rintro ⟨a, rfl⟩
        exact repr_of_reads' R hs (PyData.noDict_hsm nd) hg (by omega) (fun _ _ e => e) (fun h' t tk hk => ⟨.str _, H, I.kept hk, ⟨t, rfl⟩, h⟩) hz
      cases R with
      | none => exact PySem.P.repr_of_none ⟨.str _, H, I.tok _, ⟨_, rfl⟩, h⟩
      | bool b => exact PySem.P.repr_of_bool ⟨.str _, H, I.tok _, ⟨_, rfl⟩, h⟩
      | int i t => exact PySem.P.repr_of_int (by simpa [PyData.showable] using hs) ⟨.str _, H, I.tok _, ⟨_, rfl⟩, h⟩
      | str y t => exact PySem.P.repr_of_str ⟨.str _, H, I.tok _, ⟨_, rfl⟩, h⟩ hz
      | list _ _ _ _ => exact big ⟨_, rfl⟩
      | tuple _ _ _ _ => exact big ⟨_, rfl⟩
      | dict _ _ _ _ _ => cases nd
    · rw [if_neg hp] at q; cases q
theorem call_reprD (hk : c.C.K = X.K) (hg : X.A.guards = some []) (hu : X.A.units + 64 < cLine) : CallR X (.builtin "repr") (fun vs H Q => ∃ F d v x, vs = [v] ∧ Same F H ∧ Rep c.C F d v ∧ reprV d = some x ∧ Q (.str x) H) := by
  intro pins s σ H xs us Q I r h
  obtain ⟨F, d, v, x, rfl, e, rp, q, h⟩ := h
  obtain ⟨u, rfl, ru⟩ := vals1 r
  exact repr_call I hk hg hu e rp ru q h
theorem d_repr {p : Pos} (hk : c.C.K = X.K) (hgd : X.A.guards = some []) (hu : X.A.units + 64 < cLine) (hm : X.mg "repr" = none) (ha : PE X a (tM c ma)) (hs : starEach [a] X.env = (false, eval a X.env) :: starEach [] X.env := by rfl) (hg : Gl X "repr" := by rfl) : PE X (.Call (.Name "repr" p) [a] [] pos) (tM c (callM reprD (consM ma (retM [])))) := by
  refine d_callB (call_reprD hk hgd hu) (fun σ F H env s vs ds d Q T rv e q => ?_) hm (a_cons ha a_nil hs) hg (he := hs)
  unfold reprD at e
  split at e
  · rename_i d0
    cases z : reprV d0 with
    | none => rw [z] at e; cases e
    | some x =>
      rw [z] at e; cases e
      obtain ⟨v, rfl, r⟩ := reps1 rv
      exact ⟨F, d0, v, x, rfl, T.sub, r, z, q F H _ (Same.refl _) T rfl⟩
  · cases e
end
end DL
set_option Elab.async false
set_option linter.all false
set_option maxRecDepth 100000
set_option maxHeartbeats 2000000
namespace DL
open PySem PySem.Spec PyProof.Rows L2
inductive NamesL : List Expr → List Str → Prop where
  | nil : NamesL [] []
  | cons {f : Str} {p : Pos} {es : List Expr} {fs : List Str} (h : NamesL es fs) : NamesL (.Name f p :: es) (f :: fs)
inductive StoresL : List Stmt → List Str → Prop where
  | nil : StoresL [] []
  | cons {f : Str} {a b c d : Pos} {ss : List Stmt} {fs : List Str} (h : StoresL ss fs) : StoresL (.Assign [.Attribute (.Name "self" a) f b] (.Name f c) d :: ss) (f :: fs)
structure InitT (fs : List Str) (params : Arguments) (body : List Stmt) (scope : Scope) : Prop where
  par : ∃ ar : Arg, (params.posonlyargs ++ params.args).head? = some ar ∧ ar.arg = "self"
  body : ∃ (p0 p1 p2 p3 p4 : Pos) (e : Expr) (es : List Expr) (ss : List Stmt), body = .Expr (.Call (.Attribute (.Call (.Name "super" p0) [] [] p1) "__init__" p2) (e :: es) [] p3) p4 :: ss ∧ NamesL (e :: es) fs ∧ StoresL ss fs ∧ (p2.endLine == p3.line) = true
  kind : scope.kind = .function
  co : scope.isCoroutine = false
  gen : scope.isGenerator = false
  hcell : ∀ x ∈ scope.names, x.2 ≠ .cell
  self : scope.names.lookup ("self" : Str) = some .local
  own : ∀ f ∈ fs, scope.names.lookup f = some .local
  sup : scope.names.lookup ("super" : Str) = some .globalImplicit
  cls : scope.names.lookup ("__class__" : Str) = some .free
  nd : (("self" : Str) :: fs).Nodup
  ndb : ∀ f ∈ fs, (f == ("__debug__" : Str)) = false
  few : fs.length ≤ 20
/-- what the written part says of such a class at C -/
structure ExcT (P : Program) (K : PySem.W.Frag) (C : Addr) (fs : List Str) : Prop where
  ox : OexC K C
  ga : XfC K C
  noN : ∀ f ∈ fs, PySem.W.findIn K (.ref C) f = some none
  veC : PySem.W.subIn K (.ref C) (.type "ValueError") = some true
  seC : PySem.W.mroIn K C (.ref C) = some true
  su : PySem.W.ks_superIn K C C "__init__" = some (some (.builtin "ValueError.__init__"))
  ho : PySem.W.nsIn K cStatics "thirdparty.any" = some none
  hs : PySem.W.nsIn K mainGlobals "super" = some none
  top : (P.main.scope.names.lookup ("super" : Str)).isSome = false
  fn : ∃ (fI cc cda : Addr) (q : Str) (params : Arguments) (body : List Stmt) (scope : Scope) (dV kV doc pm ct oc : Value) (an od : Option Addr) (osl : Array (Option Value)),
    PySem.W.findIn K (.ref C) "__init__" = some (some (.ref fI)) ∧ PySem.W.typeIn K (.ref fI) = some (.type "function") ∧
    K.lookup fI = some ⟨oc, od, .func (PySem.W.ksFn "__init__" q params body scope dV kV doc pm an (.ref cda) ct cc), osl⟩ ∧ PySem.W.codeIn K (.ref cda) q = true ∧ InitT fs params body scope ∧
    (∀ (s : Shared) (x : Addr) (us : List Value), us.length = fs.length → BindsTo s (PySem.W.ksFn "__init__" q params body scope dV kV doc pm an (.ref cda) ct cc) ⟨.ref x :: us, []⟩ (("self", .ref x) :: fs.zip us)) ∧
    (∃ (cl : Value) (cld : Option Addr) (csl : Array (Option Value)), K.lookup cc = some ⟨cl, cld, .cell (some (.ref C)), csl⟩) ∧
    ∃ (ccl : Value) (cdd : Option Addr) (vs : Array Value) (ccs : Array (Option Value)) (file : Str) (tf : Tok), K.lookup cda = some ⟨ccl, cdd, .fields vs, ccs⟩ ∧ vs[2]? = some (.str file tf) ∧ ((P.main.file : Str) == file) = true
theorem lookup_notin {β : Type} : ∀ {l : List (Str × β)} {k : Str}, k ∉ l.map (·.1) → l.lookup k = none
  | [], _, _ => rfl
  | (a, b) :: l, k, h => by
    have n : (k == a) = false := by simpa using fun z => h (by rw [z]; exact List.mem_cons_self ..)
    simp only [List.lookup, n]
    exact lookup_notin fun z => h (List.mem_cons_of_mem _ z)
theorem lookup_app {β : Type} : ∀ (l r : List (Str × β)) (k : Str), (l ++ r).lookup k = (l.lookup k).or (r.lookup k)
  | [], r, k => by simp
  | (a, b) :: l, r, k => by
    by_cases e : k = a
    · subst e; simp [List.lookup]
    · have n : (k == a) = false := by simpa using e
      simp only [List.cons_append, List.lookup, n]
      exact lookup_app l r k
theorem lookup_rev {β : Type} : ∀ {l : List (Str × β)} (k : Str), (l.map (·.1)).Nodup → l.reverse.lookup k = l.lookup k
  | [], _, _ => rfl
  | (a, b) :: l, k, nd => by
    obtain ⟨h1, h2⟩ := List.nodup_cons.mp (show (a :: l.map (·.1)).Nodup from nd)
    rw [List.reverse_cons, lookup_app, lookup_rev k h2]
    by_cases e : k = a
    · subst e
      rw [lookup_notin h1]; simp [List.lookup]
    · have n : (k == a) = false := by simpa using e
      simp only [List.lookup, n]
      cases l.lookup k <;> rfl
theorem lookup_mem {β : Type} : ∀ {l : List (Str × β)} {p : Str × β}, (l.map (·.1)).Nodup → p ∈ l → l.lookup p.1 = some p.2
  | [], _, _, h => by cases h
  | (a, b) :: l, p, nd, h => by
    obtain ⟨h1, h2⟩ := List.nodup_cons.mp (show (a :: l.map (·.1)).Nodup from nd)
    rcases List.mem_cons.mp h with rfl | hp
    · simp [List.lookup]
    · have n : (p.1 == a) = false := by simpa using fun z => h1 (by rw [← z]; exact List.mem_map_of_mem hp)
      simp only [List.lookup, n]
      exact lookup_mem h2 hp
theorem zip_keys {β : Type} : ∀ {fs : List Str} {us : List β}, us.length = fs.length → (fs.zip us).map (·.1) = fs
  | [], [], _ => rfl
  | f :: fs, u :: us, h => by simp [zip_keys (by simpa using h : us.length = fs.length)]
  | [], _ :: _, h => by simp at h
  | _ :: _, [], h => by simp at h
section
variable {prog : Program} {w : World} {A : Around} {E : Value → Shared → Prop} {s : Shared}
theorem ld_here {M : Model} {env : PySem.Env} {m : Str → Option Value} {x : Str} {pos : Pos} {v : Value} {Q : Value → Shared → Prop} (hn : s.heap.Ns env.locals m) (hv : m x = some v) (h : Q v s)
    (hk : env.scope.kind = .function) (hl : env.kindOf x = some .local) (hd : (x == ("__debug__" : Str)) = false) : wpAny M A (eval (.Name x pos) env) Q E s := wpAny_Name (wpAny_loadName_local hk hl hn hv h) hd
theorem names_eval {M : Model} {env : PySem.Env} {m : Str → Option Value} (hk : env.scope.kind = .function) (hn : s.heap.Ns env.locals m) : ∀ {es : List Expr} {fs : List Str} {us : List Value} {pos : Pos} {Q : List Value → Shared → Prop}, NamesL es fs → us.length = fs.length →
    (∀ p ∈ fs.zip us, m p.1 = some p.2 ∧ env.kindOf p.1 = some .local ∧ (p.1 == ("__debug__" : Str)) = false) → Q us s → wpAny M A (spliced (backTo pos (starEach es env))) Q E s
  | _, _, [], _, _, .nil, _, _, h => Calls.spliced_nil h
  | _, _, _ :: _, _, _, .nil, hl, _, _ => by simp at hl
  | _, _, [], _, _, .cons _, hl, _, _ => by simp at hl
  | _, _, u :: us, pos, Q, .cons (f := f) (p := p) (es := es) (fs := fs) r, hl, hm, h => by
    obtain ⟨h1, h2, h3⟩ := hm (f, u) (by simp)
    show wpAny M A (spliced ((false, eval (.Name f p) env) :: backTo pos (starEach es env))) Q E s
    refine Calls.spliced_cons (ld_here hn h1 ?_ hk h2 h3)
    exact names_eval hk hn r (by simpa using hl) (fun q hq => hm q (List.mem_cons_of_mem _ hq)) h
theorem names_plain {env : PySem.Env} {pos : Pos} : ∀ {es : List Expr} {fs : List Str}, NamesL es fs → (backTo pos (starEach es env)).any (·.1) = false
  | _, _, .nil => rfl
  | _, _, .cons (es := es) r => by
    show (false || (backTo pos (starEach es env)).any (·.1)) = false
    rw [names_plain r]; rfl
end
theorem eval_meth {o : Expr} {name : Str} {apos pos : Pos} {args : List Expr} {env : PySem.Env} (hf : methodCallForm (args.length + ([] : List Keyword).length) (backTo pos (starEach args env)) (backToKw pos (keywordEach [] env)) = true) (hl : (apos.endLine == pos.line) = true) :
    eval (.Call (.Attribute o name apos) args [] pos) env = (do
      let ov ← attributeBase o name env (eval o env)
      standAt apos.atName
      let (f, first) ← holding [ov] (getMethod ov name (do return (← importBound o env).getD true))
      callWith pos f first (backTo pos (starEach args env)) []) := by
  show (do
    let ov ← attributeBase o name env (eval o env)
    standAt apos.atName
    methodCall o name apos pos env ov (args.length + ([] : List Keyword).length) (backTo pos (starEach args env)) (backToKw pos (keywordEach [] env))) = _
  unfold methodCall methodCallPos calleeOf
  rw [hf, hl]
  rfl
theorem names_form {env : PySem.Env} {pos : Pos} {es : List Expr} {fs : List Str} (h : NamesL es fs) (hl : fs.length ≤ 20) : methodCallForm (es.length + ([] : List Keyword).length) (backTo pos (starEach es env)) (backToKw pos (keywordEach [] env)) = true := by
  have e1 : ∀ {es : List Expr} {fs : List Str}, NamesL es fs → es.length = fs.length ∧ (backTo pos (starEach es env)).all (!·.1) = true := by
    intro es fs h
    induction h with
    | nil => exact ⟨rfl, rfl⟩
    | cons h ih =>
      refine ⟨by simp [ih.1], ?_⟩
      show (true && List.all _ _) = true
      rw [Bool.true_and]
      exact ih.2
  obtain ⟨e2, e3⟩ := e1 h
  unfold methodCallForm
  rw [e3, e2]
  simp [backToKw, keywordEach]
  omega
theorem inter_fn {env : PySem.Env} (h : env.scope.kind = .function) : interactive env = false := by unfold interactive; rw [h]; rfl
section
open PySem.W
variable {prog : Program} {w : World} {A : Around} {E : Value → Shared → Prop} {h : Heap} {g : Array GenState} {d : Drawn} {t : Nat} {os : OsState}
theorem mw_call {nm q : Str} {C N : Addr} {bs bm : List Value} {hdct : Bool} {sn : List Str} {sub : List Value} {ab : Bool} {col : Option Bool} {dd : Option Addr} {k0 k1 k2 k3 k5 : Option Value} {u e t0 : Addr} {rest : List Value} {Q : Value → Shared → Prop}
    (hC : h.get? C = some (excClassObj nm q C N bs bm hdct sn sub ab col dd k0 k1 k2 k3 k5 "ValueError.__new__")) (he : h.get? e = some (HandSPX.excO C t0)) (hu : h.get? u = some (kxs_mw "ValueError.__init__" e)) (hrest : rest.length ≤ sizeLine)
    (hq : ∀ h' t1, (∀ b o, b ≠ e → h.get? b = some o → h'.get? b = some o) → h'.get? e = some (HandSPX.excO C t1) → Q .none ⟨h', g, d, t, os⟩) :
    wpAny (model prog w) A (call (.ref u) rest) Q E ⟨h, g, d, t, os⟩ := by
  refine wpAny_call (codeAny_of_tree ?_)
  show wpAny _ A.in1 (callAny (.ref u) ⟨rest, []⟩) _ _ _
  simp only [callAny]
  refine wpAny_bind (wpAny_load hu ?_)
  simp only [kxs_mw, show (Value.type "method-wrapper" == Value.type "method" || Value.type "method-wrapper" == Value.type "builtin_function_or_method" || Value.type "method-wrapper" == Value.type "method-wrapper") = true by decide, if_true]
  refine KFB.if_so (by decide) ?_
  refine wpAny_bind (check_bound_init F.excBase_ValueError.toExcCallFacts hC he rfl ?_)
  refine wpAny_bind (wpAny_pure (wpAny_pure ?_))
  refine ⟨plainId_quiet F.excBase_ValueError.init.plain _, codeAny_builtin F.excBase_ValueError.initEntry ?_⟩
  exact exc_init_tree (cls := .ref C) (t0 := t0) (dv := none) (c2 := .none) (c3 := .none) (b4 := .bool false) he hrest fun h' k1 k2 k3 => hq h' _ k1 k2
end
section
open PySem.W
variable {prog : Program} {w : World} {A : Around} {E : Value → Shared → Prop}
/-- the exception at x, its attributes so far -/
def ExcAtD (K : Frag) (h : Heap) (x C : Addr) (fv : Array Value) (big : Nat) (done : List (Str × Value)) : Prop :=
  (done = [] ∧ h.get? x = some { cls := .ref C, dict := none, data := .fields fv }) ∨
    (∃ dx, h.get? x = some { cls := .ref C, dict := some dx, data := .fields fv } ∧ big < dx ∧ dx ≠ x ∧ K.lookup dx = none ∧ h.Ns1 dx fun y => done.lookup y)
theorem within_done : ∀ (done : List (Str × Value)), Within (fun y => done.lookup y) (done.map (·.1))
  | [], y, h => absurd rfl h
  | (a, b) :: l, y, h => by
    by_cases e : y = a
    · subst e; exact List.mem_cons_self ..
    · have n : (y == a) = false := by simpa using e
      simp only [List.lookup, n] at h
      exact List.mem_cons_of_mem _ (within_done l y h)
theorem lookup_more {done : List (Str × Value)} {f : Str} {u : Value} (h : f ∉ done.map (·.1)) : (fun y => if y = f then some u else done.lookup y) = fun y => (done ++ [(f, u)]).lookup y := by
  funext y
  rw [lookup_app]
  by_cases e : y = f
  · subst e
    rw [if_pos rfl, lookup_notin h]; simp [List.lookup]
  · rw [if_neg e]
    have n : (y == f) = false := by simpa using e
    have z : List.lookup y [(f, u)] = none := by simp [List.lookup, n]
    rw [z]; simp
theorem stores_run {K : Frag} {C x : Addr} {env : PySem.Env} {m : Str → Option Value} {fv : Array Value} {cd : ClassData} (hk : env.scope.kind = .function) (hself : m "self" = some (.ref x)) (hls : env.kindOf "self" = some .local)
    (hcd : clsIn K C = some cd) (hm : HandSPX.refsVE cd.mro = true) (hh : cd.hasDict = true) (sa : findIn K (.ref C) "__setattr__" = some (some (.builtin "object.__setattr__"))) {Q : Flow → Shared → Prop} (h0 : Heap) (hxL : env.locals ≠ x) (hnx : K.lookup x = none) (nobig : ∀ b o, h0.get? b = some o → b < env.locals) :
    ∀ {ss : List Stmt} {fs : List Str} {us : List Value} {done : List (Str × Value)} {s : Shared}, StoresL ss fs → us.length = fs.length → (done.map (·.1) ++ fs).Nodup → done.length + fs.length ≤ 1000 →
    (∀ p ∈ fs.zip us, m p.1 = some p.2 ∧ env.kindOf p.1 = some .local ∧ (p.1 == ("__debug__" : Str)) = false ∧ findIn K (.ref C) p.1 = some none) →
    s.heap.Ns env.locals m → K.In s.heap → ExcAtD K s.heap x C fv env.locals done → (∀ b o, b ≠ x → h0.get? b = some o → s.heap.get? b = some o) →
    (∀ h' tk, ExcAtD K h' x C fv env.locals (done ++ fs.zip us) → (∀ b o, b ≠ x → h0.get? b = some o → h'.get? b = some o) → Q .next { s with heap := h', toks := tk }) → wpAny (model prog w) A (execs ss env) Q E s
  | _, _, [], done, s, .nil, _, _, _, _, _, _, hx, k0, hq => by
    refine wpAny_execs_nil (hq s.heap s.toks ?_ k0)
    simpa using hx
  | _, _, _ :: _, _, _, .nil, hl, _, _, _, _, _, _, _, _ => by simp at hl
  | _, _, [], _, _, .cons _, hl, _, _, _, _, _, _, _, _ => by simp at hl
  | _, _, u :: us, done, s, .cons (f := f) (a := a) (b := b) (c := c) (d := d) (ss := ss) (fs := fs) r, hl, nd, hz, hm', hn, X, hx, k0, hq => by
    obtain ⟨h1, h2, h3, h4⟩ := hm' (f, u) (by simp)
    have nf : f ∉ done.map (·.1) := fun z => by
      have := (List.nodup_append.mp nd).2.2 f z f (List.mem_cons_self ..)
      exact this rfl
    have nd2 : ((done ++ [(f, u)]).map (·.1) ++ fs).Nodup := by simpa using nd
    have go : ∀ h' tk, (∀ b o, b ≠ x → h0.get? b = some o → h'.get? b = some o) → h'.Ns env.locals m → K.In h' → ExcAtD K h' x C fv env.locals (done ++ [(f, u)]) → wpAny (model prog w) A (execs ss env) Q E { s with heap := h', toks := tk } := fun h' tk k hn' X' hx' =>
      stores_run hk hself hls hcd hm hh sa h0 hxL hnx nobig (done := done ++ [(f, u)]) (s := { s with heap := h', toks := tk }) r (by simpa using hl) nd2 (by simp at hz ⊢; omega) (fun p hp => hm' p (List.mem_cons_of_mem _ hp)) hn' X' hx' k
        fun h2 tk2 e2 k2 => hq h2 tk2 (by simpa using e2) k2
    refine wpAny_execs_cons (plainObj_wpAny_Assign_Attribute ?_)
    refine ld_here hn h1 (ld_here hn hself ?_ hk hls (by decide)) hk h2 h3
    have keepNs : ∀ {h' : Heap} {y : Addr}, y ≠ env.locals → (∀ b o, b ≠ y → s.heap.get? b = some o → h'.get? b = some o) → h'.Ns env.locals m := fun {h' y} hy k => by
      obtain ⟨o, es, ep, ho, q⟩ := hn
      exact ⟨o, es, ep, k _ _ (Ne.symm hy) ho, q⟩
    have keepK : ∀ {h' : Heap} {y : Addr}, K.lookup y = none → (∀ b o, b ≠ y → s.heap.get? b = some o → h'.get? b = some o) → K.In h' := fun {h' y} hy k b o e => k b o (fun z => by rw [z, hy] at e; cases e) (X b o e)
    rcases hx with ⟨rfl, hx⟩ | ⟨dx, hx, hbig, hdx, hnd, hns⟩
    · refine set_plain X (ox := { cls := .ref C, dict := none, data := .fields fv }) (od := none) ⟨hx, rfl, rfl, trivial⟩ sa ?_
      refine HandSPX.exc_osa X hx hcd hm hh h4 fun h' tk' dx k hge hne hx' hn' => ?_
      have hbL : env.locals < dx := Nat.lt_of_lt_of_le hn.lt hge
      have hnd : K.lookup dx = none := by
        cases z : K.lookup dx with
        | none => rfl
        | some o => exact absurd (Nat.lt_of_lt_of_le (Heap.lt_size (X dx o z)) hge) (Nat.lt_irrefl _)
      refine go h' tk' (fun b o hb e => k b o hb (k0 b o hb e)) (keepNs (Ne.symm hxL) k) (keepK hnx k) (.inr ⟨dx, hx', hbL, hne, hnd, ?_⟩)
      have e := lookup_more (u := u) nf
      simp only [List.lookup_nil] at e
      rw [← e]
      exact hn'
    · have wd := within_done done
      obtain ⟨oD, _, _, hoD, hdD, _⟩ := hns.count wd
      have hdL : dx ≠ env.locals := Nat.ne_of_gt hbig
      refine set_plain X (ox := { cls := .ref C, dict := some dx, data := .fields fv }) (od := some oD) ⟨hx, rfl, rfl, hoD⟩ sa ?_
      refine PySem.OEX.osa_old X hx hns wd (by rw [List.length_map]; omega) hcd hm hh h4 fun h' tk' k hn' => ?_
      refine go h' tk' (fun b o hb e => k b o (fun z => ?_) (k0 b o hb e)) (keepNs hdL k) (keepK hnd k) (.inr ⟨dx, k _ _ (Ne.symm hdx) hx, hbig, hdx, hnd, ?_⟩)
      · exact absurd (nobig b o e) (by rw [z]; exact Nat.not_lt.mpr (Nat.le_of_lt hbig))
      · rw [← lookup_more nf]
        exact hn'
end
section
open PySem.W
variable {prog : Program} {w : World} {A : Around} {E : Value → Shared → Prop} {R : Result → Shared → Prop} {K : Frag} {C : Addr} {fs : List Str} {mg mb : Str → Option Value}
/-- what __init__ leaves of the fresh exception at x -/
structure InitE (K : Frag) (h h' : Heap) (x C dx t1 : Addr) (fs : List Str) (us : List Value) : Prop where
  keep : ∀ b o, b ≠ x → h.get? b = some o → h'.get? b = some o
  obj : h'.get? x = some { cls := .ref C, dict := some dx, data := .fields #[.ref t1, .none, .none, .none, .bool false, .none] }
  dbig : h.objs.size ≤ dx
  dne : dx ≠ x
  ns : h'.Ns1 dx fun y => (fs.zip us).lookup y
theorem exc_init (T : ExcT prog K C fs) (fI cc cda : Addr) {q : Str} {params : Arguments} {body : List Stmt} {scope : Scope} {dV kV doc pm ct oc : Value} {an od : Option Addr} {osl : Array (Option Value)}
    (ho : K.lookup fI = some ⟨oc, od, .func (ksFn "__init__" q params body scope dV kV doc pm an (.ref cda) ct cc), osl⟩) (hcd : codeIn K (.ref cda) q = true) (hin : InitT fs params body scope)
    (hb : ∀ (s : Shared) (x : Addr) (us : List Value), us.length = fs.length → BindsTo s (ksFn "__init__" q params body scope dV kV doc pm an (.ref cda) ct cc) ⟨.ref x :: us, []⟩ (("self", .ref x) :: fs.zip us))
    (hce : ∃ (cl : Value) (cld : Option Addr) (csl : Array (Option Value)), K.lookup cc = some ⟨cl, cld, .cell (some (.ref C)), csl⟩)
    (hco : ∃ (ccl : Value) (cdd : Option Addr) (vs : Array Value) (ccs : Array (Option Value)) (file : Str) (tf : Tok), K.lookup cda = some ⟨ccl, cdd, .fields vs, ccs⟩ ∧ vs[2]? = some (.str file tf) ∧ ((prog.main.file : Str) == file) = true)
    {s : Shared} {x t0 : Addr} {us : List Value} (hl : us.length = fs.length) (X : K.In s.heap) (hlim : s.heap.NoLimit) (hG : s.heap.Ns mainGlobals mg) (hB : s.heap.Ns builtinsNs mb) (hmb : mb "super" = some (.type "super")) (hmg : mg "super" = none)
    (hx : s.heap.get? x = some (HandSPX.excO C t0)) (hnx : K.lookup x = none) (hroom : A.depth < recursionLimit) (hne : fs ≠ [])
    (hq : ∀ h' tk dx t1, InitE K s.heap h' x C dx t1 fs us → R (.ok (.ret .none)) { s with heap := h', toks := tk }) :
    codeAny (model prog w) A (.call (.ref fI) ⟨.ref x :: us, []⟩) R s := by
  obtain ⟨cl, cld, csl, hcell⟩ := hce
  obtain ⟨ccl, cdd, vs, ccs, file, tf, hcode, hvs, hfile⟩ := hco
  obtain ⟨nm, qn, N, bs, bm, sn, sub, ab, col, dd, k0, k1, k2, k3, k5, hC, hbm⟩ := T.ox.cls
  have hcl : clsIn K C = some { name := nm, bases := bs, mro := .ref C :: bm, ns := N, qualname := qn, hasDict := true, slotNames := sn, subclasses := sub, abstract := ab, collection := col, hasDel := false } := by unfold clsIn; rw [hC] <;> rfl
  obtain ⟨ar, har, hself⟩ := hin.par
  obtain ⟨p0, p1, p2, p3, p4, e, es, ss, rfl, hes, hss, hline⟩ := hin.body
  have hnd := hin.nd
  have hself' : ("self" : Str) ∉ fs := (List.nodup_cons.mp hnd).1
  refine ks_codeAny_call_defAt (binds := ("self", .ref x) :: fs.zip us) hroom (X _ _ ho) rfl hlim (codeRec_of X hcd) rfl (hb s x us hl) hin.hcell (fun y hy => ?_) (fun h₁ hns hk₁ => ?_) hin.co hin.gen hin.kind
  · rcases List.mem_cons.mp hy with rfl | hy
    · exact hin.self
    · exact hin.own _ (List.of_mem_zip hy).1
  have keys : ((("self", .ref x) :: fs.zip us : List (Str × Value)).map (·.1)) = ("self" : Str) :: fs := by rw [List.map_cons, zip_keys hl]
  have hns : h₁.Ns s.heap.objs.size (fun y => ((("self", .ref x) :: fs.zip us : List (Str × Value))).lookup y) := by
    have e : (fun y => ((("self", .ref x) :: fs.zip us : List (Str × Value))).reverse.lookup y) = fun y => ((("self", .ref x) :: fs.zip us : List (Str × Value))).lookup y := by
      funext y
      exact lookup_rev y (by rw [keys]; exact hnd)
    rw [← e]; exact hns
  have X₁ : K.In h₁ := X.keeps hk₁
  have mself : (fun y => ((("self", .ref x) :: fs.zip us : List (Str × Value))).lookup y) "self" = some (.ref x) := by simp [List.lookup]
  have mf : ∀ p ∈ fs.zip us, (fun y => ((("self", .ref x) :: fs.zip us : List (Str × Value))).lookup y) p.1 = some p.2 := fun p hp => by
    have ne : (p.1 == ("self" : Str)) = false := by simpa using fun z => hself' (by rw [← z]; exact (List.of_mem_zip hp).1)
    show List.lookup p.1 ((("self", .ref x) :: fs.zip us : List (Str × Value))) = some p.2
    simp only [List.lookup, ne]
    have ndz : ((fs.zip us).map (·.1)).Nodup := by rw [zip_keys hl]; exact (List.nodup_cons.mp hnd).2
    exact lookup_mem ndz hp
  have hxL : s.heap.objs.size ≠ x := Nat.ne_of_gt (Heap.lt_size hx)
  have hxC : x ≠ C := fun z => by rw [z, hC] at hnx; cases hnx
  have hx₁ := hk₁ _ _ hx
  obtain ⟨oD, hD1, hD2⟩ : ∃ oD, h₁.get? C = some oD ∧ oD.data = .cls _ := ⟨_, X₁ _ _ hC, rfl⟩
  refine ks_wpAt_execs_cons (ks_wpAt_Expr_any (ks_wpAt_MethodCall ?_ (eval_meth (names_form hes hin.few) hline)) (inter_fn hin.kind))
  refine ks_wpAt_super_base (cc := cda) hin.sup hin.cls rfl rfl (X₁ _ _ ho) rfl har rfl (X₁ _ _ hcode) rfl hvs hfile T.top ?_
  refine ks_loadName_global hin.kind hin.sup (Calls.loadGlobal_builtin (hG.keeps hk₁) hmg (hB.keeps hk₁) hmb ⟨rfl, ?_⟩)
  refine wpAny_loadName_free hin.kind hin.cls rfl ⟨_, X₁ _ _ hcell, rfl⟩ ?_
  rw [hself]
  refine wpAny_loadName_local hin.kind hin.self hns mself ?_
  refine ks_wpAny_isType_cls hD1 hD2 ⟨rfl, ?_⟩
  refine ks_wpAny_call_super hD1 hD2 hx₁ rfl (fun c e => by cases e) (looks_mroIn X₁ T.seC) (fun h₂ e₂ k₂ => ?_)
  have X₂ : K.In h₂ := X₁.keeps k₂
  have hI : Looks (model prog w) h₂ (isInstance (.ref x) (.type "ValueError")) true := (InstAt.type (ox := HandSPX.excO C t0) (C := C) (od := none) ⟨k₂ _ _ hx₁, rfl, rfl, trivial⟩).andThen (looks_subIn X₂ T.veC)
  have hsu := T.su
  unfold ks_superIn at hsu
  rw [hcl] at hsu
  refine kxs_getMethod kxs_ValueError e₂ (looks_opaque X₂ T.ho) (l₀ := .ref C :: bm) ?_ rfl X₂ hsu hI hxC rfl ?_
  · exact fun A Q E s k q => wpAny_bind ((looks_clsIn X₂ hcl) A _ E s k (wpAny_pure q))
  have keep2 : ∀ b o, h₁.get? b = some o → (h₂.push (kxs_mw "ValueError.__init__" x)).get? b = some o := fun b o e => Heap.get?_push_of_some _ (k₂ b o e)
  have X₃ : K.In (h₂.push (kxs_mw "ValueError.__init__" x)) := X₁.keeps keep2
  have hns₃ := hns.keeps keep2
  have kf : ∀ f ∈ fs, scope.names.lookup f = some .local := hin.own
  refine kxs_callWith (i := "ValueError.__init__") (x := x) (names_plain hes) ?_
  have evs : wpAny (model prog w) (A.deeper (callEnv (ksFn "__init__" q params (.Expr (.Call (.Attribute (.Call (.Name "super" p0) [] [] p1) "__init__" p2) (e :: es) [] p3) p4 :: ss) scope dV kV doc pm an (.ref cda) ct cc) s.heap.objs.size fI))
      (evalArgs (.ref h₂.objs.size) true (backTo p3 (starEach (e :: es) (callEnv (ksFn "__init__" q params (.Expr (.Call (.Attribute (.Call (.Name "super" p0) [] [] p1) "__init__" p2) (e :: es) [] p3) p4 :: ss) scope dV kV doc pm an (.ref cda) ct cc) s.heap.objs.size fI))) [])
      (fun ar s₁ => ar = ⟨us, []⟩ ∧ s₁ = ⟨h₂.push (kxs_mw "ValueError.__init__" x), s.gens, s.drawn, s.toks + (("self", Value.ref x) :: fs.zip us : List (Str × Value)).length + 1, s.os⟩) (fun _ _ => False)
      ⟨h₂.push (kxs_mw "ValueError.__init__" x), s.gens, s.drawn, s.toks + (("self", Value.ref x) :: fs.zip us : List (Str × Value)).length + 1, s.os⟩ := by
    have sp := @names_eval (E := fun _ _ => False) (s := ⟨h₂.push (kxs_mw "ValueError.__init__" x), s.gens, s.drawn, s.toks + (("self", Value.ref x) :: fs.zip us : List (Str × Value)).length + 1, s.os⟩) (M := model prog w)
      (A := A.deeper (callEnv (ksFn "__init__" q params (.Expr (.Call (.Attribute (.Call (.Name "super" p0) [] [] p1) "__init__" p2) (e :: es) [] p3) p4 :: ss) scope dV kV doc pm an (.ref cda) ct cc) s.heap.objs.size fI))
      (env := callEnv (ksFn "__init__" q params (.Expr (.Call (.Attribute (.Call (.Name "super" p0) [] [] p1) "__init__" p2) (e :: es) [] p3) p4 :: ss) scope dV kV doc pm an (.ref cda) ct cc) s.heap.objs.size fI)
      (m := fun y => ((("self", .ref x) :: fs.zip us : List (Str × Value))).lookup y) hin.kind hns₃ (es := e :: es) (fs := fs) (us := us) (pos := p3) (Q := fun vs s₁ => vs = us ∧ s₁ = ⟨h₂.push (kxs_mw "ValueError.__init__" x), s.gens, s.drawn, s.toks + (("self", Value.ref x) :: fs.zip us : List (Str × Value)).length + 1, s.os⟩)
      hes hl (fun p hp => ⟨mf p hp, kf _ (List.of_mem_zip hp).1, hin.ndb _ (List.of_mem_zip hp).1⟩) ⟨rfl, rfl⟩
    cases hes with
    | cons r => exact Calls.evalArgs_plain (wpAny_mono sp (fun vs s1 hh => ⟨by rw [hh.1], hh.2⟩) fun _ _ z => z)
  refine wpAny_mono evs (fun ar s₁ hh => ?_) fun _ _ z => z.elim
  obtain ⟨rfl, rfl⟩ := hh
  refine ⟨Heap.get?_push_at rfl rfl, ?_⟩
  refine mw_call (X₃ _ _ hC) (keep2 _ _ hx₁) (Heap.get?_push_at rfl rfl) (by show us.length ≤ sizeLine; rw [hl, sizeLine_eq]; have := hin.few; omega) fun h₄ t1 k₄ hx₄ => ?_
  have hCx : ∀ {b o}, h₁.get? b = some o → b ≠ x → h₄.get? b = some o := fun {b o} e nb => k₄ _ _ nb (keep2 _ _ e)
  have X₄ : K.In h₄ := fun b o eb => hCx (X₁ b o eb) fun z => by rw [z, hnx] at eb; cases eb
  have hns₄ : h₄.Ns s.heap.objs.size (fun y => ((("self", .ref x) :: fs.zip us : List (Str × Value))).lookup y) := by
    obtain ⟨o, es', ep, ho', q'⟩ := hns₃
    exact ⟨o, es', ep, k₄ _ _ hxL ho', q'⟩
  refine _root_.PySem.wpAt_of_wpAny ?_
  refine stores_run (env := callEnv (ksFn "__init__" q params (.Expr (.Call (.Attribute (.Call (.Name "super" p0) [] [] p1) "__init__" p2) (e :: es) [] p3) p4 :: ss) scope dV kV doc pm an (.ref cda) ct cc) s.heap.objs.size fI) (K := K) (C := C) (x := x) (m := fun y => ((("self", .ref x) :: fs.zip us : List (Str × Value))).lookup y) (fv := #[.ref t1, .none, .none, .none, .bool false, .none]) hin.kind mself hin.self hcl (show HandSPX.refsVE (.ref C :: bm) = true from hbm) rfl T.ox.sa s.heap hxL hnx (fun b o eb => Heap.lt_size eb)
    (done := []) hss hl (by simpa using (List.nodup_cons.mp hnd).2) (by have := hin.few; simp; omega) (fun p hp => ⟨mf p hp, kf _ (List.of_mem_zip hp).1, hin.ndb _ (List.of_mem_zip hp).1, T.noN _ (List.of_mem_zip hp).1⟩) hns₄ X₄ (.inl ⟨rfl, hx₄⟩) (fun b o nb eb => hCx (hk₁ b o eb) nb) fun h' tk hE hK => ?_
  rcases hE with ⟨z, _⟩ | ⟨dx, e1, e2, e3, e4, e5⟩
  · exfalso
    have z2 := congrArg List.length z
    simp [hl] at z2
    exact hne z2
  · exact hq h' tk dx t1 ⟨hK, e1, Nat.le_of_lt e2, e3, e5⟩
end
section
open PySem.W
variable {prog : Program} {w : World} {A : Around} {E : Value → Shared → Prop} {R : Result → Shared → Prop} {K : Frag} {C : Addr} {fs : List Str} {mg mb : Str → Option Value}
structure ExcMade (h h' : Heap) (e C d : Addr) (fs : List Str) (us : List Value) : Prop where
  keep : ∀ b o, h.get? b = some o → h'.get? b = some o
  new : h.objs.size ≤ e
  obj : ∃ oe vs, h'.get? e = some oe ∧ oe.cls = .ref C ∧ oe.dict = some d ∧ oe.data = .fields vs ∧ vs[1]? = some .none
  dbig : h.objs.size ≤ d
  dne : d ≠ e
  ns : h'.Ns1 d fun y => (fs.zip us).lookup y
theorem exc_made (T : ExcT prog K C fs) {s : Shared} {us : List Value} (hl : us.length = fs.length) (hne : fs ≠ []) (X : K.In s.heap) (hlim : s.heap.NoLimit) (hG : s.heap.Ns mainGlobals mg) (hB : s.heap.Ns builtinsNs mb) (hmb : mb "super" = some (.type "super")) (hmg : mg "super" = none) (hroom : A.depth + 1 < recursionLimit)
    (hq : ∀ h' tk e d, ExcMade s.heap h' e C d fs us → R (.ok (.ret (.ref e))) { s with heap := h', toks := tk }) :
    codeAny (model prog w) A (.call (.ref C) ⟨us, []⟩) R s := by
  obtain ⟨nm, qn, N, bs, bm, sn, sub, ab, col, dd, k0, k1, k2, k3, k5, hC, hbm⟩ := T.ox.cls
  obtain ⟨fI, cc, cda, q, params, body, scope, dV, kV, doc, pm, ct, oc, an, od, osl, iC, tI, ho, hcd, hin, hb, hce, hco⟩ := T.fn
  obtain ⟨hp, g, dr, tk, os⟩ := s
  have k : ∀ b o, hp.get? b = some o → ((hp.push (kdv_tup us)).push (HandSPX.excO C hp.objs.size)).get? b = some o := fun b o e => Heap.get?_push_of_some _ (Heap.get?_push_of_some _ e)
  have hget : ((hp.push (kdv_tup us)).push (HandSPX.excO C hp.objs.size)).get? (hp.objs.size + 1) = some (HandSPX.excO C hp.objs.size) := by heap_get
  have hnx : K.lookup (hp.objs.size + 1) = none := by
    cases e : K.lookup (hp.objs.size + 1) with
    | none => rfl
    | some o =>
      have z : hp.get? (hp.objs.size + 1) = some o := X _ _ e
      exact absurd (Nat.lt_of_succ_lt (Heap.lt_size z)) (Nat.lt_irrefl _)
  have hus : us.length ≤ sizeLine := by rw [hl, sizeLine_eq]; have := hin.few; omega
  refine HandSPX.call_own F.excBase_ValueError (fun X => HandSPX.refsVE_contains X bm hbm) (X _ _ hC) (looks_findIn X iC) (fun self => bind_fn X self tI) hus ?_
  refine exc_init (s := ⟨(hp.push (kdv_tup us)).push (HandSPX.excO C hp.objs.size), g, dr, tk, os⟩) T fI cc cda ho hcd hin hb hce hco hl (X.keeps k) (hlim.keeps k) (hG.keeps k) (hB.keeps k) hmb hmg hget hnx ?_ hne fun h' tk' dx t1 ⟨k', hx, dn, dne, hns⟩ => ?_
  · show A.depth + 1 < recursionLimit
    exact hroom
  · have old : ∀ b o, hp.get? b = some o → h'.get? b = some o := fun b o e => k' b o (Nat.ne_of_lt (Nat.lt_succ_of_lt (Heap.lt_size e))) (k b o e)
    have z : hp.objs.size + 1 + 1 ≤ dx := by
      have q := dn
      first
        | (simpa only [Heap.size_push] using q)
        | exact q
        | (rw [Heap.size_push, Heap.size_push] at q; exact q)
    exact ⟨rfl, hq h' tk' (hp.objs.size + 1) dx ⟨old, Nat.le_succ _, ⟨_, _, hx, rfl, rfl, rfl, rfl⟩, Nat.le_trans (Nat.le_trans (Nat.le_succ _) (Nat.le_succ _)) z, dne, hns⟩⟩
end
theorem relO_zip : ∀ {fs : List Str} {vs : List V} {us : List Value} (f : Str), Vals vs us → RelO ((fs.zip vs).lookup f) ((fs.zip us).lookup f)
  | [], _, _, _, _ => trivial
  | _ :: _, _, _, _, .nil => trivial
  | g :: fs, _, _, f, .cons (a := v) (b := u) r t => by
    by_cases e : f = g
    · subst e
      simp only [List.zip_cons_cons, List.lookup, beq_self_eq_true]
      exact r
    · have n : (f == g) = false := by simpa using e
      simp only [List.zip_cons_cons, List.lookup, n]
      exact relO_zip f t
section
variable {X : Cx} {C : Addr} {fs : List Str} {x : Str} {e : Expr} {es : List Expr} {ta : TA} {p pos : Pos}
def tMkE (C : Addr) (fs : List Str) (ta : TA) : L2.St → Hp → XK → Prop := fun σ H Q => ta σ H fun vs H1 => vs.length = fs.length ∧ ∀ d, H1 d = none → Q (.ref C) (some d) (upd H1 d (.xd (fs.zip vs)))
theorem pmk_exc (T : ExcT X.prog X.K C fs) (hne : fs ≠ []) {k : Nat} (hr : Room k X.A) (hk1 : 1 ≤ k) (hg : Gl X x) (hm : X.mg x = some (.ref C)) (ha : PA X (e :: es) ta) (hdb : (x == ("__debug__" : Str)) = false := by decide)
    (he : starEach (e :: es) X.env = (false, eval e X.env) :: starEach es X.env := by rfl) (hpl : (backTo pos (starEach es X.env)).any (·.1) = false := by rfl) :
    PMk X (.Call (.Name x p) (e :: es) [] pos) (tMkE C fs ta) := by
  intro pins s σ H Q I h
  refine wpAny_Call_Name_kw (ld_glob I hg hm ?_ hdb)
  refine PySem.W.callWith_K (h₀ := X.base) I.ok.mod.kin T.ox.kC (thn (ha.run pos pins s σ H _ I h) fun us s1 hh => ?_) he hpl
  obtain ⟨vs, H1, I1, r1, hl, q1⟩ := hh
  refine ⟨I1.kIn, ?_⟩
  show wpAny _ _ (call (.ref C) us) _ _ _
  have hlu : us.length = fs.length := by rw [← Paired.length r1]; exact hl
  have hlim := I1.nolimit
  obtain ⟨mb, hB, hbb⟩ := I1.ok.mod.blt
  have hG := I1.ok.mod.glob.keeps I1.bk
  have hB := hB.keeps I1.bk
  have hms : X.mg "super" = none := by
    have := T.hs
    exact PySem.W.mg_none_of I1.ok.mod.kin I1.ok.mod.glob this
  have hmb : mb "super" = some (.type "super") := (hbb "super" (by decide)).trans (by decide +kernel)
  obtain ⟨hp, g, dr, tk, os⟩ := s1
  refine wpAny_call (exc_made T hlu hne I1.kIn hlim hG hB hmb hms (by have := hr.dp; omega) fun h' tk' e d M => ?_)
  show MkP X pins σ Q (.ref e) ⟨h', g, dr, tk', os⟩
  obtain ⟨oe, fv, hoe, hc, hd, hdat, h1⟩ := M.obj
  have hns := M.ns
  obtain ⟨G', g1, g2⟩ := restrict h' fun b => decide (b ≠ e)
  have gk : ∀ b, b ≠ e → G'.get? b = h'.get? b := fun b hb => g1 b (decide_eq_true hb)
  have ge : G'.get? e = none := g2 e (by simp)
  have old : ∀ b o, hp.get? b = some o → G'.get? b = some o := fun b o q => (gk b (Nat.ne_of_lt (Nat.lt_of_lt_of_le (Heap.lt_size q) M.new))).trans (M.keep b o q)
  have ob : ObjOk X.prog X.w (upd H1 d (.xd (fs.zip vs))) G' d (.xd (fs.zip vs)) :=
    ⟨_, hns.at (fun o q => (gk d M.dne).trans q), fun f => relO_zip f r1⟩
  have J : Inv X pins σ (upd H1 d (.xd (fs.zip vs))) ⟨G', g, dr, tk', os⟩ := I1.laid (t' := tk') old M.dbig ob
  refine ⟨e, oe, fv, ⟨G', g, dr, tk', os⟩, _, .ref C, some d, rfl, J, fun b o q => ?_, ge, hoe, ⟨hc, hd⟩, hdat, h1, ?_, rfl, I1.bare, raises_own T.ox.exC T.ox.tyC, q1 d (I1.hok.fresh M.dbig)⟩
  · by_cases hb : b = e
    · have q' : G'.get? b = some o := q
      rw [hb, ge] at q'; cases q'
    · exact (gk b hb).symm.trans q
  · rw [upd_ne (Ne.symm M.dne)]
    exact I1.hok.fresh M.new
end
end DL
set_option Elab.async false
set_option linter.all false
set_option maxRecDepth 100000
namespace DL
open PySem PySem.Spec PyProof.Rows L2
section
variable {S : Type} {c : Ct S} {X : Cx} {e : Expr} {es : List Expr} {pos : Pos} {ms : M S (List D)}
def raiseS (k n : Nat) (ms : M S (List D)) : MS S := thenS ms fun ds env s => if ds.length = n then .exc k ds (env, s) else .bad
/-- raise C(e, ..) -/
theorem s_raise {x : Str} {p pos2 : Pos} {k n j : Nat} (T : ExcT X.prog X.K (c.C.cls k) (c.C.flds k)) (o : XO X c j) (hm : X.mg x = some (.ref (c.C.cls k))) (ha : PA X (e :: es) (tA c ms)) (hn : (c.C.flds k).length = n := by rfl) (hn0 : n ≠ 0 := by decide) (hj : 1 ≤ j := by decide) (hg : Gl X x := by rfl)
    (hdb : (x == ("__debug__" : Str)) = false := by decide) (he : starEach (e :: es) X.env = (false, eval e X.env) :: starEach es X.env := by rfl) (hpl : (backTo pos (starEach es X.env)).any (·.1) = false := by rfl) :
    PS X (.Raise (some (.Call (.Name x p) (e :: es) [] pos)) none pos2) (tS c (raiseS k n ms)) := by
  refine PSimp (ps_raise o.cm o.tk (pmk_exc T (fun z => hn0 (by rw [← hn, z]; rfl)) o.rm hj hg hm ha hdb he hpl)) fun D σ H h => ?_
  obtain ⟨F, env, s, T0, h⟩ := h
  refine ⟨F, env, s, T0, h.bind.imp fun ds s1 F1 H1 e1 T1 q vs rvs => ?_⟩
  by_cases hl : ds.length = n
  · rw [if_pos hl] at q
    refine ⟨by rw [rvs.length, hl, hn], fun d nd => ?_⟩
    refine q _ (some d) σ _ _ (same_upd (T1.ff nd)) (T1.new nd fun ps z => by cases z) ⟨rfl, .inr ⟨d, vs, rfl, upd_same, by rw [rvs.length, hl, hn], rvs.mono (same_upd (T1.ff nd))⟩⟩
  · rw [if_neg hl] at q; exact q.elim
end
/-- one clause: the class it names, its name's slot, its suite -/
structure Hd where
  v : Value
  i : Option Nat
  ts : Addr → Value → Option Addr → TS
def Ends.un (D : Ends) (i : Nat) : Ends := { nx := fun σ' H' => D.nx (σ'.set i none) H', rt := D.rt, bk := fun σ' H' => D.bk (σ'.set i none) H', ct := fun σ' H' => D.ct (σ'.set i none) H' }
def wHds (K : PySem.W.Frag) (Wout : WX) (D : Ends) : List Hd → WX
  | [] => Wout
  | ⟨v, i, ts⟩ :: r => fun cls d σ H => ∃ b, PySem.W.exmOne K cls v = some b ∧
      (b = true → ∀ a, H a = none → match i with | none => ts a cls d D σ H | some i => ts a cls d (Ends.un D i) (σ.set i (some (.ref a))) H) ∧ (b = false → wHds K Wout D r cls d σ H)
inductive HdL (X : Cx) : List ExceptHandler → List Hd → Prop
  | nil : HdL X [] []
  | bare {x : Str} {v : Value} {ts : Addr → Value → Option Addr → TS} {b : Stmt} {su : List Stmt} {np p : Pos} {hs : List ExceptHandler} {l : List Hd} (hc : Names X x v)
      (hsu : ∀ (a : Addr) (oe : Obj) (cls : Value) (d : Option Addr) (pn : List (Addr × Obj)), Zc cls d oe → (∃ vs, oe.data = .fields vs) → PSs (X.suite a ((a, oe) :: pn)) (b :: su) (ts a cls d)) (r : HdL X hs l) :
      HdL X (.ExceptHandler (some (.Name x np)) none (b :: su) p :: hs) (⟨v, none, ts⟩ :: l)
  | as {x n : Str} {v : Value} {i : Nat} {ts : Addr → Value → Option Addr → TS} {b : Stmt} {su : List Stmt} {np p : Pos} {hs : List ExceptHandler} {l : List Hd} (hc : Names X x v) (hi : X.N[i]? = some n) (hl : X.env.kindOf n = some .local)
      (hsu : ∀ (a : Addr) (oe : Obj) (cls : Value) (d : Option Addr) (pn : List (Addr × Obj)), Zc cls d oe → (∃ vs, oe.data = .fields vs) → PSs (X.suite a ((a, oe) :: pn)) (b :: su) (ts a cls d)) (r : HdL X hs l) :
      HdL X (.ExceptHandler (some (.Name x np)) (some n) (b :: su) p :: hs) (⟨v, some i, ts⟩ :: l)
section
variable {X : Cx} {body : List Stmt} {h₀ : ExceptHandler} {hds : List ExceptHandler} {l : List Hd} {pos : Pos} {tb : WX → TS} {Wout : WX}
theorem ps_tryL (hst : X.stack = X.env :: X.outer) (hf : X.env.frame = some X.env.locals) (hN : X.N.Nodup) (tk : Takes X Wout)
    (hb : ∀ (W : WX) (pn : List (Addr × Obj)) (xe : Value → Shared → Prop), Takes (X.tr pn xe) W → PassesOwn (model X.prog X.w) X.A X.env xe → PSs (X.tr pn xe) body (tb W))
    (hh : HdL X (h₀ :: hds) l) : PS X (.Try body (h₀ :: hds) [] [] pos) (fun D σ H => tb (wHds X.K Wout D l) D σ H) := by
  refine ⟨fun pins s σ H D I0 hq0 => ?_⟩
  have okX := I0.ok
  have frX : X.A.frames = some (X.env :: X.outer) := by rw [okX.frames, hst]
  refine wpAny_Try_except (wpAny_mono ((hb (wHds X.K Wout D l) (X.pn ++ pins) (fun e s₁ => wpAny (model X.prog X.w) X.A (noteFrame e X.env) (fun _ s₂ => wpAny (model X.prog X.w) X.A (setFlight e none) (fun _ s₃ =>
    wpAny (model X.prog X.w) X.A (handleBy e X.env (h₀ :: hds)) (SP X pins D) X.xe s₃) X.xe s₂) X.xe s₁) (fun u sx xx => ?_) PassesOwn.looking).run [] s σ H D (I0.toTry _) hq0) (fun fl s1 sp => ?_) (fun e s1 he => he))
  · obtain ⟨a, B, sI, pins', σx, Hx, cls, d, rfl, J', nb, up, sky, na, os, ag, w0⟩ := xx
    have J : Inv X pins σx Hx sI := J'.ofTry okX
    have skyX : Sky B (X.env :: X.outer) a (Zc cls d) X.env.locals sx.heap := by rw [← hst]; exact sky
    show wpAny (model X.prog X.w) X.A (noteFrame (.ref a) X.env) _ _ _
    refine Sky.land Zc.steady frX hf skyX fun g3 fl3 up3 => ?_
    have J3 : Inv X pins σx Hx { sx with heap := g3 } := J.landed nb fl3.1 (up.trans up3) os ag
    obtain ⟨o3, v3, at3, z3, dat3⟩ := fl3.there
    have out : a ∉ frs (X.env :: X.outer) := fun hm => by
      obtain ⟨_, o2, e2, no2⟩ := fl3.2.2.1.mem hm
      rw [at3] at e2; cases e2
      exact no2 _ dat3
    have aL : a ≠ X.env.locals := fun z => out (List.mem_filterMap.mpr ⟨X.env, List.mem_cons_self, by rw [hf, z]⟩)
    have aF : a ∉ X.fs := fun hm => by
      obtain ⟨e2, m2, q2⟩ := List.mem_filterMap.mp hm
      exact out (List.mem_filterMap.mpr ⟨e2, List.mem_cons_of_mem _ m2, q2⟩)
    have S3 := J3.suite at3 dat3 na aL aF
    have LT : PySem.W.Looks (model X.prog X.w) g3 (typeOf (.ref a)) cls := fun A Q E s k q => wpAny_typeOf_ref (k _ _ at3) (by rw [z3.1]; exact q)
    -- the test of a clause that names v
    have test : ∀ {x : Str} {v : Value} {np : Pos} {Q : Value → Shared → Prop} {E : Value → Shared → Prop}, Names X x v → Q v { sx with heap := g3 } → wpAny (model X.prog X.w) (X.A.mark (some (.ref a))) (eval (.Name x np) X.env) Q E { sx with heap := g3 } := fun {x v np Q E} hc q => by
      rcases hc with ⟨k1, k2, k3 | ⟨k3, k4, k5⟩⟩
      · exact ld_glob (X := X.suite a ((a, o3) :: (X.pn ++ pins))) S3 k1 k3 q k2
      · exact ld_blt (X := X.suite a ((a, o3) :: (X.pn ++ pins))) S3 k1 k3 k4 q k5 k2
    have run : ∀ {hs : List ExceptHandler} {l : List Hd}, HdL X hs l → wHds X.K Wout D l cls d σx Hx → wpAny (model X.prog X.w) X.A (handleBy (.ref a) X.env hs) (SP X pins D) X.xe { sx with heap := g3 } := by
      intro hs l hk
      induction hk with
      | nil =>
        intro w1
        refine wpAny_handleBy_nil ?_
        obtain ⟨_, _, _, o4, v4, T4, oT4, _, at4, _, dat4, one4, _⟩ := id fl3
        unfold PySem.passOn
        refine wpAny_bind (wpAny_field at4 dat4 one4 ?_)
        rw [if_neg (show ¬ ((Value.ref T4 == Value.none) = true) from by simp)]
        have up4 : wpAny (model X.prog X.w) X.A (setFlight (.ref a) X.env.frame) (fun _ s4 => wpAny (model X.prog X.w) X.A (throw (.ref a) : Sem Flow) (SP X pins D) X.xe s4) X.xe { sx with heap := g3 } := by
          rw [hf]
          exact HandSPX.setFlight_upZ fl3 fun g4 hh4 u4 => wpAny_throw (tk _ _ ⟨a, B, sI, pins, σx, Hx, cls, d, rfl, J, nb, (up.trans up3).trans u4, .inr (.inr (by rw [hst]; exact hh4)), na, os, ag, w1⟩)
        first
          | exact wpAny_bind (wpAny_pure (wpAny_bind up4))
          | exact wpAny_bind up4
      | @bare x v ts b su np p hs2 l2 hc hsu r ih =>
        rintro ⟨ans, hans, yes, no⟩
        refine wpAny_handleBy_cons (codeAny_handlers_test (test hc ((PySem.W.exm_one (M := model X.prog X.w) J3.kIn LT hans).here ?_))) (by intro q; cases q)
        cases ans with
        | false => exact ih (no rfl)
        | true =>
          refine codeAny_handlers_suite (HandSPX.lands_againZ fl3 fun g4 fl4 u4 => ?_)
          obtain ⟨o4, v4, at4, z4, dat4⟩ := fl4.there
          have S4 := (J.landed (s' := { sx with heap := g4 }) nb fl4.1 ((up.trans up3).trans u4) os ag).suite at4 dat4 na aL aF
          refine wpAny_mono ((hsu a o4 cls d (X.pn ++ pins) z4 ⟨_, dat4⟩).run [] _ _ Hx _ S4 (yes rfl a na)) (fun fl s6 sp => ?_) (fun _ _ z => z.elim)
          cases fl with
          | next => obtain ⟨σ6, H6, S6, q6⟩ := sp; exact ⟨_, _, S6.unsuite okX, q6⟩
          | brk => obtain ⟨σ6, H6, S6, q6⟩ := sp; exact ⟨_, _, S6.unsuite okX, q6⟩
          | cont => obtain ⟨σ6, H6, S6, q6⟩ := sp; exact ⟨_, _, S6.unsuite okX, q6⟩
          | ret u => obtain ⟨v6, σ6, H6, S6, r6, q6⟩ := sp; exact ⟨_, _, _, S6.unsuite okX, r6, q6⟩
      | @as x n v i ts b su np p hs2 l2 hc hi hl hsu r ih =>
        rintro ⟨ans, hans, yes, no⟩
        refine wpAny_handleBy_cons (codeAny_handlers_test (test hc ((PySem.W.exm_one (M := model X.prog X.w) J3.kIn LT hans).here ?_))) (by intro q; cases q)
        cases ans with
        | false => exact ih (no rfl)
        | true =>
          refine codeAny_handlers_suite_as (HandSPX.lands_againZ fl3 fun g4 fl4 u4 => ?_)
          obtain ⟨o4, v4, at4, z4, dat4⟩ := fl4.there
          have S4 := (J.landed (s' := { sx with heap := g4 }) nb fl4.1 ((up.trans up3).trans u4) os ag).suite at4 dat4 na aL aF
          refine store_ok (X := X.suite a ((a, o4) :: (X.pn ++ pins))) (v := .ref a) S4 hN hi (.inl hl) rfl (fun s5 S5 => ?_) (.inr hl)
          refine wpAny_mono ((hsu a o4 cls d (X.pn ++ pins) z4 ⟨_, dat4⟩).run [] s5 _ Hx _ S5 (yes rfl a na)) (fun fl s6 sp => ?_) (fun _ _ z => z.elim)
          cases fl with
          | next => obtain ⟨σ6, H6, S6, q6⟩ := sp; exact gone_ok (S6.unsuite okX) hN hi hl fun s7 J7 => ⟨_, _, J7, q6⟩
          | brk => obtain ⟨σ6, H6, S6, q6⟩ := sp; exact gone_ok (S6.unsuite okX) hN hi hl fun s7 J7 => ⟨_, _, J7, q6⟩
          | cont => obtain ⟨σ6, H6, S6, q6⟩ := sp; exact gone_ok (S6.unsuite okX) hN hi hl fun s7 J7 => ⟨_, _, J7, q6⟩
          | ret u => obtain ⟨v6, σ6, H6, S6, r6, q6⟩ := sp; exact gone_ok (S6.unsuite okX) hN hi hl fun s7 J7 => ⟨_, _, _, J7, r6, q6⟩
    exact run hh w0
  · cases fl with
    | next => obtain ⟨σ1, H1, J1, q1⟩ := sp; exact wpAny_execs_nil ⟨σ1, H1, J1.ofTry okX, q1⟩
    | brk => obtain ⟨σ1, H1, J1, q1⟩ := sp; exact ⟨σ1, H1, J1.ofTry okX, q1⟩
    | cont => obtain ⟨σ1, H1, J1, q1⟩ := sp; exact ⟨σ1, H1, J1.ofTry okX, q1⟩
    | ret u => obtain ⟨v1, σ1, H1, J1, r1, q1⟩ := sp; exact ⟨v1, σ1, H1, J1.ofTry okX, r1, q1⟩
end
structure HC (S : Type) where
  test : Nat → Option Bool
  i : Option Nat
  m : MS S
def plainSlot : Slot → Bool
  | .ins _ _ => false
  | .exc _ _ => false
  | .fn => false
  | _ => true
def plainE (env : Env) : Bool := env.all plainSlot
def endS {S : Type} (i : Option Nat) (r : R (Out × S) (Env × S)) : R (Out × S) (Env × S) :=
  let un : Env → Env := fun e => match i with | none => e | some i => e.set i .no
  match r with
  | .ok (.nx e, s) => if plainE (un e) = true then .ok (.nx (un e), s) else .bad
  | .ok (.bk e, s) => if plainE (un e) = true then .ok (.bk (un e), s) else .bad
  | .ok (.ct e, s) => if plainE (un e) = true then .ok (.ct (un e), s) else .bad
  | .ok (.rt d, s) => .ok (.rt d, s)
  | .exc _ _ _ => .bad
  | .bad => .bad
/-- what a suite keeps of the names -/
def plainF (env : Env) : Env := env.map fun x => if plainSlot x = true then x else .no
def excSlot (k : Nat) : List D → Slot
  | [] => .no
  | f :: fs => .exc k (f :: fs)
def handleS {S : Type} (k : Nat) (fs : List D) : List (HC S) → Env → S → R (Out × S) (Env × S)
  | [], env, s => .exc k fs (env, s)
  | h :: r, env, s => match h.test k with
    | none => .bad
    | some false => handleS k fs r env s
    | some true => endS h.i (h.m (match h.i with | none => plainF env | some i => (plainF env).set i (excSlot k fs)) s)
def tryS {S : Type} (mb : MS S) (hs : List (HC S)) : MS S := fun env s => match mb env s with
  | .exc k fs p => handleS k fs hs p.1 p.2
  | r => r
abbrev Ct.withW {S : Type} (c : Ct S) (W : WX) : Ct S := ⟨c.C, c.I, c.B, W⟩
/-- within a suite: the exception at a, of the class cls, its dict d -/
abbrev Ct.su {S : Type} (c : Ct S) (a : Addr) (cls : Value) (d : Option Addr) : Ct S := ⟨c.C, c.I, ⟨c.B.F0, c.B.H0, c.B.ex, some (a, cls, d)⟩, fun _ _ _ _ => False⟩
section
variable {S : Type} {C : DC} {I : SI S} {B : En} {F H : Hp} {σ : L2.St} {env : Env} {s : S}
theorem SlotOk.other {me me' : Me} {u : Option (Option V)} {x : Slot} (h : SlotOk C me F H u x) (p : plainSlot x = true) : SlotOk C me' F H u x := by
  cases x with
  | no => trivial
  | d _ => exact h
  | own _ => exact h
  | ins _ _ => cases p
  | exc _ _ => cases p
  | fn => cases p
theorem Stt.withMe {me : Me} (T : Stt C I B F H σ env s) (hp : plainE env = true) : Stt C I ⟨B.F0, B.H0, B.ex, me⟩ F H σ env s :=
  { T with sl := fun i x e => (T.sl i x e).other (List.all_eq_true.mp hp x (List.mem_of_getElem? e)) }
theorem Stt.ofMe {me : Me} (T : Stt C I ⟨B.F0, B.H0, B.ex, me⟩ F H σ env s) (hp : plainE env = true) : Stt C I B F H σ env s :=
  { T with sl := fun i x e => (T.sl i x e).other (List.all_eq_true.mp hp x (List.mem_of_getElem? e)) }
theorem plainF_ok {env : Env} : plainE (plainF env) = true := List.all_eq_true.mpr fun x hx => by
  obtain ⟨y, _, rfl⟩ := List.mem_map.mp hx
  by_cases p : plainSlot y = true
  · rw [if_pos p]; exact p
  · rw [if_neg p]; rfl
/-- slots forgotten -/
theorem Stt.fewer {f : Slot → Slot} (T : Stt C I B F H σ env s) (hf : ∀ x, f x = x ∨ f x = .no) : Stt C I B F H σ (env.map f) s := by
  have own : ∀ j b, OwnAt (env.map f) σ j b → OwnAt env σ j b := fun j b ⟨x, e1, e2, e3⟩ => by
    rw [List.getElem?_map] at e1
    cases q : env[j]? with
    | none => rw [q] at e1; cases e1
    | some y =>
      rw [q] at e1; cases e1
      rcases hf y with z | z
      · rw [z] at e2; exact ⟨y, q, e2, e3⟩
      · rw [z] at e2; cases e2
  have slN : ∀ (i : Nat) x, (env.map f)[i]? = some x → SlotOk C B.me F H σ[i]? x := fun i x e => by
    rw [List.getElem?_map] at e
    cases q : env[i]? with
    | none => rw [q] at e; cases e
    | some y =>
      rw [q] at e; cases e
      rcases hf y with z | z
      · rw [z]; exact T.sl i y q
      · rw [z]; trivial
  have lenN : (env.map f).length = σ.length := by rw [List.length_map]; exact T.len
  exact { T with len := lenN, sl := slN, dj := fun j l b n o1 o2 => T.dj j l b n (own j b o1) (own l b o2), ni := fun j b o1 => T.ni j b (own j b o1), oe := fun j b o1 => T.oe j b (own j b o1) }
theorem Stt.plain (T : Stt C I B F H σ env s) : Stt C I B F H σ (plainF env) s := T.fewer fun x => by
  by_cases p : plainSlot x = true
  · exact .inl (if_pos p)
  · exact .inr (if_neg p)
/-- a name is bound to the exception that the suite holds -/
theorem Stt.setX (T : Stt C I B F H σ env s) {i k : Nat} {a dd : Addr} {fs : List D} {vs : List V} (hm : B.me = some (a, .ref (C.cls k), some dd)) (hd : F dd = some (.xd ((C.flds k).zip vs))) (hl : vs.length = (C.flds k).length) (r : Reps C F fs vs) :
    Stt C I B F H (σ.set i (some (.ref a))) (env.set i (.exc k fs)) s := by
  have Tw := T.wipe (i := i) (v := some (.ref a))
  have own : ∀ j b, OwnAt (env.set i (.exc k fs)) (σ.set i (some (.ref a))) j b → OwnAt (env.set i .no) (σ.set i (some (.ref a))) j b := fun j b ⟨x, e1, e2, e3⟩ => by
    by_cases z : j = i
    · subst z
      have h1 : j < env.length := by
        have := (List.getElem?_eq_some_iff.mp e1).1
        simpa using this
      rw [List.getElem?_set_self h1] at e1
      cases e1; cases e2
    · rw [List.getElem?_set_ne (Ne.symm z)] at e1
      exact ⟨x, by rw [List.getElem?_set_ne (Ne.symm z)]; exact e1, e2, e3⟩
  exact { sub := T.sub, nt := T.nt, inv := T.inv, len := (by rw [List.length_set, List.length_set]; exact T.len),
          sl := fun j x e => (by
            by_cases z : j = i
            · subst z
              have h1 : j < env.length := by
                have := (List.getElem?_eq_some_iff.mp e).1
                simpa using this
              rw [List.getElem?_set_self h1] at e
              cases e
              rw [List.getElem?_set_self (by rw [← T.len]; exact h1)]
              exact ⟨a, dd, vs, rfl, hm, hd, hl, r⟩
            · rw [List.getElem?_set_ne (Ne.symm z)] at e ⊢
              exact T.sl j x e),
          dj := fun j l b n o1 o2 => Tw.dj j l b n (own j b o1) (own l b o2), ni := fun j b o1 => Tw.ni j b (own j b o1), fr := T.fr, f0 := T.f0, nw := T.nw, tb := T.tb, al := T.al, ie := T.ie, oe := fun j b o1 => Tw.oe j b (own j b o1) }
end
section
variable {S : Type} {c : Ct S} {X : Cx} {pos : Pos}
/-- the clauses' readings, by what mirrors them -/
inductive HdD (K : PySem.W.Frag) (c : Ct S) : List Hd → List (HC S) → Prop
  | nil : HdD K c [] []
  | cons {v : Value} {i : Option Nat} {h : HC S} {l : List Hd} {r : List (HC S)} (hi : h.i = i) (ht : ∀ k b, h.test k = some b → PySem.W.exmOne K (.ref (c.C.cls k)) v = some b) (q : HdD K c l r) :
      HdD K c (⟨v, i, fun a cls d => tS (c.su a cls d) h.m⟩ :: l) (h :: r)
theorem fin_end {D : Ends} {F : Hp} {a : Addr} {cls : Value} {d : Option Addr} {r : R (Out × S) (Env × S)} {i : Option Nat} (h : FinS c F (endS i r) D) : FinS (c.su a cls d) F r (match i with | none => D | some i => Ends.un D i) := by
  cases r with
  | bad => exact h
  | exc _ _ _ => exact h.elim
  | ok p =>
    obtain ⟨o, s'⟩ := p
    cases i with
    | none =>
      cases o with
      | rt x => exact fun v σ' env' F' H' e T rv => h v [] [] F' H' e (T.drop.ofMe rfl) rv
      | nx e1 =>
        unfold endS at h; dsimp only at h
        by_cases hp : plainE e1 = true
        · rw [if_pos hp] at h
          exact fun σ' F' H' e T => h σ' F' H' e (T.ofMe hp)
        · rw [if_neg hp] at h; exact h.elim
      | bk e1 =>
        unfold endS at h; dsimp only at h
        by_cases hp : plainE e1 = true
        · rw [if_pos hp] at h
          exact fun σ' F' H' e T => h σ' F' H' e (T.ofMe hp)
        · rw [if_neg hp] at h; exact h.elim
      | ct e1 =>
        unfold endS at h; dsimp only at h
        by_cases hp : plainE e1 = true
        · rw [if_pos hp] at h
          exact fun σ' F' H' e T => h σ' F' H' e (T.ofMe hp)
        · rw [if_neg hp] at h; exact h.elim
    | some i =>
      cases o with
      | rt x => exact fun v σ' env' F' H' e T rv => h v [] [] F' H' e (T.drop.ofMe rfl) rv
      | nx e1 =>
        unfold endS at h; dsimp only at h
        by_cases hp : plainE (e1.set i .no) = true
        · rw [if_pos hp] at h
          exact fun σ' F' H' e T => h (σ'.set i none) F' H' e (T.wipe.ofMe hp)
        · rw [if_neg hp] at h; exact h.elim
      | bk e1 =>
        unfold endS at h; dsimp only at h
        by_cases hp : plainE (e1.set i .no) = true
        · rw [if_pos hp] at h
          exact fun σ' F' H' e T => h (σ'.set i none) F' H' e (T.wipe.ofMe hp)
        · rw [if_neg hp] at h; exact h.elim
      | ct e1 =>
        unfold endS at h; dsimp only at h
        by_cases hp : plainE (e1.set i .no) = true
        · rw [if_pos hp] at h
          exact fun σ' F' H' e T => h (σ'.set i none) F' H' e (T.wipe.ofMe hp)
        · rw [if_neg hp] at h; exact h.elim
theorem wHds_of {K : PySem.W.Frag} {De : Ends} {k : Nat} {fs : List D} {cls : Value} {d : Option Addr} : ∀ {l : List Hd} {hs : List (HC S)}, HdD K c l hs → ∀ {F H : Hp} {σ : L2.St} {env : Env} {s : S}, Stt c.C c.I c.B F H σ env s → ExR c.C F H k fs cls d → FinS c F (handleS k fs hs env s) De → wHds K c.W De l cls d σ H
  | _, _, .nil, F, H, σ, env, s, T, x, h => h cls d σ F H (Same.refl _) T x
  | _, _, .cons (v := v) (i := i) (h := hc) (l := l) (r := r) hi ht q, F, H, σ, env, s, T, x, h => by
    obtain ⟨rfl, hx⟩ := x
    unfold handleS at h
    cases z : hc.test k with
    | none => rw [z] at h; exact h.elim
    | some b =>
      rw [z] at h
      refine ⟨b, ht k b z, fun hb a na => ?_, fun hb => ?_⟩
      · subst hb
        dsimp only at h
        have T1 := T.plain.withMe (me := some (a, .ref (c.C.cls k), d)) plainF_ok
        rw [hi] at h
        cases i with
        | none => exact ⟨F, _, s, T1, fin_end h⟩
        | some i =>
          rcases hx with ⟨rfl, rfl⟩ | ⟨dd, vs, rfl, hd, hl, rv⟩
          · exact ⟨F, _, s, T1.wipe, fin_end h⟩
          · cases fs with
            | nil => exact ⟨F, _, s, T1.wipe, fin_end h⟩
            | cons f1 fs => exact ⟨F, _, s, T1.setX rfl hd hl rv, fin_end h⟩
      · subst hb
        exact wHds_of q T ⟨rfl, hx⟩ h
/-- try: body / except C as e: suite / .. -/
theorem s_try {body : List Stmt} {h₀ : ExceptHandler} {hds : List ExceptHandler} {l : List Hd} {hs : List (HC S)} {mb : MS S} {j : Nat} (o : XO X c j) (hN : X.N.Nodup)
    (hb : ∀ (W : WX) (pn : List (Addr × Obj)) (xe : Value → Shared → Prop), XO (X.tr pn xe) (c.withW W) j → PSs (X.tr pn xe) body (tS (c.withW W) mb))
    (hh : HdL X (h₀ :: hds) l) (hd : HdD X.K c l hs) (hst : X.stack = X.env :: X.outer := by rfl) (hf : X.env.frame = some X.env.locals := by rfl) : PS X (.Try body (h₀ :: hds) [] [] pos) (tS c (tryS mb hs)) := by
  refine PSimp (ps_tryL (tb := fun W => tS (c.withW W) mb) hst hf hN o.tk (fun W pn xe tk ps => hb W pn xe ⟨o.hk, o.rm, o.gd, tk, o.cm, ps⟩) hh) fun De σ H h => ?_
  obtain ⟨F, env, s, T, h⟩ := h
  refine ⟨F, env, s, T, ?_⟩
  unfold tryS at h
  cases z : mb env s with
  | bad => rw [z] at h; exact h.elim
  | ok p =>
    rw [z] at h
    obtain ⟨o, s'⟩ := p
    cases o <;> exact h
  | exc k fs p =>
    rw [z] at h
    exact fun cls d σ' F' H' e T' x => wHds_of hd T' x (FinS.same h e)
/-- e.f in a suite, e the exception that it holds -/
def xfM (i q jx : Nat) : M S D := fun env s => match env[i]? with
  | some (.exc k fs) => if k = q then (match fs[jx]? with | some x => .ok (x, s) | none => .bad) else .bad
  | _ => .bad
theorem d_xf {a : Addr} {oe : Obj} {cls : Value} {d : Option Addr} {pn : List (Addr × Obj)} {f y : Str} {p : Pos} {i q jx : Nat} {fl : List Str} (T : ExcT X.prog X.K (c.C.cls q) fl) (hfl : c.C.flds q = fl) (hk : c.C.K = X.K) (hz : Zc cls d oe) (hf : ∃ vs, oe.data = .fields vs) (hf2 : fl[jx]? = some f := by rfl) (hnd : fl.Nodup := by decide)
    (hN : X.N[i]? = some y := by rfl) (hv : Vis X.env.scope y := by first | exact Or.inl rfl | exact Or.inr (Or.inl rfl) | exact Or.inr (Or.inr rfl)) (hd : (y == ("__debug__" : Str)) = false := by decide)
    (hcd : (y == ("__classdict__" : Str)) = false := by decide) (hb : attributeBase (.Name y p) f X.env (eval (.Name y p) X.env) = eval (.Name y p) X.env := by rfl) :
    PE (X.suite a ((a, oe) :: pn)) (.Attribute (.Name y p) f pos) (tM (c.su a cls d) (xfM i q jx)) := by
  refine PEimp (pe_xf T.ga (T.noN f (List.mem_of_getElem? hf2)) hz hf (pe_var (X := X.suite a ((a, oe) :: pn)) hN hv hd hcd) hb) fun σ H Q h => ?_
  obtain ⟨F, env, s, T0, h⟩ := h
  unfold xfM at h
  cases z : env[i]? with
  | none => rw [z] at h; exact h.elim
  | some w =>
    rw [z] at h
    cases w with
    | exc k fs =>
      dsimp only at h
      by_cases hkq : k = q
      · subst hkq
        rw [if_pos rfl] at h
        cases z2 : fs[jx]? with
        | none => rw [z2] at h; exact h.elim
        | some x =>
          rw [z2] at h
          obtain ⟨a', dd, vs, h1, hm, h2, hl, r⟩ := T0.sl i _ z
          have hm : some (a, cls, d) = some (a', Value.ref (c.C.cls k), some dd) := hm
          cases hm
          obtain ⟨v, e1, rv⟩ := r.get z2
          refine ⟨.ref a, h1, rfl, rfl, dd, _, v, rfl, T0.sub _ _ h2, ?_, h F H (Same.refl _) T0 v rv⟩
          rw [hfl] at hl ⊢
          have hj : jx < fl.length := (List.getElem?_eq_some_iff.mp hf2).1
          have mem : (f, v) ∈ fl.zip vs := by
            refine List.mem_of_getElem? (i := jx) ?_
            rw [List.getElem?_zip_eq_some]
            exact ⟨hf2, e1⟩
          have key : ∀ {l : List (Str × V)} {p : Str × V}, (l.map (·.1)).Nodup → p ∈ l → l.lookup p.1 = some p.2 := fun nd m => lookup_mem nd m
          exact key (p := (f, v)) (by rw [zip_keys hl]; exact hnd) mem
      · rw [if_neg hkq] at h; exact h.elim
    | no => exact h.elim
    | d _ => exact h.elim
    | own _ => exact h.elim
    | ins _ _ => exact h.elim
    | fn => exact h.elim
end
end DL
set_option Elab.async false
set_option linter.all false
set_option maxRecDepth 100000
set_option maxHeartbeats 2000000
namespace DL
open PySem PySem.Spec PyProof.Rows L2
section
variable {X : Cx} {pins : List (Addr × Obj)} {σ : L2.St} {H : Hp} {s : Shared}
/-- the lambda is made; what became of the abstract heap -/
theorem lam_new {T : List (Addr × Str)} {c P : Addr} {q : Str} {params : Arguments} {body : Expr} {scope : Scope} {pos : Pos} {E : Value → Shared → Prop} {Q : Value → Shared → Prop} (I : Inv X pins σ H s) (TB : LamX.TabB X.base X.mg c P) (hcode : X.env.code = .ref c) (hq : q = X.env.qual ++ "<lambda>")
    (hm : (P, q) ∈ T) (hu : ∀ p ∈ T, p.1 = P → p.2 = q) (hT : LamX.Tabs T H) (hdef : defaultsOf params X.env = ([], [])) (hfree : ∀ y ∈ scope.names, y.2 = .free → ∃ c, X.env.cells.lookup y.1 = some c)
    (h : ∀ (f c' : Addr) (pm ctv : Value) (H1 : Hp) (s' : Shared), Inv X pins σ H1 s' → (H1 = H ∨ ∃ ps more, H P = some (.tbl ps) ∧ H c' = none ∧ H1 = upd (upd H P (.tbl (ps ++ more))) c' (LamX.CodeO c' q)) → LamX.Tabs T H1 →
      s'.heap.get? f = some (PySem.W.kla_obj "<lambda>" q params body scope (cloFrom X.env.cells scope.names []) pm c' ctv) → H1 f = none → f ∉ frs X.stack → H1 c' = some (LamX.CodeO c' q) → Q (.ref f) s') :
    wpAny (model X.prog X.w) X.A (eval (.Lambda params body scope pos) X.env) Q E s := by
  subst hq
  obtain ⟨ps, hP, ht, ha⟩ := hT _ hm
  have bP := TB.bm.keeps I.bk
  have tabP : s.heap.get? P = some { cls := .none, data := .fields ps } := I.hok P _ hP
  have away : ∀ f, s.heap.objs.size ≤ f → f ∉ frs X.stack := fun f hf z => (List.mem_cons.mp (I.stkSub _ z)).elim (fun e => Nat.lt_irrefl _ (Nat.lt_of_lt_of_le (by have := I.lt; rw [← e] at this; exact this) hf)) (I.nofs hf)
  refine PySem.W.kla_eval hdef ?_
  cases hc : codeAmong pos ps.toList with
  | some cv =>
    obtain ⟨c', rfl, hco⟩ := ha pos cv hc
    refine PySem.W.kla_makeFunctionHit (mg := X.mg) (c := c) (P := P) (ps := ps) (closure_ok hfree) I.ok.glob (I.mod.glob.keeps I.bk) hcode (TB.code.keeps I.bk) tabP ht hc bP fun ctv h' tk hx hsz => ?_
    exact h h'.objs.size c' _ ctv H _ (I.kept (t' := tk) fun b o e => Heap.get?_push_of_some _ (hx b o e)) (.inl rfl) hT (Heap.get?_push_size _ rfl) (I.hok.fresh hsz) (away _ hsz) hco
  | none =>
    refine PySem.W.kla_makeFunction (mg := X.mg) (c := c) (P := P) (ps := ps) (closure_ok hfree) I.ok.glob (I.mod.glob.keeps I.bk) hcode (TB.code.keeps I.bk) tabP ht hc TB.gP bP fun c' ctv h' tk hx hge hlt hrec htb => ?_
    obtain ⟨c2, oc, vs, t, e2, hoc, hd, hv⟩ := hrec
    cases e2
    have nC : H c' = none := I.hok.fresh hge
    have sz : s.heap.objs.size ≤ h'.objs.size := Nat.le_trans hge (Nat.le_of_lt hlt)
    have eL : (ps ++ #[rawInt pos.line, rawInt pos.col, .ref c']).toList = ps.toList ++ [rawInt pos.line, rawInt pos.col, .ref c'] := by simp
    have J := LamX.inv_table (t' := tk) (more := #[rawInt pos.line, rawInt pos.col, .ref c']) (h' := h'.push (PySem.W.kla_obj "<lambda>" (X.env.qual ++ "<lambda>") params body scope (cloFrom X.env.cells scope.names []) ((X.mg "__name__").getD .none) c' ctv)) I hP
      (fun b o hb e => Heap.get?_push_of_some _ (hx b o hb e)) (Heap.get?_push_of_some _ htb) hge ⟨oc, vs, t, Heap.get?_push_of_some _ hoc, hd, hv⟩
    have up : ∀ b o, H b = some o → (∀ q, o ≠ .tbl q) → upd (upd H P (.tbl (ps ++ #[rawInt pos.line, rawInt pos.col, .ref c']))) c' (LamX.CodeO c' (X.env.qual ++ "<lambda>")) b = some o := fun b o e n => by
      rw [upd_ne (ne_of_none e nC), upd_ne (fun z => n ps (Option.some.inj (e.symm.trans (by rw [z]; exact hP)))), e]
    refine h h'.objs.size c' ((X.mg "__name__").getD .none) ctv _ _ J (.inr ⟨ps, _, hP, nC, rfl⟩) (fun p hp => ?_) (Heap.get?_push_size _ rfl) ?_ (away _ sz) upd_same
    · by_cases hb : p.1 = P
      · rw [hu p hp hb, hb]
        refine ⟨_, by rw [upd_ne (ne_of_none hP nC), upd_same], by rw [eL]; exact PySem.TriplesOk_snoc _ _ _ _ ht, fun p' cv hcv => ?_⟩
        rw [eL] at hcv
        rcases LamX.among_app _ ht hcv with z | z
        · obtain ⟨c0, k1, k2⟩ := ha p' cv z
          exact ⟨c0, k1, up _ _ k2 LamX.codeO_ne⟩
        · exact ⟨c', z, upd_same⟩
      · obtain ⟨ps', k1, k2, k3⟩ := hT p hp
        refine ⟨ps', by rw [upd_ne (ne_of_none k1 nC), upd_ne hb]; exact k1, k2, fun p' cv hcv => ?_⟩
        obtain ⟨c0, k4, k5⟩ := k3 p' cv hcv
        exact ⟨c0, k4, up _ _ k5 LamX.codeO_ne⟩
    · rw [upd_ne (Nat.ne_of_gt hlt), upd_ne (Nat.ne_of_gt (Nat.lt_of_lt_of_le (Heap.lt_size tabP) sz))]
      exact I.hok.fresh sz
end
section
variable {S : Type} {C : DC} {I : SI S} {B : En} {F H : Hp} {σ : L2.St} {env : Env} {s : S}
/-- a table grew by a new code object -/
theorem Stt.tabs (T : Stt C I B F H σ env s) {P c' : Addr} {q : Str} {H1 : Hp} (h : H1 = H ∨ ∃ ps more, H P = some (.tbl ps) ∧ H c' = none ∧ H1 = upd (upd H P (.tbl (ps ++ more))) c' (LamX.CodeO c' q)) (hT : LamX.Tabs C.T H1) : Stt C I B F H1 σ env s := by
  rcases h with rfl | ⟨ps, more, hP, hc, rfl⟩
  · exact T
  have at_ : ∀ a, a ≠ P → a ≠ c' → upd (upd H P (.tbl (ps ++ more))) c' (LamX.CodeO c' q) a = H a := fun a h1 h2 => by rw [upd_ne h2, upd_ne h1]
  have nP : ∀ a o, H a = some o → (∀ ps, o ≠ .tbl ps) → a ≠ P := fun a o e n z => by rw [z, hP] at e; exact n ps (Option.some.inj e).symm
  have keep : ∀ a o, H a = some o → (∀ ps, o ≠ .tbl ps) → upd (upd H P (.tbl (ps ++ more))) c' (LamX.CodeO c' q) a = some o := fun a o e n => by rw [at_ a (nP a o e n) (ne_of_none e hc)]; exact e
  have exK : ∀ a, I.ex a → upd (upd H P (.tbl (ps ++ more))) c' (LamX.CodeO c' q) a = H a := fun a ha => by
    obtain ⟨kvs, e⟩ := I.kind T.inv ha
    rw [keep a _ e (fun ps z => by cases z), e]
  have slN : ∀ (i : Nat) x, env[i]? = some x → SlotOk C B.me F (upd (upd H P (.tbl (ps ++ more))) c' (LamX.CodeO c' q)) σ[i]? x := fun i x e => (T.sl i x e).keep (Same.refl _) fun a k1 k2 => by
    obtain ⟨f1, f2, f3⟩ := T.own_there ⟨x, e, k2, k1⟩
    cases w : H a with
    | none => exact absurd w f2
    | some o => exact ⟨f1, keep a o w fun ps z => f3 ps (by rw [w, z])⟩
  have alN : ∀ a, B.H0 a ≠ none → upd (upd H P (.tbl (ps ++ more))) c' (LamX.CodeO c' q) a ≠ none := fun a n => by
    by_cases h1 : a = c'
    · subst h1; rw [upd_same]; simp
    · rw [upd_ne h1]
      by_cases h2 : a = P
      · subst h2; rw [upd_same]; simp
      · rw [upd_ne h2]; exact T.al a n
  exact { T with sub := fun a o e => keep a o (T.sub a o e) fun ps z => T.nt a ps (by rw [e, z]), inv := I.mono T.inv (Same.refl _) fun a ha => ⟨rfl, exK a ha⟩, sl := slN, fr := fun a o e n1 n2 => keep a o (T.fr a o e n1 n2) n2, tb := hT, al := alN }
end
def dOnly : Slot → Slot
  | .d x => .d x
  | _ => .no
theorem dOnly_ok (x : Slot) : dOnly x = x ∨ dOnly x = .no := by cases x <;> first | exact .inl rfl | exact .inr rfl
theorem dOnly_own (x : Slot) : isOwn (dOnly x) = false := by cases x <;> rfl
/-- a(), a the function that the def was handed -/
def actM {S : Type} (thunk : S → R (D × S) S) : M S D := fun env s => match env[0]? with
  | some Slot.fn => thunk s
  | _ => .bad
def runT {S : Type} (n : Nat) (m : MS S) (s : S) : R (D × S) S := match m (Slot.fn :: List.replicate (n - 1) .no) s with
  | .ok (.nx _, s') => .ok (.non, s')
  | .ok (.rt d, s') => .ok (d, s')
  | .ok (.bk _, _) => .bad
  | .ok (.ct _, _) => .bad
  | .exc k fs p => .exc k fs p.2
  | .bad => .bad
def lamM {S : Type} (n : Nat) (mb : (S → R (D × S) S) → MS S) (me : M S D) : M S D := fun env s => runT n (mb fun s => me (env.map dOnly) s) s
section
variable {S : Type} {C : DC} {I : SI S} {B : En} {F H : Hp} {σ : L2.St} {env : Env} {s : S}
theorem Stt.startF {k : Nat} {f : Addr} (T : Stt C I B F H σ env s) : Stt C I ⟨F, H, I.ex, some (f, .bool true, none)⟩ F H (some (.ref f) :: List.replicate k none) (Slot.fn :: List.replicate k .no) s := by
  have own : ∀ i a, ¬ OwnAt (Slot.fn :: List.replicate k .no) (some (V.ref f) :: List.replicate k none) i a := fun i a ⟨x, e1, e2, e3⟩ => by
    cases i with
    | zero => simp at e1; subst e1; cases e2
    | succ i =>
      rw [List.getElem?_cons_succ, List.getElem?_replicate] at e1
      split at e1
      · cases e1; cases e2
      · cases e1
  have sl : ∀ (i : Nat) x, (Slot.fn :: List.replicate k .no)[i]? = some x → SlotOk C (some (f, .bool true, none)) F H (some (V.ref f) :: List.replicate k none)[i]? x := fun i x e => by
    cases i with
    | zero => simp at e; subst e; exact ⟨f, rfl, rfl⟩
    | succ i =>
      rw [List.getElem?_cons_succ, List.getElem?_replicate] at e
      split at e
      · cases e; trivial
      · cases e
  exact { sub := T.sub, nt := T.nt, inv := T.inv, len := by simp, sl := sl, dj := fun i j a _ h => (own i a h).elim, ni := fun i a h => (own i a h).elim, fr := fun _ _ e _ _ => e, f0 := Same.refl _, nw := fun a o e n => (by rw [show F a = none from n] at e; cases e), tb := T.tb, al := fun _ n => n, ie := fun _ z => z, oe := fun i a h => (own i a h).elim }
end
section
variable {S : Type} {X : Cx} {pins : List (Addr × Obj)} {σ : L2.St} {H1 : Hp} {s1 : Shared}
abbrev cxG (X : Cx) (N : List Str) (q : Str) (sg : Scope) (g : Addr) (cdg : Value) (s : Shared) (H : Hp) (E : XK) : Cx := cxOf (L2.CX X.prog X.w) X.prog X.w X.K X.mg X.base N q sg g cdg X.A X.stack s H E
theorem act_run {c : Ct S} {F1 : Hp} {env : Env} {s0 : S} {me : M S D} {N : List Str} {q : Str} {sg : Scope} {g f c' : Addr} {cdg pm ctv : Value} {params : Arguments} {body : Expr} {scope : Scope} {k : Nat} {a : Str} {pn : List (Addr × Obj)} {xe : Value → Shared → Prop} {W : WX} {E : XK} {p1 p2 : Pos}
    (I : Inv X pins σ H1 s1) (L : LamX.LamS X.env.scope scope) (hf : s1.heap.get? f = some (PySem.W.kla_obj "<lambda>" (X.env.qual ++ "<lambda>") params body scope (cloFrom X.env.cells scope.names []) pm c' ctv)) (hfn : H1 f = none) (hfr : f ∉ frs X.stack) (hco : H1 c' = some (LamX.CodeO c' (X.env.qual ++ "<lambda>")))
    (hbind : bindArgs (PySem.W.kla_fn "<lambda>" (X.env.qual ++ "<lambda>") params body scope (cloFrom X.env.cells scope.names []) pm (.ref c') ctv) ⟨[], []⟩ = pure [])
    (T : Stt c.C c.I c.B F1 H1 σ env s0) (tk : Takes ((cxG X N q sg g cdg s1 H1 E).tr pn xe) W) (hr : Room (k + 1) (X.A.deeper (envOfC q sg s1.heap.objs.size g cdg)))
    (hbody : ∀ (A : Around) (outer : List PySem.Env) (s : Shared) (H : Hp) (E : XK) (B : En), Room k (A.deeper (LamX.lamEnv X scope s.heap.objs.size f c')) → A.guards = X.A.guards → PE (LamX.lamCx X A outer s H E scope f c') body (tM ⟨c.C, c.I, B, fun cls dd _ H' => E cls dd H'⟩ me))
    (hN : N[0]? = some a) (hv : Vis sg a) (hd : (a == ("__debug__" : Str)) = false := by decide) (hcd : (a == ("__classdict__" : Str)) = false := by decide) :
    PE ((cxG X N q sg g cdg s1 H1 E).tr pn xe) (.Call (.Name a p1) [] [] p2) (tM ⟨c.C, c.I, ⟨F1, H1, c.I.ex, some (f, .bool true, none)⟩, W⟩ (actM fun s => me (env.map dOnly) s)) := by
  refine ⟨fun pinsZ sZ σZ HZ Q IZ h => ?_⟩
  obtain ⟨FZ, envZ, s2, TZ, h⟩ := h
  unfold actM at h
  cases z : envZ[0]? with
  | none => rw [z] at h; exact h.elim
  | some y =>
    rw [z] at h
    cases y with
    | no => exact h.elim
    | d _ => exact h.elim
    | own _ => exact h.elim
    | ins _ _ => exact h.elim
    | exc _ _ => exact h.elim
    | fn =>
      obtain ⟨f', hs, em⟩ := TZ.sl 0 _ z
      cases (show some (f, Value.bool true, (none : Option Addr)) = some (f', .bool true, none) from em)
      have hc : HZ c' = some (LamX.CodeO c' (X.env.qual ++ "<lambda>")) := TZ.fr c' _ hco (fun ex => by
        obtain ⟨kvs, e⟩ := c.I.kind T.inv ex
        rw [hco] at e; cases e) LamX.codeO_ne
      have noOwn' : ∀ i a, ¬ OwnAt (env.map dOnly) σ i a := fun i a ⟨x, e1, e2, _⟩ => by
        rw [List.getElem?_map] at e1
        cases w : env[i]? with
        | none => rw [w] at e1; cases e1
        | some y => rw [w] at e1; cases e1; rw [dOnly_own] at e2; cases e2
      have T2 := ((T.after (fun a z => .inl z) TZ.drop).fewer dOnly_ok).rebase
      have back : ∀ {F' H' : Hp} {s' : S}, Stt c.C c.I (c.B.at c.I FZ HZ σ (env.map dOnly)) F' H' σ (env.map dOnly) s' → Stt c.C c.I ⟨F1, H1, c.I.ex, some (f, .bool true, Option.none)⟩ F' H' σZ envZ s' := fun {F' H' s'} U =>
        TZ.after (fun a z => z.elim .inl fun ⟨i, w⟩ => (noOwn' i a w).elim) U.drop
      have ht : tM ⟨c.C, c.I, c.B.at c.I FZ HZ σ (env.map dOnly), fun cls dd _ H' => W cls dd σZ H'⟩ me σ HZ Q := by
        refine ⟨FZ, _, s2, T2, ?_⟩
        have h : Fin ⟨c.C, c.I, ⟨F1, H1, c.I.ex, some (f, .bool true, Option.none)⟩, W⟩ FZ σZ envZ (me (env.map dOnly) s2) fun d _ F' H' => ∀ v, Rep c.C F' d v → Q v H' := h
        cases w : me (env.map dOnly) s2 with
        | bad => rw [w] at h; exact h
        | ok p => obtain ⟨d, s3⟩ := p; rw [w] at h; exact fun F' H' e U => h F' H' e (back U)
        | exc k fs s3 => rw [w] at h; exact fun cls dd F' H' e U x => h cls dd F' H' e (back U) x
      refine wpAny_Call_Name_kw (thn ((pe_var (pos := p1) (i := 0) hN hv hd hcd).run pinsZ sZ σZ HZ (fun v H2 => v = .ref f ∧ H2 = HZ) IZ ⟨.ref f, hs, rfl, rfl⟩) fun u s3 ⟨v, H2, I2, r2, ev, eH⟩ => ?_)
      subst ev
      subst eH
      obtain rfl : u = Value.ref f := r2
      have of1 := I2.base.keep f _ hf hfn hfr (fun z => nomatch (show f ∈ ([] : List Addr) from z))
      refine PySem.W.callWith_F0 ⟨_, _, _, _, of1⟩ ?_
      obtain ⟨⟨oc, vs, t, hoc, hdc, hvc⟩, _, _⟩ := I2.hok c' _ hc
      have lim := I2.nolimit
      have rc : codeAny (model X.prog X.w) (X.A.deeper (envOfC q sg s1.heap.objs.size g cdg)) (.call (.ref f) ⟨[], []⟩) (CR (L2.CX X.prog X.w) (envOfC q sg s1.heap.objs.size g cdg :: X.stack) X.prog X.w H2 s3 Q fun cls dd H' => W cls dd σZ H') s3 := by
        refine PySem.W.kla_callFunE hr.depth of1 rfl L.co L.gen rfl ⟨c', oc, vs, t, rfl, hoc, hdc, hvc⟩ ?_
        rw [hbind]
        refine wpAny_pure (wpAny_newFunctionEnv (fun y hy => (L.own y hy).2) (fun y hy => absurd hy (by simp)) (fun h₁ hns hsb => ⟨lim.fresh _ hsb, ?_⟩) L.kind)
        show codeAny _ _ (.expr body (LamX.lamEnv X scope s3.heap.objs.size f c')) _ _
        have J := LamX.lam_start2 (A := X.A.deeper (envOfC q sg s1.heap.objs.size g cdg)) (outer := envOfC q sg s1.heap.objs.size g cdg :: X.stack) (E := fun cls dd H' => W cls dd σZ H') (f := f) (c' := c') (tk := s3.toks + ([] : List (Str × Value)).length) I L I2.env0 hr.hd I2.base hns
          fun b o e => hsb.extBut b o (Nat.ne_of_lt (Heap.lt_size e)) (Heap.get?_push_of_some _ e)
        refine PySem.W.kla_codeExpr (wpAny_mono ((hbody _ _ s3 H2 _ _ (hr.deeper _) rfl).run [] _ _ H2 Q J ht) (fun v s' hq => ?_) fun e s' hq => hq)
        obtain ⟨w', H', J', rv, q'⟩ := hq
        exact ⟨w', H', J'.os, J'.bare, J'.base, J'.hok, rv, q'⟩
      refine wpAny_call (codeAny_mono rc fun r s' hq => ?_)
      match r, hq with
      | .error e, hq => exact tk e s' (XE.of_call I2 (fun _ _ _ z => z) hq)
      | .ok (.ret u), hq => exact I2.after hq
end
/-- what calls the handed function, in a body -/
def ActOk {S : Type} (X : Cx) (c : Ct S) (a : Str) (k : Nat) (thunk : S → R (D × S) S) : Prop := ∀ (W : WX) (pn : List (Addr × Obj)) (xe : Value → Shared → Prop) (p1 p2 : Pos), XO (X.tr pn xe) (c.withW W) k → PE (X.tr pn xe) (.Call (.Name a p1) [] [] p2) (tM (c.withW W) (actM thunk))
/-- a def of one parameter, which it calls -/
structure GT {S : Type} (P : Program) (w : World) (K : PySem.W.Frag) (mg : Str → Option Value) (base : Heap) (dc : Option Addr → DC) (J : Option Addr → SI S) (k : Nat) (x : Str) (n : Nat) (mb : (S → R (D × S) S) → MS S) : Prop where
  ex : ∃ (g : Addr) (st : Stmt) (fd : FuncData) (N : List Str) (a : Str), mg x = some (.ref g) ∧ PySem.W.keepIn K (.ref g) = true ∧ Fun K x x st g fd ∧ FnScope N [a] (defScope st) ∧ N.length = n ∧ N[0]? = some a ∧ Vis (defScope st) a ∧ ((a == ("__debug__" : Str)) = false ∧ (a == ("__classdict__" : Str)) = false) ∧ Binds K fd [a] [] ∧
    ∀ {cd : Value} {A : Around} {outer : List PySem.Env} {s : Shared} {H : Hp} {E : XK} {so : Option Addr} {B : En} {thunk : S → R (D × S) S}, XO (cxD P w K mg base N x st g cd A outer s H E) (ctD dc J so B E) k → ActOk (cxD P w K mg base N x st g cd A outer s H E) (ctD dc J so B E) a k thunk →
      PSs (cxD P w K mg base N x st g cd A outer s H E) (defBody st) (tS (ctD dc J so B E) (mb thunk))
section
variable {S : Type} {c : Ct S} {X : Cx} {dc : Option Addr → DC} {J : Option Addr → SI S} {so : Option Addr} {k kg j n : Nat} {x : Str} {p lpos pos : Pos} {params : Arguments} {body : Expr} {scope : Scope} {mb : (S → R (D × S) S) → MS S} {me : M S D}
theorem guards_deeper {A : Around} {env : PySem.Env} (h : A.guards = some []) : (A.deeper env).guards = some [] := h
theorem d_lam {cA PA : Addr} (G : GT X.prog X.w X.K X.mg X.base dc J kg x n mb) (o : XO X c j) (hk : k + 2 ≤ j) (hkg : kg + 1 ≤ j) (TB : LamX.TabB X.base X.mg cA PA) (hcode : X.env.code = .ref cA) (hT : (PA, X.env.qual ++ "<lambda>") ∈ c.C.T) (hu : ∀ p ∈ c.C.T, p.1 = PA → p.2 = X.env.qual ++ "<lambda>")
    (L : LamX.LamS X.env.scope scope) (hK : ∀ so, (dc so).K = X.K)
    (hbody : ∀ (A : Around) (outer : List PySem.Env) (s : Shared) (H : Hp) (E : XK) (f c' : Addr) (B : En), XO (LamX.lamCx X A outer s H E scope f c') ⟨c.C, c.I, B, fun cls dd _ H' => E cls dd H'⟩ k → PE (LamX.lamCx X A outer s H E scope f c') body (tM ⟨c.C, c.I, B, fun cls dd _ H' => E cls dd H'⟩ me))
    (hC : c.C = dc so := by rfl) (hI : c.I = J so := by rfl) (hg : Gl X x := by rfl) (hdef : defaultsOf params X.env = ([], []) := by rfl)
    (hbind : ∀ (q : Str) (cl : List (Str × Addr)) (pm cv ctv : Value), bindArgs (PySem.W.kla_fn "<lambda>" q params body scope cl pm cv ctv) ⟨[], []⟩ = pure [] := by intros; rfl) (hdb : (x == ("__debug__" : Str)) = false := by decide) :
    PE X (.Call (.Name x p) [.Lambda params body scope lpos] [] pos) (tM c (lamM n mb me)) := by
  obtain ⟨g, st, fd, N, a, hm, hkp, Fu, Sc, rfl, hN, hv, ⟨hd1, hd2⟩, hb, hgb⟩ := G.ex
  obtain ⟨oc, od, kV, doc, pmg, an, cdv, ct, osl, rfl, lk, hcd⟩ := Fu.ex
  refine ⟨fun pins s σ H Q I h => ?_⟩
  obtain ⟨F, env, s0, T0, h⟩ := h
  refine wpAny_Call_Name_kw (ld_glob I hg hm ?_ hdb)
  refine PySem.W.callWith_K (h₀ := X.base) I.ok.mod.kin hkp ?_ (by rfl) (by rfl)
  show wpAny _ _ (spliced ((false, eval (.Lambda params body scope lpos) X.env) :: backTo pos (starEach [] X.env))) _ _ s
  refine Calls.spliced_cons (lam_new I TB hcode rfl hT hu T0.tb hdef (L.has I.ok) fun f c' pm' ctv H1 s' I1 hH T1 hf hfn hfr hco => ?_)
  refine Calls.spliced_nil ⟨I1.kIn, ?_⟩
  have T1 := T0.tabs hH T1
  have rm1 : Room (kg + 1) X.A := o.rm.mono hkg
  have rc : codeAny (model X.prog X.w) X.A (.call (.ref g) ⟨[.ref f], []⟩) (CR (L2.CX X.prog X.w) X.stack X.prog X.w H1 s' Q fun cls dd H' => c.W cls dd σ H') s' := by
    refine LamX.run_ofS (N := N) (ps := [a]) (us := [.ref f]) (vs := [.ref f]) lk hcd Sc rm1 I1.env0 (hb s' [.ref f] I1.kIn rfl) (.cons rfl .nil) rfl fun hr' => ?_
    have eC : c.C = dc so := hC
    have xo : XO (cxG X N x (defScope st) g cdv s' H1 fun cls dd H' => c.W cls dd σ H') (⟨c.C, c.I, ⟨F, H1, c.I.ex, some (f, .bool true, none)⟩, fun cls dd _ H' => c.W cls dd σ H'⟩ : Ct S) kg :=
      ⟨by rw [eC]; exact hK so, hr', guards_deeper o.gd, takes_of rfl rfl rfl rfl, rfl, passes_of (K := fun e s'' => L2.CX X.prog X.w X.stack H1 s' (fun cls dd H' => c.W cls dd σ H') e s'') rfl⟩
    have hrl : Room (k + 1) (X.A.deeper (envOfC x (defScope st) s'.heap.objs.size g cdv)) := Room.deeper (o.rm.mono (show k + 2 ≤ j from hk)) _
    have act : ActOk (cxG X N x (defScope st) g cdv s' H1 fun cls dd H' => c.W cls dd σ H') (⟨c.C, c.I, ⟨F, H1, c.I.ex, some (f, .bool true, none)⟩, fun cls dd _ H' => c.W cls dd σ H'⟩ : Ct S) a kg (fun s => me (env.map dOnly) s) := fun W pn xe p1 p2 xo2 =>
      act_run (c := c) I1 L hf hfn hfr hco (hbind _ _ _ _ _) T1 xo2.tk hrl (fun A outer s H E B hr2 hgA => hbody A outer s H E f c' B ⟨o.hk, hr2, by rw [show (LamX.lamCx X A outer s H E scope f c').A.guards = A.guards from rfl, hgA]; exact o.gd, takes_of rfl rfl rfl rfl, rfl, passes_of (K := fun e s'' => L2.CX X.prog X.w outer H s E e s'') rfl⟩) hN hv hd1 hd2
    obtain ⟨C, I', B', W'⟩ := c
    dsimp only at hC hI
    subst hC
    subst hI
    refine ⟨_, hgb (so := so) (B := ⟨F, H1, (J so).ex, some (f, .bool true, none)⟩) xo act, F, Slot.fn :: List.replicate (N.length - 1) .no, s0, T1.startF, ?_⟩
    unfold lamM runT at h
    cases z : mb (fun s => me (env.map dOnly) s) (Slot.fn :: List.replicate (N.length - 1) .no) s0 with
    | bad => rw [z] at h; exact h
    | exc q fs p =>
      rw [z] at h
      exact fun cls dd σ' F' H' e U r => h cls dd F' H' e (T1.after (fun a z => .inl z) U.drop) r
    | ok p2 =>
      obtain ⟨o2, s2⟩ := p2
      rw [z] at h
      cases o2 with
      | nx env' => exact fun σ' F' H' e U => h F' H' e (T1.after (fun a z => .inl z) U.drop) .non rfl
      | rt d => exact fun v σ' env' F' H' e U r => h F' H' e (T1.after (fun a z => .inl z) U.drop) v r
      | bk _ => exact h.elim
      | ct _ => exact h.elim
  refine wpAny_call (codeAny_mono rc fun r s2 hq => ?_)
  match r, hq with
  | .error e, hq => exact o.tk e s2 (XE.of_call I1 (fun _ _ _ z => z) hq)
  | .ok (.ret u), hq => exact I1.after hq
end
end DL
set_option Elab.async false
set_option linter.all false
set_option maxRecDepth 100000
set_option maxHeartbeats 1000000
namespace DL
open PySem PySem.Spec PyProof.Rows L2
structure Pen where
  cells : List Int
  at_ : Int
  digits : Int
  count : Int
  fold : Int
def penKV (p : Pen) (l : Addr) : List (Key × V) := [(.inr "cells", .ref l), (.inr "at", .int p.at_), (.inr "digits", .int p.digits), (.inr "count", .int p.count), (.inr "fold", .int p.fold)]
def penKeys : List Str := ["cells", "at", "digits", "count", "fold"]
def Pen.get (p : Pen) : Nat → Option D
  | 0 => some (.lst (p.cells.map .int))
  | 1 => some (.int p.at_)
  | 2 => some (.int p.digits)
  | 3 => some (.int p.count)
  | 4 => some (.int p.fold)
  | _ => none
def Pen.put (p : Pen) : Nat → Int → Option Pen
  | 1, z => some { p with at_ := z }
  | 2, z => some { p with digits := z }
  | 3, z => some { p with count := z }
  | 4, z => some { p with fold := z }
  | _, _ => none
def penI (K : PySem.W.Frag) (a : Addr) : SI Pen where
  ex := fun b => b = a
  inv := fun s F H => F a = none ∧ ∃ l, H a = some (.dK (penKV s l)) ∧ SqL K F l (s.cells.map V.int)
  mono := fun {s F H F' H'} h e k => by
    obtain ⟨h1, l, h2, h3⟩ := h
    obtain ⟨k1, k2⟩ := k a rfl
    exact ⟨k1.trans h1, l, k2.trans h2, e.seq h3⟩
  kind := fun {s F H b} h e => by
    subst e
    obtain ⟨_, l, h2, _⟩ := h
    exact ⟨_, h2⟩
  free := fun {s F H b} h e => by
    subst e
    exact h.1
def penN : SI Pen := ⟨fun _ => False, fun _ _ _ => False, fun h _ _ => h.elim, fun _ h => h.elim, fun _ h => h.elim⟩
def penJ (K : PySem.W.Frag) : Option Addr → SI Pen
  | some a => penI K a
  | none => penN
theorem pen_val {p : Pen} {l : Addr} {i : Nat} {key : Str} {d : D} (hk : penKeys[i]? = some key) (hd : p.get i = some d) : ∃ v, valV (penKV p l) (.inr key) = some v ∧ ((i = 0 ∧ v = .ref l) ∨ ∃ z, d = .int z ∧ v = .int z) := by
  match i with
  | 0 => cases hk; exact ⟨_, rfl, .inl ⟨rfl, rfl⟩⟩
  | 1 => cases hk; cases hd; exact ⟨_, rfl, .inr ⟨_, rfl, rfl⟩⟩
  | 2 => cases hk; cases hd; exact ⟨_, rfl, .inr ⟨_, rfl, rfl⟩⟩
  | 3 => cases hk; cases hd; exact ⟨_, rfl, .inr ⟨_, rfl, rfl⟩⟩
  | 4 => cases hk; cases hd; exact ⟨_, rfl, .inr ⟨_, rfl, rfl⟩⟩
  | i + 5 => cases hd
theorem pen_put {p p' : Pen} {l : Addr} {i : Nat} {key : Str} {z : Int} (hk : penKeys[i]? = some key) (hd : p.put i z = some p') : putK (penKV p l) (.inr key) (.int z) = penKV p' l ∧ p'.cells = p.cells := by
  match i with
  | 0 => cases hd
  | 1 => cases hk; cases hd; exact ⟨rfl, rfl⟩
  | 2 => cases hk; cases hd; exact ⟨rfl, rfl⟩
  | 3 => cases hk; cases hd; exact ⟨rfl, rfl⟩
  | 4 => cases hk; cases hd; exact ⟨rfl, rfl⟩
  | i + 5 => cases hd
/-- pen[key] -/
def penGet (i : Nat) (mo : M Pen D) : M Pen D := bindM mo fun x => fun _ s => match x with
  | .st => match s.get i with | some d => .ok (d, s) | none => .bad
  | _ => .bad
/-- pen[key] = e -/
def penPut (i : Nat) (mo mv : M Pen D) : MS Pen := thenS mv fun v => thenS mo fun x => fun env s => match x, v with
  | .st, .int z => match s.put i z with | some s' => .ok (.nx env, s') | none => .bad
  | _, _ => .bad
section
variable {c : Ct Pen} {X : Cx} {o e : Expr} {pos pos' p : Pos} {mo mv : M Pen D}
theorem Stt.penWrite {C : DC} {K : PySem.W.Frag} {B : En} {F H : Hp} {σ : L2.St} {env : Env} {s s' : Pen} {a l : Addr} (T : Stt C (penI K a) B F H σ env s) (h2 : SqL K F l (s.cells.map V.int)) (hc : s'.cells = s.cells) : Stt C (penI K a) B F (upd H a (.dK (penKV s' l))) σ env s' := by
  obtain ⟨fa, l0, ha, _⟩ := T.inv
  have ea : (penI K a).ex a := rfl
  have nslot : ∀ i b, OwnAt env σ i b → b ≠ a := fun i b h z => T.ni i b h z
  have slN : ∀ (i : Nat) x, env[i]? = some x → SlotOk C B.me F (upd H a (.dK (penKV s' l))) σ[i]? x := fun i x e => (T.sl i x e).keep (Same.refl _) fun b k1 k2 => by
    have q : OwnAt env σ i b := ⟨x, e, k2, k1⟩
    exact ⟨(T.own_there q).1, upd_ne (nslot i b q)⟩
  have tbN : LamX.Tabs C.T (upd H a (.dK (penKV s' l))) := fun q hq => by
    obtain ⟨ps, k1, k2, k3⟩ := T.tb q hq
    refine ⟨ps, by rw [upd_ne (fun z => by rw [z, ha] at k1; cases k1)]; exact k1, k2, fun pos cv hcv => ?_⟩
    obtain ⟨u, e1, e2⟩ := k3 pos cv hcv
    exact ⟨u, e1, by rw [upd_ne (fun z => by rw [z, ha] at e2; unfold LamX.CodeO at e2; cases e2)]; exact e2⟩
  have alN : ∀ b, B.H0 b ≠ none → upd H a (.dK (penKV s' l)) b ≠ none := fun b n => by
    by_cases z : b = a
    · subst z; rw [upd_same]; simp
    · rw [upd_ne z]; exact T.al b n
  exact { sub := fun b u e => (by rw [upd_ne (fun z => by subst z; rw [fa] at e; cases e)]; exact T.sub b u e), nt := T.nt, inv := ⟨fa, l, upd_same, by rw [hc]; exact h2⟩, len := T.len, sl := slN, dj := T.dj, ni := T.ni, fr := fun b u e n1 n2 => (by rw [upd_ne (fun z => n1 (T.ie b z))]; exact T.fr b u e n1 n2), f0 := T.f0, nw := T.nw, tb := tbN, al := alN, ie := T.ie, oe := T.oe }
theorem d_pget {i j : Nat} {key : Str} (hI : c.I = penJ c.C.K c.C.st) (hu : X.A.units + 64 < cLine) (ho : PE X o (tM c mo)) (hkey : penKeys[i]? = some key := by rfl) : PE X (.Subscript o (.Constant (.str key) j p) pos) (tM c (penGet i mo)) := by
  refine PEimp (pe_dget (by omega) ho pe_str (fun _ _ => rfl)) fun σ H Q h => ?_
  refine tM_bind h fun dx s1 F1 H1 x env T1 rx q => ?_
  cases dx with
  | st =>
    obtain ⟨a, h1, rfl⟩ := rx
    dsimp only at q
    cases z : s1.get i with
    | none => rw [z] at q; exact q.elim
    | some d =>
      rw [z] at q
      have inv := T1.inv
      rw [hI, h1] at inv
      obtain ⟨_, l, ha, hl⟩ := inv
      obtain ⟨v, e, hv⟩ := pen_val (l := l) hkey z
      refine ⟨a, v, rfl, by have := DGet.k (k := .inr key) ha; rw [e] at this; exact this, q F1 H1 (Same.refl _) T1 v ?_⟩
      rcases hv with ⟨rfl, rfl⟩ | ⟨z', rfl, rfl⟩
      · cases z
        refine ⟨l, _, rfl, hl, ?_⟩
        exact Reps.ints
      · rfl
  | _ => exact q.elim
theorem s_pput {i j : Nat} {key : Str} (hI : c.I = penJ c.C.K c.C.st) (hu : X.A.units + 64 < cLine) (ho : PE X o (tM c mo)) (hv : PE X e (tM c mv)) (hkey : penKeys[i]? = some key := by rfl) (hs : swapsWith e (some (.Subscript o (.Constant (.str key) j p) pos')) pos.line X.env = pure false := by rfl) :
    PS X (.Assign [.Subscript o (.Constant (.str key) j p) pos'] e pos) (tS c (penPut i mo mv)) := by
  refine PSimp (ps_dput (by omega) ho pe_str hv hs) fun De σ H h => ?_
  obtain ⟨F, env, s, T, h⟩ := h
  refine ⟨F, env, s, T, h.bind.imp fun dv s1 F1 H1 e1 T1 q v rv => ?_⟩
  refine ⟨F1, env, s1, T1, q.bind.imp fun dx s2 F2 H2 e2 T2 q2 x rx => ?_⟩
  cases dx with
  | st =>
    cases dv with
    | int z =>
      cases rep_int rv
      dsimp only at q2
      cases w : s2.put i z with
      | none => rw [w] at q2; exact q2.elim
      | some s3 =>
        rw [w] at q2
        obtain ⟨a, h1, rfl⟩ := rx
        obtain ⟨C, I, B, W⟩ := c
        dsimp only at hI h1
        subst hI
        have inv := T2.inv
        dsimp only at T2 inv q2
        rw [h1] at inv T2 q2
        obtain ⟨fa, l, ha, hl⟩ := inv
        obtain ⟨k1, k2⟩ := pen_put (l := l) hkey w
        refine ⟨a, _, rfl, DPut.k (k := .inr key) ha (by rw [sizeLine_eq]; show 5 < _; decide), ?_⟩
        rw [k1]
        exact q2 σ F2 _ (Same.refl _) (Stt.penWrite T2 hl k2)
    | _ => exact q2.elim
  | _ => exact q2.elim
end
end DL
set_option Elab.async false
set_option linter.all false
set_option maxRecDepth 100000
set_option maxHeartbeats 1000000
namespace DL
open PySem PySem.Spec PyProof.Rows L2
def foldOf (cells : List Int) : Int := cells.foldl (fun f c => (f * 47 + c).fmod 1000000007) 0
def pen0 (cells : List Int) : Pen := ⟨cells, 0, 0, 0, foldOf cells⟩
/-- what the maker of the pen promises -/
def spPen (C : DC) : Sp := fun vs H Q _ => ∃ F cells l0, vs = [.ref l0] ∧ Same F H ∧ NoTbl F ∧ LamX.Tabs C.T H ∧ SqL C.K F l0 (cells.map V.int) ∧
  ∀ F' H' a l, Stt C SI.pure ⟨F, H, fun _ => False, none⟩ F' H' [] [] () → H a = none → F' a = none → H' a = some (.dK (penKV (pen0 cells) l)) → SqL C.K F' l (cells.map V.int) → Q (.ref a) H'
/-- return {'cells': list(script), 'at': 0, .. } -/
def tPenRet (c : Ct Unit) : TS := fun De σ H => ∃ F env, Stt c.C c.I c.B F H σ env () ∧ ∃ cells fold, env[0]? = some (.d (.lst (cells.map .int))) ∧ env[1]? = some (.d (.int fold)) ∧
  ∀ F' H' a l, Same F F' → Stt c.C c.I c.B F' H' σ env () → H a = none → F' a = none → H' a = some (.dK (penKV ⟨cells, 0, 0, 0, fold⟩ l)) → SqL c.C.K F' l (cells.map V.int) → De.rt (.ref a) H'
section
variable {c : Ct Unit} {X : Cx}
theorem Stt.noF {S : Type} {C : DC} {I : SI S} {B : En} {F H F' H' : Hp} {σ σ' : L2.St} {env env' : Env} {s s' : S} (T : Stt C I B F H σ env s) (U : Stt C I (B.at I F H σ env) F' H' σ' env' s') {p : Addr} {o : HO} (hp : H p = some o) (hf : F p = none) (ho : ∀ ps, o ≠ .tbl ps) (hi : ¬ I.ex p) (hn : ∀ i, ¬ OwnAt env σ i p) : H' p = some o ∧ F' p = none := by
  refine ⟨U.fr p o hp (fun z => z.elim hi fun ⟨i, w⟩ => hn i w) ho, ?_⟩
  cases q : F' p with
  | none => rfl
  | some u =>
    have z : H p = none := U.nw p u q hf
    rw [hp] at z; cases z
/-- a dict that no slot holds is written -/
theorem Stt.writeD {S : Type} {C : DC} {I : SI S} {B : En} {F H : Hp} {σ : L2.St} {env : Env} {s : S} (T : Stt C I B F H σ env s) {p : Addr} {kvs : List (Key × V)} {o : HO} (hp : H p = some (.dK kvs)) (hf : F p = none) (hi : ¬ I.ex p) (hn : ∀ i, ¬ OwnAt env σ i p) (h0 : B.H0 p = none) : Stt C I B F (upd H p o) σ env s := by
  have slN : ∀ (i : Nat) x, env[i]? = some x → SlotOk C B.me F (upd H p o) σ[i]? x := fun i x e => (T.sl i x e).keep (Same.refl _) fun b k1 k2 => by
    have q : OwnAt env σ i b := ⟨x, e, k2, k1⟩
    exact ⟨(T.own_there q).1, upd_ne fun z => hn i (z ▸ q)⟩
  have tbN : LamX.Tabs C.T (upd H p o) := fun q hq => by
    obtain ⟨ps, k1, k2, k3⟩ := T.tb q hq
    refine ⟨ps, by rw [upd_ne (fun z => by rw [z, hp] at k1; cases k1)]; exact k1, k2, fun pos cv hcv => ?_⟩
    obtain ⟨u, e1, e2⟩ := k3 pos cv hcv
    exact ⟨u, e1, by rw [upd_ne (fun z => by rw [z, hp] at e2; unfold LamX.CodeO at e2; cases e2)]; exact e2⟩
  have alN : ∀ b, B.H0 b ≠ none → upd H p o b ≠ none := fun b n => by
    by_cases z : b = p
    · subst z; rw [upd_same]; simp
    · rw [upd_ne z]; exact T.al b n
  exact { sub := fun b u e => (by rw [upd_ne (fun z => by subst z; rw [hf] at e; cases e)]; exact T.sub b u e), nt := T.nt, inv := I.mono T.inv (Same.refl _) fun a ha => ⟨rfl, upd_ne fun z => hi (z ▸ ha)⟩, len := T.len, sl := slN, dj := T.dj, ni := T.ni, fr := fun b u e n1 n2 => (by rw [upd_ne (fun z => by subst z; rw [h0] at e; cases e)]; exact T.fr b u e n1 n2), f0 := T.f0, nw := T.nw, tb := tbN, al := alN, ie := T.ie, oe := T.oe }
theorem s_penRet {k1 k2 k3 k4 k5 j1 j2 j3 : Nat} {p1 p2 p3 p4 p5 p6 p7 p8 p9 p10 p11 pos pos2 : Pos} {pf : Pos} {xs xf : Str} (hk : c.C.K = X.K) (hm : X.mg "list" = none)
    (hx : X.N[0]? = some xs := by rfl) (hvx : Vis X.env.scope xs := by first | exact Or.inl rfl | exact Or.inr (Or.inl rfl) | exact Or.inr (Or.inr rfl)) (hdx : (xs == ("__debug__" : Str)) = false := by decide) (hcx : (xs == ("__classdict__" : Str)) = false := by decide)
    (hy : X.N[1]? = some xf := by rfl) (hvy : Vis X.env.scope xf := by first | exact Or.inl rfl | exact Or.inr (Or.inl rfl) | exact Or.inr (Or.inr rfl)) (hdy : (xf == ("__debug__" : Str)) = false := by decide) (hcy : (xf == ("__classdict__" : Str)) = false := by decide) (hg : Gl X "list" := by rfl) :
    PS X (.Return (some (.Dict [some (.Constant (.str "cells") k1 p1), some (.Constant (.str "at") k2 p2), some (.Constant (.str "digits") k3 p3), some (.Constant (.str "count") k4 p4), some (.Constant (.str "fold") k5 p5)]
      [.Call (.Name "list" p6) [.Name xs p7] [] p8, .Constant (.int 0) j1 p9, .Constant (.int 0) j2 p10, .Constant (.int 0) j3 p11, .Name xf pf] pos)) pos2) (tPenRet c) := by
  have dl : ∀ B, PE X (.Call (.Name "list" p6) [.Name xs p7] [] p8) (tM (c.sub B) (callM listD (consM (mVar 0) (retM [])))) := fun B => d_listC (c := c.sub B) hk hm (d_var 0 hx hvx hdx hcx) rfl hg
  refine PSimp (ps_ret (pe_disp (pps_cons pe_str (PEex dl) (pps_cons pe_str pe_int (pps_cons pe_str pe_int (pps_cons pe_str pe_int (pps_cons pe_str (pe_var hy hvy hdy hcy) pps_nil))))) rfl rfl (by simp) (by simp))) fun De σ H h => ?_
  obtain ⟨F, env, T, cells, fold, e0, e1, h⟩ := h
  intro p np
  have T1 := T.newM (o := .dK []) np
  have ownp : ∀ i, ¬ OwnAt env σ i p := fun i z => (T.own_there z).2.1 np
  refine ⟨c.B.at c.I F (upd H p (.dK [])) σ env, F, env, (), T1.rebase, ?_⟩
  have em : callM listD (consM (mVar 0) (retM [])) env () = .ok (.lst (cells.map .int), ()) := by
    unfold callM consM bindM mVar retM
    rw [e0]
    rfl
  rw [em]
  intro F' H' e U v rv
  obtain ⟨k1, k2⟩ := T1.noF U upd_same (T.ff np) (fun ps z => by cases z) (T.exfree np) ownp
  obtain ⟨l, vs, rfl, hl, hr⟩ := rv
  have ev := Reps.of_ints hr
  subst ev
  obtain ⟨v1, h1, h2⟩ := T.sl 1 _ e1
  cases rep_int h2
  refine ⟨_, h1, ?_⟩
  refine ⟨k1, [(.inr "cells", .ref l), (.inr "at", .int 0), (.inr "digits", .int 0), (.inr "count", .int 0), (.inr "fold", .int fold)], rfl, by simp, ?_⟩
  have TU := T1.back U (fun i a z => T.oe i a z)
  have TW : Stt c.C c.I c.B F' (upd H' p (.dK (penKV ⟨cells, 0, 0, 0, fold⟩ l))) σ env () := by
    exact TU.writeD k1 k2 (fun z => T.exfree np z) ownp (T.h0 np)
  exact h F' _ p l e TW np k2 upd_same hl
/-- the body of the pen's maker -/
def tPenBody (c : Ct Unit) (m : MS Unit) : TS := fun De σ H => ∃ F env, Stt c.C c.I c.B F H σ env () ∧ FinS c F (m env ()) { De with nx := tPenRet c De }
def keepsPen (m : MS Unit) (n : Nat) : Prop := ∀ cells : List Int, ∃ env', m (.d (.lst (cells.map .int)) :: List.replicate n .no) () = .ok (.nx env', ()) ∧ env'[0]? = some (.d (.lst (cells.map .int))) ∧ env'[1]? = some (.d (.int (foldOf cells)))
end
section
variable {P : Program} {w : World} {K : PySem.W.Frag} {mg : Str → Option Value} {base : Heap}
abbrev mkDC (K : PySem.W.Frag) (cls : Nat → Addr) (flds : Nat → List Str) (T : List (Addr × Str)) (so : Option Addr) : DC := ⟨K, cls, flds, so, T⟩
theorem pen_three {c : Ct Unit} {X : Cx} {s1 s2 s3 : Stmt} {m1 m2 : MS Unit} (h1 : PS X s1 (tS c m1)) (h2 : PS X s2 (tS c m2)) (h3 : PS X s3 (tPenRet c)) : PSs X [s1, s2, s3] (tPenBody c (seqS m1 m2)) := by
  refine PSsimp (pss_cons h1 (pss_cons h2 (pss_one h3))) fun De σ H h => ?_
  obtain ⟨F, env, T, h⟩ := h
  refine ⟨F, env, (), T, ?_⟩
  unfold seqS at h
  cases q : m1 env () with
  | bad => rw [q] at h; exact h
  | exc k fs p => rw [q] at h; exact h
  | ok a =>
    obtain ⟨o, s'⟩ := a
    rw [q] at h
    cases o with
    | nx env' =>
      refine fun σ' F' H' x T' => ⟨F', env', (), T', ?_⟩
      have h2 : FinS c F' (m2 env' ()) { De with nx := tPenRet c De } := FinS.same h x
      exact h2
    | rt d => exact h
    | bk env' => exact h
    | ct env' => exact h
/-- the maker of the pen keeps its promise -/
theorem fnPen_of {cls : Nat → Addr} {flds : Nat → List Str} {T : List (Addr × Str)} {x : Str} {st : Stmt} {f : Addr} {fd : FuncData} {N : List Str} {p0 : Str} {k : Nat} {m1 m2 : MS Unit} {s1 s2 s3 : Stmt} (Fu : Fun K x x st f fd) (Sc : FnScope N [p0] (defScope st)) (hb : defBody st = [s1, s2, s3]) (hm : keepsPen (seqS m1 m2) (N.length - 1))
    (hbody : ∀ {cd : Value} {A : Around} {outer : List PySem.Env} {s : Shared} {H : Hp} {E : XK} {B : En}, XO (cxD P w K mg base N x st f cd A outer s H E) (⟨mkDC K cls flds T none, SI.pure, B, fun cls dd _ H' => E cls dd H'⟩ : Ct Unit) k →
      PS (cxD P w K mg base N x st f cd A outer s H E) s1 (tS (⟨mkDC K cls flds T none, SI.pure, B, fun cls dd _ H' => E cls dd H'⟩ : Ct Unit) m1) ∧ PS (cxD P w K mg base N x st f cd A outer s H E) s2 (tS (⟨mkDC K cls flds T none, SI.pure, B, fun cls dd _ H' => E cls dd H'⟩ : Ct Unit) m2) ∧
      PS (cxD P w K mg base N x st f cd A outer s H E) s3 (tPenRet (⟨mkDC K cls flds T none, SI.pure, B, fun cls dd _ H' => E cls dd H'⟩ : Ct Unit))) :
    FnD P w K mg base (k + 1) f fd [p0] (spPen (mkDC K cls flds T none)) := by
  obtain ⟨oc, od, kV, doc, pm, an, cdv, ct, osl, rfl, lk, hcd⟩ := Fu.ex
  refine ⟨fun {vs H Q E} h => by obtain ⟨_, _, _, e, _⟩ := h; rw [e]; rfl, fun {A outer s H args us vs Q E} hr hg e0 hbd r h => ?_⟩
  have hl : vs.length = ([p0] : List Str).length := by obtain ⟨_, _, _, e, _⟩ := h; rw [e]; rfl
  refine LamX.run_ofS (N := N) (ps := [p0]) lk hcd Sc hr e0 hbd r hl fun hr' => ?_
  obtain ⟨F, cells, l0, rfl, hs, nt, ht, hS, hq⟩ := h
  have xo : XO (cxD P w K mg base N x st f cdv A outer s H E) (⟨mkDC K cls flds T none, SI.pure, ⟨F, H, fun _ => False, none⟩, fun cls dd _ H' => E cls dd H'⟩ : Ct Unit) k := ⟨rfl, hr', guards_deeper hg, takes_of rfl rfl rfl rfl, rfl, passes_of (K := fun e s'' => L2.CX P w outer H s E e s'') rfl⟩
  obtain ⟨b1, b2, b3⟩ := hbody xo
  refine ⟨tPenBody (⟨mkDC K cls flds T none, SI.pure, ⟨F, H, fun _ => False, none⟩, fun cls dd _ H' => E cls dd H'⟩ : Ct Unit) (seqS m1 m2), ?_, F, .d (.lst (cells.map .int)) :: List.replicate (N.length - 1) .no, ?_, ?_⟩
  · rw [hb]
    exact pen_three b1 b2 b3
  · have T0 := Stt.start (C := mkDC K cls flds T none) (I := SI.pure) (s := ()) (me := none) (ex := fun _ => False) (k := N.length - 1) (ds := [.lst (cells.map .int)]) (vs := [.ref l0]) hs nt trivial ht (Reps.one ⟨l0, _, rfl, hS, Reps.ints⟩) fun a z => z
    exact T0
  · obtain ⟨env', e1, e2, e3⟩ := hm cells
    rw [e1]
    exact fun σ' F' H' e U => ⟨F', env', U, cells, foldOf cells, e2, e3, fun F2 H2 a l e4 U2 na fa ha hl => hq F2 H2 a l U2.drop (by
      cases q : H a with
      | none => rfl
      | some o => exact absurd na (U.al a (by show H a ≠ none; rw [q]; simp))) fa ha hl⟩
end
end DL
set_option Elab.async false
set_option linter.all false
set_option maxRecDepth 100000
set_option maxHeartbeats 2000000
namespace DL
open PySem PySem.Spec PyProof.Rows L2
/-- the maker of the pen, by its name -/
structure GPen (P : Program) (w : World) (K : PySem.W.Frag) (mg : Str → Option Value) (base : Heap) (C : DC) (k : Nat) (x : Str) : Prop where
  ex : ∃ (f : Addr) (fd : FuncData) (p0 : Str), FnD P w K mg base k f fd [p0] (spPen C) ∧ mg x = some (.ref f) ∧ PySem.W.keepIn K (.ref f) = true ∧ Binds K fd [p0] []
/-- a law's promise: true -/
def spLaw (K : PySem.W.Frag) (T : List (Addr × Str)) (good : List Int → Prop) : Sp := fun vs H Q _ => ∃ F cells l0, vs = [.ref l0] ∧ Same F H ∧ NoTbl F ∧ LamX.Tabs T H ∧ SqL K F l0 (cells.map V.int) ∧ good cells ∧ ∀ H', Q (.bl true) H'
/-- a def whose code object is known -/
structure FunA (K : PySem.W.Frag) (x qual : Str) (st : Stmt) (cd : Value) (f : Addr) (fd : FuncData) : Prop where
  ex : ∃ (oc : Value) (od : Option Addr) (kV doc pm : Value) (an : Option Addr) (ct : Value) (osl : Array (Option Value)),
    fd = PySem.W.fnOf x qual (defArgs st) (defBody st) (defScope st) .none kV doc pm an cd ct ∧ K.lookup f = some ⟨oc, od, .func fd, osl⟩ ∧ PySem.W.codeIn K cd qual = true
/-- what a law's body must come to -/
def lawTrue (n i : Nat) (m : MS Pen) (cells : List Int) : Prop := ∃ s', m ((Slot.d (.lst (cells.map .int)) :: List.replicate n .no).set i (.d .st)) (pen0 cells) = .ok (.rt (.bl true), s')
section
variable {P : Program} {w : World} {K : PySem.W.Frag} {mg : Str → Option Value} {base : Heap}
theorem fnLaw_of {cls : Nat → Addr} {flds : Nat → List Str} {T : List (Addr × Str)} {x xp : Str} {st : Stmt} {f : Addr} {fd : FuncData} {N : List Str} {cd : Value} {p0 y : Str} {k kp i : Nat} {m : MS Pen} {rest : List Stmt} {pa pb pc pd pe : Pos} {good : List Int → Prop}
    (Fu : FunA K x x st cd f fd) (Sc : FnScope N [p0] (defScope st)) (hb : defBody st = .Assign [.Name y pa] (.Call (.Name xp pb) [.Name p0 pc] [] pd) pe :: rest) (G : GPen P w K mg base (mkDC K cls flds T none) kp xp) (hkp : kp ≤ k) (hm : ∀ cells, good cells → lawTrue (N.length - 1) i m cells)
    (hy : N[i]? = some y) (hyl : (defScope st).names.lookup y = some .local) (hg1 : (defScope st).names.lookup xp = some .globalImplicit) (h0 : N[0]? = some p0) (hl0 : (defScope st).names.lookup p0 = some .local) (d1 : (xp == ("__debug__" : Str)) = false) (d2 : (p0 == ("__debug__" : Str)) = false) (d3 : (p0 == ("__classdict__" : Str)) = false)
    (hbody : ∀ {A : Around} {outer : List PySem.Env} {s : Shared} {H : Hp} {E : XK} {so : Option Addr} {B : En}, XO (cxD P w K mg base N x st f cd A outer s H E) (⟨mkDC K cls flds T so, penJ K so, B, fun cls dd _ H' => E cls dd H'⟩ : Ct Pen) k →
      PSs (cxD P w K mg base N x st f cd A outer s H E) rest (tS (⟨mkDC K cls flds T so, penJ K so, B, fun cls dd _ H' => E cls dd H'⟩ : Ct Pen) m)) :
    FnD P w K mg base (k + 1) f fd [p0] (spLaw K T good) := by
  obtain ⟨oc, od, kV, doc, pm, an, ct, osl, rfl, lk, hcd⟩ := Fu.ex
  refine ⟨fun {vs H Q E} h => by obtain ⟨_, _, _, e, _⟩ := h; rw [e]; rfl, fun {A outer s H args us vs Q E} hr hg e0 hbd r h => ?_⟩
  have hl : vs.length = ([p0] : List Str).length := by obtain ⟨_, _, _, e, _⟩ := h; rw [e]; rfl
  refine LamX.run_ofS (N := N) (ps := [p0]) lk hcd Sc hr e0 hbd r hl fun hr' => ?_
  obtain ⟨F, cells, l0, rfl, hs, nt, ht, hS, hgood, hq⟩ := h
  have xo : ∀ so B, XO (cxD P w K mg base N x st f cd A outer s H E) (⟨mkDC K cls flds T so, penJ K so, B, fun cls dd _ H' => E cls dd H'⟩ : Ct Pen) k := fun so B => ⟨rfl, hr', guards_deeper hg, takes_of rfl rfl rfl rfl, rfl, passes_of (K := fun e s'' => L2.CX P w outer H s E e s'') rfl⟩
  have restR : PSs (cxD P w K mg base N x st f cd A outer s H E) rest (fun De σ H' => ∃ so B, tS (⟨mkDC K cls flds T so, penJ K so, B, fun cls dd _ H' => E cls dd H'⟩ : Ct Pen) m De σ H') := ⟨fun pins s2 σ H2 D I ⟨so, B, q⟩ => (hbody (xo so B)).run pins s2 σ H2 D I q⟩
  obtain ⟨fp, fdp, p1, Dp, hmp, hkpp, bp⟩ := G.ex
  have call : PE (cxD P w K mg base N x st f cd A outer s H E) (.Call (.Name xp pb) [.Name p0 pc] [] pd) (fun σ H2 Q2 => ∃ v, σ[0]? = some (some v) ∧ spPen (mkDC K cls flds T none) [v] H2 Q2 fun cls dd H' => E cls dd H') := by
    refine ⟨fun pins s2 σ H2 Q2 I h => ?_⟩
    obtain ⟨v, e1, e2⟩ := h
    refine wpAny_Call_Name_kw (ld_glob I hg1 hmp ?_ d1)
    refine PySem.W.callWith_K (h₀ := base) I.ok.mod.kin hkpp (thn ((L2.pa_cons (pe_var (i := 0) h0 (.inl hl0) d2 d3) L2.pa_nil).run pd pins s2 σ H2 (fun vs H3 => spPen (mkDC K cls flds T none) vs H3 Q2 fun cls dd H' => E cls dd H') I ⟨v, e1, e2⟩) fun us s3 ⟨vs, H3, I3, r3, q3⟩ => ⟨I3.kIn, ?_⟩) rfl rfl
    exact Dp.call (c := (⟨mkDC K cls flds T none, penJ K none, ⟨F, H, fun _ => False, none⟩, fun cls dd _ H' => E cls dd H'⟩ : Ct Pen)) (xo none _) hkp bp .nil I3 r3 (by rw [List.append_nil]; exact q3)
  have first := ps_set (X := cxD P w K mg base N x st f cd A outer s H E) (i := i) Sc.nd hy (.inl hyl) call (pos' := pa) (pos := pe) (by rfl) (.inl rfl)
  have body := pss_cons first restR
  rw [← hb] at body
  refine ⟨_, body, .ref l0, by first | rfl | simp [L2.start], F, cells, l0, rfl, hs, nt, ht, hS, fun F' H' a l U na fa ha hl => ?_⟩
  have rep : Rep (mkDC K cls flds T (some a)) F' (.lst (cells.map .int)) (.ref l0) := ⟨l0, _, rfl, U.f0.seq hS, Reps.ints⟩
  have T0 := Stt.start (C := mkDC K cls flds T (some a)) (I := penI K a) (s := pen0 cells) (me := none) (ex := fun b => b = a) (k := N.length - 1) (ds := [.lst (cells.map .int)]) (vs := [.ref l0]) U.sub U.nt ⟨fa, l, ha, hl⟩ U.tb (Reps.one rep) fun a z => z
  have T1 := T0.setD (i := i) (d := .st) (v := .ref a) ⟨a, rfl, rfl⟩
  obtain ⟨s', e⟩ := hm cells hgood
  refine ⟨some a, ⟨F', H', fun b => b = a, none⟩, F', _, pen0 cells, T1, ?_⟩
  have e : m (([D.lst (cells.map .int)].map Slot.d ++ List.replicate (N.length - 1) Slot.no).set i (.d .st)) (pen0 cells) = .ok (.rt (.bl true), s') := e
  rw [e]
  exact fun v σ' env' F2 H2 e2 T2 rv => by
    cases rep_bl rv
    exact hq H2
end
section
/-- what is known of the law's promise at the head's heap h -/
def LawD (l : PySem.W.OpenLaw) (w : World) (K : PySem.W.Frag) (k : Nat) (x : Str) (mg : Str → Option Value) (fa : Addr) (h : Heap) (good : List Int → Prop) : Prop :=
  ∃ (fd : FuncData) (cs : List (Addr × Addr)) (T : List (Addr × Str)), (∀ p ∈ cs, h.get? p.2 = some { cls := .none, data := .fields #[] }) ∧ (∀ p ∈ cs, K.lookup p.2 = none) ∧ (∀ p ∈ cs, PySem.W.CodeHd h p.1 p.2) ∧ (∀ q ∈ T, ∃ p ∈ cs, p.2 = q.1) ∧
    (∀ (s : Shared) (u : Value), BindsTo s fd ⟨[u], []⟩ [(x, u)]) ∧ ∀ base : Heap, K.In base → base.Ns mainGlobals mg → (∀ p ∈ cs, LamX.TabB base mg p.1 p.2) → FnD l.prog w K mg base k fa fd [x] (spLaw K T good)
theorem law_end {P : Program} {w : World} {K : PySem.W.Frag} {mg mb : Str → Option Value} {k : Nat} {fa a : Addr} {cs : List (Addr × Addr)} {T : List (Addr × Str)} {fd : FuncData} {x : Str} {s₁ : Shared} {vs : List Value} {ns : List Int} {good : List Int → Prop}
    (KX : K.In s₁.heap) (hns : s₁.heap.Ns mainGlobals mg) (hb : s₁.heap.Ns builtinsNs mb) (hbb : ∀ x : Str, x ≠ "__name__" → mb x = bootBuiltins x) (hlim : s₁.heap.NoLimit) (hgn : s₁.gens = #[])
    (hT : ∀ p ∈ cs, s₁.heap.get? p.2 = some { cls := .none, data := .fields #[] }) (nT : ∀ p ∈ cs, K.lookup p.2 = none) (hC : ∀ p ∈ cs, PySem.W.CodeHd s₁.heap p.1 p.2) (hTc : ∀ q ∈ T, ∃ p ∈ cs, p.2 = q.1)
    (hbm : ∃ (bm : Addr) (ob : Obj), mg "__builtins__" = some (.ref bm) ∧ bm ≠ builtinsNs ∧ s₁.heap.get? bm = some ob ∧ ob.cls = .type "module" ∧ ob.dict = some builtinsNs ∧ ob.data = .plain)
    (ha : s₁.heap.get? a = some { cls := .type "list", data := .seq vs.toArray }) (hi : IntsAre vs ns) (hl : ns.length ≤ sizeLine) (hr : Room k callerA) (hgood : good ns)
    (F : ∀ base : Heap, K.In base → base.Ns mainGlobals mg → (∀ p ∈ cs, LamX.TabB base mg p.1 p.2) → FnD P w K mg base k fa fd [x] (spLaw K T good)) (hbind : ∀ (s : Shared) (u : Value), BindsTo s fd ⟨[u], []⟩ [(x, u)]) :
    codeAny (model P w) callerA (.call (.ref fa) ⟨[.ref a], []⟩) (fun r s' => r = .ok (.ret (.bool true)) ∧ OldK s₁.heap s'.heap ∧ s'.os = s₁.os ∧ AllBare s'.gens) s₁ := by
  have rv := vals_ints hi
  have lenV := hi.length
  let tb : Addr → Bool := fun b => decide (b ∈ cs.map (·.2))
  have isT : ∀ b : Addr, tb b = true → s₁.heap.get? b = some { cls := .none, data := .fields #[] } := fun b hb => by
    obtain ⟨p, hp, e⟩ := List.mem_map.mp (of_decide_eq_true hb)
    rw [← e]; exact hT p hp
  have memT : ∀ p ∈ cs, tb p.2 = true := fun p hp => decide_eq_true (List.mem_map.mpr ⟨p, hp, rfl⟩)
  have aT : tb a = false := by
    cases z : tb a with
    | false => rfl
    | true =>
      have q := isT a z
      rw [ha] at q
      cases (show Data.seq vs.toArray _ = Data.fields #[] from congrArg Obj.data (Option.some.inj q))
  -- the script is tracked where the written part does not know it
  let scr : Addr → Bool := fun b => decide (b = a) && (K.lookup a).isNone
  let H : Hp := fun b => if scr b = true then some (.frz { cls := .type "list", data := .seq vs.toArray } (.lst (ns.map V.int))) else if tb b = true then some (.tbl #[]) else none
  let F0 : Hp := fun b => if scr b = true then some (.frz { cls := .type "list", data := .seq vs.toArray } (.lst (ns.map V.int))) else none
  have scrA : ∀ b, scr b = true → b = a ∧ K.lookup a = none := fun b h => by
    obtain ⟨h1, h2⟩ := Bool.and_eq_true_iff.mp h
    exact ⟨of_decide_eq_true h1, Option.isNone_iff_eq_none.mp h2⟩
  have Hs : ∀ b, scr b = true → H b = some (.frz { cls := .type "list", data := .seq vs.toArray } (.lst (ns.map V.int))) := fun b h => if_pos h
  have Ht : ∀ b, tb b = true → H b = some (.tbl #[]) := fun b h => by
    have n : ¬ scr b = true := fun z => by rw [(scrA b z).1, aT] at h; cases h
    exact (if_neg n).trans (if_pos h)
  have Hn : ∀ b, ¬ scr b = true → ¬ tb b = true → H b = none := fun b h1 h2 => (if_neg h1).trans (if_neg h2)
  have cases3 : ∀ b o, H b = some o → (scr b = true ∧ o = .frz { cls := .type "list", data := .seq vs.toArray } (.lst (ns.map V.int))) ∨ (tb b = true ∧ o = .tbl #[]) := fun b o e => by
    by_cases h1 : scr b = true
    · rw [Hs b h1] at e; cases e; exact .inl ⟨h1, rfl⟩
    · by_cases h2 : tb b = true
      · rw [Ht b h2] at e; cases e; exact .inr ⟨h2, rfl⟩
      · rw [Hn b h1 h2] at e; cases e
  have hS : SqL K F0 a (ns.map V.int) := by
    cases hk : K.lookup a with
    | some o =>
      have e := KX a o hk
      rw [ha] at e; cases e
      exact .inr ⟨_, vs.toArray, _, hk, rfl, rfl, rfl, by rw [List.size_toArray, lenV]; exact hl, by simpa using rv⟩
    | none => exact .inl (.inr ⟨{ cls := .type "list", data := .seq vs.toArray }, if_pos (by show (decide (a = a) && (K.lookup a).isNone) = true; rw [hk]; simp)⟩)
  have hok : HOk P w H s₁.heap := fun b o e => by
    rcases cases3 b o e with ⟨h1, rfl⟩ | ⟨h1, rfl⟩
    · obtain ⟨rfl, _⟩ := scrA b h1
      exact ⟨ha, by rw [List.length_map]; exact hl, vs, _, rv, ha⟩
    · exact isT b h1
  have low : ∀ {b : Addr} {o : Obj}, s₁.heap.get? b = some o → (∀ vs n, o.data ≠ .seq vs n) → o.data ≠ .fields #[] → H b = none := fun {b o} e n1 n2 => by
    refine Hn b (fun z => ?_) fun z => ?_
    · rw [(scrA b z).1, ha] at e; cases e; exact n1 _ _ rfl
    · rw [isT b z] at e; cases e; exact n2 rfl
  have lowD : ∀ {b : Addr} {o : Obj} {es : Array DictEntry} {ep : Nat}, s₁.heap.get? b = some o → o.data = .dict es ep → H b = none := fun {b o es ep} e d => low e (fun vs n z => by rw [d] at z; cases z) fun z => by rw [d] at z; cases z
  have nsH : ∀ {b : Addr} {m : Str → Option Value}, s₁.heap.Ns b m → (hidT s₁.heap H).Ns b m := fun {b m} ⟨o, es, ep, e, d, r⟩ => ⟨o, es, ep, hidT_get e (lowD e d), d, r⟩
  have hKb : K.In (hidT s₁.heap H) := fun b o e => hidT_get (KX b o e) (Hn b (fun z => by obtain ⟨rfl, h⟩ := scrA b z; rw [h] at e; cases e) fun z => by
    obtain ⟨p, hp, ep⟩ := List.mem_map.mp (of_decide_eq_true z)
    rw [← ep, nT p hp] at e; cases e)
  have hM : L2.Mod K mg (hidT s₁.heap H) := ⟨hKb, nsH hns, ⟨mb, nsH hb, hbb⟩, let ⟨mc, h1, h2⟩ := hlim; ⟨mc, nsH h1, h2⟩⟩
  have TB : ∀ p ∈ cs, LamX.TabB (hidT s₁.heap H) mg p.1 p.2 := fun p hp => by
    have hTp := hT p hp
    refine ⟨?_, ?_, fun z => ?_⟩
    · obtain ⟨o, us, file, tf, flags, tg, inF, text, tt, e1, r1, r2, r3, r4⟩ := hC p hp
      exact ⟨o, us, file, tf, flags, tg, inF, text, tt, hidT_get e1 (low e1 (fun vs n z => by rw [r2] at z; cases z) fun z => by rw [r2] at z; cases z; simp at r3), r1, r2, r3, r4⟩
    · obtain ⟨bm, ob, b1, b2, b3, b4, b5, b6⟩ := hbm
      have nG : bm ≠ mainGlobals := fun q => by
        obtain ⟨o, es, ep, e, hd, _⟩ := hns
        rw [q, e] at b3; cases b3
        rw [hd] at b6; cases b6
      have nP : bm ≠ p.2 := fun q => by rw [q, hTp] at b3; cases b3; cases b6
      exact ⟨bm, ob, b1, b2, nG, nP, hidT_get b3 (low b3 (fun vs n z => by rw [b6] at z; cases z) fun z => by rw [b6] at z; cases z), b4, b5, b6⟩
    · obtain ⟨o, es, ep, e, hd, _⟩ := hns
      rw [z, hTp] at e; cases e; cases hd
  have e0 : Env0 P w K mg (hidT s₁.heap H) callerA [] s₁ H := ⟨rfl, hM, fun b o e => of_hidT e, Nat.le_of_eq (hidT_size _ _), trivial, fun b hb => absurd (show b ∈ ([] : List Addr) from hb) (by simp), hok, .of_eq hgn⟩
  have sub : Same F0 H := fun b o e => by
    by_cases h1 : scr b = true
    · rw [Hs b h1, ← e]; exact (if_pos h1).symm
    · have e' : (none : Option HO) = some o := (if_neg h1).symm.trans e
      cases e'
  have ntF : NoTbl F0 := fun b ps e => by
    by_cases h1 : scr b = true
    · have z := (if_pos h1).symm.trans e; cases z
    · have z : (none : Option HO) = some _ := (if_neg h1).symm.trans e
      cases z
  have tabs : LamX.Tabs T H := fun q hq => by
    obtain ⟨p, hp, e⟩ := hTc q hq
    exact LamX.TabS.nil (by rw [← e]; exact Ht _ (memT p hp))
  refine codeAny_mono ((F _ hKb (nsH hns) TB).goes (A := callerA) (outer := []) (s := s₁) (H := H) (args := ⟨[.ref a], []⟩) (us := [.ref a]) (vs := [.ref a]) (Q := fun v _ => v = .bl true) (E := fun _ _ _ => False) hr rfl e0 (hbind s₁ (.ref a)) (.cons rfl .nil) ⟨F0, ns, a, rfl, sub, ntF, tabs, hS, hgood, fun _ => rfl⟩) fun r s' h => ?_
  cases r with
  | error e =>
    obtain ⟨_, _, _, _, _, _, _, _, _, _, _, _, z⟩ := h
    exact z.elim
  | ok fl =>
    cases fl with
    | next => exact False.elim h
    | brk => exact False.elim h
    | cont => exact False.elim h
    | ret u =>
      obtain ⟨v, H', os, bare, un, hok', r', q⟩ := h
      have q' : v = .bl true := q
      subst q'
      obtain rfl : u = Value.bool true := r'
      have keyN : ∀ b o, ¬ tb b = true → s₁.heap.get? b = some o → s'.heap.get? b = some o := fun b o nb e => by
        by_cases h1 : scr b = true
        · have z1 := hok b _ (Hs b h1)
          have z2 := hok' b _ (un.frzs b _ _ (Hs b h1))
          obtain ⟨e1, _⟩ := z1
          obtain ⟨e2, _⟩ := z2
          rw [e] at e1; cases e1
          exact e2
        · exact un.keep b o e (Hn b h1 nb) (fun z => absurd (show b ∈ ([] : List Addr) from z) (by simp)) (by simp)
      have grown : ∀ p ∈ cs, ∃ more : Array Value, s'.heap.get? p.2 = some { cls := .none, data := .fields more } := fun p hp => by
        obtain ⟨more, z⟩ := un.tbls p.2 #[] (Ht _ (memT p hp))
        exact ⟨_, hok' p.2 _ z⟩
      refine ⟨rfl, ⟨fun b o e => ?_, fun b o e => ?_⟩, os, bare⟩
      · by_cases hb2 : tb b = true
        · obtain ⟨p, hp, ep⟩ := List.mem_map.mp (of_decide_eq_true hb2)
          obtain ⟨more, hm⟩ := grown p hp
          rw [← ep] at e ⊢
          rw [hT p hp] at e
          cases e
          exact .inr (.inl ⟨((hC p hp).tab (hT p hp)).isCodeTable, rfl, #[], more, rfl, by rw [Array.empty_append]; exact hm⟩)
        · exact .inl (keyN b o hb2 e)
      · by_cases hb2 : tb b = true
        · obtain ⟨p, hp, ep⟩ := List.mem_map.mp (of_decide_eq_true hb2)
          obtain ⟨more, hm⟩ := grown p hp
          rw [← ep]
          exact ⟨_, hm⟩
        · exact ⟨o, keyN b o hb2 e⟩
/-- the row's walk, by the law's promise -/
theorem walk_law {l : PySem.W.OpenLaw} {n k : Nat} {q : Program} {loose : List Str} {XP : (Str → Option Value) → Heap → Prop} {YP : World → Heap → Prop} {d : DefRec} {K : Params → PySem.W.Frag} {x : Str} {good : List Int → Prop}
    (hn : l.most = some n) (hn2 : n ≤ sizeLine) (hdf : d.params.defaults = []) (hr : Room k callerA) (hgood : ∀ ns : List Int, ns.length ≤ n → (∀ z ∈ ns, Builtin.Int.intBits z ≤ 1048576) → good ns) (hY : ∀ (w : World) (h : Heap), YP w h → (K w.params).In h)
    (F : ∀ (w : World) (mg : Str → Option Value) (fa : Addr) (h : Heap), YP w h → (K w.params).In h → h.Ns mainGlobals mg → mg d.name = some (.ref fa) → LawD l w (K w.params) k x mg fa h good) :
    PySem.W.WalkO q loose XP YP l.row.toRowW d [] (fun f vs => PySem.call f vs) := by
  refine Att.attach_callB hn hdf fun w s₀ s₁ mg mb fa o pm cd doc a vs ns G Y ho hd hcd hmg hobj hints hlen hbits hg => ?_
  have KX := hY w _ Y
  obtain ⟨fd, cs, T, hT, nT, C, hTc, hb, hF⟩ := F w mg fa _ Y KX G.T.g hmg
  exact law_end KX G.T.g G.T.b G.T.builtins G.T.nolimit hg hT nT C hTc G.T.bmain hobj hints (Nat.le_trans hlen hn2) hr (hgood ns hlen hbits) hF hb
end
end DL
set_option Elab.async false
set_option linter.all false
set_option maxRecDepth 100000
namespace DL
open PySem PySem.Spec PyProof.Rows L2
section
variable {S : Type} {c : Ct S} {X : Cx} {a b e o : Expr} {pos : Pos} {ma mb : M S D}
def inD : D → D → Option D
  | .str x, .str y => match x.cps.toList with
    | [k] => some (.bl (decide (k ∈ y.cps.toList)))
    | _ => none
  | _, _ => none
def notInD (x y : D) : Option D := match inD x y with
  | some (.bl b) => some (.bl (!b))
  | _ => none
theorem str_one {x : Str} {k : Nat} (h : x.cps.toList = [k]) : x = ⟨#[k]⟩ := by
  obtain ⟨cps⟩ := x
  congr
  apply Array.toList_inj.mp
  simpa using h
theorem inD_str {x y d : D} (h : inD x y = some d) : ∃ u w b, x = .str u ∧ y = .str w ∧ d = .bl b ∧ (!(Builtin.Str.occurrences w u 0 w.length 1).isEmpty) = b := by
  unfold inD at h
  split at h
  · split at h
    · rename_i u w k hk
      cases h
      refine ⟨_, _, _, rfl, rfl, rfl, ?_⟩
      rw [str_one hk]
      exact PySem.StrLaws.found_one _ k
    · cases h
  · cases h
theorem d_in (ha : PE X a (tM c ma)) (hb : PE X b (tM c mb)) (hm : behindInMarks .In b = false := by rfl) : PE X (.Compare a [.In] [b] pos) (tM c (m2 inD ma mb)) :=
  d_cmp op_in_str (Op2.flat fun F x y dx dy d rx ry e => by
    obtain ⟨u, w, k, rfl, rfl, rfl, h⟩ := inD_str e
    cases rep_str rx; cases rep_str ry
    exact ⟨_, fun _ => rfl, fun H Q q => ⟨_, _, rfl, rfl, by rw [h]; exact q⟩⟩) ha hb hm
theorem d_notin (ha : PE X a (tM c ma)) (hb : PE X b (tM c mb)) (hm : behindInMarks .NotIn b = false := by rfl) : PE X (.Compare a [.NotIn] [b] pos) (tM c (m2 notInD ma mb)) :=
  d_cmp L2.op_notIn_str (Op2.flat fun F x y dx dy d rx ry e => by
    unfold notInD at e
    cases z : inD dx dy with
    | none => rw [z] at e; cases e
    | some d2 =>
      obtain ⟨u, w, k, rfl, rfl, rfl, h⟩ := inD_str z
      rw [z] at e
      cases e
      cases rep_str rx; cases rep_str ry
      exact ⟨_, fun _ => rfl, fun H Q q => ⟨_, _, rfl, rfl, by rw [h]; exact q⟩⟩) ha hb hm
end
end DL
set_option Elab.async false
set_option linter.all false
set_option maxRecDepth 100000
namespace DL
open PySem PySem.Spec PyProof.Rows L2
section
variable {S : Type} {c : Ct S} {X : Cx} {a b e o : Expr} {pos : Pos} {ma mb : M S D}
theorem tT_op2 {r : R2} {f : D → D → Option D} (h2 : Op2 c r f) (hf : ∀ x y d, f x y = some d → ∃ b, d = .bl b) {σ : L2.St} {H : Hp} {Q : Bool → Hp → Prop} (h : tT c (truM (m2 f ma mb)) σ H Q) : tOp r (tM c ma) (tM c mb) σ H fun x H' => ∃ k, x = .bl k ∧ Q k H' := by
  obtain ⟨F, env, s, T, h⟩ := h
  refine ⟨F, env, s, T, h.bind.bind.imp fun dx s1 F1 H1 e1 T1 q x rx => ?_⟩
  refine ⟨F1, env, s1, T1, q.bind.imp fun dy s2 F2 H2 e2 T2 q2 y ry => ?_⟩
  obtain ⟨d, e, q3⟩ := q2.opt T2
  obtain ⟨b, rfl⟩ := hf dx dy d e
  refine h2 σ F2 H2 env s2 x y dx dy _ _ T2 (rx.mono e2) ry e fun F' H' v e' T' rv => ?_
  have q4 := q3 F' H' e' T'
  obtain ⟨k, ek, q5⟩ := q4.opt T'
  cases ek
  exact ⟨b, rep_bl rv, q5 F' H' (Same.refl _) T'⟩
theorem t_cmpR {op : CmpOp} {r : R2} {f : D → D → Option D} (ho : OpR X (compareOp op) r) (h2 : Op2 c r f) (hf : ∀ x y d, f x y = some d → ∃ b, d = .bl b) (ha : PE X a (tM c ma)) (hb : PE X b (tM c mb)) (hm : behindInMarks op b = false) : PT X (.Compare a [op] [b] pos) (tT c (truM (m2 f ma mb))) :=
  PTimp (pt_cmpR ho ha hb hm) fun σ H Q h => tT_op2 h2 hf h
theorem eqD_bl (x y d : D) (h : eqD x y = some d) : ∃ b, d = .bl b := by
  unfold eqD at h
  cases z : eqvD x y with
  | none => rw [z] at h; cases h
  | some b => rw [z] at h; cases h; exact ⟨_, rfl⟩
theorem neD_bl (x y d : D) (h : neD x y = some d) : ∃ b, d = .bl b := by
  unfold neD at h
  cases z : eqvD x y with
  | none => rw [z] at h; cases h
  | some b => rw [z] at h; cases h; exact ⟨_, rfl⟩
theorem inD_bl (x y d : D) (h : inD x y = some d) : ∃ b, d = .bl b := by
  obtain ⟨_, _, b, _, _, rfl, _⟩ := inD_str h
  exact ⟨b, rfl⟩
theorem notInD_bl (x y d : D) (h : notInD x y = some d) : ∃ b, d = .bl b := by
  unfold notInD at h
  split at h
  · cases h; exact ⟨_, rfl⟩
  · cases h
theorem t_eq (hk : c.C.K = X.K) (hu : X.A.units + 64 < cLine) (ha : PE X a (tM c ma)) (hb : PE X b (tM c mb)) : PT X (.Compare a [.Eq] [b] pos) (tT c (truM (m2 eqD ma mb))) := t_cmpR (op_eqD hu) (hk ▸ op2_eq) eqD_bl ha hb (nomark _)
theorem t_ne (hk : c.C.K = X.K) (hu : X.A.units + 64 < cLine) (ha : PE X a (tM c ma)) (hb : PE X b (tM c mb)) : PT X (.Compare a [.NotEq] [b] pos) (tT c (truM (m2 neD ma mb))) := t_cmpR (op_neD hu) (hk ▸ op2_ne) neD_bl ha hb (nomark _)
theorem op2_in : Op2 c (fun x y H Q => ∃ i j, x = .str i ∧ y = .str j ∧ Q (.bl (!(Builtin.Str.occurrences j i 0 j.length 1).isEmpty)) H) inD := Op2.flat fun F x y dx dy d rx ry e => by
  obtain ⟨u, w, k, rfl, rfl, rfl, h⟩ := inD_str e
  cases rep_str rx; cases rep_str ry
  exact ⟨_, fun _ => rfl, fun H Q q => ⟨_, _, rfl, rfl, by rw [h]; exact q⟩⟩
theorem op2_notIn : Op2 c (fun x y H Q => ∃ i j, x = .str i ∧ y = .str j ∧ Q (.bl (!(!(Builtin.Str.occurrences j i 0 j.length 1).isEmpty))) H) notInD := Op2.flat fun F x y dx dy d rx ry e => by
  unfold notInD at e
  cases z : inD dx dy with
  | none => rw [z] at e; cases e
  | some d2 =>
    obtain ⟨u, w, k, rfl, rfl, rfl, h⟩ := inD_str z
    rw [z] at e; cases e
    cases rep_str rx; cases rep_str ry
    exact ⟨_, fun _ => rfl, fun H Q q => ⟨_, _, rfl, rfl, by rw [h]; exact q⟩⟩
theorem t_in (ha : PE X a (tM c ma)) (hb : PE X b (tM c mb)) (hm : behindInMarks .In b = false := by rfl) : PT X (.Compare a [.In] [b] pos) (tT c (truM (m2 inD ma mb))) := t_cmpR op_in_str op2_in inD_bl ha hb hm
theorem t_notin (ha : PE X a (tM c ma)) (hb : PE X b (tM c mb)) (hm : behindInMarks .NotIn b = false := by rfl) : PT X (.Compare a [.NotIn] [b] pos) (tT c (truM (m2 notInD ma mb))) := t_cmpR L2.op_notIn_str op2_notIn notInD_bl ha hb hm
theorem t_int {op : CmpOp} {p : Int → Int → Bool} {f : D → D → Option D} (ho : ∀ {ta tb : TE}, PE X a ta → PE X b tb → PC X op a b (tCmp p ta tb)) (hf : ∀ x y d, f x y = some d → ∃ i j, x = .int i ∧ y = .int j ∧ d = .bl (p i j))
    (ha : PE X a (tM c ma)) (hb : PE X b (tM c mb)) (hm : behindInMarks op b = false) : PT X (.Compare a [op] [b] pos) (tT c (truM (m2 f ma mb))) := by
  refine PTimp (pt_cmp (ho ha hb) hm) fun σ H Q h => ?_
  have z := tT_op2 (r := fun x y H Q => ∃ i j, x = .int i ∧ y = .int j ∧ Q (.bl (p i j)) H) (Op2.flat fun F x y dx dy d rx ry e => by
    obtain ⟨i, j, rfl, rfl, rfl⟩ := hf dx dy d e
    cases rep_int rx; cases rep_int ry
    exact ⟨_, fun _ => rfl, fun H Q q => ⟨_, _, rfl, rfl, q⟩⟩) (fun x y d e => by obtain ⟨i, j, _, _, rfl⟩ := hf x y d e; exact ⟨_, rfl⟩) h
  exact z
theorem t_lt (ha : PE X a (tM c ma)) (hb : PE X b (tM c mb)) : PT X (.Compare a [.Lt] [b] pos) (tT c (truM (m2 ltD ma mb))) :=
  t_int pc_lt (fun x y d e => by unfold ltD at e; split at e <;> first | (cases e; exact ⟨_, _, rfl, rfl, rfl⟩) | cases e) ha hb (nomark _)
theorem t_le (ha : PE X a (tM c ma)) (hb : PE X b (tM c mb)) : PT X (.Compare a [.LtE] [b] pos) (tT c (truM (m2 leD ma mb))) :=
  t_int pc_le (fun x y d e => by unfold leD at e; split at e <;> first | (cases e; exact ⟨_, _, rfl, rfl, rfl⟩) | cases e) ha hb (nomark _)
theorem t_gt (ha : PE X a (tM c ma)) (hb : PE X b (tM c mb)) : PT X (.Compare a [.Gt] [b] pos) (tT c (truM (m2 gtD ma mb))) :=
  t_int pc_gt (fun x y d e => by unfold gtD at e; split at e <;> first | (cases e; exact ⟨_, _, rfl, rfl, rfl⟩) | cases e) ha hb (nomark _)
theorem t_ge (ha : PE X a (tM c ma)) (hb : PE X b (tM c mb)) : PT X (.Compare a [.GtE] [b] pos) (tT c (truM (m2 geD ma mb))) :=
  t_int pc_ge (fun x y d e => by unfold geD at e; split at e <;> first | (cases e; exact ⟨_, _, rfl, rfl, rfl⟩) | cases e) ha hb (nomark _)
theorem tT_un {r : V → Hp → (Bool → Hp → Prop) → Prop} {f : D → Bool} (k : ∀ F x dx, Rep c.C F dx x → ∀ H (Q : Bool → Hp → Prop), Q (f dx) H → r x H Q) {σ : L2.St} {H : Hp} {Q : Bool → Hp → Prop} (h : tT c (truM (m1 (fun x => some (.bl (f x))) ma)) σ H Q) : tM c ma σ H fun x H1 => r x H1 Q := by
  obtain ⟨F, env, s, T, h⟩ := h
  refine ⟨F, env, s, T, h.bind.bind.imp fun dx s1 F1 H1 e1 T1 q x rx => ?_⟩
  obtain ⟨d, e, q2⟩ := q.opt T1
  cases e
  have q4 := q2 F1 H1 (Same.refl _) T1
  obtain ⟨b, eb, q3⟩ := q4.opt T1
  cases eb
  exact k F1 x dx rx H1 Q (q3 F1 H1 (Same.refl _) T1)
theorem t_isN {j : Nat} {p : Pos} (ha : PE X a (tM c ma)) : PT X (.Compare a [.Is] [.Constant .none j p] pos) (tT c (truM (m1 (fun x => some (.bl (isNon x))) ma))) :=
  PTimp (pt_cmp (pc_isN ha)) fun σ H Q h => tT_un (r := fun x H Q => ∃ d, V.bl (decide (x = .non)) = .bl d ∧ Q d H) (fun F x dx rx H Q q => ⟨_, rfl, by rw [rep_isNon rx]; exact q⟩) h
theorem t_notN {j : Nat} {p : Pos} (ha : PE X a (tM c ma)) : PT X (.Compare a [.IsNot] [.Constant .none j p] pos) (tT c (truM (m1 (fun x => some (.bl (!isNon x))) ma))) :=
  PTimp (pt_cmp (pc_notN ha)) fun σ H Q h => tT_un (f := fun x => !isNon x) (r := fun x H Q => ∃ d, V.bl (!decide (x = .non)) = .bl d ∧ Q d H) (fun F x dx rx H Q q => ⟨_, rfl, by rw [rep_isNon rx]; exact q⟩) h
end
end DL
set_option Elab.async false
set_option linter.all false
set_option maxRecDepth 100000
namespace DL
open PySem PySem.Spec PyProof.Rows L2
def clsBody (s : Stmt) : List Stmt := match s with
  | .ClassDef _ _ _ b _ _ _ _ _ _ _ => b
  | _ => []
/-- the name of a def's lambdas -/
def lamQ (x : Str) : Str := (x ++ ".<locals>.") ++ "<lambda>"
def tupM {S : Type} (ms : M S (List D)) : M S D := bindM ms fun ds => optM (tupD ds)
def lstM {S : Type} (ms : M S (List D)) : M S D := bindM ms fun ds => optM (lstD ds)
def partM {S : Type} (m : M S D) : M S (Option Int) := bindM m fun x => optM (partD x)
theorem tab_hu {T : List (Addr × Str)} {P : Addr} {q : Str} (nd : (T.map (·.1)).Nodup) (hm : (P, q) ∈ T) : ∀ p ∈ T, p.1 = P → p.2 = q := by
  induction T with
  | nil => cases hm
  | cons a T ih =>
    obtain ⟨h1, h2⟩ := List.nodup_cons.mp (show (a.1 :: T.map (·.1)).Nodup from nd)
    intro p hp e
    rcases List.mem_cons.mp hm with e1 | hm
    · rcases List.mem_cons.mp hp with e2 | hp
      · rw [e2, ← e1]
      · exact absurd (List.mem_map_of_mem (f := (·.1)) hp) (by rw [e, ← show a.1 = P by rw [← e1]]; exact h1)
    · rcases List.mem_cons.mp hp with e2 | hp
      · exact absurd (List.mem_map_of_mem (f := (·.1)) hm) (by rw [show (P, q).1 = a.1 by rw [← e2]; exact e.symm]; exact h1)
      · exact ih h2 hm p hp e
/-- which exceptions a clause takes -/
def exT (l : List (Nat × Bool)) (k : Nat) : Option Bool := l.lookup k
def ExL (K : PySem.W.Frag) (cls : Nat → Addr) (v : Value) : List (Nat × Bool) → Prop
  | [] => True
  | (k, b) :: r => PySem.W.exmOne K (.ref (cls k)) v = some b ∧ ExL K cls v r
theorem exT_ok {K : PySem.W.Frag} {cls : Nat → Addr} {v : Value} : ∀ {l : List (Nat × Bool)}, ExL K cls v l → ∀ k b, exT l k = some b → PySem.W.exmOne K (.ref (cls k)) v = some b
  | (k', b') :: r, h, k, b, e => by
    unfold exT at e
    simp only [List.lookup] at e
    split at e
    · rename_i z
      cases e
      rw [beq_iff_eq.mp z]
      exact h.1
    · exact exT_ok h.2 k b e
section
variable {S : Type} {P : Program} {w : World} {K : PySem.W.Frag} {mg : Str → Option Value} {base : Heap} {dc : Option Addr → DC} {J : Option Addr → SI S}
theorem fnDc_of {x qual : Str} {st : Stmt} {cd : Value} {f : Addr} {fd : FuncData} {N ps : List Str} {k : Nat} {mb : MS S} {n : Nat} (Fu : FunA K x qual st cd f fd) (Sc : FnScope N ps (defScope st)) (hK : ∀ so, (dc so).K = K) (hn : ps.length = n)
    (hbody : ∀ {A : Around} {outer : List PySem.Env} {s : Shared} {H : Hp} {E : XK} {so : Option Addr} {B : En}, XO (cxD P w K mg base N qual st f cd A outer s H E) (ctD dc J so B E) k → PSs (cxD P w K mg base N qual st f cd A outer s H E) (defBody st) (tS (ctD dc J so B E) mb)) :
    FnD P w K mg base (k + 1) f fd ps (spD dc J n (runF N.length mb)) := by
  obtain ⟨oc, od, kV, doc, pm, an, ct, osl, rfl, lk, hcd⟩ := Fu.ex
  refine ⟨fun h => h.1.trans hn.symm, fun {A outer s H args us vs Q E} hr hg e0 hb r h => ?_⟩
  refine LamX.run_ofS (N := N) (ps := ps) lk hcd Sc hr e0 hb r (h.1.trans hn.symm) fun hr' => ?_
  obtain ⟨hlen, so, F, ds, s0, hs, nt, hi, ht, hrep, hfin⟩ := h
  refine ⟨_, hbody (so := so) (B := ⟨F, H, (J so).ex, none⟩) (xo_def hK hr' hg), F, ds.map Slot.d ++ List.replicate (N.length - ds.length) Slot.no, s0, ?_, ?_⟩
  · have e : L2.start N vs = vs.map some ++ List.replicate (N.length - ds.length) none := by
      unfold L2.start
      rw [hrep.length]
    rw [e]
    exact Stt.start hs nt hi ht hrep fun _ z => z
  · unfold runF at hfin
    cases z : mb (ds.map Slot.d ++ List.replicate (N.length - ds.length) Slot.no) s0 with
    | bad => rw [z] at hfin; exact hfin
    | exc q fs p =>
      rw [z] at hfin
      exact fun cls dd σ' F' H' e T r => hfin cls dd F' H' e T.drop r
    | ok p =>
      obtain ⟨o, s'⟩ := p
      rw [z] at hfin
      cases o with
      | nx env' => exact fun σ' F' H' e T => hfin F' H' e T.drop .non rfl
      | rt d => exact fun v σ' env' F' H' e T r => hfin F' H' e T.drop v r
      | bk _ => exact hfin.elim
      | ct _ => exact hfin.elim
end
def penM1 : MS Unit := (setS 1 (retM (.int 0)))
def penM2 : MS Unit := (forS (.nm 2) (itM lstOf (mVar 0)) (setS 1 (m2 modD (callM intD (consM (m2 addD (m2 mulD (mVar 1) (retM (.int 47))) (mVar 2)) (retM []))) (retM (.int 1000000007)))))
theorem forLoop_nx {S : Type} {tg : Tg} {mb : MS S} {d : D} {r : List D} {env env1 e : Env} {s s' : S} (h1 : assignT tg d env = some env1) (h2 : mb env1 s = .ok (.nx e, s')) : forLoop tg mb (d :: r) env s = forLoop tg mb r e s' := by
  conv => lhs; unfold forLoop
  rw [h1]
  dsimp only
  rw [h2]
theorem forLoop_rt {S : Type} {tg : Tg} {mb : MS S} {d x : D} {r : List D} {env env1 : Env} {s s' : S} (h1 : assignT tg d env = some env1) (h2 : mb env1 s = .ok (.rt x, s')) : forLoop tg mb (d :: r) env s = .ok (.rt x, s') := by
  conv => lhs; unfold forLoop
  rw [h1]
  dsimp only
  rw [h2]
theorem pen_keeps : keepsPen (seqS penM1 penM2) 2 := fun cells => by
  have loop : ∀ (cs : List Int) (f : Int) (x : Slot), 0 ≤ f → f < 1000000007 → ∃ env', forLoop (.nm 2) (setS 1 (m2 modD (callM intD (consM (m2 addD (m2 mulD (mVar 1) (retM (.int 47))) (mVar 2)) (retM []))) (retM (.int 1000000007)))) (cs.map D.int) [.d (.lst (cells.map .int)), .d (.int f), x] () = .ok (.nx env', ()) ∧ env'[0]? = some (.d (.lst (cells.map .int))) ∧ env'[1]? = some (.d (.int (cs.foldl (fun f c => (f * 47 + c).fmod 1000000007) f))) := by
    intro cs
    induction cs with
    | nil => intro f x h1 h2; exact ⟨_, rfl, rfl, rfl⟩
    | cons z cs ih =>
      intro f x h1 h2
      have hm : mulOk f 47 := by
        have : f.natAbs < 2 ^ 30 := by omega
        have := Nat.log2_lt (by decide : (1 : Nat) ≠ 0) |>.mp (by decide : Nat.log2 1 < 1)
        unfold mulOk
        have h3 : f.natAbs.log2 < 30 ∨ f.natAbs = 0 := by
          by_cases e : f.natAbs = 0
          · exact .inr e
          · exact .inl ((Nat.log2_lt e).mpr (by omega))
        have h4 : (47 : Int).natAbs.log2 ≤ 10 := by decide
        rcases h3 with h3 | h3
        · omega
        · rw [h3]; have : Nat.log2 0 = 0 := by decide
          omega
      obtain ⟨env', e1, e2, e3⟩ := ih ((f * 47 + z).fmod 1000000007) (.d (.int z)) (Int.fmod_nonneg_of_pos _ (by decide)) (Int.fmod_lt_of_pos _ (by decide))
      have hb : (setS 1 (m2 modD (callM intD (consM (m2 addD (m2 mulD (mVar 1) (retM (.int 47))) (mVar 2)) (retM []))) (retM (.int 1000000007))) : MS Unit) [.d (.lst (cells.map .int)), .d (.int f), .d (.int z)] () = .ok (.nx [.d (.lst (cells.map .int)), .d (.int ((f * 47 + z).fmod 1000000007)), .d (.int z)], ()) := by
        simp only [setS, thenS, m2, callM, consM, bindM, mVar, retM, optM, addD, mulD, modD, intD, if_pos hm, List.set_cons_succ, List.set_cons_zero, List.getElem?_cons_succ, List.getElem?_cons_zero]
        rw [if_pos (by decide)]
      refine ⟨env', ?_, e2, e3⟩
      rw [← e1]
      exact forLoop_nx rfl hb
  obtain ⟨env', e1, e2, e3⟩ := loop cells 0 .no (by decide) (by decide)
  exact ⟨env', e1, e2, e3⟩
end DL
set_option Elab.async false
set_option linter.all false
set_option maxRecDepth 100000
namespace DL
open PySem PySem.Spec PyProof.Rows L2
def clsL (l : List Addr) (n : Nat) : Addr := l.getD n 0
theorem funD_of {K : PySem.W.Frag} {x qual : Str} {st : Stmt} {f : Addr} {fd : FuncData} (F : Fun K x qual st f fd) : FunD K x qual (defArgs st) (defBody st) (defScope st) [] [] f fd := by
  obtain ⟨oc, od, kV, doc, pm, an, cdv, ct, osl, rfl, lk, hcd⟩ := F.ex
  exact ⟨⟨oc, od, .none, kV, doc, pm, an, cdv, ct, osl, rfl, lk, hcd, .inl ⟨rfl, rfl⟩, .inl rfl⟩, F.kp⟩
/-- a tuple of defaults -/
theorem funD_dfl {K : PySem.W.Frag} {x qual : Str} {st : Stmt} {f tD : Addr} {oc kV doc pm cdv ct : Value} {od an odT : Option Addr} {osl slT : Array (Option Value)} {cT : Value} {its : Array Value} {nT : Nat} {dvs : List V}
    (l : K.lookup f = some ⟨oc, od, .func (PySem.W.fnOf x qual (defArgs st) (defBody st) (defScope st) (.ref tD) kV doc pm an cdv ct), osl⟩) (hc : PySem.W.codeIn K cdv qual = true) (hk : PySem.W.keepIn K (.ref f) = true) (lt : K.lookup tD = some ⟨cT, odT, .seq its nT, slT⟩) (hv : Vals dvs its.toList) (hne : dvs ≠ []) :
    FunD K x qual (defArgs st) (defBody st) (defScope st) dvs [] f (PySem.W.fnOf x qual (defArgs st) (defBody st) (defScope st) (.ref tD) kV doc pm an cdv ct) :=
  ⟨⟨oc, od, .ref tD, kV, doc, pm, an, cdv, ct, osl, rfl, l, hc, .inr ⟨hne, tD, _, its.toList, nT, rfl, lt, by simp, hv⟩, .inl rfl⟩, hk⟩
theorem funA_mk {K : PySem.W.Frag} {x qual : Str} {st : Stmt} {f : Addr} {oc : Value} {od an : Option Addr} {osl : Array (Option Value)} {kV doc pm cdv ct : Value} (l : K.lookup f = some ⟨oc, od, .func (PySem.W.fnOf x qual (defArgs st) (defBody st) (defScope st) .none kV doc pm an cdv ct), osl⟩)
    (c : PySem.W.codeIn K cdv qual = true) : FunA K x qual st cdv f (PySem.W.fnOf x qual (defArgs st) (defBody st) (defScope st) .none kV doc pm an cdv ct) := ⟨_, _, _, _, _, _, _, _, rfl, l, c⟩
theorem FunA.fun {K : PySem.W.Frag} {x qual : Str} {st : Stmt} {cd : Value} {f : Addr} {fd : FuncData} (F : FunA K x qual st cd f fd) (k : PySem.W.keepIn K (.ref f) = true) : Fun K x qual st f fd := by
  obtain ⟨oc, od, kV, doc, pm, an, ct, osl, rfl, lk, hcd⟩ := F.ex
  exact ⟨⟨oc, od, kV, doc, pm, an, cd, ct, osl, rfl, lk, hcd⟩, k⟩
end DL
set_option Elab.async false
set_option linter.all false
set_option maxRecDepth 100000
set_option maxHeartbeats 1000000
namespace DL
open PySem PySem.Spec PyProof.Rows L2
theorem eqD_int (i j : Int) : eqD (.int i) (.int j) = some (.bl (i == j)) := by
  unfold eqD eqvD toPy
  dsimp only
  rw [if_pos ⟨by simp [PyData.depth], by simp [PyData.depth]⟩]
  rfl
theorem neD_int (i j : Int) : neD (.int i) (.int j) = some (.bl (!(i == j))) := by
  unfold neD eqvD toPy
  dsimp only
  rw [if_pos ⟨by simp [PyData.depth], by simp [PyData.depth]⟩]
  rfl
theorem mulD_ok {i j : Int} (h : mulOk i j) : mulD (.int i) (.int j) = some (.int (i * j)) := by unfold mulD; exact if_pos h
theorem powD_ok {i j : Int} (h : 0 ≤ j ∧ j ≤ 1000000 ∧ i.natAbs < 2 ^ 64) : powD (.int i) (.int j) = some (.int (i ^ j.toNat)) := by unfold powD; exact if_pos h
theorem modD_ok {i j : Int} (h : j ≠ 0) : modD (.int i) (.int j) = some (.int (i.fmod j)) := by unfold modD; exact if_pos h
theorem fdivD_ok {i j : Int} (h : j ≠ 0) (hl : j.natAbs.log2 < 9000) : fdivD (.int i) (.int j) = some (.int (i.fdiv j)) := by unfold fdivD; exact if_pos ⟨h, hl⟩
theorem seqS_nx {S : Type} {m1 m2 : MS S} {env env' : Env} {s s' : S} (h : m1 env s = .ok (.nx env', s')) : seqS m1 m2 env s = m2 env' s' := by unfold seqS; rw [h]
theorem seqS_rt {S : Type} {m1 m2 : MS S} {env : Env} {d : D} {s s' : S} (h : m1 env s = .ok (.rt d, s')) : seqS m1 m2 env s = .ok (.rt d, s') := by unfold seqS; rw [h]
structure PenOk (n : Nat) (p : Pen) : Prop where
  at0 : 0 ≤ p.at_
  dg : 0 ≤ p.digits
  f0 : 0 ≤ p.fold
  f1 : p.fold < 2147483587
  c0 : 0 ≤ p.count
  c1 : p.count ≤ n
theorem PenOk.mono {n m : Nat} {p : Pen} (h : PenOk n p) (k : n ≤ m) : PenOk m p := ⟨h.at0, h.dg, h.f0, h.f1, h.c0, by have := h.c1; omega⟩
theorem pen0_ok (cells : List Int) : PenOk 0 (pen0 cells) := by
  have h : ∀ (cs : List Int) (f : Int), 0 ≤ f → f < 1000000007 → 0 ≤ cs.foldl (fun f c => (f * 47 + c).fmod 1000000007) f ∧ cs.foldl (fun f c => (f * 47 + c).fmod 1000000007) f < 1000000007 := by
    intro cs
    induction cs with
    | nil => intro f h1 h2; exact ⟨h1, h2⟩
    | cons z cs ih => intro f _ _; exact ih _ (Int.fmod_nonneg_of_pos _ (by decide)) (Int.fmod_lt_of_pos _ (by decide))
  obtain ⟨h1, h2⟩ := h cells 0 (by decide) (by decide)
  exact ⟨by show (0 : Int) ≤ 0; decide, by show (0 : Int) ≤ 0; decide, h1, by show foldOf cells < _; have : foldOf cells < 1000000007 := h2; omega, by show (0 : Int) ≤ 0; decide, by show (0 : Int) ≤ 0; decide⟩
theorem log2_small {i : Int} {k : Nat} (h : i.natAbs < 2 ^ k) (hk : 0 < k) : i.natAbs.log2 < k := by
  by_cases e : i.natAbs = 0
  · rw [e]; have : Nat.log2 0 = 0 := by decide
    omega
  · exact (Nat.log2_lt e).mpr h
def drawM : MS Pen :=
    (seqS (penPut 3 (mVar 0) (m2 addD (penGet 3 (mVar 0)) (retM (.int 1))))
    (seqS (ifS (andT (truM (m2 eqD (penGet 2 (mVar 0)) (retM (.int 0)))) (truM (m2 ltD (penGet 1 (mVar 0)) (callM lenD (consM (penGet 0 (mVar 0)) (retM [])))))) (seqS (setS 2 (m2 ixD (penGet 0 (mVar 0)) (penGet 1 (mVar 0))))
    (seqS (penPut 1 (mVar 0) (m2 addD (penGet 1 (mVar 0)) (retM (.int 1))))
    (ifS (truM (m2 geD (mVar 2) (m2 powD (retM (.int 10)) (retM (.int 18))))) (penPut 2 (mVar 0) (m2 subD (mVar 2) (m2 powD (retM (.int 10)) (retM (.int 18))))) (penPut 4 (mVar 0) (m2 modD (callM intD (consM (m2 addD (m2 mulD (penGet 4 (mVar 0)) (retM (.int 69069))) (mVar 2)) (retM []))) (retM (.int 2147483587))))))) nextS)
    (seqS (ifS (truM (m2 gtD (penGet 2 (mVar 0)) (retM (.int 0)))) (seqS (setS 3 (m2 modD (callM intD (consM (penGet 2 (mVar 0)) (retM []))) (mVar 1)))
    (seqS (penPut 2 (mVar 0) (m2 fdivD (penGet 2 (mVar 0)) (mVar 1)))
    (retS (mVar 3)))) nextS)
    (seqS (setS 4 (m2 addD (m2 addD (penGet 4 (mVar 0)) (m2 mulD (penGet 3 (mVar 0)) (retM (.int 7907)))) (retM (.int 37))))
    (retS (m2 modD (m2 fdivD (callM intD (consM (m2 modD (m2 powD (mVar 4) (retM (.int 17))) (retM (.int 2305843009213693951))) (retM []))) (retM (.int 128))) (mVar 1)))))))
theorem atI_int (cells : List Int) {i : Int} (h0 : 0 ≤ i) (h1 : i < (cells.length : Int)) : ∃ z, atI (cells.map D.int) i = some (.int z) := by
  unfold atI ixN
  rw [List.length_map, if_pos h0, if_pos h1]
  have : i.toNat < cells.length := by omega
  exact ⟨cells[i.toNat], by simp [List.getElem?_map, List.getElem?_eq_getElem this]⟩
/-- a cell is read, where there is need -/
theorem draw_cell {n : Nat} {p : Pen} (h : PenOk n p) (many : Int) (x2 x3 x4 : Slot) : ∃ y2 p', (ifS (andT (truM (m2 eqD (penGet 2 (mVar 0)) (retM (.int 0)))) (truM (m2 ltD (penGet 1 (mVar 0)) (callM lenD (consM (penGet 0 (mVar 0)) (retM [])))))) (seqS (setS 2 (m2 ixD (penGet 0 (mVar 0)) (penGet 1 (mVar 0))))
    (seqS (penPut 1 (mVar 0) (m2 addD (penGet 1 (mVar 0)) (retM (.int 1))))
    (ifS (truM (m2 geD (mVar 2) (m2 powD (retM (.int 10)) (retM (.int 18))))) (penPut 2 (mVar 0) (m2 subD (mVar 2) (m2 powD (retM (.int 10)) (retM (.int 18))))) (penPut 4 (mVar 0) (m2 modD (callM intD (consM (m2 addD (m2 mulD (penGet 4 (mVar 0)) (retM (.int 69069))) (mVar 2)) (retM []))) (retM (.int 2147483587))))))) nextS : MS Pen)
    [.d .st, .d (.int many), x2, x3, x4] p = .ok (.nx [.d .st, .d (.int many), y2, x3, x4], p') ∧ PenOk n p' := by
  by_cases hd : p.digits = 0
  · have e1 : (p.digits == 0) = true := by rw [hd]; rfl
    by_cases ha : p.at_ < (p.cells.length : Int)
    · obtain ⟨z, hz⟩ := atI_int p.cells h.at0 ha
      have e2 : powD (.int 10) (.int 18) = some (.int 1000000000000000000) := by
        exact powD_ok ⟨by decide, by decide, by decide⟩
      by_cases hg : (1000000000000000000 : Int) ≤ z
      · simp only [seqS, setS, retS, exprS, nextS, ifS, thenS, bindM, retM, optM, m1, m2, mVar, consM, callM, truM, andT, orT, notT, andV, orV, notV, ifM, penGet, penPut, parS, asgS, tupM, lstM, partM, addD, subD, ltD, gtD, geD, leD, negD, intD, absD, lenD, truD, isNon, strCD, List.getElem?_cons_succ, List.getElem?_cons_zero, List.set_cons_succ, List.set_cons_zero, if_true, Bool.false_eq_true, if_false, Bool.not_true, Bool.not_false, Pen.get, Pen.put, eqD_int, List.length_map, e1, decide_eq_true ha, ixD, hz, e2, decide_eq_true hg]
        exact ⟨_, _, rfl, by have := h.at0; show (0 : Int) ≤ p.at_ + 1; omega, by show (0 : Int) ≤ z - 1000000000000000000; omega, h.f0, h.f1, h.c0, h.c1⟩
      · have hm : mulOk p.fold 69069 := by
          have h1 := log2_small (i := p.fold) (k := 32) (by have := h.f0; have := h.f1; omega) (by decide)
          have h2 : (69069 : Int).natAbs.log2 ≤ 20 := by decide
          unfold mulOk; omega
        have e3 := mulD_ok hm
        have e4 : ∀ i, modD (.int i) (.int 2147483587) = some (.int (i.fmod 2147483587)) := fun i => modD_ok (by decide)
        simp only [seqS, setS, retS, exprS, nextS, ifS, thenS, bindM, retM, optM, m1, m2, mVar, consM, callM, truM, andT, orT, notT, andV, orV, notV, ifM, penGet, penPut, parS, asgS, tupM, lstM, partM, addD, subD, ltD, gtD, geD, leD, negD, intD, absD, lenD, truD, isNon, strCD, List.getElem?_cons_succ, List.getElem?_cons_zero, List.set_cons_succ, List.set_cons_zero, if_true, Bool.false_eq_true, if_false, Bool.not_true, Bool.not_false, Pen.get, Pen.put, eqD_int, List.length_map, e1, decide_eq_true ha, ixD, hz, e2, decide_eq_false hg, e3, e4]
        exact ⟨_, _, rfl, by have := h.at0; show (0 : Int) ≤ p.at_ + 1; omega, h.dg, Int.fmod_nonneg_of_pos _ (by decide), Int.fmod_lt_of_pos _ (by decide), h.c0, h.c1⟩
    · simp only [seqS, setS, retS, exprS, nextS, ifS, thenS, bindM, retM, optM, m1, m2, mVar, consM, callM, truM, andT, orT, notT, andV, orV, notV, ifM, penGet, penPut, parS, asgS, tupM, lstM, partM, addD, subD, ltD, gtD, geD, leD, negD, intD, absD, lenD, truD, isNon, strCD, List.getElem?_cons_succ, List.getElem?_cons_zero, List.set_cons_succ, List.set_cons_zero, if_true, Bool.false_eq_true, if_false, Bool.not_true, Bool.not_false, Pen.get, Pen.put, eqD_int, List.length_map, e1, decide_eq_false ha]
      exact ⟨_, _, rfl, h⟩
  · have e1 : (p.digits == 0) = false := beq_eq_false_iff_ne.mpr hd
    simp only [seqS, setS, retS, exprS, nextS, ifS, thenS, bindM, retM, optM, m1, m2, mVar, consM, callM, truM, andT, orT, notT, andV, orV, notV, ifM, penGet, penPut, parS, asgS, tupM, lstM, partM, addD, subD, ltD, gtD, geD, leD, negD, intD, absD, lenD, truD, isNon, strCD, List.getElem?_cons_succ, List.getElem?_cons_zero, List.set_cons_succ, List.set_cons_zero, if_true, Bool.false_eq_true, if_false, Bool.not_true, Bool.not_false, Pen.get, Pen.put, eqD_int, e1]
    exact ⟨_, _, rfl, h⟩
theorem draw_ok {n : Nat} {p : Pen} (h : PenOk n p) (hn : n < 1000000000000) {many : Int} (hm : 0 < many) (hl : many.natAbs.log2 < 9000) : ∃ r p', runF 5 drawM [.st, .int many] p = .ok (.int r, p') ∧ 0 ≤ r ∧ r < many ∧ PenOk (n + 1) p' := by
  have h1 : PenOk (n + 1) { p with count := p.count + 1 } := ⟨h.at0, h.dg, h.f0, h.f1, by have := h.c0; show (0 : Int) ≤ p.count + 1; omega, by have := h.c1; show p.count + 1 ≤ ((n + 1 : Nat) : Int); omega⟩
  obtain ⟨y2, p2, e1, h2⟩ := draw_cell h1 many .no .no .no
  have hf : ∀ i, modD (.int i) (.int many) = some (.int (i.fmod many)) := fun i => modD_ok (by omega)
  have hd : ∀ i, fdivD (.int i) (.int many) = some (.int (i.fdiv many)) := fun i => fdivD_ok (by omega) hl
  have first : (penPut 3 (mVar 0) (m2 addD (penGet 3 (mVar 0)) (retM (.int 1))) : MS Pen) [.d .st, .d (.int many), .no, .no, .no] p = .ok (.nx [.d .st, .d (.int many), .no, .no, .no], { p with count := p.count + 1 }) := by
    simp only [seqS, setS, retS, exprS, nextS, ifS, thenS, bindM, retM, optM, m1, m2, mVar, consM, callM, truM, andT, orT, notT, andV, orV, notV, ifM, penGet, penPut, parS, asgS, tupM, lstM, partM, addD, subD, ltD, gtD, geD, leD, negD, intD, absD, lenD, truD, isNon, strCD, List.getElem?_cons_succ, List.getElem?_cons_zero, List.set_cons_succ, List.set_cons_zero, if_true, Bool.false_eq_true, if_false, Bool.not_true, Bool.not_false, Pen.get, Pen.put]
  suffices q : ∃ r p', drawM [.d .st, .d (.int many), .no, .no, .no] p = .ok (.rt (.int r), p') ∧ 0 ≤ r ∧ r < many ∧ PenOk (n + 1) p' by
    obtain ⟨r, p', e, k⟩ := q
    refine ⟨r, p', ?_, k⟩
    unfold runF
    rw [show drawM (([D.st, .int many] : List D).map Slot.d ++ List.replicate (5 - ([D.st, .int many] : List D).length) Slot.no) p = _ from e]
  unfold drawM
  rw [seqS_nx first, seqS_nx e1]
  by_cases hg : 0 < p2.digits
  · simp only [seqS, setS, retS, exprS, nextS, ifS, thenS, bindM, retM, optM, m1, m2, mVar, consM, callM, truM, andT, orT, notT, andV, orV, notV, ifM, penGet, penPut, parS, asgS, tupM, lstM, partM, addD, subD, ltD, gtD, geD, leD, negD, intD, absD, lenD, truD, isNon, strCD, List.getElem?_cons_succ, List.getElem?_cons_zero, List.set_cons_succ, List.set_cons_zero, if_true, Bool.false_eq_true, if_false, Bool.not_true, Bool.not_false, Pen.get, Pen.put, decide_eq_true hg, hf, hd]
    exact ⟨_, _, rfl, Int.fmod_nonneg_of_pos _ hm, Int.fmod_lt_of_pos _ hm, h2.at0, Int.fdiv_nonneg h2.dg (by omega), h2.f0, h2.f1, h2.c0, h2.c1⟩
  · have hmul : mulD (.int p2.count) (.int 7907) = some (.int (p2.count * 7907)) := mulD_ok (by
      have h1 := log2_small (i := p2.count) (k := 64) (by have := h2.c0; have := h2.c1; omega) (by decide)
      have h2 : (7907 : Int).natAbs.log2 ≤ 20 := by decide
      unfold mulOk; omega)
    have hpow : powD (.int (p2.fold + p2.count * 7907 + 37)) (.int 17) = some (.int ((p2.fold + p2.count * 7907 + 37) ^ 17)) := by
      exact powD_ok ⟨by decide, by decide, by have := h2.f0; have := h2.f1; have := h2.c0; have := h2.c1; omega⟩
    have hmod : ∀ i, modD (.int i) (.int 2305843009213693951) = some (.int (i.fmod 2305843009213693951)) := fun i => modD_ok (by decide)
    have hdiv : ∀ i, fdivD (.int i) (.int 128) = some (.int (i.fdiv 128)) := fun i => fdivD_ok (by decide) (by decide)
    simp only [seqS, setS, retS, exprS, nextS, ifS, thenS, bindM, retM, optM, m1, m2, mVar, consM, callM, truM, andT, orT, notT, andV, orV, notV, ifM, penGet, penPut, parS, asgS, tupM, lstM, partM, addD, subD, ltD, gtD, geD, leD, negD, intD, absD, lenD, truD, isNon, strCD, List.getElem?_cons_succ, List.getElem?_cons_zero, List.set_cons_succ, List.set_cons_zero, if_true, Bool.false_eq_true, if_false, Bool.not_true, Bool.not_false, Pen.get, Pen.put, decide_eq_false hg, hf, hmul, hpow, hmod, hdiv]
    exact ⟨_, _, rfl, Int.fmod_nonneg_of_pos _ hm, Int.fmod_lt_of_pos _ hm, h2⟩
end DL
set_option Elab.async false
set_option linter.all false
set_option maxRecDepth 100000
set_option maxHeartbeats 1000000
namespace DL
open PySem PySem.Spec PyProof.Rows L2
def pickM : MS Pen :=
    (retS (m2 ixD (mVar 1) (callF 2 (runF 5 drawM) [] (consM (mVar 0) (consM (callM lenD (consM (mVar 1) (retM []))) (retM []))))))
theorem runF_rt {S : Type} {n : Nat} {mb : MS S} {ds : List D} {env : Env} {s s' : S} {d : D} (he : env = ds.map Slot.d ++ List.replicate (n - ds.length) Slot.no) (h : mb env s = .ok (.rt d, s')) : runF n mb ds s = .ok (d, s') := by
  subst he; unfold runF; rw [h]
theorem runF_exc {S : Type} {n : Nat} {mb : MS S} {ds : List D} {env env' : Env} {s s' : S} {k : Nat} {fs : List D} (he : env = ds.map Slot.d ++ List.replicate (n - ds.length) Slot.no) (h : mb env s = .exc k fs (env', s')) : runF n mb ds s = .exc k fs s' := by
  subst he; unfold runF; rw [h]
theorem whileN_go {S : Type} {t : M S Bool} {mb : MS S} {n : Nat} {env e : Env} {s s1 s2 : S} (h1 : t env s = .ok (true, s1)) (h2 : mb env s1 = .ok (.nx e, s2)) : whileN t mb (n + 1) env s = whileN t mb n e s2 := by
  conv => lhs; unfold whileN
  rw [h1]
  dsimp only
  rw [h2]
theorem whileN_end {S : Type} {t : M S Bool} {mb : MS S} {n : Nat} {env : Env} {s s1 : S} (h1 : t env s = .ok (false, s1)) : whileN t mb (n + 1) env s = .ok (.nx env, s1) := by
  conv => lhs; unfold whileN
  rw [h1]
theorem atI_at {α : Type} {xs : List α} {i : Int} (h0 : 0 ≤ i) (h1 : i < (xs.length : Int)) : ∃ x, atI xs i = some x ∧ x ∈ xs := by
  unfold atI ixN
  rw [if_pos h0, if_pos h1]
  have h : i.toNat < xs.length := by omega
  exact ⟨xs[i.toNat], by simp [List.getElem?_eq_getElem h], List.getElem_mem h⟩
theorem pick_lst {n : Nat} {p : Pen} (h : PenOk n p) (hn : n < 1000000000000) {xs : List D} (h0 : xs ≠ []) (h1 : xs.length < 1000000) : ∃ x p', runF 2 pickM [.st, .lst xs] p = .ok (x, p') ∧ x ∈ xs ∧ PenOk (n + 1) p' := by
  have hp : 0 < xs.length := List.length_pos_iff.mpr h0
  obtain ⟨r, p', e, r0, r1, ok⟩ := draw_ok h hn (many := (xs.length : Int)) (by omega) (by have := log2_small (i := (xs.length : Int)) (k := 30) (by omega) (by decide); omega)
  obtain ⟨x, hx, hm⟩ := atI_at r0 r1
  refine ⟨x, p', ?_, hm, ok⟩
  refine runF_rt (env := [.d .st, .d (.lst xs)]) rfl ?_
  unfold pickM
  simp only [callF, List.append_nil, List.cons_append, List.nil_append, List.length_cons, List.length_nil, Nat.zero_add, Nat.reduceAdd, reduceIte, seqS, setS, retS, exprS, nextS, ifS, thenS, DL.bindM, retM, optM, m1, m2, mVar, consM, callM, truM, andT, orT, notT, andV, orV, notV, ifM, penGet, penPut, parS, asgS, tupM, lstM, partM, addD, subD, ltD, gtD, geD, leD, negD, DL.intD, absD, lenD, truD, isNon, strCD, List.getElem?_cons_succ, List.getElem?_cons_zero, List.set_cons_succ, List.set_cons_zero, if_true, Bool.false_eq_true, if_false, Bool.not_true, Bool.not_false, e, ixD, hx]
theorem pick_str {n : Nat} {p : Pen} (h : PenOk n p) (hn : n < 1000000000000) {y : Str} (h0 : 0 < y.length) (h1 : y.length < 1000000) : ∃ k p', runF 2 pickM [.st, .str y] p = .ok (.str ⟨#[k]⟩, p') ∧ k ∈ y.cps.toList ∧ PenOk (n + 1) p' := by
  obtain ⟨r, p', e, r0, r1, ok⟩ := draw_ok h hn (many := (y.length : Int)) (by omega) (by have := log2_small (i := (y.length : Int)) (k := 30) (by omega) (by decide); omega)
  have hl : y.length ≤ sizeLine := by rw [sizeLine_eq]; omega
  obtain ⟨k, hx, hm⟩ := atI_at (xs := y.cps.toList) r0 (by rw [Array.length_toList]; exact r1)
  refine ⟨k, p', ?_, hm, ok⟩
  refine runF_rt (env := [.d .st, .d (.str y)]) rfl ?_
  unfold pickM
  simp only [callF, List.append_nil, List.cons_append, List.nil_append, List.length_cons, List.length_nil, Nat.zero_add, Nat.reduceAdd, reduceIte, seqS, setS, retS, exprS, nextS, ifS, thenS, DL.bindM, retM, optM, m1, m2, mVar, consM, callM, truM, andT, orT, notT, andV, orV, notV, ifM, penGet, penPut, parS, asgS, tupM, lstM, partM, addD, subD, ltD, gtD, geD, leD, negD, DL.intD, absD, lenD, truD, isNon, strCD, List.getElem?_cons_succ, List.getElem?_cons_zero, List.set_cons_succ, List.set_cons_zero, if_true, Bool.false_eq_true, if_false, Bool.not_true, Bool.not_false, if_pos hl, e, ixD, hx, Option.map_some]
end DL
set_option Elab.async false
set_option linter.all false
set_option maxRecDepth 100000
set_option maxHeartbeats 1000000
namespace DL
open PySem PySem.Spec PyProof.Rows L2
theorem eqD_str {x y : Str} (hx : PyData.strOk x = true) (hy : PyData.strOk y = true) : eqD (.str x) (.str y) = some (.bl (x == y)) := by
  unfold eqD eqvD toPy
  rw [if_pos hx, if_pos hy]
  dsimp only
  rw [if_pos ⟨by simp [PyData.depth], by simp [PyData.depth]⟩]
  rfl
theorem neD_str {x y : Str} (hx : PyData.strOk x = true) (hy : PyData.strOk y = true) : neD (.str x) (.str y) = some (.bl (!(x == y))) := by
  unfold neD eqvD toPy
  rw [if_pos hx, if_pos hy]
  dsimp only
  rw [if_pos ⟨by simp [PyData.depth], by simp [PyData.depth]⟩]
  rfl
theorem eqD_pair (a b c d : Int) : eqD (.tup [.int a, .int b]) (.tup [.int c, .int d]) = some (.bl ((a == c) && (b == d))) := by
  unfold eqD eqvD
  simp only [toPy, toPys, Option.map_some]
  rw [if_pos ⟨by simp [PyData.depth, PyData.depthAll], by simp [PyData.depth, PyData.depthAll]⟩]
  simp only [PyData.eqv, PyData.eqvAll, Bool.and_true, Option.map_some]
/-- a text whose signs are signs -/
structure Txt0 (n : Nat) (x : Str) : Prop where
  ok : PyData.strOk x = true
  len : x.length ≤ n
theorem ok_iff {x : Str} : PyData.strOk x = true ↔ ∀ k ∈ x.cps.toList, k < 0x110000 := by
  unfold PyData.strOk
  rw [← Array.all_toList, List.all_eq_true]
  exact ⟨fun h k hk => of_decide_eq_true (h k hk), fun h k hk => decide_eq_true (h k hk)⟩
theorem Txt0.cut {n : Nat} {x : Str} (h : Txt0 n x) (lo hi : Option Int) : Txt0 n (cutS x lo hi) := by
  refine ⟨ok_iff.mpr fun k hk => ok_iff.mp h.ok k ?_, Nat.le_trans (cutS_length x lo hi) h.len⟩
  exact List.mem_of_mem_drop (List.mem_of_mem_take hk)
theorem Txt0.mono {n m : Nat} {x : Str} (h : Txt0 n x) (k : n ≤ m) : Txt0 m x := ⟨h.ok, Nat.le_trans h.len k⟩
theorem Txt0.cat {n m : Nat} {x y : Str} (h : Txt0 n x) (g : Txt0 m y) : Txt0 (n + m) (x ++ y) := by
  refine ⟨ok_iff.mpr fun k hk => ?_, ?_⟩
  · rw [show (x ++ y).cps.toList = x.cps.toList ++ y.cps.toList from TL.tl_append x y] at hk
    rcases List.mem_append.mp hk with hk | hk
    · exact ok_iff.mp h.ok k hk
    · exact ok_iff.mp g.ok k hk
  · have e : (x ++ y).cps.toList.length = x.cps.toList.length + y.cps.toList.length := by
      rw [show (x ++ y).cps.toList = x.cps.toList ++ y.cps.toList from TL.tl_append x y, List.length_append]
    rw [Array.length_toList, Array.length_toList, Array.length_toList] at e
    show (x ++ y).cps.size ≤ _
    rw [e]; exact Nat.add_le_add h.len g.len
theorem str_eq {x y : Str} (h : x.cps.toList = y.cps.toList) : x = y := TL.ext_tl h
theorem cut_to {x : Str} {i : Nat} (h : i ≤ x.length) : cutS x none (some (i : Int)) = Builtin.Str.strSub x 0 i := by
  refine str_eq ?_
  show (x.cps.toList.drop 0).take (HT.sIx x.length x.length (some (i : Int)) - 0) = (x.cps.extract 0 i).toList
  rw [HT.sIx_nat, Array.toList_extract, List.extract_eq_take_drop, Nat.min_eq_left h]
theorem cut_from {x : Str} {i : Nat} (h : i ≤ x.length) : cutS x (some (i : Int)) none = Builtin.Str.strSub x i x.length := by
  refine str_eq ?_
  show (x.cps.toList.drop (HT.sIx x.length 0 (some (i : Int)))).take (x.length - HT.sIx x.length 0 (some (i : Int))) = (x.cps.extract i x.length).toList
  rw [HT.sIx_nat, Array.toList_extract, List.extract_eq_take_drop, Nat.min_eq_left h]
theorem cut_all {x : Str} : cutS x none (some (x.length : Int)) = x := by
  refine str_eq ?_
  show (x.cps.toList.drop 0).take (HT.sIx x.length x.length (some (x.length : Int)) - 0) = x.cps.toList
  rw [HT.sIx_nat, Nat.min_self, List.drop_zero, Nat.sub_zero]
  exact List.take_of_length_le (by rw [Array.length_toList]; exact Nat.le_refl _)
theorem part_no {x : Str} {c : Nat} (h : c ∉ x.cps.toList) : Txt.partition x ⟨#[c]⟩ = (x, Str.empty, Str.empty) ∧ Builtin.Str.occurrences x ⟨#[c]⟩ 0 x.length 1 = [] := by
  have e : Builtin.Str.occurrences x ⟨#[c]⟩ 0 x.length 1 = [] := by
    have := StrLaws.found_one x c
    rw [decide_eq_false h] at this
    simpa using this
  exact ⟨by unfold Txt.partition; rw [e], e⟩
theorem part_at {x : Str} {c : Nat} (h : c ∈ x.cps.toList) : ∃ i, i < x.length ∧ Txt.index0 x ⟨#[c]⟩ = some i ∧
    Txt.partition x ⟨#[c]⟩ = (cutS x none (some (i : Int)), ⟨#[c]⟩, cutS x (some ((i : Int) + 1)) none) := by
  cases e : Builtin.Str.occurrences x ⟨#[c]⟩ 0 x.length 1 with
  | nil =>
    have := StrLaws.found_one x c
    rw [decide_eq_true h, e] at this
    cases this
  | cons i r =>
    obtain ⟨f, hf⟩ := StrLaws.occ_chain x ⟨#[c]⟩ 1
    rw [e] at hf
    have hi : i + 1 ≤ x.length := hf.2.1.1
    refine ⟨i, hi, by unfold Txt.index0; rw [e]; rfl, ?_⟩
    unfold Txt.partition
    rw [e]
    dsimp only
    rw [cut_to (by omega), show ((i : Int) + 1) = ((i + 1 : Nat) : Int) by omega, cut_from hi]
    rfl
/-- text[:1] == '-' and text.startswith('-') -/
theorem head_cut (x : Str) (c : Nat) : (cutS x none (some 1) == (⟨#[c]⟩ : Str)) = decide (x.cps.toList.head? = some c) := by
  rw [Bool.eq_iff_iff, beq_iff_eq, decide_eq_true_eq]
  have e : (cutS x none (some 1)).cps.toList = x.cps.toList.take 1 := by
    show (x.cps.toList.drop 0).take (HT.sIx x.length x.length (some ((1 : Nat) : Int)) - 0) = _
    rw [HT.sIx_nat, List.drop_zero, Nat.sub_zero]
    have : x.length = x.cps.toList.length := Array.length_toList.symm
    rw [this]
    cases x.cps.toList with
    | nil => rfl
    | cons a l => simp
  constructor
  · intro h
    rw [h] at e
    cases z : x.cps.toList with
    | nil => rw [z] at e; simp at e
    | cons a l => rw [z] at e; simp at e; simp [e]
  · intro h
    refine str_eq ?_
    rw [e]
    cases z : x.cps.toList with
    | nil => rw [z] at h; cases h
    | cons a l => rw [z] at h; simp at h; simp [h]
theorem head_starts (x : Str) (c : Nat) : Txt.startswith x ⟨#[c]⟩ = decide (x.cps.toList.head? = some c) := by
  unfold Txt.startswith
  have hl : x.length = x.cps.toList.length := Array.length_toList.symm
  have l1 : (⟨#[c]⟩ : Str).length = 1 := rfl
  rw [l1, hl]
  unfold Builtin.Str.subAt
  rw [l1]
  rw [Bool.eq_iff_iff, decide_eq_true_eq, Bool.and_eq_true, decide_eq_true_eq, beq_iff_eq]
  have e : (x.cps.extract 0 (0 + 1)).toList = x.cps.toList.take 1 := by rw [Array.toList_extract, List.extract_eq_take_drop, List.drop_zero]
  constructor
  · intro ⟨h1, h2⟩
    rw [h2] at e
    cases z : x.cps.toList with
    | nil => rw [z] at h1; simp at h1
    | cons a l => rw [z] at e; simp at e; simp [e]
  · intro h
    cases z : x.cps.toList with
    | nil => rw [z] at h; cases h
    | cons a l =>
      rw [z] at h e; simp at h
      refine ⟨by simp, Array.toList_inj.mp ?_⟩
      rw [e]; simp [h]
theorem lc_pass {S : Type} {tg : Tg} {t : M S Bool} {m : M S D} {d x : D} {r acc : List D} {env e1 : Env} {s s1 s2 : S} (h : assignT tg d env = some e1) (ht : t e1 s = .ok (true, s1)) (hl : acc.length < 1000000) (hm : m e1 s1 = .ok (x, s2)) :
    lcLoop tg t m (d :: r) acc env s = lcLoop tg t m r (acc ++ [x]) env s2 := by
  conv => lhs; unfold lcLoop
  rw [h]; dsimp only
  rw [ht]; dsimp only
  rw [if_pos hl, hm]
theorem lc_skip {S : Type} {tg : Tg} {t : M S Bool} {m : M S D} {d : D} {r acc : List D} {env e1 : Env} {s s1 : S} (h : assignT tg d env = some e1) (ht : t e1 s = .ok (false, s1)) :
    lcLoop tg t m (d :: r) acc env s = lcLoop tg t m r acc env s1 := by
  conv => lhs; unfold lcLoop
  rw [h]; dsimp only
  rw [ht]
/-- a comprehension over signs: which fail, which pass -/
theorem not_in {F : Str} {x : D} (k : Nat) (s : Pen) : (m2 notInD (mVar 1) (retM (.str F)) : M Pen D) [.d x, .d (.str ⟨#[k]⟩)] s = .ok (.bl (!(decide (k ∈ F.cps.toList))), s) := by
  simp only [callF, List.append_nil, List.cons_append, List.nil_append, List.length_cons, List.length_nil, Nat.zero_add, Nat.reduceAdd, reduceIte, seqS, setS, retS, exprS, nextS, ifS, thenS, DL.bindM, retM, optM, m1, m2, mVar, consM, callM, truM, andT, orT, notT, andV, orV, notV, ifM, penGet, penPut, parS, asgS, tupM, lstM, partM, addD, subD, ltD, gtD, geD, leD, negD, DL.intD, absD, lenD, truD, isNon, strCD, List.getElem?_cons_succ, List.getElem?_cons_zero, List.set_cons_succ, List.set_cons_zero, if_true, Bool.false_eq_true, if_false, Bool.not_true, Bool.not_false, notInD, inD]
theorem signs_any {F : Str} {x : D} : ∀ (ks : List Nat) (acc : List D) (s : Pen), acc.length + ks.length < 1000000 →
    lcLoop (.nm 1) yesM (m2 notInD (mVar 1) (retM (.str F))) (ks.map fun k => D.str ⟨#[k]⟩) acc [.d x, .no] s = .ok (acc ++ ks.map (fun k => D.bl (!(decide (k ∈ F.cps.toList)))), s)
  | [], acc, s, _ => by rw [List.map_nil, List.map_nil, List.append_nil]; rfl
  | k :: ks, acc, s, h => by
    rw [List.map_cons, lc_pass (e1 := [.d x, .d (.str ⟨#[k]⟩)]) rfl rfl (by simp at h; omega) (not_in k s), signs_any ks _ s (by simp at h ⊢; omega)]
    simp
theorem signs_not {F : Str} {x : D} : ∀ (ks : List Nat) (acc : List D) (s : Pen), acc.length + ks.length < 1000000 →
    lcLoop (.nm 1) (truM (m2 notInD (mVar 1) (retM (.str F)))) (retM (.int 1)) (ks.map fun k => D.str ⟨#[k]⟩) acc [.d x, .no] s = .ok (acc ++ (ks.filter fun k => !(decide (k ∈ F.cps.toList))).map (fun _ => D.int 1), s)
  | [], acc, s, _ => by rw [List.map_nil, List.filter_nil, List.map_nil, List.append_nil]; rfl
  | k :: ks, acc, s, h => by
    have ht : (truM (m2 notInD (mVar 1) (retM (.str F))) : M Pen Bool) [.d x, .d (.str ⟨#[k]⟩)] s = .ok (!(decide (k ∈ F.cps.toList)), s) := by
      unfold truM DL.bindM
      rw [not_in]
      rfl
    by_cases hk : k ∈ F.cps.toList
    · rw [decide_eq_true hk] at ht
      rw [List.map_cons, lc_skip (e1 := [.d x, .d (.str ⟨#[k]⟩)]) rfl ht, signs_not ks _ s (by simp at h ⊢; omega), List.filter_cons_of_neg (by simp [hk])]
    · rw [decide_eq_false hk] at ht
      rw [List.map_cons, lc_pass (e1 := [.d x, .d (.str ⟨#[k]⟩)]) rfl ht (by simp at h; omega) rfl, signs_not ks _ s (by simp at h ⊢; omega), List.filter_cons_of_pos (by simp [hk])]
      simp
theorem bls_map {α : Type} (f : α → Bool) : ∀ l : List α, blsD (l.map fun k => D.bl (f k)) = some (l.map f)
  | [] => rfl
  | a :: l => by rw [List.map_cons, blsD, bls_map f l]; rfl
end DL
set_option Elab.async false
set_option linter.all false
set_option maxRecDepth 100000
set_option maxHeartbeats 4000000
namespace K05
open PySem PySem.Spec PyProof.Rows L2 DL
abbrev PW : Program := PySem.Challenge.pw_leverheaps_k05_whole_number_texts
def top (i : Nat) : Stmt := PW.main.body.getD i (.Pass ⟨0, 0, 0, 0⟩)
def cst (i j : Nat) : Stmt := (clsBody (top i)).getD j (.Pass ⟨0, 0, 0, 0⟩)
def flds : Nat → List Str
  | 0 => []
  | 1 => ["what", "value"]
  | 2 => ["value"]
  | 3 => ["value"]
  | 4 => ["index"]
  | 5 => ["index"]
  | 6 => ["top", "bottom", "sign", "whole"]
  | _ => []
abbrev dcL (K : PySem.W.Frag) (cls : Nat → Addr) (T : List (Addr × Str)) : Option Addr → DC := mkDC K cls flds T
/-- the code objects of the defs that make lambdas, and their tables -/
structure Cs where
  _law_read_right : Addr
  law : Addr
structure TBs (base : Heap) (mg : Str → Option Value) (ca pa : Cs) : Prop where
  t__law_read_right : LamX.TabB base mg ca._law_read_right pa._law_read_right
  t_law : LamX.TabB base mg ca.law pa.law
def tabs (pa : Cs) : List (Addr × Str) := [(pa._law_read_right, lamQ "_law_read_right"), (pa.law, lamQ "law")]
theorem mem__law_read_right {pa : Cs} : (pa._law_read_right, lamQ "_law_read_right") ∈ tabs pa := List.Mem.head _
theorem mem_law {pa : Cs} : (pa.law, lamQ "law") ∈ tabs pa := List.Mem.tail _ (List.Mem.head _)
structure Fx (K : PySem.W.Frag) (mg : Str → Option Value) (cls : Nat → Addr) (ca pa : Cs) : Prop where
  ndT : ((tabs pa).map (·.1)).Nodup
  n_abs : mg "abs" = none
  n_any : mg "any" = none
  n_bool : mg "bool" = none
  n_gcd : mg "gcd" = some (.builtin "math.gcd")
  n_int : mg "int" = none
  n_isinstance : mg "isinstance" = none
  n_len : mg "len" = none
  n_list : mg "list" = none
  n_range : mg "range" = none
  n_repr : mg "repr" = none
  n_str : mg "str" = none
  c_FIGURES : ∃ t, mg "FIGURES" = some (.str "0123456789" t)
  g_LeverError : mg "LeverError" = some (.ref (cls 0))
  g_BadNumber : mg "BadNumber" = some (.ref (cls 1))
  g_BadRow : mg "BadRow" = some (.ref (cls 2))
  g_BadItem : mg "BadItem" = some (.ref (cls 3))
  g_BadText : mg "BadText" = some (.ref (cls 4))
  g_NoRoot : mg "NoRoot" = some (.ref (cls 5))
  x_BadNumber : ExcT PW K (cls 1) (flds 1)
  x_BadRow : ExcT PW K (cls 2) (flds 2)
  x_BadItem : ExcT PW K (cls 3) (flds 3)
  x_BadText : ExcT PW K (cls 4) (flds 4)
  x_NoRoot : ExcT PW K (cls 5) (flds 5)
  g_Ratio : mg "Ratio" = some (.ref (cls 6))
  k_Ratio : ∀ {so : Option Addr}, ClsD (dcL K cls (tabs pa) so) 6
  kb_bool : KTb K cls (.type "bool") [(6, false)]
  kb_int : KTb K cls (.type "int") [(6, false)]
  kb_str : KTb K cls (.type "str") [(6, false)]
  kt_Ratio : KTab K (.ref (cls 6)) false false false false false false
  kb_Ratio : KTb K cls (.ref (cls 6)) [(6, true)]
  e__law_error_of_0 : ExL K cls (.ref (cls 1)) [(1, true), (3, false), (4, false)]
  e__law_error_of_1 : ExL K cls (.ref (cls 2)) [(3, false), (4, false)]
  e__law_error_of_2 : ExL K cls (.ref (cls 3)) [(3, true), (4, false)]
  e__law_error_of_3 : ExL K cls (.ref (cls 4)) [(4, true)]
  e__law_error_of_4 : ExL K cls (.ref (cls 5)) []
  e__law_error_of_5 : ExL K cls (.ref (cls 0)) []
  d__law_gcd : ∃ f fd, mg "_law_gcd" = some (.ref f) ∧ PySem.W.keepIn K (.ref f) = true ∧ FunD K "_law_gcd" "_law_gcd" (defArgs (top 26)) (defBody (top 26)) (defScope (top 26)) [] [] f fd ∧ Binds K fd ["a", "b"] []
  d__law_frac : ∃ f fd, mg "_law_frac" = some (.ref f) ∧ PySem.W.keepIn K (.ref f) = true ∧ FunD K "_law_frac" "_law_frac" (defArgs (top 29)) (defBody (top 29)) (defScope (top 29)) [] [] f fd ∧ Binds K fd ["top", "bottom"] []
  d__law_draw : ∃ f fd, mg "_law_draw" = some (.ref f) ∧ PySem.W.keepIn K (.ref f) = true ∧ FunD K "_law_draw" "_law_draw" (defArgs (top 24)) (defBody (top 24)) (defScope (top 24)) [] [] f fd ∧ Binds K fd ["pen", "many"] []
  d__law_pick : ∃ f fd, mg "_law_pick" = some (.ref f) ∧ PySem.W.keepIn K (.ref f) = true ∧ FunD K "_law_pick" "_law_pick" (defArgs (top 25)) (defBody (top 25)) (defScope (top 25)) [] [] f fd ∧ Binds K fd ["pen", "some"] []
  d__law_int : ∃ f fd, mg "_law_int" = some (.ref f) ∧ PySem.W.keepIn K (.ref f) = true ∧ FunD K "_law_int" "_law_int" (defArgs (top 27)) (defBody (top 27)) (defScope (top 27)) [] [] f fd ∧ Binds K fd ["pen"] []
  d_is_integer : ∃ f fd, mg "is_integer" = some (.ref f) ∧ PySem.W.keepIn K (.ref f) = true ∧ FunD K "is_integer" "is_integer" (defArgs (top 10)) (defBody (top 10)) (defScope (top 10)) [] [] f fd ∧ Binds K fd ["value"] []
  d_is_number : ∃ f fd, mg "is_number" = some (.ref f) ∧ PySem.W.keepIn K (.ref f) = true ∧ FunD K "is_number" "is_number" (defArgs (top 13)) (defBody (top 13)) (defScope (top 13)) [] [] f fd ∧ Binds K fd ["value"] []
  d_Ratio___init___1 : ∃ f fd, Mk K (cls 6) f ∧ FunD K "__init__" "Ratio.__init__" (defArgs (cst 12 0)) (defBody (cst 12 0)) (defScope (cst 12 0)) [.int 1] [] f fd ∧ ∃ ds, Vals [.int 1] ds ∧ Binds K fd ["self", "top", "bottom"] ds
  d_Ratio___init___2 : ∃ f fd, Mk K (cls 6) f ∧ FunD K "__init__" "Ratio.__init__" (defArgs (cst 12 0)) (defBody (cst 12 0)) (defScope (cst 12 0)) [.int 1] [] f fd ∧ ∃ ds, Vals [] ds ∧ Binds K fd ["self", "top", "bottom"] ds
  d_plain_ratio : ∃ f fd, mg "plain_ratio" = some (.ref f) ∧ PySem.W.keepIn K (.ref f) = true ∧ FunD K "plain_ratio" "plain_ratio" (defArgs (top 14)) (defBody (top 14)) (defScope (top 14)) [] [] f fd ∧ Binds K fd ["value"] []
  d_ratio_of : ∃ f fd, mg "ratio_of" = some (.ref f) ∧ PySem.W.keepIn K (.ref f) = true ∧ FunD K "ratio_of" "ratio_of" (defArgs (top 15)) (defBody (top 15)) (defScope (top 15)) [] [] f fd ∧ Binds K fd ["number"] []
  d_Ratio___str__ : ∃ f fd, Meth K (cls 6) "__str__" f ∧ FunD K "__str__" "Ratio.__str__" (defArgs (cst 12 2)) (defBody (cst 12 2)) (defScope (cst 12 2)) [] [] f fd ∧ Binds K fd ["self"] []
  d_number_text : ∃ f fd, mg "number_text" = some (.ref f) ∧ PySem.W.keepIn K (.ref f) = true ∧ FunD K "number_text" "number_text" (defArgs (top 20)) (defBody (top 20)) (defScope (top 20)) [] [] f fd ∧ Binds K fd ["number"] []
  d__law_given : ∃ f fd, mg "_law_given" = some (.ref f) ∧ PySem.W.keepIn K (.ref f) = true ∧ FunD K "_law_given" "_law_given" (defArgs (top 30)) (defBody (top 30)) (defScope (top 30)) [] [] f fd ∧ Binds K fd ["pen", "one"] []
  d__law_bent : ∃ f fd, mg "_law_bent" = some (.ref f) ∧ PySem.W.keepIn K (.ref f) = true ∧ FunD K "_law_bent" "_law_bent" (defArgs (top 37)) (defBody (top 37)) (defScope (top 37)) [] [] f fd ∧ Binds K fd ["pen", "text"] []
  d__law_count : ∃ f fd, mg "_law_count" = some (.ref f) ∧ PySem.W.keepIn K (.ref f) = true ∧ FunD K "_law_count" "_law_count" (defArgs (top 34)) (defBody (top 34)) (defScope (top 34)) [] [] f fd ∧ Binds K fd ["word"] []
  d__law_read : ∃ f fd, mg "_law_read" = some (.ref f) ∧ PySem.W.keepIn K (.ref f) = true ∧ FunD K "_law_read" "_law_read" (defArgs (top 35)) (defBody (top 35)) (defScope (top 35)) [] [] f fd ∧ Binds K fd ["text"] []
  d__law_error_of : ∃ f fd, mg "_law_error_of" = some (.ref f) ∧ PySem.W.keepIn K (.ref f) = true ∧ Fun K "_law_error_of" "_law_error_of" (top 33) f fd ∧ Binds K fd ["call"] []
  d_count_of : ∃ f fd, mg "count_of" = some (.ref f) ∧ PySem.W.keepIn K (.ref f) = true ∧ FunD K "count_of" "count_of" (defArgs (top 18)) (defBody (top 18)) (defScope (top 18)) [] [] f fd ∧ Binds K fd ["word"] []
  d_size_of : ∃ f fd, mg "size_of" = some (.ref f) ∧ PySem.W.keepIn K (.ref f) = true ∧ FunD K "size_of" "size_of" (defArgs (top 19)) (defBody (top 19)) (defScope (top 19)) [] [] f fd ∧ Binds K fd ["word"] []
  d_Ratio___neg__ : ∃ f fd, Meth K (cls 6) "__neg__" f ∧ FunD K "__neg__" "Ratio.__neg__" (defArgs (cst 12 3)) (defBody (cst 12 3)) (defScope (cst 12 3)) [] [] f fd ∧ Binds K fd ["self"] []
  d_read_number : ∃ f fd, mg "read_number" = some (.ref f) ∧ PySem.W.keepIn K (.ref f) = true ∧ FunD K "read_number" "read_number" (defArgs (top 21)) (defBody (top 21)) (defScope (top 21)) [] [] f fd ∧ Binds K fd ["text"] []
  d__law_is_number : ∃ f fd, mg "_law_is_number" = some (.ref f) ∧ PySem.W.keepIn K (.ref f) = true ∧ FunD K "_law_is_number" "_law_is_number" (defArgs (top 28)) (defBody (top 28)) (defScope (top 28)) [] [] f fd ∧ Binds K fd ["value"] []
  d__law_is_ratio : ∃ f fd, mg "_law_is_ratio" = some (.ref f) ∧ PySem.W.keepIn K (.ref f) = true ∧ FunD K "_law_is_ratio" "_law_is_ratio" (defArgs (top 31)) (defBody (top 31)) (defScope (top 31)) [] [] f fd ∧ Binds K fd ["value", "due"] []
  d__law_read_right : ∃ f fd, mg "_law_read_right" = some (.ref f) ∧ PySem.W.keepIn K (.ref f) = true ∧ FunA K "_law_read_right" "_law_read_right" (top 36) (.ref ca._law_read_right) f fd ∧ Binds K fd ["text"] []
  d__law_no_number : ∃ f fd, mg "_law_no_number" = some (.ref f) ∧ PySem.W.keepIn K (.ref f) = true ∧ FunD K "_law_no_number" "_law_no_number" (defArgs (top 32)) (defBody (top 32)) (defScope (top 32)) [] [] f fd ∧ Binds K fd ["pen"] []
  d__law_pen : ∃ f fd, mg "_law_pen" = some (.ref f) ∧ PySem.W.keepIn K (.ref f) = true ∧ Fun K "_law_pen" "_law_pen" (top 23) f fd ∧ Binds K fd ["script"] []
section
variable {w : World} {K : PySem.W.Frag} {mg : Str → Option Value} {base : Heap} {cls : Nat → Addr} {ca pa : Cs}
abbrev st__law_gcd : Stmt := (top 26)
theorem sc__law_gcd : FnScope ["a", "b"] ["a", "b"] (defScope st__law_gcd) := ⟨rfl, rfl, rfl, by decide +kernel, rfl, by decide +kernel, by decide +kernel⟩
def fuel__law_gcd : DL.Env → Nat := fun env => match env[1]? with | some (Slot.d (D.int b)) => b.natAbs + 1 | _ => 0
def m__law_gcd : MS Pen :=
    (seqS (parS 0 1 (consM (callM absD (consM (mVar 0) (retM []))) (consM (callM absD (consM (mVar 1) (retM []))) (retM []))))
    (seqS (whileS fuel__law_gcd (truM (m2 neD (mVar 1) (retM (.int 0)))) (parS 0 1 (consM (mVar 1) (consM (m2 modD (callM intD (consM (mVar 0) (retM []))) (mVar 1)) (retM [])))))
    (retS (mVar 0))))
def f__law_gcd : List D → Pen → R (D × Pen) Pen := runF 2 m__law_gcd
theorem p__law_gcd (Fx : Fx K mg cls ca pa) (TB : TBs base mg ca pa) : GF PW w K mg base (dcL K cls (tabs pa)) 1 "_law_gcd" [] (spD (dcL K cls (tabs pa)) (penJ K) 2 f__law_gcd) := by
  obtain ⟨f, fd, hm, kp, Fu, hb⟩ := Fx.d__law_gcd
  exact ⟨f, fd, _, [], [], fnD_of Fu sc__law_gcd (fun _ => rfl) rfl (fun {cd A outer s H E so B} o => by
    unfold m__law_gcd
    exact (ss_cons (s_par (i := 0) (j := 1) o.cm sc__law_gcd.nd (a_cons (d_abs Fx.n_abs (d_var 0)) (a_cons (d_abs Fx.n_abs (d_var 1)) a_nil)))
    (ss_cons (s_while (fuel := fuel__law_gcd) o.ps (t_ne o.hk o.hu (d_var 1) d_int) (ss_one (s_par (i := 0) (j := 1) o.cm sc__law_gcd.nd (a_cons (d_var 1) (a_cons (d_mod (d_intC Fx.n_int (d_var 0)) (d_var 1)) a_nil)))))
    (ss_one (s_ret (d_var 0)))))), hm, kp, hb, .nil, fun _ _ => rfl⟩
abbrev st__law_frac : Stmt := (top 29)
theorem sc__law_frac : FnScope ["top", "bottom", "both"] ["top", "bottom"] (defScope st__law_frac) := ⟨rfl, rfl, rfl, by decide +kernel, rfl, by decide +kernel, by decide +kernel⟩
def m__law_frac : MS Pen :=
    (seqS (setS 2 (callF 2 f__law_gcd [] (consM (callM absD (consM (mVar 0) (retM []))) (consM (callM absD (consM (mVar 1) (retM []))) (retM [])))))
    (seqS (setS 2 (ifM (truM (m2 gtD (mVar 1) (retM (.int 0)))) (mVar 2) (m1 negD (mVar 2))))
    (retS (tupM (consM (m2 fdivD (mVar 0) (mVar 2)) (consM (m2 fdivD (mVar 1) (mVar 2)) (retM [])))))))
def f__law_frac : List D → Pen → R (D × Pen) Pen := runF 3 m__law_frac
theorem p__law_frac (Fx : Fx K mg cls ca pa) (TB : TBs base mg ca pa) : GF PW w K mg base (dcL K cls (tabs pa)) 2 "_law_frac" [] (spD (dcL K cls (tabs pa)) (penJ K) 2 f__law_frac) := by
  obtain ⟨f, fd, hm, kp, Fu, hb⟩ := Fx.d__law_frac
  exact ⟨f, fd, _, [], [], fnD_of Fu sc__law_frac (fun _ => rfl) rfl (fun {cd A outer s H E so B} o => by
    unfold m__law_frac
    exact (ss_cons (s_set (i := 2) sc__law_frac.nd (d_call (p__law_gcd Fx TB) o (a_cons (d_abs Fx.n_abs (d_var 0)) (a_cons (d_abs Fx.n_abs (d_var 1)) a_nil))))
    (ss_cons (s_set (i := 2) sc__law_frac.nd (d_ifE (t_gt (d_var 1) d_int) (d_var 2) (d_neg (d_var 2))))
    (ss_one (s_ret (d_tup (a_cons (d_fdiv (d_var 0) (d_var 2)) (a_cons (d_fdiv (d_var 1) (d_var 2)) a_nil)))))))), hm, kp, hb, .nil, fun _ _ => rfl⟩
abbrev st__law_draw : Stmt := (top 24)
theorem sc__law_draw : FnScope ["pen", "many", "cell", "digit", "mixed"] ["pen", "many"] (defScope st__law_draw) := ⟨rfl, rfl, rfl, by decide +kernel, rfl, by decide +kernel, by decide +kernel⟩
def m__law_draw : MS Pen :=
    (seqS (penPut 3 (mVar 0) (m2 addD (penGet 3 (mVar 0)) (retM (.int 1))))
    (seqS (ifS (andT (truM (m2 eqD (penGet 2 (mVar 0)) (retM (.int 0)))) (truM (m2 ltD (penGet 1 (mVar 0)) (callM lenD (consM (penGet 0 (mVar 0)) (retM [])))))) (seqS (setS 2 (m2 ixD (penGet 0 (mVar 0)) (penGet 1 (mVar 0))))
    (seqS (penPut 1 (mVar 0) (m2 addD (penGet 1 (mVar 0)) (retM (.int 1))))
    (ifS (truM (m2 geD (mVar 2) (m2 powD (retM (.int 10)) (retM (.int 18))))) (penPut 2 (mVar 0) (m2 subD (mVar 2) (m2 powD (retM (.int 10)) (retM (.int 18))))) (penPut 4 (mVar 0) (m2 modD (callM intD (consM (m2 addD (m2 mulD (penGet 4 (mVar 0)) (retM (.int 69069))) (mVar 2)) (retM []))) (retM (.int 2147483587))))))) nextS)
    (seqS (ifS (truM (m2 gtD (penGet 2 (mVar 0)) (retM (.int 0)))) (seqS (setS 3 (m2 modD (callM intD (consM (penGet 2 (mVar 0)) (retM []))) (mVar 1)))
    (seqS (penPut 2 (mVar 0) (m2 fdivD (penGet 2 (mVar 0)) (mVar 1)))
    (retS (mVar 3)))) nextS)
    (seqS (setS 4 (m2 addD (m2 addD (penGet 4 (mVar 0)) (m2 mulD (penGet 3 (mVar 0)) (retM (.int 7907)))) (retM (.int 37))))
    (retS (m2 modD (m2 fdivD (callM intD (consM (m2 modD (m2 powD (mVar 4) (retM (.int 17))) (retM (.int 2305843009213693951))) (retM []))) (retM (.int 128))) (mVar 1)))))))
def f__law_draw : List D → Pen → R (D × Pen) Pen := runF 5 m__law_draw
theorem p__law_draw (Fx : Fx K mg cls ca pa) (TB : TBs base mg ca pa) : GF PW w K mg base (dcL K cls (tabs pa)) 1 "_law_draw" [] (spD (dcL K cls (tabs pa)) (penJ K) 2 f__law_draw) := by
  obtain ⟨f, fd, hm, kp, Fu, hb⟩ := Fx.d__law_draw
  exact ⟨f, fd, _, [], [], fnD_of Fu sc__law_draw (fun _ => rfl) rfl (fun {cd A outer s H E so B} o => by
    unfold m__law_draw
    exact (ss_cons (s_pput (i := 3) rfl o.hu (d_var 0) (d_add (d_pget (i := 3) rfl o.hu (d_var 0)) d_int))
    (ss_cons (s_if (L2.PW.pt (t_and (t_eq o.hk o.hu (d_pget (i := 2) rfl o.hu (d_var 0)) d_int) (t_and1 (t_lt (d_pget (i := 1) rfl o.hu (d_var 0)) (d_len o.hk Fx.n_len (d_pget (i := 0) rfl o.hu (d_var 0))))))) (ss_cons (s_set (i := 2) sc__law_draw.nd (d_ix o.hk (d_pget (i := 0) rfl o.hu (d_var 0)) (d_pget (i := 1) rfl o.hu (d_var 0))))
    (ss_cons (s_pput (i := 1) rfl o.hu (d_var 0) (d_add (d_pget (i := 1) rfl o.hu (d_var 0)) d_int))
    (ss_one (s_if (t_ge (d_var 2) (d_pow d_int d_int)) (ss_one (s_pput (i := 2) rfl o.hu (d_var 0) (d_sub (d_var 2) (d_pow d_int d_int)))) (ss_one (s_pput (i := 4) rfl o.hu (d_var 0) (d_mod (d_intC Fx.n_int (d_add (d_mul (d_pget (i := 4) rfl o.hu (d_var 0)) d_int) (d_var 2))) d_int))))))) ss_nil)
    (ss_cons (s_if (t_gt (d_pget (i := 2) rfl o.hu (d_var 0)) d_int) (ss_cons (s_set (i := 3) sc__law_draw.nd (d_mod (d_intC Fx.n_int (d_pget (i := 2) rfl o.hu (d_var 0))) (d_var 1)))
    (ss_cons (s_pput (i := 2) rfl o.hu (d_var 0) (d_fdiv (d_pget (i := 2) rfl o.hu (d_var 0)) (d_var 1)))
    (ss_one (s_ret (d_var 3))))) ss_nil)
    (ss_cons (s_set (i := 4) sc__law_draw.nd (d_add (d_add (d_pget (i := 4) rfl o.hu (d_var 0)) (d_mul (d_pget (i := 3) rfl o.hu (d_var 0)) d_int)) d_int))
    (ss_one (s_ret (d_mod (d_fdiv (d_intC Fx.n_int (d_mod (d_pow (d_var 4) d_int) d_int)) d_int) (d_var 1))))))))), hm, kp, hb, .nil, fun _ _ => rfl⟩
abbrev st__law_pick : Stmt := (top 25)
theorem sc__law_pick : FnScope ["pen", "some"] ["pen", "some"] (defScope st__law_pick) := ⟨rfl, rfl, rfl, by decide +kernel, rfl, by decide +kernel, by decide +kernel⟩
def m__law_pick : MS Pen :=
    (retS (m2 ixD (mVar 1) (callF 2 f__law_draw [] (consM (mVar 0) (consM (callM lenD (consM (mVar 1) (retM []))) (retM []))))))
def f__law_pick : List D → Pen → R (D × Pen) Pen := runF 2 m__law_pick
theorem p__law_pick (Fx : Fx K mg cls ca pa) (TB : TBs base mg ca pa) : GF PW w K mg base (dcL K cls (tabs pa)) 2 "_law_pick" [] (spD (dcL K cls (tabs pa)) (penJ K) 2 f__law_pick) := by
  obtain ⟨f, fd, hm, kp, Fu, hb⟩ := Fx.d__law_pick
  exact ⟨f, fd, _, [], [], fnD_of Fu sc__law_pick (fun _ => rfl) rfl (fun {cd A outer s H E so B} o => by
    unfold m__law_pick
    exact (ss_one (s_ret (d_ix o.hk (d_var 1) (d_call (p__law_draw Fx TB) o (a_cons (d_var 0) (a_cons (d_len o.hk Fx.n_len (d_var 1)) a_nil))))))), hm, kp, hb, .nil, fun _ _ => rfl⟩
abbrev st__law_int : Stmt := (top 27)
theorem sc__law_int : FnScope ["pen", "sign", "size", "number", "lap"] ["pen"] (defScope st__law_int) := ⟨rfl, rfl, rfl, by decide +kernel, rfl, by decide +kernel, by decide +kernel⟩
def m__law_int : MS Pen :=
    (seqS (setS 1 (callF 2 f__law_pick [] (consM (mVar 0) (consM (lstM (consM (retM (.int 1)) (consM (retM (.int 1)) (consM (m1 negD (retM (.int 1))) (retM []))))) (retM [])))))
    (seqS (setS 2 (callF 2 f__law_pick [] (consM (mVar 0) (consM (lstM (consM (retM (.int 4)) (consM (retM (.int 4)) (consM (retM (.int 4)) (consM (retM (.int 60)) (consM (m2 powD (retM (.int 10)) (retM (.int 6))) (consM (m2 powD (retM (.int 10)) (retM (.int 9))) (retM [])))))))) (retM [])))))
    (seqS (setS 3 (callF 2 f__law_draw [] (consM (mVar 0) (consM (mVar 2) (retM [])))))
    (seqS (ifS (truM (m2 eqD (mVar 2) (m2 powD (retM (.int 10)) (retM (.int 9))))) (forS (.nm 4) (itA rng1 (consM (callF 2 f__law_draw [] (consM (mVar 0) (consM (retM (.int 4)) (retM [])))) (retM []))) (setS 3 (m2 addD (m2 mulD (mVar 3) (m2 powD (retM (.int 10)) (retM (.int 9)))) (callF 2 f__law_draw [] (consM (mVar 0) (consM (m2 powD (retM (.int 10)) (retM (.int 9))) (retM []))))))) nextS)
    (retS (m2 mulD (mVar 1) (mVar 3)))))))
def f__law_int : List D → Pen → R (D × Pen) Pen := runF 5 m__law_int
theorem p__law_int (Fx : Fx K mg cls ca pa) (TB : TBs base mg ca pa) : GF PW w K mg base (dcL K cls (tabs pa)) 3 "_law_int" [] (spD (dcL K cls (tabs pa)) (penJ K) 1 f__law_int) := by
  obtain ⟨f, fd, hm, kp, Fu, hb⟩ := Fx.d__law_int
  exact ⟨f, fd, _, [], [], fnD_of Fu sc__law_int (fun _ => rfl) rfl (fun {cd A outer s H E so B} o => by
    unfold m__law_int
    exact (ss_cons (s_set (i := 1) sc__law_int.nd (d_call (p__law_pick Fx TB) o (a_cons (d_var 0) (a_cons (d_lst (a_cons d_int (a_cons d_int (a_cons (d_neg d_int) a_nil)))) a_nil))))
    (ss_cons (s_set (i := 2) sc__law_int.nd (d_call (p__law_pick Fx TB) o (a_cons (d_var 0) (a_cons (d_lst (a_cons d_int (a_cons d_int (a_cons d_int (a_cons d_int (a_cons (d_pow d_int d_int) (a_cons (d_pow d_int d_int) a_nil))))))) a_nil))))
    (ss_cons (s_set (i := 3) sc__law_int.nd (d_call (p__law_draw Fx TB) o (a_cons (d_var 0) (a_cons (d_var 2) a_nil))))
    (ss_cons (s_if (t_eq o.hk o.hu (d_var 2) (d_pow d_int d_int)) (ss_one (s_for o.ps o.cm (i_range1 Fx.n_range (a_cons (d_call (p__law_draw Fx TB) o (a_cons (d_var 0) (a_cons d_int a_nil))) a_nil)) (g_name (i := 4) sc__law_int.nd) (ss_one (s_set (i := 3) sc__law_int.nd (d_add (d_mul (d_var 3) (d_pow d_int d_int)) (d_call (p__law_draw Fx TB) o (a_cons (d_var 0) (a_cons (d_pow d_int d_int) a_nil)))))))) ss_nil)
    (ss_one (s_ret (d_mul (d_var 1) (d_var 3))))))))), hm, kp, hb, .nil, fun _ _ => rfl⟩
abbrev st_is_integer : Stmt := (top 10)
theorem sc_is_integer : FnScope ["value"] ["value"] (defScope st_is_integer) := ⟨rfl, rfl, rfl, by decide +kernel, rfl, by decide +kernel, by decide +kernel⟩
def m_is_integer : MS Pen :=
    (retS (andV (m1 (isiD false true true false false false [(6, false)]) (mVar 0)) (notV (m1 (isiD false true false false false false [(6, false)]) (mVar 0)))))
def f_is_integer : List D → Pen → R (D × Pen) Pen := runF 1 m_is_integer
theorem p_is_integer (Fx : Fx K mg cls ca pa) (TB : TBs base mg ca pa) : GF PW w K mg base (dcL K cls (tabs pa)) 1 "is_integer" [] (spD (dcL K cls (tabs pa)) (penJ K) 1 f_is_integer) := by
  obtain ⟨f, fd, hm, kp, Fu, hb⟩ := Fx.d_is_integer
  exact ⟨f, fd, _, [], [], fnD_of Fu sc_is_integer (fun _ => rfl) rfl (fun {cd A outer s H E so B} o => by
    unfold m_is_integer
    exact (ss_one (s_ret (d_and o.hk (d_isi o.hk Fx.n_isinstance (.ty _) kt_int Fx.kb_int (d_var 0) (L2.pe_bltn rfl Fx.n_int (by decide +kernel) rfl)) (d_one (d_not o.hk (d_isi o.hk Fx.n_isinstance (.ty _) kt_bool Fx.kb_bool (d_var 0) (L2.pe_bltn rfl Fx.n_bool (by decide +kernel) rfl)))))))), hm, kp, hb, .nil, fun _ _ => rfl⟩
abbrev st_is_number : Stmt := (top 13)
theorem sc_is_number : FnScope ["value"] ["value"] (defScope st_is_number) := ⟨rfl, rfl, rfl, by decide +kernel, rfl, by decide +kernel, by decide +kernel⟩
def m_is_number : MS Pen :=
    (retS (orV (callF 1 f_is_integer [] (consM (mVar 0) (retM []))) (m1 (isiD false false false false false false [(6, true)]) (mVar 0))))
def f_is_number : List D → Pen → R (D × Pen) Pen := runF 1 m_is_number
theorem p_is_number (Fx : Fx K mg cls ca pa) (TB : TBs base mg ca pa) : GF PW w K mg base (dcL K cls (tabs pa)) 2 "is_number" [] (spD (dcL K cls (tabs pa)) (penJ K) 1 f_is_number) := by
  obtain ⟨f, fd, hm, kp, Fu, hb⟩ := Fx.d_is_number
  exact ⟨f, fd, _, [], [], fnD_of Fu sc_is_number (fun _ => rfl) rfl (fun {cd A outer s H E so B} o => by
    unfold m_is_number
    exact (ss_one (s_ret (d_or o.hk (d_call (p_is_integer Fx TB) o (a_cons (d_var 0) a_nil)) (d_one (d_isi o.hk Fx.n_isinstance (.own _) Fx.kt_Ratio Fx.kb_Ratio (d_var 0) (L2.pe_glob rfl Fx.g_Ratio rfl))))))), hm, kp, hb, .nil, fun _ _ => rfl⟩
abbrev st_Ratio___init__ : Stmt := (cst 12 0)
theorem sc_Ratio___init__ : FnScope ["self", "top", "bottom", "shared"] ["self", "top", "bottom"] (defScope st_Ratio___init__) := ⟨rfl, rfl, rfl, by decide +kernel, rfl, by decide +kernel, by decide +kernel⟩
def m_Ratio___init__ : MS Pen :=
    (seqS (ifS (notT (truM (callF 1 f_is_integer [] (consM (mVar 1) (retM []))))) (raiseS 1 2 (consM (retM (.str "top")) (consM (mVar 1) (retM [])))) nextS)
    (seqS (ifS (orT (notT (truM (callF 1 f_is_integer [] (consM (mVar 2) (retM []))))) (truM (m2 eqD (mVar 2) (retM (.int 0))))) (raiseS 1 2 (consM (retM (.str "bottom")) (consM (mVar 2) (retM [])))) nextS)
    (seqS (setS 3 (ifM (truM (m2 gtD (mVar 2) (retM (.int 0)))) (callM gcdD (consM (mVar 1) (consM (mVar 2) (retM [])))) (m1 negD (callM gcdD (consM (mVar 1) (consM (mVar 2) (retM [])))))))
    (seqS (selfS 0 6 0 (m2 fdivD (mVar 1) (mVar 3)))
    (seqS (selfS 0 6 1 (m2 fdivD (mVar 2) (mVar 3)))
    (seqS (selfS 0 6 2 (m2 subD (m2 gtD (mSelf 0 6 0) (retM (.int 0))) (m2 ltD (mSelf 0 6 0) (retM (.int 0)))))
    (selfS 0 6 3 (m2 eqD (mSelf 0 6 1) (retM (.int 1))))))))))
def f_Ratio___init__ : List D → Pen → R (List D × Pen) Pen := runI 4 6 4 m_Ratio___init__
theorem p_Ratio___init___1 (Fx : Fx K mg cls ca pa) (TB : TBs base mg ca pa) : GI PW w K mg base (dcL K cls (tabs pa)) 2 "Ratio" 6 [.int 1] (spI (dcL K cls (tabs pa)) (penJ K) 3 6 f_Ratio___init__) := by
  obtain ⟨f, fd, mk, Fu, ds, hds, hb⟩ := Fx.d_Ratio___init___1
  exact ⟨f, fd, _, ds, [.int 1], fnI_of Fu sc_Ratio___init__ (fun _ => rfl) rfl (fun _ => rfl) (fun {cd A outer s H E so B} o => by
    unfold m_Ratio___init__
    exact (ss_cons (s_if (t_not (d_test o.hk (d_call (p_is_integer Fx TB) o (a_cons (d_var 1) a_nil)))) (ss_one (s_raise (k := 1) (n := 2) Fx.x_BadNumber o Fx.g_BadNumber (a_cons d_str (a_cons (d_var 1) a_nil)))) ss_nil)
    (ss_cons (s_if (L2.PW.pt (t_or (t_not (d_test o.hk (d_call (p_is_integer Fx TB) o (a_cons (d_var 2) a_nil)))) (t_or1 (t_eq o.hk o.hu (d_var 2) d_int)))) (ss_one (s_raise (k := 1) (n := 2) Fx.x_BadNumber o Fx.g_BadNumber (a_cons d_str (a_cons (d_var 2) a_nil)))) ss_nil)
    (ss_cons (s_set (i := 3) sc_Ratio___init__.nd (d_ifE (t_gt (d_var 2) d_int) (d_gcd Fx.n_gcd (a_cons (d_var 1) (a_cons (d_var 2) a_nil))) (d_neg (d_gcd Fx.n_gcd (a_cons (d_var 1) (a_cons (d_var 2) a_nil))))))
    (ss_cons (s_self (i := 0) (jx := 0) o.hk Fx.k_Ratio rfl (d_fdiv (d_var 1) (d_var 3)))
    (ss_cons (s_self (i := 0) (jx := 1) o.hk Fx.k_Ratio rfl (d_fdiv (d_var 2) (d_var 3)))
    (ss_cons (s_self (i := 0) (jx := 2) o.hk Fx.k_Ratio rfl (d_sub (d_gt (d_self (i := 0) (jx := 0) o.hk Fx.k_Ratio rfl) d_int) (d_lt (d_self (i := 0) (jx := 0) o.hk Fx.k_Ratio rfl) d_int)))
    (ss_one (s_self (i := 0) (jx := 3) o.hk Fx.k_Ratio rfl (d_eq o.hk o.hu (d_self (i := 0) (jx := 1) o.hk Fx.k_Ratio rfl) d_int)))))))))), fun _ => Fx.g_Ratio, fun _ => mk, hb, hds, fun _ _ => ⟨_, _, rfl, rfl, rfl⟩⟩
theorem p_Ratio___init___2 (Fx : Fx K mg cls ca pa) (TB : TBs base mg ca pa) : GI PW w K mg base (dcL K cls (tabs pa)) 2 "Ratio" 6 [] (spI (dcL K cls (tabs pa)) (penJ K) 3 6 f_Ratio___init__) := by
  obtain ⟨f, fd, mk, Fu, ds, hds, hb⟩ := Fx.d_Ratio___init___2
  exact ⟨f, fd, _, ds, [], fnI_of Fu sc_Ratio___init__ (fun _ => rfl) rfl (fun _ => rfl) (fun {cd A outer s H E so B} o => by
    unfold m_Ratio___init__
    exact (ss_cons (s_if (t_not (d_test o.hk (d_call (p_is_integer Fx TB) o (a_cons (d_var 1) a_nil)))) (ss_one (s_raise (k := 1) (n := 2) Fx.x_BadNumber o Fx.g_BadNumber (a_cons d_str (a_cons (d_var 1) a_nil)))) ss_nil)
    (ss_cons (s_if (L2.PW.pt (t_or (t_not (d_test o.hk (d_call (p_is_integer Fx TB) o (a_cons (d_var 2) a_nil)))) (t_or1 (t_eq o.hk o.hu (d_var 2) d_int)))) (ss_one (s_raise (k := 1) (n := 2) Fx.x_BadNumber o Fx.g_BadNumber (a_cons d_str (a_cons (d_var 2) a_nil)))) ss_nil)
    (ss_cons (s_set (i := 3) sc_Ratio___init__.nd (d_ifE (t_gt (d_var 2) d_int) (d_gcd Fx.n_gcd (a_cons (d_var 1) (a_cons (d_var 2) a_nil))) (d_neg (d_gcd Fx.n_gcd (a_cons (d_var 1) (a_cons (d_var 2) a_nil))))))
    (ss_cons (s_self (i := 0) (jx := 0) o.hk Fx.k_Ratio rfl (d_fdiv (d_var 1) (d_var 3)))
    (ss_cons (s_self (i := 0) (jx := 1) o.hk Fx.k_Ratio rfl (d_fdiv (d_var 2) (d_var 3)))
    (ss_cons (s_self (i := 0) (jx := 2) o.hk Fx.k_Ratio rfl (d_sub (d_gt (d_self (i := 0) (jx := 0) o.hk Fx.k_Ratio rfl) d_int) (d_lt (d_self (i := 0) (jx := 0) o.hk Fx.k_Ratio rfl) d_int)))
    (ss_one (s_self (i := 0) (jx := 3) o.hk Fx.k_Ratio rfl (d_eq o.hk o.hu (d_self (i := 0) (jx := 1) o.hk Fx.k_Ratio rfl) d_int)))))))))), fun _ => Fx.g_Ratio, fun _ => mk, hb, hds, fun _ _ => rfl⟩
abbrev st_plain_ratio : Stmt := (top 14)
theorem sc_plain_ratio : FnScope ["value"] ["value"] (defScope st_plain_ratio) := ⟨rfl, rfl, rfl, by decide +kernel, rfl, by decide +kernel, by decide +kernel⟩
def m_plain_ratio : MS Pen :=
    (retS (ifM (truM (callF 1 f_is_integer [] (consM (mVar 0) (retM [])))) (makeF 6 2 f_Ratio___init__ [.int 1] (consM (mVar 0) (retM []))) (mVar 0)))
def f_plain_ratio : List D → Pen → R (D × Pen) Pen := runF 1 m_plain_ratio
theorem p_plain_ratio (Fx : Fx K mg cls ca pa) (TB : TBs base mg ca pa) : GF PW w K mg base (dcL K cls (tabs pa)) 4 "plain_ratio" [] (spD (dcL K cls (tabs pa)) (penJ K) 1 f_plain_ratio) := by
  obtain ⟨f, fd, hm, kp, Fu, hb⟩ := Fx.d_plain_ratio
  exact ⟨f, fd, _, [], [], fnD_of Fu sc_plain_ratio (fun _ => rfl) rfl (fun {cd A outer s H E so B} o => by
    unfold m_plain_ratio
    exact (ss_one (s_ret (d_ifE (d_test o.hk (d_call (p_is_integer Fx TB) o (a_cons (d_var 0) a_nil))) (d_make (p_Ratio___init___1 Fx TB) o (a_cons (d_var 0) a_nil)) (d_var 0))))), hm, kp, hb, .nil, fun _ _ => rfl⟩
abbrev st_ratio_of : Stmt := (top 15)
theorem sc_ratio_of : FnScope ["number"] ["number"] (defScope st_ratio_of) := ⟨rfl, rfl, rfl, by decide +kernel, rfl, by decide +kernel, by decide +kernel⟩
def m_ratio_of : MS Pen :=
    (seqS (ifS (notT (truM (callF 1 f_is_number [] (consM (mVar 0) (retM []))))) (raiseS 3 1 (consM (mVar 0) (retM []))) nextS)
    (retS (callF 1 f_plain_ratio [] (consM (mVar 0) (retM [])))))
def f_ratio_of : List D → Pen → R (D × Pen) Pen := runF 1 m_ratio_of
theorem p_ratio_of (Fx : Fx K mg cls ca pa) (TB : TBs base mg ca pa) : GF PW w K mg base (dcL K cls (tabs pa)) 5 "ratio_of" [] (spD (dcL K cls (tabs pa)) (penJ K) 1 f_ratio_of) := by
  obtain ⟨f, fd, hm, kp, Fu, hb⟩ := Fx.d_ratio_of
  exact ⟨f, fd, _, [], [], fnD_of Fu sc_ratio_of (fun _ => rfl) rfl (fun {cd A outer s H E so B} o => by
    unfold m_ratio_of
    exact (ss_cons (s_if (t_not (d_test o.hk (d_call (p_is_number Fx TB) o (a_cons (d_var 0) a_nil)))) (ss_one (s_raise (k := 3) (n := 1) Fx.x_BadItem o Fx.g_BadItem (a_cons (d_var 0) a_nil))) ss_nil)
    (ss_one (s_ret (d_call (p_plain_ratio Fx TB) o (a_cons (d_var 0) a_nil)))))), hm, kp, hb, .nil, fun _ _ => rfl⟩
abbrev st_Ratio___str__ : Stmt := (cst 12 2)
theorem sc_Ratio___str__ : FnScope ["self"] ["self"] (defScope st_Ratio___str__) := ⟨rfl, rfl, rfl, by decide +kernel, rfl, by decide +kernel, by decide +kernel⟩
def m_Ratio___str__ : MS Pen :=
    (seqS (ifS (truM (m2 eqD (m1 (fldD [(6, 1)]) (mVar 0)) (retM (.int 1)))) (retS (callM strCD (consM (m1 (fldD [(6, 0)]) (mVar 0)) (retM [])))) nextS)
    (retS (catM [(m1 fmtD (m1 (fldD [(6, 0)]) (mVar 0))), (retM (.str "/")), (m1 fmtD (m1 (fldD [(6, 1)]) (mVar 0)))] Str.empty)))
def f_Ratio___str__ : List D → Pen → R (D × Pen) Pen := runF 1 m_Ratio___str__
theorem p_Ratio___str__ (Fx : Fx K mg cls ca pa) (TB : TBs base mg ca pa) : GM PW w K mg base (dcL K cls (tabs pa)) 1 6 "__str__" [] (spD (dcL K cls (tabs pa)) (penJ K) 1 f_Ratio___str__) := by
  obtain ⟨f, fd, me, Fu, hb⟩ := Fx.d_Ratio___str__
  exact ⟨f, fd, _, [], [], fnD_of Fu sc_Ratio___str__ (fun _ => rfl) rfl (fun {cd A outer s H E so B} o => by
    unfold m_Ratio___str__
    exact (ss_cons (s_if (t_eq o.hk o.hu (d_fld o.hk [(6, 1)] ⟨⟨Fx.k_Ratio, rfl⟩, trivial⟩ (d_var 0)) d_int) (ss_one (s_ret (d_strC Fx.n_str (d_fld o.hk [(6, 0)] ⟨⟨Fx.k_Ratio, rfl⟩, trivial⟩ (d_var 0))))) ss_nil)
    (ss_one (s_ret (d_joined (.cons (d_fmt (d_fld o.hk [(6, 0)] ⟨⟨Fx.k_Ratio, rfl⟩, trivial⟩ (d_var 0))) (.cons d_str (.cons (d_fmt (d_fld o.hk [(6, 1)] ⟨⟨Fx.k_Ratio, rfl⟩, trivial⟩ (d_var 0))) DJ.nil)))))))), fun _ => me, fun _ => (by decide : ("__str__" : Str) ∉ flds 6), hb, .nil, fun _ _ => rfl⟩
abbrev st_number_text : Stmt := (top 20)
theorem sc_number_text : FnScope ["number"] ["number"] (defScope st_number_text) := ⟨rfl, rfl, rfl, by decide +kernel, rfl, by decide +kernel, by decide +kernel⟩
def m_number_text : MS Pen :=
    (retS (strO 6 f_Ratio___str__ (callF 1 f_ratio_of [] (consM (mVar 0) (retM [])))))
def f_number_text : List D → Pen → R (D × Pen) Pen := runF 1 m_number_text
theorem p_number_text (Fx : Fx K mg cls ca pa) (TB : TBs base mg ca pa) : GF PW w K mg base (dcL K cls (tabs pa)) 6 "number_text" [] (spD (dcL K cls (tabs pa)) (penJ K) 1 f_number_text) := by
  obtain ⟨f, fd, hm, kp, Fu, hb⟩ := Fx.d_number_text
  exact ⟨f, fd, _, [], [], fnD_of Fu sc_number_text (fun _ => rfl) rfl (fun {cd A outer s H E so B} o => by
    unfold m_number_text
    exact (ss_one (s_ret (d_strO (GM.call (p_Ratio___str__ Fx TB) o) o Fx.n_str (d_call (p_ratio_of Fx TB) o (a_cons (d_var 0) a_nil)))))), hm, kp, hb, .nil, fun _ _ => rfl⟩
abbrev st__law_given : Stmt := (top 30)
theorem sc__law_given : FnScope ["pen", "one"] ["pen", "one"] (defScope st__law_given) := ⟨rfl, rfl, rfl, by decide +kernel, rfl, by decide +kernel, by decide +kernel⟩
def m__law_given : MS Pen :=
    (seqS (ifS (andT (truM (m2 eqD (m2 ixD (mVar 1) (retM (.int 1))) (retM (.int 1)))) (truM (m2 eqD (callF 2 f__law_draw [] (consM (mVar 0) (consM (retM (.int 2)) (retM [])))) (retM (.int 0))))) (retS (m2 ixD (mVar 1) (retM (.int 0)))) nextS)
    (retS (makeF 6 2 f_Ratio___init__ [] (consM (m2 ixD (mVar 1) (retM (.int 0))) (consM (m2 ixD (mVar 1) (retM (.int 1))) (retM []))))))
def f__law_given : List D → Pen → R (D × Pen) Pen := runF 2 m__law_given
theorem p__law_given (Fx : Fx K mg cls ca pa) (TB : TBs base mg ca pa) : GF PW w K mg base (dcL K cls (tabs pa)) 4 "_law_given" [] (spD (dcL K cls (tabs pa)) (penJ K) 2 f__law_given) := by
  obtain ⟨f, fd, hm, kp, Fu, hb⟩ := Fx.d__law_given
  exact ⟨f, fd, _, [], [], fnD_of Fu sc__law_given (fun _ => rfl) rfl (fun {cd A outer s H E so B} o => by
    unfold m__law_given
    exact (ss_cons (s_if (L2.PW.pt (t_and (t_eq o.hk o.hu (d_ix o.hk (d_var 1) d_int) d_int) (t_and1 (t_eq o.hk o.hu (d_call (p__law_draw Fx TB) o (a_cons (d_var 0) (a_cons d_int a_nil))) d_int)))) (ss_one (s_ret (d_ix o.hk (d_var 1) d_int))) ss_nil)
    (ss_one (s_ret (d_make (p_Ratio___init___2 Fx TB) o (a_cons (d_ix o.hk (d_var 1) d_int) (a_cons (d_ix o.hk (d_var 1) d_int) a_nil))))))), hm, kp, hb, .nil, fun _ _ => rfl⟩
abbrev st__law_bent : Stmt := (top 37)
theorem sc__law_bent : FnScope ["pen", "text", "at", "way", "sign"] ["pen", "text"] (defScope st__law_bent) := ⟨rfl, rfl, rfl, by decide +kernel, rfl, by decide +kernel, by decide +kernel⟩
def m__law_bent : MS Pen :=
    (seqS (parS 2 3 (consM (callF 2 f__law_draw [] (consM (mVar 0) (consM (m2 addD (callM lenD (consM (mVar 1) (retM []))) (retM (.int 1))) (retM [])))) (consM (callF 2 f__law_draw [] (consM (mVar 0) (consM (retM (.int 3)) (retM [])))) (retM []))))
    (seqS (setS 4 (callF 2 f__law_pick [] (consM (mVar 0) (consM (m2 addD (retM (.str "0123456789-/+. x")) (retM (.str "\n"))) (retM [])))))
    (seqS (ifS (truM (m2 eqD (mVar 3) (retM (.int 0)))) (retS (m2 addD (sliceM (mVar 1) (retM none) (partM (mVar 2))) (sliceM (mVar 1) (partM (m2 addD (mVar 2) (retM (.int 1)))) (retM none)))) nextS)
    (retS (m2 addD (m2 addD (sliceM (mVar 1) (retM none) (partM (mVar 2))) (mVar 4)) (sliceM (mVar 1) (partM (m2 subD (m2 addD (mVar 2) (mVar 3)) (retM (.int 1)))) (retM none)))))))
def f__law_bent : List D → Pen → R (D × Pen) Pen := runF 5 m__law_bent
theorem p__law_bent (Fx : Fx K mg cls ca pa) (TB : TBs base mg ca pa) : GF PW w K mg base (dcL K cls (tabs pa)) 3 "_law_bent" [] (spD (dcL K cls (tabs pa)) (penJ K) 2 f__law_bent) := by
  obtain ⟨f, fd, hm, kp, Fu, hb⟩ := Fx.d__law_bent
  exact ⟨f, fd, _, [], [], fnD_of Fu sc__law_bent (fun _ => rfl) rfl (fun {cd A outer s H E so B} o => by
    unfold m__law_bent
    exact (ss_cons (s_par (i := 2) (j := 3) o.cm sc__law_bent.nd (a_cons (d_call (p__law_draw Fx TB) o (a_cons (d_var 0) (a_cons (d_add (d_len o.hk Fx.n_len (d_var 1)) d_int) a_nil))) (a_cons (d_call (p__law_draw Fx TB) o (a_cons (d_var 0) (a_cons d_int a_nil))) a_nil)))
    (ss_cons (s_set (i := 4) sc__law_bent.nd (d_call (p__law_pick Fx TB) o (a_cons (d_var 0) (a_cons (d_add d_str d_str) a_nil))))
    (ss_cons (s_if (t_eq o.hk o.hu (d_var 3) d_int) (ss_one (s_ret (d_add (d_slice o.hk (d_var 1) o_none (o_some (d_var 2))) (d_slice o.hk (d_var 1) (o_some (d_add (d_var 2) d_int)) o_none)))) ss_nil)
    (ss_one (s_ret (d_add (d_add (d_slice o.hk (d_var 1) o_none (o_some (d_var 2))) (d_var 4)) (d_slice o.hk (d_var 1) (o_some (d_sub (d_add (d_var 2) (d_var 3)) d_int)) o_none)))))))), hm, kp, hb, .nil, fun _ _ => rfl⟩
abbrev st__law_count : Stmt := (top 34)
theorem sc__law_count : FnScope ["word", "sign"] ["word"] (defScope st__law_count) := ⟨rfl, rfl, rfl, by decide +kernel, rfl, by decide +kernel, by decide +kernel⟩
def m__law_count : MS Pen :=
    (seqS (ifS (orT (truM (m2 eqD (mVar 0) (retM (.str "")))) (orT (truM (m2 neD (lcM (.nm 1) (itM strOf (mVar 0)) (truM (m2 notInD (mVar 1) (retM (.str "0123456789")))) (retM (.int 1)) [1]) (lstM (retM [])))) (andT (truM (m2 gtD (callM lenD (consM (mVar 0) (retM []))) (retM (.int 1)))) (truM (m2 eqD (m2 ixD (mVar 0) (retM (.int 0))) (retM (.str "0"))))))) (retS (retM .non)) nextS)
    (retS (callM intD (consM (mVar 0) (retM [])))))
def f__law_count : List D → Pen → R (D × Pen) Pen := runF 2 m__law_count
theorem p__law_count (Fx : Fx K mg cls ca pa) (TB : TBs base mg ca pa) : GF PW w K mg base (dcL K cls (tabs pa)) 1 "_law_count" [] (spD (dcL K cls (tabs pa)) (penJ K) 1 f__law_count) := by
  obtain ⟨f, fd, hm, kp, Fu, hb⟩ := Fx.d__law_count
  exact ⟨f, fd, _, [], [], fnD_of Fu sc__law_count (fun _ => rfl) rfl (fun {cd A outer s H E so B} o => by
    unfold m__law_count
    exact (ss_cons (s_if (L2.PW.pt (t_or (t_eq o.hk o.hu (d_var 0) d_str) (t_or (t_ne o.hk o.hu (d_lc (own := [("sign", 1)]) (g := .nm 1) o.cm sc__law_count.nd (i_str (d_var 0)) (blkOk_by (show blkC ["word", "sign"] (defScope st__law_count) _ _ = true from by decide +kernel)) (fun s H C cl fp => g_name sc__law_count.nd) (fun s H C cl fp B => (ts_one (t_notin (d_var 1) d_str))) (fun s H C cl fp B => d_int) (by decide)) (d_lst a_nil)) (t_or1 (L2.PW.pt (t_and (t_gt (d_len o.hk Fx.n_len (d_var 0)) d_int) (t_and1 (t_eq o.hk o.hu (d_ix o.hk (d_var 0) d_int) d_str)))))))) (ss_one (s_ret d_non)) ss_nil)
    (ss_one (s_ret (d_intC Fx.n_int (d_var 0)))))), hm, kp, hb, .nil, fun _ _ => rfl⟩
abbrev st__law_read : Stmt := (top 35)
theorem sc__law_read : FnScope ["text", "minus", "word", "at", "top", "bottom"] ["text"] (defScope st__law_read) := ⟨rfl, rfl, rfl, by decide +kernel, rfl, by decide +kernel, by decide +kernel⟩
def m__law_read : MS Pen :=
    (seqS (setS 1 (m2 eqD (sliceM (mVar 0) (retM none) (partM (retM (.int 1)))) (retM (.str "-"))))
    (seqS (setS 2 (ifM (truM (mVar 1)) (sliceM (mVar 0) (partM (retM (.int 1))) (retM none)) (mVar 0)))
    (seqS (setS 3 (ifM (truM (m2 inD (retM (.str "/")) (mVar 2))) (mStr1 indexD (mVar 2) (retM (.str "/"))) (callM lenD (consM (mVar 2) (retM [])))))
    (seqS (parS 4 5 (consM (callF 1 f__law_count [] (consM (sliceM (mVar 2) (retM none) (partM (mVar 3))) (retM []))) (consM (ifM (truM (m2 ltD (mVar 3) (callM lenD (consM (mVar 2) (retM []))))) (callF 1 f__law_count [] (consM (sliceM (mVar 2) (partM (m2 addD (mVar 3) (retM (.int 1)))) (retM none)) (retM []))) (retM (.int 1))) (retM []))))
    (seqS (ifS (orT (truM (m1 (fun x => some (.bl (isNon x))) (mVar 4))) (orT (truM (m1 (fun x => some (.bl (isNon x))) (mVar 5))) (truM (m2 eqD (mVar 5) (retM (.int 0)))))) (retS (retM .non)) nextS)
    (retS (callF 2 f__law_frac [] (consM (ifM (truM (mVar 1)) (m1 negD (mVar 4)) (mVar 4)) (consM (mVar 5) (retM []))))))))))
def f__law_read : List D → Pen → R (D × Pen) Pen := runF 6 m__law_read
theorem p__law_read (Fx : Fx K mg cls ca pa) (TB : TBs base mg ca pa) : GF PW w K mg base (dcL K cls (tabs pa)) 3 "_law_read" [] (spD (dcL K cls (tabs pa)) (penJ K) 1 f__law_read) := by
  obtain ⟨f, fd, hm, kp, Fu, hb⟩ := Fx.d__law_read
  exact ⟨f, fd, _, [], [], fnD_of Fu sc__law_read (fun _ => rfl) rfl (fun {cd A outer s H E so B} o => by
    unfold m__law_read
    exact (ss_cons (s_set (i := 1) sc__law_read.nd (d_eq o.hk o.hu (d_slice o.hk (d_var 0) o_none (o_some d_int)) d_str))
    (ss_cons (s_set (i := 2) sc__law_read.nd (d_ifE (d_test o.hk (d_var 1)) (d_slice o.hk (d_var 0) (o_some d_int) o_none) (d_var 0)))
    (ss_cons (s_set (i := 3) sc__law_read.nd (d_ifE (t_in d_str (d_var 2)) (d_index o.hk o.cm o.tk (d_var 2) d_str) (d_len o.hk Fx.n_len (d_var 2))))
    (ss_cons (s_par (i := 4) (j := 5) o.cm sc__law_read.nd (a_cons (d_call (p__law_count Fx TB) o (a_cons (d_slice o.hk (d_var 2) o_none (o_some (d_var 3))) a_nil)) (a_cons (d_ifE (t_lt (d_var 3) (d_len o.hk Fx.n_len (d_var 2))) (d_call (p__law_count Fx TB) o (a_cons (d_slice o.hk (d_var 2) (o_some (d_add (d_var 3) d_int)) o_none) a_nil)) d_int) a_nil)))
    (ss_cons (s_if (L2.PW.pt (t_or (t_isN (d_var 4)) (t_or (t_isN (d_var 5)) (t_or1 (t_eq o.hk o.hu (d_var 5) d_int))))) (ss_one (s_ret d_non)) ss_nil)
    (ss_one (s_ret (d_call (p__law_frac Fx TB) o (a_cons (d_ifE (d_test o.hk (d_var 1)) (d_neg (d_var 4)) (d_var 4)) (a_cons (d_var 5) a_nil))))))))))), hm, kp, hb, .nil, fun _ _ => rfl⟩
abbrev st__law_error_of : Stmt := (top 33)
theorem sc__law_error_of : FnScope ["call", "e"] ["call"] (defScope st__law_error_of) := ⟨rfl, rfl, rfl, by decide +kernel, rfl, by decide +kernel, by decide +kernel⟩
def tab__law_error_of_0 : List (Nat × Bool) := [(1, true), (3, false), (4, false)]
def tab__law_error_of_1 : List (Nat × Bool) := [(3, false), (4, false)]
def tab__law_error_of_2 : List (Nat × Bool) := [(3, true), (4, false)]
def tab__law_error_of_3 : List (Nat × Bool) := [(4, true)]
def tab__law_error_of_4 : List (Nat × Bool) := []
def tab__law_error_of_5 : List (Nat × Bool) := []
def n__law_error_of : Nat := 2
def m__law_error_of (thunk : Pen → R (D × Pen) Pen) : MS Pen :=
    (tryS (retS (tupM (consM (retM (.str "ok")) (consM (actM thunk) (retM []))))) [⟨exT tab__law_error_of_0, some 1, (retS (tupM (consM (retM (.str "number")) (consM (xfM 1 1 0) (consM (callM reprD (consM (xfM 1 1 1) (retM []))) (retM []))))))⟩,
    ⟨exT tab__law_error_of_1, some 1, (retS (tupM (consM (retM (.str "row")) (consM (callM reprD (consM (xfM 1 2 0) (retM []))) (retM [])))))⟩,
    ⟨exT tab__law_error_of_2, some 1, (retS (tupM (consM (retM (.str "item")) (consM (callM reprD (consM (xfM 1 3 0) (retM []))) (retM [])))))⟩,
    ⟨exT tab__law_error_of_3, some 1, (retS (tupM (consM (retM (.str "text")) (consM (xfM 1 4 0) (retM [])))))⟩,
    ⟨exT tab__law_error_of_4, some 1, (retS (tupM (consM (retM (.str "root")) (consM (callM reprD (consM (xfM 1 5 0) (retM []))) (retM [])))))⟩,
    ⟨exT tab__law_error_of_5, none, (retS (tupM (consM (retM (.str "another error")) (retM []))))⟩])
theorem p__law_error_of (Fx : Fx K mg cls ca pa) (TB : TBs base mg ca pa) : GT PW w K mg base (dcL K cls (tabs pa)) (penJ K) 0 "_law_error_of" n__law_error_of m__law_error_of := by
  obtain ⟨f, fd, hm, kp, Fu, hb⟩ := Fx.d__law_error_of
  exact ⟨f, st__law_error_of, fd, ["call", "e"], "call", hm, kp, Fu, sc__law_error_of, rfl, rfl, .inl rfl, ⟨by decide, by decide⟩, hb, fun {cd A outer s H E so B thunk} o act => by
    unfold m__law_error_of
    exact (ss_one (s_try o sc__law_error_of.nd (fun W pn xe o2 => (ss_one (s_ret (d_tup (a_cons d_str (a_cons (act _ _ _ _ _ o2) a_nil))))))
    (HdL.as (i := 1) (ts := fun a cl d => tS (Ct.su (ctD (dcL K cls (tabs pa)) (penJ K) so B E) a cl d) (retS (tupM (consM (retM (.str "number")) (consM (xfM 1 1 0) (consM (callM reprD (consM (xfM 1 1 1) (retM []))) (retM []))))))) ⟨rfl, by decide, Or.inl Fx.g_BadNumber⟩ rfl rfl (fun a oe cl d pn hz hf => (ss_one (s_ret (d_tup (a_cons d_str (a_cons (d_xf (c := ctD (dcL K cls (tabs pa)) (penJ K) so B E) (i := 1) (q := 1) (jx := 0) Fx.x_BadNumber rfl o.hk hz hf) (a_cons (d_repr o.hk o.gd o.hu Fx.n_repr (d_xf (c := ctD (dcL K cls (tabs pa)) (penJ K) so B E) (i := 1) (q := 1) (jx := 1) Fx.x_BadNumber rfl o.hk hz hf)) a_nil)))))))
    (HdL.as (i := 1) (ts := fun a cl d => tS (Ct.su (ctD (dcL K cls (tabs pa)) (penJ K) so B E) a cl d) (retS (tupM (consM (retM (.str "row")) (consM (callM reprD (consM (xfM 1 2 0) (retM []))) (retM [])))))) ⟨rfl, by decide, Or.inl Fx.g_BadRow⟩ rfl rfl (fun a oe cl d pn hz hf => (ss_one (s_ret (d_tup (a_cons d_str (a_cons (d_repr o.hk o.gd o.hu Fx.n_repr (d_xf (c := ctD (dcL K cls (tabs pa)) (penJ K) so B E) (i := 1) (q := 2) (jx := 0) Fx.x_BadRow rfl o.hk hz hf)) a_nil))))))
    (HdL.as (i := 1) (ts := fun a cl d => tS (Ct.su (ctD (dcL K cls (tabs pa)) (penJ K) so B E) a cl d) (retS (tupM (consM (retM (.str "item")) (consM (callM reprD (consM (xfM 1 3 0) (retM []))) (retM [])))))) ⟨rfl, by decide, Or.inl Fx.g_BadItem⟩ rfl rfl (fun a oe cl d pn hz hf => (ss_one (s_ret (d_tup (a_cons d_str (a_cons (d_repr o.hk o.gd o.hu Fx.n_repr (d_xf (c := ctD (dcL K cls (tabs pa)) (penJ K) so B E) (i := 1) (q := 3) (jx := 0) Fx.x_BadItem rfl o.hk hz hf)) a_nil))))))
    (HdL.as (i := 1) (ts := fun a cl d => tS (Ct.su (ctD (dcL K cls (tabs pa)) (penJ K) so B E) a cl d) (retS (tupM (consM (retM (.str "text")) (consM (xfM 1 4 0) (retM [])))))) ⟨rfl, by decide, Or.inl Fx.g_BadText⟩ rfl rfl (fun a oe cl d pn hz hf => (ss_one (s_ret (d_tup (a_cons d_str (a_cons (d_xf (c := ctD (dcL K cls (tabs pa)) (penJ K) so B E) (i := 1) (q := 4) (jx := 0) Fx.x_BadText rfl o.hk hz hf) a_nil))))))
    (HdL.as (i := 1) (ts := fun a cl d => tS (Ct.su (ctD (dcL K cls (tabs pa)) (penJ K) so B E) a cl d) (retS (tupM (consM (retM (.str "root")) (consM (callM reprD (consM (xfM 1 5 0) (retM []))) (retM [])))))) ⟨rfl, by decide, Or.inl Fx.g_NoRoot⟩ rfl rfl (fun a oe cl d pn hz hf => (ss_one (s_ret (d_tup (a_cons d_str (a_cons (d_repr o.hk o.gd o.hu Fx.n_repr (d_xf (c := ctD (dcL K cls (tabs pa)) (penJ K) so B E) (i := 1) (q := 5) (jx := 0) Fx.x_NoRoot rfl o.hk hz hf)) a_nil))))))
    (HdL.bare (ts := fun a cl d => tS (Ct.su (ctD (dcL K cls (tabs pa)) (penJ K) so B E) a cl d) (retS (tupM (consM (retM (.str "another error")) (retM []))))) ⟨rfl, by decide, Or.inl Fx.g_LeverError⟩ (fun a oe cl d pn hz hf => (ss_one (s_ret (d_tup (a_cons d_str a_nil)))))
    HdL.nil))))))
    (HdD.cons (i := some 1) (h := ⟨exT tab__law_error_of_0, some 1, (retS (tupM (consM (retM (.str "number")) (consM (xfM 1 1 0) (consM (callM reprD (consM (xfM 1 1 1) (retM []))) (retM []))))))⟩) rfl (exT_ok Fx.e__law_error_of_0) (HdD.cons (i := some 1) (h := ⟨exT tab__law_error_of_1, some 1, (retS (tupM (consM (retM (.str "row")) (consM (callM reprD (consM (xfM 1 2 0) (retM []))) (retM [])))))⟩) rfl (exT_ok Fx.e__law_error_of_1) (HdD.cons (i := some 1) (h := ⟨exT tab__law_error_of_2, some 1, (retS (tupM (consM (retM (.str "item")) (consM (callM reprD (consM (xfM 1 3 0) (retM []))) (retM [])))))⟩) rfl (exT_ok Fx.e__law_error_of_2) (HdD.cons (i := some 1) (h := ⟨exT tab__law_error_of_3, some 1, (retS (tupM (consM (retM (.str "text")) (consM (xfM 1 4 0) (retM [])))))⟩) rfl (exT_ok Fx.e__law_error_of_3) (HdD.cons (i := some 1) (h := ⟨exT tab__law_error_of_4, some 1, (retS (tupM (consM (retM (.str "root")) (consM (callM reprD (consM (xfM 1 5 0) (retM []))) (retM [])))))⟩) rfl (exT_ok Fx.e__law_error_of_4) (HdD.cons (i := none) (h := ⟨exT tab__law_error_of_5, none, (retS (tupM (consM (retM (.str "another error")) (retM []))))⟩) rfl (exT_ok Fx.e__law_error_of_5) HdD.nil))))))))⟩
abbrev st_count_of : Stmt := (top 18)
theorem sc_count_of : FnScope ["word", "sign"] ["word"] (defScope st_count_of) := ⟨rfl, rfl, rfl, by decide +kernel, rfl, by decide +kernel, by decide +kernel⟩
def m_count_of : MS Pen :=
    (seqS (ifS (orT (truM (m2 eqD (mVar 0) (retM (.str "")))) (orT (truM (callM anyD (consM (lcM (.nm 1) (itM strOf (mVar 0)) yesM (m2 notInD (mVar 1) (retM (.str "0123456789"))) [1]) (retM [])))) (truM (m2 gtD (callM lenD (consM (mVar 0) (retM []))) (retM (.int 2000)))))) (retS (retM .non)) nextS)
    (retS (ifM (andT (truM (m2 eqD (m2 ixD (mVar 0) (retM (.int 0))) (retM (.str "0")))) (truM (m2 neD (mVar 0) (retM (.str "0"))))) (retM .non) (callM intD (consM (mVar 0) (retM []))))))
def f_count_of : List D → Pen → R (D × Pen) Pen := runF 2 m_count_of
theorem p_count_of (Fx : Fx K mg cls ca pa) (TB : TBs base mg ca pa) : GF PW w K mg base (dcL K cls (tabs pa)) 1 "count_of" [] (spD (dcL K cls (tabs pa)) (penJ K) 1 f_count_of) := by
  obtain ⟨f, fd, hm, kp, Fu, hb⟩ := Fx.d_count_of
  exact ⟨f, fd, _, [], [], fnD_of Fu sc_count_of (fun _ => rfl) rfl (fun {cd A outer s H E so B} o => by
    unfold m_count_of
    exact (ss_cons (s_if (L2.PW.pt (t_or (t_eq o.hk o.hu (d_var 0) d_str) (t_or (d_test o.hk (d_any o.hk o.cm Fx.n_any (d_lc (own := [("sign", 1)]) (g := .nm 1) o.cm sc_count_of.nd (i_str (d_var 0)) (blkOk_by (show blkC ["word", "sign"] (defScope st_count_of) _ _ = true from by decide +kernel)) (fun s H C cl fp => g_name sc_count_of.nd) (fun s H C cl fp B => ts_nil) (fun s H C cl fp B => (d_notin (d_var 1) (d_globS Fx.c_FIGURES.choose_spec))) (by decide)))) (t_or1 (t_gt (d_len o.hk Fx.n_len (d_var 0)) d_int))))) (ss_one (s_ret d_non)) ss_nil)
    (ss_one (s_ret (d_ifE (L2.PW.pt (t_and (t_eq o.hk o.hu (d_ix o.hk (d_var 0) d_int) d_str) (t_and1 (t_ne o.hk o.hu (d_var 0) d_str)))) d_non (d_intC Fx.n_int (d_var 0))))))), hm, kp, hb, .nil, fun _ _ => rfl⟩
abbrev st_size_of : Stmt := (top 19)
theorem sc_size_of : FnScope ["word", "head", "sign", "tail", "top", "bottom"] ["word"] (defScope st_size_of) := ⟨rfl, rfl, rfl, by decide +kernel, rfl, by decide +kernel, by decide +kernel⟩
def m_size_of : MS Pen :=
    (seqS (asgS (.tp [1, 2, 3]) (mStr1 partitionD (mVar 0) (retM (.str "/"))))
    (seqS (parS 4 5 (consM (callF 1 f_count_of [] (consM (mVar 1) (retM []))) (consM (ifM (truM (m2 eqD (mVar 2) (retM (.str "")))) (retM (.int 1)) (callF 1 f_count_of [] (consM (mVar 3) (retM [])))) (retM []))))
    (retS (ifM (andT (truM (m1 (fun x => some (.bl (!isNon x))) (mVar 4))) (andT (truM (m1 (fun x => some (.bl (!isNon x))) (mVar 5))) (truM (m2 gtD (mVar 5) (retM (.int 0)))))) (makeF 6 2 f_Ratio___init__ [] (consM (mVar 4) (consM (mVar 5) (retM [])))) (retM .non)))))
def f_size_of : List D → Pen → R (D × Pen) Pen := runF 6 m_size_of
theorem p_size_of (Fx : Fx K mg cls ca pa) (TB : TBs base mg ca pa) : GF PW w K mg base (dcL K cls (tabs pa)) 4 "size_of" [] (spD (dcL K cls (tabs pa)) (penJ K) 1 f_size_of) := by
  obtain ⟨f, fd, hm, kp, Fu, hb⟩ := Fx.d_size_of
  exact ⟨f, fd, _, [], [], fnD_of Fu sc_size_of (fun _ => rfl) rfl (fun {cd A outer s H E so B} o => by
    unfold m_size_of
    exact (ss_cons (s_asg (tg := (.tp [1, 2, 3])) (d_partition (d_var 0) d_str) (g_tup o.hk o.cm (g_cons (pg_name (i := 1) sc_size_of.nd rfl (by first | exact Or.inl rfl | exact Or.inr rfl) (.inl rfl)) (g_cons (pg_name (i := 2) sc_size_of.nd rfl (by first | exact Or.inl rfl | exact Or.inr rfl) (.inl rfl)) (g_cons (pg_name (i := 3) sc_size_of.nd rfl (by first | exact Or.inl rfl | exact Or.inr rfl) (.inl rfl)) g_nil)))))
    (ss_cons (s_par (i := 4) (j := 5) o.cm sc_size_of.nd (a_cons (d_call (p_count_of Fx TB) o (a_cons (d_var 1) a_nil)) (a_cons (d_ifE (t_eq o.hk o.hu (d_var 2) d_str) d_int (d_call (p_count_of Fx TB) o (a_cons (d_var 3) a_nil))) a_nil)))
    (ss_one (s_ret (d_ifE (L2.PW.pt (t_and (t_notN (d_var 4)) (t_and (t_notN (d_var 5)) (t_and1 (t_gt (d_var 5) d_int))))) (d_make (p_Ratio___init___2 Fx TB) o (a_cons (d_var 4) (a_cons (d_var 5) a_nil))) d_non)))))), hm, kp, hb, .nil, fun _ _ => rfl⟩
abbrev st_Ratio___neg__ : Stmt := (cst 12 3)
theorem sc_Ratio___neg__ : FnScope ["self"] ["self"] (defScope st_Ratio___neg__) := ⟨rfl, rfl, rfl, by decide +kernel, rfl, by decide +kernel, by decide +kernel⟩
def m_Ratio___neg__ : MS Pen :=
    (retS (makeF 6 2 f_Ratio___init__ [] (consM (m1 negD (m1 (fldD [(6, 0)]) (mVar 0))) (consM (m1 (fldD [(6, 1)]) (mVar 0)) (retM [])))))
def f_Ratio___neg__ : List D → Pen → R (D × Pen) Pen := runF 1 m_Ratio___neg__
theorem p_Ratio___neg__ (Fx : Fx K mg cls ca pa) (TB : TBs base mg ca pa) : GM PW w K mg base (dcL K cls (tabs pa)) 4 6 "__neg__" [] (spD (dcL K cls (tabs pa)) (penJ K) 1 f_Ratio___neg__) := by
  obtain ⟨f, fd, me, Fu, hb⟩ := Fx.d_Ratio___neg__
  exact ⟨f, fd, _, [], [], fnD_of Fu sc_Ratio___neg__ (fun _ => rfl) rfl (fun {cd A outer s H E so B} o => by
    unfold m_Ratio___neg__
    exact (ss_one (s_ret (d_make (p_Ratio___init___2 Fx TB) o (a_cons (d_neg (d_fld o.hk [(6, 0)] ⟨⟨Fx.k_Ratio, rfl⟩, trivial⟩ (d_var 0))) (a_cons (d_fld o.hk [(6, 1)] ⟨⟨Fx.k_Ratio, rfl⟩, trivial⟩ (d_var 0)) a_nil)))))), fun _ => me, fun _ => (by decide : ("__neg__" : Str) ∉ flds 6), hb, .nil, fun _ _ => rfl⟩
abbrev st_read_number : Stmt := (top 21)
theorem sc_read_number : FnScope ["text", "size"] ["text"] (defScope st_read_number) := ⟨rfl, rfl, rfl, by decide +kernel, rfl, by decide +kernel, by decide +kernel⟩
def m_read_number : MS Pen :=
    (seqS (ifS (notT (truM (m1 (isiD false false false true false false [(6, false)]) (mVar 0)))) (raiseS 4 1 (consM (retM .non) (retM []))) nextS)
    (seqS (setS 1 (callF 1 f_size_of [] (consM (ifM (truM (mStr1 startsD (mVar 0) (retM (.str "-")))) (sliceM (mVar 0) (partM (retM (.int 1))) (retM none)) (mVar 0)) (retM []))))
    (seqS (ifS (truM (m1 (fun x => some (.bl (isNon x))) (mVar 1))) (raiseS 4 1 (consM (retM (.int 0)) (retM []))) nextS)
    (retS (ifM (truM (mStr1 startsD (mVar 0) (retM (.str "-")))) (negO 6 f_Ratio___neg__ (mVar 1)) (mVar 1))))))
def f_read_number : List D → Pen → R (D × Pen) Pen := runF 2 m_read_number
theorem p_read_number (Fx : Fx K mg cls ca pa) (TB : TBs base mg ca pa) : GF PW w K mg base (dcL K cls (tabs pa)) 5 "read_number" [] (spD (dcL K cls (tabs pa)) (penJ K) 1 f_read_number) := by
  obtain ⟨f, fd, hm, kp, Fu, hb⟩ := Fx.d_read_number
  exact ⟨f, fd, _, [], [], fnD_of Fu sc_read_number (fun _ => rfl) rfl (fun {cd A outer s H E so B} o => by
    unfold m_read_number
    exact (ss_cons (s_if (t_not (d_test o.hk (d_isi o.hk Fx.n_isinstance (.ty _) kt_str Fx.kb_str (d_var 0) (L2.pe_bltn rfl Fx.n_str (by decide +kernel) rfl)))) (ss_one (s_raise (k := 4) (n := 1) Fx.x_BadText o Fx.g_BadText (a_cons d_non a_nil))) ss_nil)
    (ss_cons (s_set (i := 1) sc_read_number.nd (d_call (p_size_of Fx TB) o (a_cons (d_ifE (d_test o.hk (d_startswith (d_var 0) d_str)) (d_slice o.hk (d_var 0) (o_some d_int) o_none) (d_var 0)) a_nil)))
    (ss_cons (s_if (t_isN (d_var 1)) (ss_one (s_raise (k := 4) (n := 1) Fx.x_BadText o Fx.g_BadText (a_cons d_int a_nil))) ss_nil)
    (ss_one (s_ret (d_ifE (d_test o.hk (d_startswith (d_var 0) d_str)) (d_negO (GM.call (p_Ratio___neg__ Fx TB) o) o (d_var 1)) (d_var 1)))))))), hm, kp, hb, .nil, fun _ _ => rfl⟩
abbrev st__law_is_number : Stmt := (top 28)
theorem sc__law_is_number : FnScope ["value"] ["value"] (defScope st__law_is_number) := ⟨rfl, rfl, rfl, by decide +kernel, rfl, by decide +kernel, by decide +kernel⟩
def m__law_is_number : MS Pen :=
    (retS (andV (m1 (isiD false true true false false false [(6, false)]) (mVar 0)) (notV (m1 (isiD false true false false false false [(6, false)]) (mVar 0)))))
def f__law_is_number : List D → Pen → R (D × Pen) Pen := runF 1 m__law_is_number
theorem p__law_is_number (Fx : Fx K mg cls ca pa) (TB : TBs base mg ca pa) : GF PW w K mg base (dcL K cls (tabs pa)) 1 "_law_is_number" [] (spD (dcL K cls (tabs pa)) (penJ K) 1 f__law_is_number) := by
  obtain ⟨f, fd, hm, kp, Fu, hb⟩ := Fx.d__law_is_number
  exact ⟨f, fd, _, [], [], fnD_of Fu sc__law_is_number (fun _ => rfl) rfl (fun {cd A outer s H E so B} o => by
    unfold m__law_is_number
    exact (ss_one (s_ret (d_and o.hk (d_isi o.hk Fx.n_isinstance (.ty _) kt_int Fx.kb_int (d_var 0) (L2.pe_bltn rfl Fx.n_int (by decide +kernel) rfl)) (d_one (d_not o.hk (d_isi o.hk Fx.n_isinstance (.ty _) kt_bool Fx.kb_bool (d_var 0) (L2.pe_bltn rfl Fx.n_bool (by decide +kernel) rfl)))))))), hm, kp, hb, .nil, fun _ _ => rfl⟩
abbrev st__law_is_ratio : Stmt := (top 31)
theorem sc__law_is_ratio : FnScope ["value", "due"] ["value", "due"] (defScope st__law_is_ratio) := ⟨rfl, rfl, rfl, by decide +kernel, rfl, by decide +kernel, by decide +kernel⟩
def m__law_is_ratio : MS Pen :=
    (seqS (ifS (orT (notT (truM (m1 (isiD false false false false false false [(6, true)]) (mVar 0)))) (orT (notT (truM (callF 1 f__law_is_number [] (consM (m1 (fldD [(6, 0)]) (mVar 0)) (retM []))))) (notT (truM (callF 1 f__law_is_number [] (consM (m1 (fldD [(6, 1)]) (mVar 0)) (retM []))))))) (retS (retM (.bl false))) nextS)
    (retS (m2 eqD (tupM (consM (m1 (fldD [(6, 0)]) (mVar 0)) (consM (m1 (fldD [(6, 1)]) (mVar 0)) (retM [])))) (mVar 1))))
def f__law_is_ratio : List D → Pen → R (D × Pen) Pen := runF 2 m__law_is_ratio
theorem p__law_is_ratio (Fx : Fx K mg cls ca pa) (TB : TBs base mg ca pa) : GF PW w K mg base (dcL K cls (tabs pa)) 2 "_law_is_ratio" [] (spD (dcL K cls (tabs pa)) (penJ K) 2 f__law_is_ratio) := by
  obtain ⟨f, fd, hm, kp, Fu, hb⟩ := Fx.d__law_is_ratio
  exact ⟨f, fd, _, [], [], fnD_of Fu sc__law_is_ratio (fun _ => rfl) rfl (fun {cd A outer s H E so B} o => by
    unfold m__law_is_ratio
    exact (ss_cons (s_if (L2.PW.pt (t_or (t_not (d_test o.hk (d_isi o.hk Fx.n_isinstance (.own _) Fx.kt_Ratio Fx.kb_Ratio (d_var 0) (L2.pe_glob rfl Fx.g_Ratio rfl)))) (t_or (t_not (d_test o.hk (d_call (p__law_is_number Fx TB) o (a_cons (d_fld o.hk [(6, 0)] ⟨⟨Fx.k_Ratio, rfl⟩, trivial⟩ (d_var 0)) a_nil)))) (t_or1 (t_not (d_test o.hk (d_call (p__law_is_number Fx TB) o (a_cons (d_fld o.hk [(6, 1)] ⟨⟨Fx.k_Ratio, rfl⟩, trivial⟩ (d_var 0)) a_nil)))))))) (ss_one (s_ret d_bl)) ss_nil)
    (ss_one (s_ret (d_eq o.hk o.hu (d_tup (a_cons (d_fld o.hk [(6, 0)] ⟨⟨Fx.k_Ratio, rfl⟩, trivial⟩ (d_var 0)) (a_cons (d_fld o.hk [(6, 1)] ⟨⟨Fx.k_Ratio, rfl⟩, trivial⟩ (d_var 0)) a_nil))) (d_var 1)))))), hm, kp, hb, .nil, fun _ _ => rfl⟩
abbrev st__law_read_right : Stmt := (top 36)
theorem sc__law_read_right : FnScope ["text", "due", "told"] ["text"] (defScope st__law_read_right) := ⟨rfl, rfl, rfl, by decide +kernel, rfl, by decide +kernel, by decide +kernel⟩
def m__law_read_right : MS Pen :=
    (seqS (setS 1 (callF 1 f__law_read [] (consM (mVar 0) (retM []))))
    (seqS (setS 2 (lamM n__law_error_of m__law_error_of (callF 1 f_read_number [] (consM (mVar 0) (retM [])))))
    (seqS (ifS (truM (m1 (fun x => some (.bl (isNon x))) (mVar 1))) (retS (m2 eqD (mVar 2) (tupM (consM (retM (.str "text")) (consM (retM (.int 0)) (retM [])))))) nextS)
    (retS (andV (m2 eqD (m2 ixD (mVar 2) (retM (.int 0))) (retM (.str "ok"))) (callF 2 f__law_is_ratio [] (consM (m2 ixD (mVar 2) (retM (.int 1))) (consM (mVar 1) (retM [])))))))))
def f__law_read_right : List D → Pen → R (D × Pen) Pen := runF 3 m__law_read_right
theorem p__law_read_right (Fx : Fx K mg cls ca pa) (TB : TBs base mg ca pa) : GF PW w K mg base (dcL K cls (tabs pa)) 8 "_law_read_right" [] (spD (dcL K cls (tabs pa)) (penJ K) 1 f__law_read_right) := by
  obtain ⟨f, fd, hm, kp, Fu, hb⟩ := Fx.d__law_read_right
  exact ⟨f, fd, _, [], [], fnDc_of Fu sc__law_read_right (fun _ => rfl) rfl (fun {A outer s H E so B} o => by
    unfold m__law_read_right
    exact (ss_cons (s_set (i := 1) sc__law_read_right.nd (d_call (p__law_read Fx TB) o (a_cons (d_var 0) a_nil)))
    (ss_cons (s_set (i := 2) sc__law_read_right.nd (d_lam (k := 5) (p__law_error_of Fx TB) o (by decide) (by decide) TB.t__law_read_right rfl mem__law_read_right (tab_hu Fx.ndT mem__law_read_right) (LamX.lamS_by (show LamX.lamSB (defScope st__law_read_right) _ = true from by decide +kernel)) (fun _ => rfl) (fun A outer s H E f c B o3 => (d_call (p_read_number Fx TB) o3 (a_cons (d_var 0) a_nil)))))
    (ss_cons (s_if (t_isN (d_var 1)) (ss_one (s_ret (d_eq o.hk o.hu (d_var 2) (d_tup (a_cons d_str (a_cons d_int a_nil)))))) ss_nil)
    (ss_one (s_ret (d_and o.hk (d_eq o.hk o.hu (d_ix o.hk (d_var 2) d_int) d_str) (d_one (d_call (p__law_is_ratio Fx TB) o (a_cons (d_ix o.hk (d_var 2) d_int) (a_cons (d_var 1) a_nil))))))))))), hm, kp, hb, .nil, fun _ _ => rfl⟩
abbrev st__law_no_number : Stmt := (top 32)
theorem sc__law_no_number : FnScope ["pen"] ["pen"] (defScope st__law_no_number) := ⟨rfl, rfl, rfl, by decide +kernel, rfl, by decide +kernel, by decide +kernel⟩
def m__law_no_number : MS Pen :=
    (retS (callF 2 f__law_pick [] (consM (mVar 0) (consM (lstM (consM (retM .non) (consM (retM (.bl true)) (consM (retM (.str "1")) (consM (tupM (consM (retM (.int 1)) (retM []))) (consM (tupM (consM (retM (.int 1)) (consM (retM (.int 2)) (retM [])))) (retM []))))))) (retM [])))))
def f__law_no_number : List D → Pen → R (D × Pen) Pen := runF 1 m__law_no_number
theorem p__law_no_number (Fx : Fx K mg cls ca pa) (TB : TBs base mg ca pa) : GF PW w K mg base (dcL K cls (tabs pa)) 3 "_law_no_number" [] (spD (dcL K cls (tabs pa)) (penJ K) 1 f__law_no_number) := by
  obtain ⟨f, fd, hm, kp, Fu, hb⟩ := Fx.d__law_no_number
  exact ⟨f, fd, _, [], [], fnD_of Fu sc__law_no_number (fun _ => rfl) rfl (fun {cd A outer s H E so B} o => by
    unfold m__law_no_number
    exact (ss_one (s_ret (d_call (p__law_pick Fx TB) o (a_cons (d_var 0) (a_cons (d_lst (a_cons d_non (a_cons d_bl (a_cons d_str (a_cons (d_tup (a_cons d_int a_nil)) (a_cons (d_tup (a_cons d_int (a_cons d_int a_nil))) a_nil)))))) a_nil)))))), hm, kp, hb, .nil, fun _ _ => rfl⟩
abbrev st__law_pen : Stmt := (top 23)
theorem sc__law_pen : FnScope ["script", "fold", "cell"] ["script"] (defScope st__law_pen) := ⟨rfl, rfl, rfl, by decide +kernel, rfl, by decide +kernel, by decide +kernel⟩
theorem p__law_pen (Fx : Fx K mg cls ca pa) : GPen PW w K mg base (mkDC K cls flds (tabs pa) none) 1 "_law_pen" := by
  obtain ⟨f, fd, hm, kp, Fu, hb⟩ := Fx.d__law_pen
  exact ⟨f, fd, "script", fnPen_of (k := 0) (T := tabs pa) (cls := cls) (flds := flds) Fu sc__law_pen rfl pen_keeps (fun {cd A outer s H E B} o => ⟨(s_set (i := 1) sc__law_pen.nd d_int), (s_for o.ps o.cm (i_list o.hk (d_var 0)) (g_name (i := 2) sc__law_pen.nd) (ss_one (s_set (i := 1) sc__law_pen.nd (d_mod (d_intC Fx.n_int (d_add (d_mul (d_var 1) d_int) (d_var 2))) d_int)))), s_penRet rfl Fx.n_list⟩), hm, kp, hb⟩
abbrev st_law : Stmt := (top 38)
theorem sc_law : FnScope ["script", "pen", "lap", "one", "text", "times", "wide", "base", "odd"] ["script"] (defScope st_law) := ⟨rfl, rfl, rfl, by decide +kernel, rfl, by decide +kernel, by decide +kernel⟩
def m_law : MS Pen :=
    (seqS (forS (.nm 2) (itA rng1 (consM (retM (.int 6)) (retM []))) (seqS (setS 3 (callF 2 f__law_frac [] (consM (callF 1 f__law_int [] (consM (mVar 1) (retM []))) (consM (callF 2 f__law_pick [] (consM (mVar 1) (consM (lstM (consM (retM (.int 1)) (consM (retM (.int 2)) (consM (retM (.int 3)) (consM (m2 addD (retM (.int 1)) (callM absD (consM (callF 1 f__law_int [] (consM (mVar 1) (retM []))) (retM [])))) (retM [])))))) (retM [])))) (retM [])))))
    (seqS (setS 4 (callF 1 f_number_text [] (consM (callF 2 f__law_given [] (consM (mVar 1) (consM (mVar 3) (retM [])))) (retM []))))
    (seqS (ifS (orT (truM (m2 neD (mVar 4) (ifM (truM (m2 eqD (m2 ixD (mVar 3) (retM (.int 1))) (retM (.int 1)))) (callM strCD (consM (m2 ixD (mVar 3) (retM (.int 0))) (retM []))) (m2 addD (m2 addD (callM strCD (consM (m2 ixD (mVar 3) (retM (.int 0))) (retM []))) (retM (.str "/"))) (callM strCD (consM (m2 ixD (mVar 3) (retM (.int 1))) (retM []))))))) (notT (truM (m1 (isiD false false false true false false [(6, false)]) (mVar 4))))) (retS (retM (.bl false))) nextS)
    (seqS (setS 5 (m2 addD (retM (.int 1)) (callF 2 f__law_draw [] (consM (mVar 1) (consM (retM (.int 9)) (retM []))))))
    (seqS (setS 6 (m2 addD (m2 addD (callM strCD (consM (m2 mulD (m2 ixD (mVar 3) (retM (.int 0))) (mVar 5)) (retM []))) (retM (.str "/"))) (callM strCD (consM (m2 mulD (m2 ixD (mVar 3) (retM (.int 1))) (mVar 5)) (retM [])))))
    (forS (.nm 7) (itM lstOf (lstM (consM (mVar 4) (consM (mVar 6) (consM (callF 2 f__law_bent [] (consM (mVar 1) (consM (mVar 4) (retM [])))) (consM (callF 2 f__law_bent [] (consM (mVar 1) (consM (mVar 6) (retM [])))) (consM (callF 2 f__law_bent [] (consM (mVar 1) (consM (callF 2 f__law_bent [] (consM (mVar 1) (consM (mVar 6) (retM [])))) (retM [])))) (retM [])))))))) (ifS (notT (truM (callF 1 f__law_read_right [] (consM (mVar 7) (retM []))))) (retS (retM (.bl false))) nextS))))))))
    (seqS (forS (.nm 4) (itM lstOf (lstM (consM (retM (.str "")) (consM (retM (.str "-")) (consM (retM (.str "/")) (consM (retM (.str "1/0")) (consM (retM (.str "-0")) (consM (retM (.str "00")) (consM (retM (.str "0/1")) (consM (retM (.str "-0/7")) (consM (retM (.str "+1")) (consM (retM (.str "1/-2")) (consM (retM (.str "--1")) (consM (retM (.str "1 ")) (consM (retM (.str " 1")) (consM (retM (.str "1/2/3")) (consM (retM (.str "1.5")) (consM (retM (.str "1e3")) (consM (retM (.str "x")) (consM (retM (.str "1/01")) (consM (retM (.str "01/2")) (retM [])))))))))))))))))))))) (ifS (notT (truM (callF 1 f__law_read_right [] (consM (mVar 4) (retM []))))) (retS (retM (.bl false))) nextS))
    (seqS (setS 8 (callF 2 f__law_pick [] (consM (mVar 1) (consM (lstM (consM (retM .non) (consM (retM (.int 7)) (consM (retM (.bl true)) (consM (tupM (retM [])) (consM (tupM (consM (retM (.str "1")) (retM []))) (consM (makeF 6 2 f_Ratio___init__ [] (consM (retM (.int 1)) (consM (retM (.int 2)) (retM [])))) (retM [])))))))) (retM [])))))
    (seqS (ifS (truM (m2 neD (lamM n__law_error_of m__law_error_of (callF 1 f_read_number [] (consM (mVar 8) (retM [])))) (tupM (consM (retM (.str "text")) (consM (retM .non) (retM [])))))) (retS (retM (.bl false))) nextS)
    (seqS (setS 8 (callF 1 f__law_no_number [] (consM (mVar 1) (retM []))))
    (retS (m2 eqD (lamM n__law_error_of m__law_error_of (callF 1 f_number_text [] (consM (mVar 8) (retM [])))) (tupM (consM (retM (.str "item")) (consM (callM reprD (consM (mVar 8) (retM []))) (retM [])))))))))))
theorem p_law (Fx : Fx K mg cls ca pa) (TB : TBs base mg ca pa) {f : Addr} {fd : FuncData} (Fu : FunA K "law" "law" st_law (.ref ca.law) f fd) {good : List Int → Prop} (hm : ∀ cells, good cells → lawTrue 8 1 m_law cells) : FnD PW w K mg base 9 f fd ["script"] (spLaw K (tabs pa) good) :=
  fnLaw_of (i := 1) (k := 8) (cls := cls) (flds := flds) Fu sc_law rfl (p__law_pen Fx) (by decide) hm rfl rfl rfl rfl rfl (by decide) (by decide) (by decide) (fun {A outer s H E so B} o => by
    unfold m_law
    exact (ss_cons (s_for o.ps o.cm (i_range1 Fx.n_range (a_cons d_int a_nil)) (g_name (i := 2) sc_law.nd) (ss_cons (s_set (i := 3) sc_law.nd (d_call (p__law_frac Fx TB) o (a_cons (d_call (p__law_int Fx TB) o (a_cons (d_var 1) a_nil)) (a_cons (d_call (p__law_pick Fx TB) o (a_cons (d_var 1) (a_cons (d_lst (a_cons d_int (a_cons d_int (a_cons d_int (a_cons (d_add d_int (d_abs Fx.n_abs (d_call (p__law_int Fx TB) o (a_cons (d_var 1) a_nil)))) a_nil))))) a_nil))) a_nil))))
    (ss_cons (s_set (i := 4) sc_law.nd (d_call (p_number_text Fx TB) o (a_cons (d_call (p__law_given Fx TB) o (a_cons (d_var 1) (a_cons (d_var 3) a_nil))) a_nil)))
    (ss_cons (s_if (L2.PW.pt (t_or (t_ne o.hk o.hu (d_var 4) (d_ifE (t_eq o.hk o.hu (d_ix o.hk (d_var 3) d_int) d_int) (d_strC Fx.n_str (d_ix o.hk (d_var 3) d_int)) (d_add (d_add (d_strC Fx.n_str (d_ix o.hk (d_var 3) d_int)) d_str) (d_strC Fx.n_str (d_ix o.hk (d_var 3) d_int))))) (t_or1 (t_not (d_test o.hk (d_isi o.hk Fx.n_isinstance (.ty _) kt_str Fx.kb_str (d_var 4) (L2.pe_bltn rfl Fx.n_str (by decide +kernel) rfl))))))) (ss_one (s_ret d_bl)) ss_nil)
    (ss_cons (s_set (i := 5) sc_law.nd (d_add d_int (d_call (p__law_draw Fx TB) o (a_cons (d_var 1) (a_cons d_int a_nil)))))
    (ss_cons (s_set (i := 6) sc_law.nd (d_add (d_add (d_strC Fx.n_str (d_mul (d_ix o.hk (d_var 3) d_int) (d_var 5))) d_str) (d_strC Fx.n_str (d_mul (d_ix o.hk (d_var 3) d_int) (d_var 5)))))
    (ss_one (s_for o.ps o.cm (i_list o.hk (d_lst (a_cons (d_var 4) (a_cons (d_var 6) (a_cons (d_call (p__law_bent Fx TB) o (a_cons (d_var 1) (a_cons (d_var 4) a_nil))) (a_cons (d_call (p__law_bent Fx TB) o (a_cons (d_var 1) (a_cons (d_var 6) a_nil))) (a_cons (d_call (p__law_bent Fx TB) o (a_cons (d_var 1) (a_cons (d_call (p__law_bent Fx TB) o (a_cons (d_var 1) (a_cons (d_var 6) a_nil))) a_nil))) a_nil))))))) (g_name (i := 7) sc_law.nd) (ss_one (s_if (t_not (d_test o.hk (d_call (p__law_read_right Fx TB) o (a_cons (d_var 7) a_nil)))) (ss_one (s_ret d_bl)) ss_nil))))))))))
    (ss_cons (s_for o.ps o.cm (i_list o.hk (d_lst (a_cons d_str (a_cons d_str (a_cons d_str (a_cons d_str (a_cons d_str (a_cons d_str (a_cons d_str (a_cons d_str (a_cons d_str (a_cons d_str (a_cons d_str (a_cons d_str (a_cons d_str (a_cons d_str (a_cons d_str (a_cons d_str (a_cons d_str (a_cons d_str (a_cons d_str a_nil))))))))))))))))))))) (g_name (i := 4) sc_law.nd) (ss_one (s_if (t_not (d_test o.hk (d_call (p__law_read_right Fx TB) o (a_cons (d_var 4) a_nil)))) (ss_one (s_ret d_bl)) ss_nil)))
    (ss_cons (s_set (i := 8) sc_law.nd (d_call (p__law_pick Fx TB) o (a_cons (d_var 1) (a_cons (d_lst (a_cons d_non (a_cons d_int (a_cons d_bl (a_cons (d_tup a_nil) (a_cons (d_tup (a_cons d_str a_nil)) (a_cons (d_make (p_Ratio___init___2 Fx TB) o (a_cons d_int (a_cons d_int a_nil))) a_nil))))))) a_nil))))
    (ss_cons (s_if (t_ne o.hk o.hu (d_lam (k := 5) (p__law_error_of Fx TB) o (by decide) (by decide) TB.t_law rfl mem_law (tab_hu Fx.ndT mem_law) (LamX.lamS_by (show LamX.lamSB (defScope st_law) _ = true from by decide +kernel)) (fun _ => rfl) (fun A outer s H E f c B o3 => (d_call (p_read_number Fx TB) o3 (a_cons (d_var 8) a_nil)))) (d_tup (a_cons d_str (a_cons d_non a_nil)))) (ss_one (s_ret d_bl)) ss_nil)
    (ss_cons (s_set (i := 8) sc_law.nd (d_call (p__law_no_number Fx TB) o (a_cons (d_var 1) a_nil)))
    (ss_one (s_ret (d_eq o.hk o.hu (d_lam (k := 6) (p__law_error_of Fx TB) o (by decide) (by decide) TB.t_law rfl mem_law (tab_hu Fx.ndT mem_law) (LamX.lamS_by (show LamX.lamSB (defScope st_law) _ = true from by decide +kernel)) (fun _ => rfl) (fun A outer s H E f c B o3 => (d_call (p_number_text Fx TB) o3 (a_cons (d_var 8) a_nil)))) (d_tup (a_cons d_str (a_cons (d_repr o.hk o.gd o.hu Fx.n_repr (d_var 8)) a_nil))))))))))))
end
end K05
set_option Elab.async false
set_option linter.all false
set_option maxRecDepth 100000
set_option maxHeartbeats 4000000
namespace K05
open PySem PySem.Spec PyProof.Rows L2 DL
def hdB (vs : Array Value) (c P : Addr) : Bool :=
  match (vs[11]? : Option Value), vs.getD 18 .none, vs.getD 7 .none, vs.getD 9 .none, vs.getD 10 .none with
  | some (.ref q), .str _ _, .int _ _, .bool _, .int _ _ => q == P && c != P
  | _, _, _, _, _ => false
theorem hd_is {K : PySem.W.Frag} {c P : Addr} {od : Option Addr} {vs : Array Value} {os : Array (Option Value)} (kc : K.lookup c = some ⟨.type "code", od, .fields vs, os⟩) (kh : hdB vs c P = true) :
    PySem.W.codeHdIn K c P = true := by
  unfold PySem.W.codeHdIn
  rw [kc]
  unfold hdB at kh
  split at kh
  · rename_i h1 h2 h3 h4 h5
    simp only [Bool.and_eq_true] at kh
    simp only [h1, h2, h3, h4, h5, kh.1, kh.2, Bool.and_self]
  · cases kh
/-- the facts of the written part make the promise of the law -/
theorem law_mk {w : World} {K : PySem.W.Frag} {mg : Str → Option Value} {h : Heap} {fa P__law_read_right P_law : Addr} {good : List Int → Prop} (hgood : ∀ cells, good cells → lawTrue 8 1 m_law cells) (X : K.In h) (G : h.Ns mainGlobals mg) (hfa : mg "law" = some (.ref fa))
    {c0 c1 c2 c3 c4 c5 c6 : Addr} {tk_FIGURES : Tok} {nm1 qn1 : Str} {N1 : Addr} {bs1 sub1 : List Value} {sn1 : List Str} {ab1 : Bool} {col1 : Option Bool} {dd1 : Option Addr} {q0_1 q1_1 q2_1 q3_1 q5_1 : Option Value} {fi1 cc1 cda1 : Addr} {oci1 kVi1 doci1 pmi1 cti1 cli1 ccli1 : Value} {odi1 ani1 cldi1 cddi1 : Option Addr} {osli1 csli1 ccsi1 : Array (Option Value)} {vsi1 : Array Value} {fli1 : Str} {tfi1 : Tok} {nm2 qn2 : Str} {N2 : Addr} {bs2 sub2 : List Value} {sn2 : List Str} {ab2 : Bool} {col2 : Option Bool} {dd2 : Option Addr} {q0_2 q1_2 q2_2 q3_2 q5_2 : Option Value} {fi2 cc2 cda2 : Addr} {oci2 kVi2 doci2 pmi2 cti2 cli2 ccli2 : Value} {odi2 ani2 cldi2 cddi2 : Option Addr} {osli2 csli2 ccsi2 : Array (Option Value)} {vsi2 : Array Value} {fli2 : Str} {tfi2 : Tok} {nm3 qn3 : Str} {N3 : Addr} {bs3 sub3 : List Value} {sn3 : List Str} {ab3 : Bool} {col3 : Option Bool} {dd3 : Option Addr} {q0_3 q1_3 q2_3 q3_3 q5_3 : Option Value} {fi3 cc3 cda3 : Addr} {oci3 kVi3 doci3 pmi3 cti3 cli3 ccli3 : Value} {odi3 ani3 cldi3 cddi3 : Option Addr} {osli3 csli3 ccsi3 : Array (Option Value)} {vsi3 : Array Value} {fli3 : Str} {tfi3 : Tok} {nm4 qn4 : Str} {N4 : Addr} {bs4 sub4 : List Value} {sn4 : List Str} {ab4 : Bool} {col4 : Option Bool} {dd4 : Option Addr} {q0_4 q1_4 q2_4 q3_4 q5_4 : Option Value} {fi4 cc4 cda4 : Addr} {oci4 kVi4 doci4 pmi4 cti4 cli4 ccli4 : Value} {odi4 ani4 cldi4 cddi4 : Option Addr} {osli4 csli4 ccsi4 : Array (Option Value)} {vsi4 : Array Value} {fli4 : Str} {tfi4 : Tok} {nm5 qn5 : Str} {N5 : Addr} {bs5 sub5 : List Value} {sn5 : List Str} {ab5 : Bool} {col5 : Option Bool} {dd5 : Option Addr} {q0_5 q1_5 q2_5 q3_5 q5_5 : Option Value} {fi5 cc5 cda5 : Addr} {oci5 kVi5 doci5 pmi5 cti5 cli5 ccli5 : Value} {odi5 ani5 cldi5 cddi5 : Option Addr} {osli5 csli5 ccsi5 : Array (Option Value)} {vsi5 : Array Value} {fli5 : Str} {tfi5 : Tok} {f__law_gcd : Addr} {oc__law_gcd kV__law_gcd doc__law_gcd pm__law_gcd ct__law_gcd : Value} {od__law_gcd an__law_gcd : Option Addr} {osl__law_gcd : Array (Option Value)} {cd__law_gcd : Value} {f__law_frac : Addr} {oc__law_frac kV__law_frac doc__law_frac pm__law_frac ct__law_frac : Value} {od__law_frac an__law_frac : Option Addr} {osl__law_frac : Array (Option Value)} {cd__law_frac : Value} {f__law_draw : Addr} {oc__law_draw kV__law_draw doc__law_draw pm__law_draw ct__law_draw : Value} {od__law_draw an__law_draw : Option Addr} {osl__law_draw : Array (Option Value)} {cd__law_draw : Value} {f__law_pick : Addr} {oc__law_pick kV__law_pick doc__law_pick pm__law_pick ct__law_pick : Value} {od__law_pick an__law_pick : Option Addr} {osl__law_pick : Array (Option Value)} {cd__law_pick : Value} {f__law_int : Addr} {oc__law_int kV__law_int doc__law_int pm__law_int ct__law_int : Value} {od__law_int an__law_int : Option Addr} {osl__law_int : Array (Option Value)} {cd__law_int : Value} {f_is_integer : Addr} {oc_is_integer kV_is_integer doc_is_integer pm_is_integer ct_is_integer : Value} {od_is_integer an_is_integer : Option Addr} {osl_is_integer : Array (Option Value)} {cd_is_integer : Value} {f_is_number : Addr} {oc_is_number kV_is_number doc_is_number pm_is_number ct_is_number : Value} {od_is_number an_is_number : Option Addr} {osl_is_number : Array (Option Value)} {cd_is_number : Value} {f_Ratio___init__ : Addr} {oc_Ratio___init__ kV_Ratio___init__ doc_Ratio___init__ pm_Ratio___init__ ct_Ratio___init__ : Value} {od_Ratio___init__ an_Ratio___init__ : Option Addr} {osl_Ratio___init__ : Array (Option Value)} {cd_Ratio___init__ : Value} {td_Ratio___init__ : Addr} {odT_Ratio___init__ : Option Addr} {cT_Ratio___init__ : Value} {nT_Ratio___init__ : Nat} {slT_Ratio___init__ : Array (Option Value)} {tk_Ratio___init___0 : Tok} {f_plain_ratio : Addr} {oc_plain_ratio kV_plain_ratio doc_plain_ratio pm_plain_ratio ct_plain_ratio : Value} {od_plain_ratio an_plain_ratio : Option Addr} {osl_plain_ratio : Array (Option Value)} {cd_plain_ratio : Value} {f_ratio_of : Addr} {oc_ratio_of kV_ratio_of doc_ratio_of pm_ratio_of ct_ratio_of : Value} {od_ratio_of an_ratio_of : Option Addr} {osl_ratio_of : Array (Option Value)} {cd_ratio_of : Value} {f_Ratio___str__ : Addr} {oc_Ratio___str__ kV_Ratio___str__ doc_Ratio___str__ pm_Ratio___str__ ct_Ratio___str__ : Value} {od_Ratio___str__ an_Ratio___str__ : Option Addr} {osl_Ratio___str__ : Array (Option Value)} {cd_Ratio___str__ : Value} {f_number_text : Addr} {oc_number_text kV_number_text doc_number_text pm_number_text ct_number_text : Value} {od_number_text an_number_text : Option Addr} {osl_number_text : Array (Option Value)} {cd_number_text : Value} {f__law_given : Addr} {oc__law_given kV__law_given doc__law_given pm__law_given ct__law_given : Value} {od__law_given an__law_given : Option Addr} {osl__law_given : Array (Option Value)} {cd__law_given : Value} {f__law_bent : Addr} {oc__law_bent kV__law_bent doc__law_bent pm__law_bent ct__law_bent : Value} {od__law_bent an__law_bent : Option Addr} {osl__law_bent : Array (Option Value)} {cd__law_bent : Value} {f__law_count : Addr} {oc__law_count kV__law_count doc__law_count pm__law_count ct__law_count : Value} {od__law_count an__law_count : Option Addr} {osl__law_count : Array (Option Value)} {cd__law_count : Value} {f__law_read : Addr} {oc__law_read kV__law_read doc__law_read pm__law_read ct__law_read : Value} {od__law_read an__law_read : Option Addr} {osl__law_read : Array (Option Value)} {cd__law_read : Value} {f__law_error_of : Addr} {oc__law_error_of kV__law_error_of doc__law_error_of pm__law_error_of ct__law_error_of : Value} {od__law_error_of an__law_error_of : Option Addr} {osl__law_error_of : Array (Option Value)} {cd__law_error_of : Value} {f_count_of : Addr} {oc_count_of kV_count_of doc_count_of pm_count_of ct_count_of : Value} {od_count_of an_count_of : Option Addr} {osl_count_of : Array (Option Value)} {cd_count_of : Value} {f_size_of : Addr} {oc_size_of kV_size_of doc_size_of pm_size_of ct_size_of : Value} {od_size_of an_size_of : Option Addr} {osl_size_of : Array (Option Value)} {cd_size_of : Value} {f_Ratio___neg__ : Addr} {oc_Ratio___neg__ kV_Ratio___neg__ doc_Ratio___neg__ pm_Ratio___neg__ ct_Ratio___neg__ : Value} {od_Ratio___neg__ an_Ratio___neg__ : Option Addr} {osl_Ratio___neg__ : Array (Option Value)} {cd_Ratio___neg__ : Value} {f_read_number : Addr} {oc_read_number kV_read_number doc_read_number pm_read_number ct_read_number : Value} {od_read_number an_read_number : Option Addr} {osl_read_number : Array (Option Value)} {cd_read_number : Value} {f__law_is_number : Addr} {oc__law_is_number kV__law_is_number doc__law_is_number pm__law_is_number ct__law_is_number : Value} {od__law_is_number an__law_is_number : Option Addr} {osl__law_is_number : Array (Option Value)} {cd__law_is_number : Value} {f__law_is_ratio : Addr} {oc__law_is_ratio kV__law_is_ratio doc__law_is_ratio pm__law_is_ratio ct__law_is_ratio : Value} {od__law_is_ratio an__law_is_ratio : Option Addr} {osl__law_is_ratio : Array (Option Value)} {cd__law_is_ratio : Value} {f__law_read_right : Addr} {oc__law_read_right kV__law_read_right doc__law_read_right pm__law_read_right ct__law_read_right : Value} {od__law_read_right an__law_read_right : Option Addr} {osl__law_read_right : Array (Option Value)} {cd__law_read_right : Addr} {f__law_no_number : Addr} {oc__law_no_number kV__law_no_number doc__law_no_number pm__law_no_number ct__law_no_number : Value} {od__law_no_number an__law_no_number : Option Addr} {osl__law_no_number : Array (Option Value)} {cd__law_no_number : Value} {f__law_pen : Addr} {oc__law_pen kV__law_pen doc__law_pen pm__law_pen ct__law_pen : Value} {od__law_pen an__law_pen : Option Addr} {osl__law_pen : Array (Option Value)} {cd__law_pen : Value} {f_law : Addr} {oc_law kV_law doc_law pm_law ct_law : Value} {od_law an_law : Option Addr} {osl_law : Array (Option Value)} {cd_law : Addr} {odc__law_read_right : Option Addr} {vsc__law_read_right : Array Value} {osc__law_read_right : Array (Option Value)} {odc_law : Option Addr} {vsc_law : Array Value} {osc_law : Array (Option Value)}
    (g0 : PySem.W.nsIn K mainGlobals "LeverError" = some (some (.ref c0)))
    (g1 : PySem.W.nsIn K mainGlobals "BadNumber" = some (some (.ref c1)))
    (g2 : PySem.W.nsIn K mainGlobals "BadRow" = some (some (.ref c2)))
    (g3 : PySem.W.nsIn K mainGlobals "BadItem" = some (some (.ref c3)))
    (g4 : PySem.W.nsIn K mainGlobals "BadText" = some (some (.ref c4)))
    (g5 : PySem.W.nsIn K mainGlobals "NoRoot" = some (some (.ref c5)))
    (g6 : PySem.W.nsIn K mainGlobals "Ratio" = some (some (.ref c6)))
    (n_abs : PySem.W.nsIn K mainGlobals "abs" = some none)
    (n_any : PySem.W.nsIn K mainGlobals "any" = some none)
    (n_bool : PySem.W.nsIn K mainGlobals "bool" = some none)
    (n_gcd : PySem.W.nsIn K mainGlobals "gcd" = some (some (.builtin "math.gcd")))
    (n_int : PySem.W.nsIn K mainGlobals "int" = some none)
    (n_isinstance : PySem.W.nsIn K mainGlobals "isinstance" = some none)
    (n_len : PySem.W.nsIn K mainGlobals "len" = some none)
    (n_list : PySem.W.nsIn K mainGlobals "list" = some none)
    (n_range : PySem.W.nsIn K mainGlobals "range" = some none)
    (n_repr : PySem.W.nsIn K mainGlobals "repr" = some none)
    (n_str : PySem.W.nsIn K mainGlobals "str" = some none)
    (v_FIGURES : PySem.W.nsIn K mainGlobals "FIGURES" = some (some (.str "0123456789" tk_FIGURES)))
    (ho : PySem.W.nsIn K cStatics "thirdparty.any" = some none)
    (hsu : PySem.W.nsIn K mainGlobals "super" = some none)
    (x1_1 : K.lookup c1 = some (excClassObj nm1 qn1 c1 N1 bs1 [.ref c0, .type "ValueError", .type "Exception", .type "BaseException", .type "object"] true sn1 sub1 ab1 col1 dd1 q0_1 q1_1 q2_1 q3_1 q5_1 "ValueError.__new__"))
    (x2_1 : PySem.W.findIn K (.ref c1) "__setattr__" = some (some (.builtin "object.__setattr__")))
    (x3_1 : PySem.W.subIn K (.ref c1) (.type "BaseException") = some true)
    (x4_1 : PySem.W.typeIn K (.ref c1) = some (.type "type"))
    (x5_1 : PySem.W.keepIn K (.ref c1) = true)
    (x6_1 : PySem.W.findIn K (.ref c1) "__getattribute__" = some (some (.builtin "BaseException.__getattribute__")))
    (x7_1 : PySem.W.findIn K (.ref c1) "__getattr__" = some none)
    (x8_1 : PySem.W.hasDictIn K c1 = true)
    (x9_1_what : PySem.W.findIn K (.ref c1) "what" = some none)
    (x9_1_value : PySem.W.findIn K (.ref c1) "value" = some none)
    (xa_1 : PySem.W.subIn K (.ref c1) (.type "ValueError") = some true)
    (xb_1 : PySem.W.mroIn K c1 (.ref c1) = some true)
    (xc_1 : PySem.W.ks_superIn K c1 c1 "__init__" = some (some (.builtin "ValueError.__init__")))
    (xd_1 : PySem.W.findIn K (.ref c1) "__init__" = some (some (.ref fi1)))
    (xe_1 : PySem.W.typeIn K (.ref fi1) = some (.type "function"))
    (xf_1 : K.lookup fi1 = some ⟨oci1, odi1, .func (PySem.W.ksFn "__init__" "BadNumber.__init__" (defArgs (cst 4 0)) (defBody (cst 4 0)) (defScope (cst 4 0)) .none kVi1 doci1 pmi1 ani1 (.ref cda1) cti1 cc1), osli1⟩)
    (xg_1 : PySem.W.codeIn K (.ref cda1) "BadNumber.__init__" = true)
    (xh_1 : K.lookup cc1 = some ⟨cli1, cldi1, .cell (some (.ref c1)), csli1⟩)
    (xi_1 : K.lookup cda1 = some ⟨ccli1, cddi1, .fields vsi1, ccsi1⟩)
    (xj_1 : vsi1[2]? = some (.str fli1 tfi1))
    (xk_1 : ((PW.main.file : Str) == fli1) = true)
    (x1_2 : K.lookup c2 = some (excClassObj nm2 qn2 c2 N2 bs2 [.ref c0, .type "ValueError", .type "Exception", .type "BaseException", .type "object"] true sn2 sub2 ab2 col2 dd2 q0_2 q1_2 q2_2 q3_2 q5_2 "ValueError.__new__"))
    (x2_2 : PySem.W.findIn K (.ref c2) "__setattr__" = some (some (.builtin "object.__setattr__")))
    (x3_2 : PySem.W.subIn K (.ref c2) (.type "BaseException") = some true)
    (x4_2 : PySem.W.typeIn K (.ref c2) = some (.type "type"))
    (x5_2 : PySem.W.keepIn K (.ref c2) = true)
    (x6_2 : PySem.W.findIn K (.ref c2) "__getattribute__" = some (some (.builtin "BaseException.__getattribute__")))
    (x7_2 : PySem.W.findIn K (.ref c2) "__getattr__" = some none)
    (x8_2 : PySem.W.hasDictIn K c2 = true)
    (x9_2_value : PySem.W.findIn K (.ref c2) "value" = some none)
    (xa_2 : PySem.W.subIn K (.ref c2) (.type "ValueError") = some true)
    (xb_2 : PySem.W.mroIn K c2 (.ref c2) = some true)
    (xc_2 : PySem.W.ks_superIn K c2 c2 "__init__" = some (some (.builtin "ValueError.__init__")))
    (xd_2 : PySem.W.findIn K (.ref c2) "__init__" = some (some (.ref fi2)))
    (xe_2 : PySem.W.typeIn K (.ref fi2) = some (.type "function"))
    (xf_2 : K.lookup fi2 = some ⟨oci2, odi2, .func (PySem.W.ksFn "__init__" "BadRow.__init__" (defArgs (cst 5 0)) (defBody (cst 5 0)) (defScope (cst 5 0)) .none kVi2 doci2 pmi2 ani2 (.ref cda2) cti2 cc2), osli2⟩)
    (xg_2 : PySem.W.codeIn K (.ref cda2) "BadRow.__init__" = true)
    (xh_2 : K.lookup cc2 = some ⟨cli2, cldi2, .cell (some (.ref c2)), csli2⟩)
    (xi_2 : K.lookup cda2 = some ⟨ccli2, cddi2, .fields vsi2, ccsi2⟩)
    (xj_2 : vsi2[2]? = some (.str fli2 tfi2))
    (xk_2 : ((PW.main.file : Str) == fli2) = true)
    (x1_3 : K.lookup c3 = some (excClassObj nm3 qn3 c3 N3 bs3 [.ref c0, .type "ValueError", .type "Exception", .type "BaseException", .type "object"] true sn3 sub3 ab3 col3 dd3 q0_3 q1_3 q2_3 q3_3 q5_3 "ValueError.__new__"))
    (x2_3 : PySem.W.findIn K (.ref c3) "__setattr__" = some (some (.builtin "object.__setattr__")))
    (x3_3 : PySem.W.subIn K (.ref c3) (.type "BaseException") = some true)
    (x4_3 : PySem.W.typeIn K (.ref c3) = some (.type "type"))
    (x5_3 : PySem.W.keepIn K (.ref c3) = true)
    (x6_3 : PySem.W.findIn K (.ref c3) "__getattribute__" = some (some (.builtin "BaseException.__getattribute__")))
    (x7_3 : PySem.W.findIn K (.ref c3) "__getattr__" = some none)
    (x8_3 : PySem.W.hasDictIn K c3 = true)
    (x9_3_value : PySem.W.findIn K (.ref c3) "value" = some none)
    (xa_3 : PySem.W.subIn K (.ref c3) (.type "ValueError") = some true)
    (xb_3 : PySem.W.mroIn K c3 (.ref c3) = some true)
    (xc_3 : PySem.W.ks_superIn K c3 c3 "__init__" = some (some (.builtin "ValueError.__init__")))
    (xd_3 : PySem.W.findIn K (.ref c3) "__init__" = some (some (.ref fi3)))
    (xe_3 : PySem.W.typeIn K (.ref fi3) = some (.type "function"))
    (xf_3 : K.lookup fi3 = some ⟨oci3, odi3, .func (PySem.W.ksFn "__init__" "BadItem.__init__" (defArgs (cst 6 0)) (defBody (cst 6 0)) (defScope (cst 6 0)) .none kVi3 doci3 pmi3 ani3 (.ref cda3) cti3 cc3), osli3⟩)
    (xg_3 : PySem.W.codeIn K (.ref cda3) "BadItem.__init__" = true)
    (xh_3 : K.lookup cc3 = some ⟨cli3, cldi3, .cell (some (.ref c3)), csli3⟩)
    (xi_3 : K.lookup cda3 = some ⟨ccli3, cddi3, .fields vsi3, ccsi3⟩)
    (xj_3 : vsi3[2]? = some (.str fli3 tfi3))
    (xk_3 : ((PW.main.file : Str) == fli3) = true)
    (x1_4 : K.lookup c4 = some (excClassObj nm4 qn4 c4 N4 bs4 [.ref c0, .type "ValueError", .type "Exception", .type "BaseException", .type "object"] true sn4 sub4 ab4 col4 dd4 q0_4 q1_4 q2_4 q3_4 q5_4 "ValueError.__new__"))
    (x2_4 : PySem.W.findIn K (.ref c4) "__setattr__" = some (some (.builtin "object.__setattr__")))
    (x3_4 : PySem.W.subIn K (.ref c4) (.type "BaseException") = some true)
    (x4_4 : PySem.W.typeIn K (.ref c4) = some (.type "type"))
    (x5_4 : PySem.W.keepIn K (.ref c4) = true)
    (x6_4 : PySem.W.findIn K (.ref c4) "__getattribute__" = some (some (.builtin "BaseException.__getattribute__")))
    (x7_4 : PySem.W.findIn K (.ref c4) "__getattr__" = some none)
    (x8_4 : PySem.W.hasDictIn K c4 = true)
    (x9_4_index : PySem.W.findIn K (.ref c4) "index" = some none)
    (xa_4 : PySem.W.subIn K (.ref c4) (.type "ValueError") = some true)
    (xb_4 : PySem.W.mroIn K c4 (.ref c4) = some true)
    (xc_4 : PySem.W.ks_superIn K c4 c4 "__init__" = some (some (.builtin "ValueError.__init__")))
    (xd_4 : PySem.W.findIn K (.ref c4) "__init__" = some (some (.ref fi4)))
    (xe_4 : PySem.W.typeIn K (.ref fi4) = some (.type "function"))
    (xf_4 : K.lookup fi4 = some ⟨oci4, odi4, .func (PySem.W.ksFn "__init__" "BadText.__init__" (defArgs (cst 7 0)) (defBody (cst 7 0)) (defScope (cst 7 0)) .none kVi4 doci4 pmi4 ani4 (.ref cda4) cti4 cc4), osli4⟩)
    (xg_4 : PySem.W.codeIn K (.ref cda4) "BadText.__init__" = true)
    (xh_4 : K.lookup cc4 = some ⟨cli4, cldi4, .cell (some (.ref c4)), csli4⟩)
    (xi_4 : K.lookup cda4 = some ⟨ccli4, cddi4, .fields vsi4, ccsi4⟩)
    (xj_4 : vsi4[2]? = some (.str fli4 tfi4))
    (xk_4 : ((PW.main.file : Str) == fli4) = true)
    (x1_5 : K.lookup c5 = some (excClassObj nm5 qn5 c5 N5 bs5 [.ref c0, .type "ValueError", .type "Exception", .type "BaseException", .type "object"] true sn5 sub5 ab5 col5 dd5 q0_5 q1_5 q2_5 q3_5 q5_5 "ValueError.__new__"))
    (x2_5 : PySem.W.findIn K (.ref c5) "__setattr__" = some (some (.builtin "object.__setattr__")))
    (x3_5 : PySem.W.subIn K (.ref c5) (.type "BaseException") = some true)
    (x4_5 : PySem.W.typeIn K (.ref c5) = some (.type "type"))
    (x5_5 : PySem.W.keepIn K (.ref c5) = true)
    (x6_5 : PySem.W.findIn K (.ref c5) "__getattribute__" = some (some (.builtin "BaseException.__getattribute__")))
    (x7_5 : PySem.W.findIn K (.ref c5) "__getattr__" = some none)
    (x8_5 : PySem.W.hasDictIn K c5 = true)
    (x9_5_index : PySem.W.findIn K (.ref c5) "index" = some none)
    (xa_5 : PySem.W.subIn K (.ref c5) (.type "ValueError") = some true)
    (xb_5 : PySem.W.mroIn K c5 (.ref c5) = some true)
    (xc_5 : PySem.W.ks_superIn K c5 c5 "__init__" = some (some (.builtin "ValueError.__init__")))
    (xd_5 : PySem.W.findIn K (.ref c5) "__init__" = some (some (.ref fi5)))
    (xe_5 : PySem.W.typeIn K (.ref fi5) = some (.type "function"))
    (xf_5 : K.lookup fi5 = some ⟨oci5, odi5, .func (PySem.W.ksFn "__init__" "NoRoot.__init__" (defArgs (cst 8 0)) (defBody (cst 8 0)) (defScope (cst 8 0)) .none kVi5 doci5 pmi5 ani5 (.ref cda5) cti5 cc5), osli5⟩)
    (xg_5 : PySem.W.codeIn K (.ref cda5) "NoRoot.__init__" = true)
    (xh_5 : K.lookup cc5 = some ⟨cli5, cldi5, .cell (some (.ref c5)), csli5⟩)
    (xi_5 : K.lookup cda5 = some ⟨ccli5, cddi5, .fields vsi5, ccsi5⟩)
    (xj_5 : vsi5[2]? = some (.str fli5 tfi5))
    (xk_5 : ((PW.main.file : Str) == fli5) = true)
    (r1_6 : PySem.W.plainGet K c6 Str.empty = true)
    (r2_6 : PySem.W.hasDictIn K c6 = true)
    (r3_6 : PySem.W.plainOver K c6 = true)
    (r4_6 : PySem.W.findIn K (.ref c6) "__setattr__" = some (some (.builtin "object.__setattr__")))
    (r5_6_top : PySem.W.findIn K (.ref c6) "top" = some none)
    (r5_6_bottom : PySem.W.findIn K (.ref c6) "bottom" = some none)
    (r5_6_sign : PySem.W.findIn K (.ref c6) "sign" = some none)
    (r5_6_whole : PySem.W.findIn K (.ref c6) "whole" = some none)
    (r6_6 : PySem.W.findIn K (.ref c6) "__class__" = some (some (.builtin "object.__class__")))
    (r7_6 : PySem.W.specialIn K (.builtin "object.__class__") "__get__" = some (some (.builtin "getset_descriptor.__get__")))
    (r8_6 : PySem.W.takesIn K (.builtin "object.__class__") = some true)
    (r9_6 : PySem.W.mroIn K c6 (.type "object") = some true)
    (ra_6 : PySem.W.makesIn K c6 = true)
    (rb_6 : PySem.W.keepIn K (.ref c6) = true)
    (o_bool_6 : PySem.W.kitOne K (.ref c6) (.type "bool") = some false)
    (o_int_6 : PySem.W.kitOne K (.ref c6) (.type "int") = some false)
    (o_str_6 : PySem.W.kitOne K (.ref c6) (.type "str") = some false)
    (p_6_NoneType : PySem.W.kitOne K (.type "NoneType") (.ref c6) = some false)
    (p_6_bool : PySem.W.kitOne K (.type "bool") (.ref c6) = some false)
    (p_6_int : PySem.W.kitOne K (.type "int") (.ref c6) = some false)
    (p_6_str : PySem.W.kitOne K (.type "str") (.ref c6) = some false)
    (p_6_tuple : PySem.W.kitOne K (.type "tuple") (.ref c6) = some false)
    (p_6_list : PySem.W.kitOne K (.type "list") (.ref c6) = some false)
    (oo_6_6 : PySem.W.kitOne K (.ref c6) (.ref c6) = some true)
    (e_4_1 : PySem.W.exmOne K (.ref c4) (.ref c1) = some false)
    (e_3_1 : PySem.W.exmOne K (.ref c3) (.ref c1) = some false)
    (e_1_1 : PySem.W.exmOne K (.ref c1) (.ref c1) = some true)
    (e_4_2 : PySem.W.exmOne K (.ref c4) (.ref c2) = some false)
    (e_3_2 : PySem.W.exmOne K (.ref c3) (.ref c2) = some false)
    (e_4_3 : PySem.W.exmOne K (.ref c4) (.ref c3) = some false)
    (e_3_3 : PySem.W.exmOne K (.ref c3) (.ref c3) = some true)
    (e_4_4 : PySem.W.exmOne K (.ref c4) (.ref c4) = some true)
    (a__law_gcd : PySem.W.nsIn K mainGlobals "_law_gcd" = some (some (.ref f__law_gcd)))
    (l__law_gcd : K.lookup f__law_gcd = some ⟨oc__law_gcd, od__law_gcd, .func (PySem.W.fnOf "_law_gcd" "_law_gcd" (defArgs (top 26)) (defBody (top 26)) (defScope (top 26)) .none kV__law_gcd doc__law_gcd pm__law_gcd an__law_gcd cd__law_gcd ct__law_gcd), osl__law_gcd⟩)
    (d__law_gcd : PySem.W.codeIn K cd__law_gcd "_law_gcd" = true)
    (kp__law_gcd : PySem.W.keepIn K (.ref f__law_gcd) = true)
    (a__law_frac : PySem.W.nsIn K mainGlobals "_law_frac" = some (some (.ref f__law_frac)))
    (l__law_frac : K.lookup f__law_frac = some ⟨oc__law_frac, od__law_frac, .func (PySem.W.fnOf "_law_frac" "_law_frac" (defArgs (top 29)) (defBody (top 29)) (defScope (top 29)) .none kV__law_frac doc__law_frac pm__law_frac an__law_frac cd__law_frac ct__law_frac), osl__law_frac⟩)
    (d__law_frac : PySem.W.codeIn K cd__law_frac "_law_frac" = true)
    (kp__law_frac : PySem.W.keepIn K (.ref f__law_frac) = true)
    (a__law_draw : PySem.W.nsIn K mainGlobals "_law_draw" = some (some (.ref f__law_draw)))
    (l__law_draw : K.lookup f__law_draw = some ⟨oc__law_draw, od__law_draw, .func (PySem.W.fnOf "_law_draw" "_law_draw" (defArgs (top 24)) (defBody (top 24)) (defScope (top 24)) .none kV__law_draw doc__law_draw pm__law_draw an__law_draw cd__law_draw ct__law_draw), osl__law_draw⟩)
    (d__law_draw : PySem.W.codeIn K cd__law_draw "_law_draw" = true)
    (kp__law_draw : PySem.W.keepIn K (.ref f__law_draw) = true)
    (a__law_pick : PySem.W.nsIn K mainGlobals "_law_pick" = some (some (.ref f__law_pick)))
    (l__law_pick : K.lookup f__law_pick = some ⟨oc__law_pick, od__law_pick, .func (PySem.W.fnOf "_law_pick" "_law_pick" (defArgs (top 25)) (defBody (top 25)) (defScope (top 25)) .none kV__law_pick doc__law_pick pm__law_pick an__law_pick cd__law_pick ct__law_pick), osl__law_pick⟩)
    (d__law_pick : PySem.W.codeIn K cd__law_pick "_law_pick" = true)
    (kp__law_pick : PySem.W.keepIn K (.ref f__law_pick) = true)
    (a__law_int : PySem.W.nsIn K mainGlobals "_law_int" = some (some (.ref f__law_int)))
    (l__law_int : K.lookup f__law_int = some ⟨oc__law_int, od__law_int, .func (PySem.W.fnOf "_law_int" "_law_int" (defArgs (top 27)) (defBody (top 27)) (defScope (top 27)) .none kV__law_int doc__law_int pm__law_int an__law_int cd__law_int ct__law_int), osl__law_int⟩)
    (d__law_int : PySem.W.codeIn K cd__law_int "_law_int" = true)
    (kp__law_int : PySem.W.keepIn K (.ref f__law_int) = true)
    (a_is_integer : PySem.W.nsIn K mainGlobals "is_integer" = some (some (.ref f_is_integer)))
    (l_is_integer : K.lookup f_is_integer = some ⟨oc_is_integer, od_is_integer, .func (PySem.W.fnOf "is_integer" "is_integer" (defArgs (top 10)) (defBody (top 10)) (defScope (top 10)) .none kV_is_integer doc_is_integer pm_is_integer an_is_integer cd_is_integer ct_is_integer), osl_is_integer⟩)
    (d_is_integer : PySem.W.codeIn K cd_is_integer "is_integer" = true)
    (kp_is_integer : PySem.W.keepIn K (.ref f_is_integer) = true)
    (a_is_number : PySem.W.nsIn K mainGlobals "is_number" = some (some (.ref f_is_number)))
    (l_is_number : K.lookup f_is_number = some ⟨oc_is_number, od_is_number, .func (PySem.W.fnOf "is_number" "is_number" (defArgs (top 13)) (defBody (top 13)) (defScope (top 13)) .none kV_is_number doc_is_number pm_is_number an_is_number cd_is_number ct_is_number), osl_is_number⟩)
    (d_is_number : PySem.W.codeIn K cd_is_number "is_number" = true)
    (kp_is_number : PySem.W.keepIn K (.ref f_is_number) = true)
    (a_Ratio___init__ : PySem.W.findIn K (.ref c6) "__init__" = some (some (.ref f_Ratio___init__)))
    (i_Ratio___init__ : PySem.W.isFn K (.ref f_Ratio___init__) = true)
    (l_Ratio___init__ : K.lookup f_Ratio___init__ = some ⟨oc_Ratio___init__, od_Ratio___init__, .func (PySem.W.fnOf "__init__" "Ratio.__init__" (defArgs (cst 12 0)) (defBody (cst 12 0)) (defScope (cst 12 0)) (.ref td_Ratio___init__) kV_Ratio___init__ doc_Ratio___init__ pm_Ratio___init__ an_Ratio___init__ cd_Ratio___init__ ct_Ratio___init__), osl_Ratio___init__⟩)
    (d_Ratio___init__ : PySem.W.codeIn K cd_Ratio___init__ "Ratio.__init__" = true)
    (kp_Ratio___init__ : PySem.W.keepIn K (.ref f_Ratio___init__) = true)
    (dt_Ratio___init__ : K.lookup td_Ratio___init__ = some ⟨cT_Ratio___init__, odT_Ratio___init__, .seq #[.int 1 tk_Ratio___init___0] nT_Ratio___init__, slT_Ratio___init__⟩)
    (a_plain_ratio : PySem.W.nsIn K mainGlobals "plain_ratio" = some (some (.ref f_plain_ratio)))
    (l_plain_ratio : K.lookup f_plain_ratio = some ⟨oc_plain_ratio, od_plain_ratio, .func (PySem.W.fnOf "plain_ratio" "plain_ratio" (defArgs (top 14)) (defBody (top 14)) (defScope (top 14)) .none kV_plain_ratio doc_plain_ratio pm_plain_ratio an_plain_ratio cd_plain_ratio ct_plain_ratio), osl_plain_ratio⟩)
    (d_plain_ratio : PySem.W.codeIn K cd_plain_ratio "plain_ratio" = true)
    (kp_plain_ratio : PySem.W.keepIn K (.ref f_plain_ratio) = true)
    (a_ratio_of : PySem.W.nsIn K mainGlobals "ratio_of" = some (some (.ref f_ratio_of)))
    (l_ratio_of : K.lookup f_ratio_of = some ⟨oc_ratio_of, od_ratio_of, .func (PySem.W.fnOf "ratio_of" "ratio_of" (defArgs (top 15)) (defBody (top 15)) (defScope (top 15)) .none kV_ratio_of doc_ratio_of pm_ratio_of an_ratio_of cd_ratio_of ct_ratio_of), osl_ratio_of⟩)
    (d_ratio_of : PySem.W.codeIn K cd_ratio_of "ratio_of" = true)
    (kp_ratio_of : PySem.W.keepIn K (.ref f_ratio_of) = true)
    (a_Ratio___str__ : PySem.W.findIn K (.ref c6) "__str__" = some (some (.ref f_Ratio___str__)))
    (i_Ratio___str__ : PySem.W.isFn K (.ref f_Ratio___str__) = true)
    (l_Ratio___str__ : K.lookup f_Ratio___str__ = some ⟨oc_Ratio___str__, od_Ratio___str__, .func (PySem.W.fnOf "__str__" "Ratio.__str__" (defArgs (cst 12 2)) (defBody (cst 12 2)) (defScope (cst 12 2)) .none kV_Ratio___str__ doc_Ratio___str__ pm_Ratio___str__ an_Ratio___str__ cd_Ratio___str__ ct_Ratio___str__), osl_Ratio___str__⟩)
    (d_Ratio___str__ : PySem.W.codeIn K cd_Ratio___str__ "Ratio.__str__" = true)
    (kp_Ratio___str__ : PySem.W.keepIn K (.ref f_Ratio___str__) = true)
    (a_number_text : PySem.W.nsIn K mainGlobals "number_text" = some (some (.ref f_number_text)))
    (l_number_text : K.lookup f_number_text = some ⟨oc_number_text, od_number_text, .func (PySem.W.fnOf "number_text" "number_text" (defArgs (top 20)) (defBody (top 20)) (defScope (top 20)) .none kV_number_text doc_number_text pm_number_text an_number_text cd_number_text ct_number_text), osl_number_text⟩)
    (d_number_text : PySem.W.codeIn K cd_number_text "number_text" = true)
    (kp_number_text : PySem.W.keepIn K (.ref f_number_text) = true)
    (a__law_given : PySem.W.nsIn K mainGlobals "_law_given" = some (some (.ref f__law_given)))
    (l__law_given : K.lookup f__law_given = some ⟨oc__law_given, od__law_given, .func (PySem.W.fnOf "_law_given" "_law_given" (defArgs (top 30)) (defBody (top 30)) (defScope (top 30)) .none kV__law_given doc__law_given pm__law_given an__law_given cd__law_given ct__law_given), osl__law_given⟩)
    (d__law_given : PySem.W.codeIn K cd__law_given "_law_given" = true)
    (kp__law_given : PySem.W.keepIn K (.ref f__law_given) = true)
    (a__law_bent : PySem.W.nsIn K mainGlobals "_law_bent" = some (some (.ref f__law_bent)))
    (l__law_bent : K.lookup f__law_bent = some ⟨oc__law_bent, od__law_bent, .func (PySem.W.fnOf "_law_bent" "_law_bent" (defArgs (top 37)) (defBody (top 37)) (defScope (top 37)) .none kV__law_bent doc__law_bent pm__law_bent an__law_bent cd__law_bent ct__law_bent), osl__law_bent⟩)
    (d__law_bent : PySem.W.codeIn K cd__law_bent "_law_bent" = true)
    (kp__law_bent : PySem.W.keepIn K (.ref f__law_bent) = true)
    (a__law_count : PySem.W.nsIn K mainGlobals "_law_count" = some (some (.ref f__law_count)))
    (l__law_count : K.lookup f__law_count = some ⟨oc__law_count, od__law_count, .func (PySem.W.fnOf "_law_count" "_law_count" (defArgs (top 34)) (defBody (top 34)) (defScope (top 34)) .none kV__law_count doc__law_count pm__law_count an__law_count cd__law_count ct__law_count), osl__law_count⟩)
    (d__law_count : PySem.W.codeIn K cd__law_count "_law_count" = true)
    (kp__law_count : PySem.W.keepIn K (.ref f__law_count) = true)
    (a__law_read : PySem.W.nsIn K mainGlobals "_law_read" = some (some (.ref f__law_read)))
    (l__law_read : K.lookup f__law_read = some ⟨oc__law_read, od__law_read, .func (PySem.W.fnOf "_law_read" "_law_read" (defArgs (top 35)) (defBody (top 35)) (defScope (top 35)) .none kV__law_read doc__law_read pm__law_read an__law_read cd__law_read ct__law_read), osl__law_read⟩)
    (d__law_read : PySem.W.codeIn K cd__law_read "_law_read" = true)
    (kp__law_read : PySem.W.keepIn K (.ref f__law_read) = true)
    (a__law_error_of : PySem.W.nsIn K mainGlobals "_law_error_of" = some (some (.ref f__law_error_of)))
    (l__law_error_of : K.lookup f__law_error_of = some ⟨oc__law_error_of, od__law_error_of, .func (PySem.W.fnOf "_law_error_of" "_law_error_of" (defArgs (top 33)) (defBody (top 33)) (defScope (top 33)) .none kV__law_error_of doc__law_error_of pm__law_error_of an__law_error_of cd__law_error_of ct__law_error_of), osl__law_error_of⟩)
    (d__law_error_of : PySem.W.codeIn K cd__law_error_of "_law_error_of" = true)
    (kp__law_error_of : PySem.W.keepIn K (.ref f__law_error_of) = true)
    (a_count_of : PySem.W.nsIn K mainGlobals "count_of" = some (some (.ref f_count_of)))
    (l_count_of : K.lookup f_count_of = some ⟨oc_count_of, od_count_of, .func (PySem.W.fnOf "count_of" "count_of" (defArgs (top 18)) (defBody (top 18)) (defScope (top 18)) .none kV_count_of doc_count_of pm_count_of an_count_of cd_count_of ct_count_of), osl_count_of⟩)
    (d_count_of : PySem.W.codeIn K cd_count_of "count_of" = true)
    (kp_count_of : PySem.W.keepIn K (.ref f_count_of) = true)
    (a_size_of : PySem.W.nsIn K mainGlobals "size_of" = some (some (.ref f_size_of)))
    (l_size_of : K.lookup f_size_of = some ⟨oc_size_of, od_size_of, .func (PySem.W.fnOf "size_of" "size_of" (defArgs (top 19)) (defBody (top 19)) (defScope (top 19)) .none kV_size_of doc_size_of pm_size_of an_size_of cd_size_of ct_size_of), osl_size_of⟩)
    (d_size_of : PySem.W.codeIn K cd_size_of "size_of" = true)
    (kp_size_of : PySem.W.keepIn K (.ref f_size_of) = true)
    (a_Ratio___neg__ : PySem.W.findIn K (.ref c6) "__neg__" = some (some (.ref f_Ratio___neg__)))
    (i_Ratio___neg__ : PySem.W.isFn K (.ref f_Ratio___neg__) = true)
    (l_Ratio___neg__ : K.lookup f_Ratio___neg__ = some ⟨oc_Ratio___neg__, od_Ratio___neg__, .func (PySem.W.fnOf "__neg__" "Ratio.__neg__" (defArgs (cst 12 3)) (defBody (cst 12 3)) (defScope (cst 12 3)) .none kV_Ratio___neg__ doc_Ratio___neg__ pm_Ratio___neg__ an_Ratio___neg__ cd_Ratio___neg__ ct_Ratio___neg__), osl_Ratio___neg__⟩)
    (d_Ratio___neg__ : PySem.W.codeIn K cd_Ratio___neg__ "Ratio.__neg__" = true)
    (kp_Ratio___neg__ : PySem.W.keepIn K (.ref f_Ratio___neg__) = true)
    (a_read_number : PySem.W.nsIn K mainGlobals "read_number" = some (some (.ref f_read_number)))
    (l_read_number : K.lookup f_read_number = some ⟨oc_read_number, od_read_number, .func (PySem.W.fnOf "read_number" "read_number" (defArgs (top 21)) (defBody (top 21)) (defScope (top 21)) .none kV_read_number doc_read_number pm_read_number an_read_number cd_read_number ct_read_number), osl_read_number⟩)
    (d_read_number : PySem.W.codeIn K cd_read_number "read_number" = true)
    (kp_read_number : PySem.W.keepIn K (.ref f_read_number) = true)
    (a__law_is_number : PySem.W.nsIn K mainGlobals "_law_is_number" = some (some (.ref f__law_is_number)))
    (l__law_is_number : K.lookup f__law_is_number = some ⟨oc__law_is_number, od__law_is_number, .func (PySem.W.fnOf "_law_is_number" "_law_is_number" (defArgs (top 28)) (defBody (top 28)) (defScope (top 28)) .none kV__law_is_number doc__law_is_number pm__law_is_number an__law_is_number cd__law_is_number ct__law_is_number), osl__law_is_number⟩)
    (d__law_is_number : PySem.W.codeIn K cd__law_is_number "_law_is_number" = true)
    (kp__law_is_number : PySem.W.keepIn K (.ref f__law_is_number) = true)
    (a__law_is_ratio : PySem.W.nsIn K mainGlobals "_law_is_ratio" = some (some (.ref f__law_is_ratio)))
    (l__law_is_ratio : K.lookup f__law_is_ratio = some ⟨oc__law_is_ratio, od__law_is_ratio, .func (PySem.W.fnOf "_law_is_ratio" "_law_is_ratio" (defArgs (top 31)) (defBody (top 31)) (defScope (top 31)) .none kV__law_is_ratio doc__law_is_ratio pm__law_is_ratio an__law_is_ratio cd__law_is_ratio ct__law_is_ratio), osl__law_is_ratio⟩)
    (d__law_is_ratio : PySem.W.codeIn K cd__law_is_ratio "_law_is_ratio" = true)
    (kp__law_is_ratio : PySem.W.keepIn K (.ref f__law_is_ratio) = true)
    (a__law_read_right : PySem.W.nsIn K mainGlobals "_law_read_right" = some (some (.ref f__law_read_right)))
    (l__law_read_right : K.lookup f__law_read_right = some ⟨oc__law_read_right, od__law_read_right, .func (PySem.W.fnOf "_law_read_right" "_law_read_right" (defArgs (top 36)) (defBody (top 36)) (defScope (top 36)) .none kV__law_read_right doc__law_read_right pm__law_read_right an__law_read_right (.ref cd__law_read_right) ct__law_read_right), osl__law_read_right⟩)
    (d__law_read_right : PySem.W.codeIn K (.ref cd__law_read_right) "_law_read_right" = true)
    (kp__law_read_right : PySem.W.keepIn K (.ref f__law_read_right) = true)
    (a__law_no_number : PySem.W.nsIn K mainGlobals "_law_no_number" = some (some (.ref f__law_no_number)))
    (l__law_no_number : K.lookup f__law_no_number = some ⟨oc__law_no_number, od__law_no_number, .func (PySem.W.fnOf "_law_no_number" "_law_no_number" (defArgs (top 32)) (defBody (top 32)) (defScope (top 32)) .none kV__law_no_number doc__law_no_number pm__law_no_number an__law_no_number cd__law_no_number ct__law_no_number), osl__law_no_number⟩)
    (d__law_no_number : PySem.W.codeIn K cd__law_no_number "_law_no_number" = true)
    (kp__law_no_number : PySem.W.keepIn K (.ref f__law_no_number) = true)
    (a__law_pen : PySem.W.nsIn K mainGlobals "_law_pen" = some (some (.ref f__law_pen)))
    (l__law_pen : K.lookup f__law_pen = some ⟨oc__law_pen, od__law_pen, .func (PySem.W.fnOf "_law_pen" "_law_pen" (defArgs (top 23)) (defBody (top 23)) (defScope (top 23)) .none kV__law_pen doc__law_pen pm__law_pen an__law_pen cd__law_pen ct__law_pen), osl__law_pen⟩)
    (d__law_pen : PySem.W.codeIn K cd__law_pen "_law_pen" = true)
    (kp__law_pen : PySem.W.keepIn K (.ref f__law_pen) = true)
    (a_law : PySem.W.nsIn K mainGlobals "law" = some (some (.ref f_law)))
    (l_law : K.lookup f_law = some ⟨oc_law, od_law, .func (PySem.W.fnOf "law" "law" (defArgs (top 38)) (defBody (top 38)) (defScope (top 38)) .none kV_law doc_law pm_law an_law (.ref cd_law) ct_law), osl_law⟩)
    (d_law : PySem.W.codeIn K (.ref cd_law) "law" = true)
    (kp_law : PySem.W.keepIn K (.ref f_law) = true)
    (kc__law_read_right : K.lookup cd__law_read_right = some ⟨.type "code", odc__law_read_right, .fields vsc__law_read_right, osc__law_read_right⟩)
    (kf__law_read_right : vsc__law_read_right[11]? = some (.ref P__law_read_right))
    (kh__law_read_right : hdB vsc__law_read_right cd__law_read_right P__law_read_right = true)
    (kc_law : K.lookup cd_law = some ⟨.type "code", odc_law, .fields vsc_law, osc_law⟩)
    (kf_law : vsc_law[11]? = some (.ref P_law))
    (kh_law : hdB vsc_law cd_law P_law = true)
    (tt__law_read_right : h.get? P__law_read_right = some { cls := .none, data := .fields #[] }) (tn__law_read_right : K.lookup P__law_read_right = none)
    (tt_law : h.get? P_law = some { cls := .none, data := .fields #[] }) (tn_law : K.lookup P_law = none)
    (tnd : ([P__law_read_right, P_law] : List Addr).Nodup)
    : LawD PySem.Challenge.rw_leverheaps_k05_whole_number_texts w K 9 "script" mg fa h good := by
  have e := hfa.symm.trans (PySem.W.mg_of X G a_law)
  cases e
  have Fx0 : Fx K mg (clsL [c0, c1, c2, c3, c4, c5, c6]) ⟨cd__law_read_right, cd_law⟩ ⟨P__law_read_right, P_law⟩ := {
    ndT := tnd
    n_abs := PySem.W.mg_none_of X G n_abs
    n_any := PySem.W.mg_none_of X G n_any
    n_bool := PySem.W.mg_none_of X G n_bool
    n_gcd := PySem.W.mg_of X G n_gcd
    n_int := PySem.W.mg_none_of X G n_int
    n_isinstance := PySem.W.mg_none_of X G n_isinstance
    n_len := PySem.W.mg_none_of X G n_len
    n_list := PySem.W.mg_none_of X G n_list
    n_range := PySem.W.mg_none_of X G n_range
    n_repr := PySem.W.mg_none_of X G n_repr
    n_str := PySem.W.mg_none_of X G n_str
    c_FIGURES := ⟨_, PySem.W.mg_of X G v_FIGURES⟩
    g_LeverError := PySem.W.mg_of X G g0
    g_BadNumber := PySem.W.mg_of X G g1
    g_BadRow := PySem.W.mg_of X G g2
    g_BadItem := PySem.W.mg_of X G g3
    g_BadText := PySem.W.mg_of X G g4
    g_NoRoot := PySem.W.mg_of X G g5
    g_Ratio := PySem.W.mg_of X G g6
    x_BadNumber := by
      refine ⟨⟨⟨_, _, _, _, _, _, _, _, _, _, _, _, _, _, _, x1_1, (show PySem.HandSPX.refsVE [.type "ValueError", .type "Exception", .type "BaseException", .type "object"] = true from by decide +kernel)⟩, x2_1, x3_1, x4_1, x5_1⟩, ⟨x6_1, x7_1, x3_1, x8_1⟩, ?_, xa_1, xb_1, xc_1, ho, hsu, by decide +kernel, fi1, cc1, cda1, _, _, _, _, _, _, _, _, _, _, _, _, _, xd_1, xe_1, xf_1, xg_1, ?_, ?_, ⟨_, _, _, xh_1⟩, _, _, _, _, _, _, xi_1, xj_1, xk_1⟩
      · intro f hf
        simp only [flds, List.mem_cons, List.not_mem_nil, or_false] at hf
        rcases hf with rfl | rfl
        · exact x9_1_what
        · exact x9_1_value
      · exact ⟨⟨_, rfl, rfl⟩, ⟨_, _, _, _, _, _, _, _, rfl, .cons (.cons (.nil)), .cons (.cons (.nil)), rfl⟩, rfl, rfl, rfl, by decide +kernel, rfl, by decide +kernel, rfl, rfl, by decide, by decide, by decide⟩
      · exact fun s x us hl => match us, hl with | [_, _], _ => .of_eq rfl
    x_BadRow := by
      refine ⟨⟨⟨_, _, _, _, _, _, _, _, _, _, _, _, _, _, _, x1_2, (show PySem.HandSPX.refsVE [.type "ValueError", .type "Exception", .type "BaseException", .type "object"] = true from by decide +kernel)⟩, x2_2, x3_2, x4_2, x5_2⟩, ⟨x6_2, x7_2, x3_2, x8_2⟩, ?_, xa_2, xb_2, xc_2, ho, hsu, by decide +kernel, fi2, cc2, cda2, _, _, _, _, _, _, _, _, _, _, _, _, _, xd_2, xe_2, xf_2, xg_2, ?_, ?_, ⟨_, _, _, xh_2⟩, _, _, _, _, _, _, xi_2, xj_2, xk_2⟩
      · intro f hf
        simp only [flds, List.mem_cons, List.not_mem_nil, or_false] at hf
        subst hf
        exact x9_2_value
      · exact ⟨⟨_, rfl, rfl⟩, ⟨_, _, _, _, _, _, _, _, rfl, .cons (.nil), .cons (.nil), rfl⟩, rfl, rfl, rfl, by decide +kernel, rfl, by decide +kernel, rfl, rfl, by decide, by decide, by decide⟩
      · exact fun s x us hl => match us, hl with | [_], _ => .of_eq rfl
    x_BadItem := by
      refine ⟨⟨⟨_, _, _, _, _, _, _, _, _, _, _, _, _, _, _, x1_3, (show PySem.HandSPX.refsVE [.type "ValueError", .type "Exception", .type "BaseException", .type "object"] = true from by decide +kernel)⟩, x2_3, x3_3, x4_3, x5_3⟩, ⟨x6_3, x7_3, x3_3, x8_3⟩, ?_, xa_3, xb_3, xc_3, ho, hsu, by decide +kernel, fi3, cc3, cda3, _, _, _, _, _, _, _, _, _, _, _, _, _, xd_3, xe_3, xf_3, xg_3, ?_, ?_, ⟨_, _, _, xh_3⟩, _, _, _, _, _, _, xi_3, xj_3, xk_3⟩
      · intro f hf
        simp only [flds, List.mem_cons, List.not_mem_nil, or_false] at hf
        subst hf
        exact x9_3_value
      · exact ⟨⟨_, rfl, rfl⟩, ⟨_, _, _, _, _, _, _, _, rfl, .cons (.nil), .cons (.nil), rfl⟩, rfl, rfl, rfl, by decide +kernel, rfl, by decide +kernel, rfl, rfl, by decide, by decide, by decide⟩
      · exact fun s x us hl => match us, hl with | [_], _ => .of_eq rfl
    x_BadText := by
      refine ⟨⟨⟨_, _, _, _, _, _, _, _, _, _, _, _, _, _, _, x1_4, (show PySem.HandSPX.refsVE [.type "ValueError", .type "Exception", .type "BaseException", .type "object"] = true from by decide +kernel)⟩, x2_4, x3_4, x4_4, x5_4⟩, ⟨x6_4, x7_4, x3_4, x8_4⟩, ?_, xa_4, xb_4, xc_4, ho, hsu, by decide +kernel, fi4, cc4, cda4, _, _, _, _, _, _, _, _, _, _, _, _, _, xd_4, xe_4, xf_4, xg_4, ?_, ?_, ⟨_, _, _, xh_4⟩, _, _, _, _, _, _, xi_4, xj_4, xk_4⟩
      · intro f hf
        simp only [flds, List.mem_cons, List.not_mem_nil, or_false] at hf
        subst hf
        exact x9_4_index
      · exact ⟨⟨_, rfl, rfl⟩, ⟨_, _, _, _, _, _, _, _, rfl, .cons (.nil), .cons (.nil), rfl⟩, rfl, rfl, rfl, by decide +kernel, rfl, by decide +kernel, rfl, rfl, by decide, by decide, by decide⟩
      · exact fun s x us hl => match us, hl with | [_], _ => .of_eq rfl
    x_NoRoot := by
      refine ⟨⟨⟨_, _, _, _, _, _, _, _, _, _, _, _, _, _, _, x1_5, (show PySem.HandSPX.refsVE [.type "ValueError", .type "Exception", .type "BaseException", .type "object"] = true from by decide +kernel)⟩, x2_5, x3_5, x4_5, x5_5⟩, ⟨x6_5, x7_5, x3_5, x8_5⟩, ?_, xa_5, xb_5, xc_5, ho, hsu, by decide +kernel, fi5, cc5, cda5, _, _, _, _, _, _, _, _, _, _, _, _, _, xd_5, xe_5, xf_5, xg_5, ?_, ?_, ⟨_, _, _, xh_5⟩, _, _, _, _, _, _, xi_5, xj_5, xk_5⟩
      · intro f hf
        simp only [flds, List.mem_cons, List.not_mem_nil, or_false] at hf
        subst hf
        exact x9_5_index
      · exact ⟨⟨_, rfl, rfl⟩, ⟨_, _, _, _, _, _, _, _, rfl, .cons (.nil), .cons (.nil), rfl⟩, rfl, rfl, rfl, by decide +kernel, rfl, by decide +kernel, rfl, rfl, by decide, by decide, by decide⟩
      · exact fun s x us hl => match us, hl with | [_], _ => .of_eq rfl
    k_Ratio := fun {so} => by
      refine ⟨⟨r1_6, r2_6, r3_6, r4_6⟩, ?_, by show (flds 6).Nodup; decide, by show (flds 6).length < 1000; decide⟩
      intro f hf
      have hf : f ∈ flds 6 := hf
      simp only [flds, List.mem_cons, List.not_mem_nil, or_false] at hf
      rcases hf with rfl | rfl | rfl | rfl
      · exact r5_6_top
      · exact r5_6_bottom
      · exact r5_6_sign
      · exact r5_6_whole
    kb_bool := ⟨⟨⟨⟨r1_6, r2_6, r3_6, r4_6⟩, r6_6, r7_6, r8_6, r9_6⟩, o_bool_6⟩, trivial⟩
    kb_int := ⟨⟨⟨⟨r1_6, r2_6, r3_6, r4_6⟩, r6_6, r7_6, r8_6, r9_6⟩, o_int_6⟩, trivial⟩
    kb_str := ⟨⟨⟨⟨r1_6, r2_6, r3_6, r4_6⟩, r6_6, r7_6, r8_6, r9_6⟩, o_str_6⟩, trivial⟩
    kt_Ratio := ⟨p_6_NoneType, p_6_bool, p_6_int, p_6_str, p_6_tuple, p_6_list⟩
    kb_Ratio := ⟨⟨⟨⟨r1_6, r2_6, r3_6, r4_6⟩, r6_6, r7_6, r8_6, r9_6⟩, oo_6_6⟩, trivial⟩
    e__law_error_of_0 := ⟨e_1_1, ⟨e_3_1, ⟨e_4_1, trivial⟩⟩⟩
    e__law_error_of_1 := ⟨e_3_2, ⟨e_4_2, trivial⟩⟩
    e__law_error_of_2 := ⟨e_3_3, ⟨e_4_3, trivial⟩⟩
    e__law_error_of_3 := ⟨e_4_4, trivial⟩
    e__law_error_of_4 := trivial
    e__law_error_of_5 := trivial
    d__law_gcd := ⟨_, _, PySem.W.mg_of X G a__law_gcd, kp__law_gcd, funD_of (fun_mk l__law_gcd d__law_gcd kp__law_gcd), ((fun_mk l__law_gcd d__law_gcd kp__law_gcd).binds (ps := ["a", "b"]) fun _ _ _ _ _ _ us hl => match us, hl with | [_, _], _ => rfl)⟩
    d__law_frac := ⟨_, _, PySem.W.mg_of X G a__law_frac, kp__law_frac, funD_of (fun_mk l__law_frac d__law_frac kp__law_frac), ((fun_mk l__law_frac d__law_frac kp__law_frac).binds (ps := ["top", "bottom"]) fun _ _ _ _ _ _ us hl => match us, hl with | [_, _], _ => rfl)⟩
    d__law_draw := ⟨_, _, PySem.W.mg_of X G a__law_draw, kp__law_draw, funD_of (fun_mk l__law_draw d__law_draw kp__law_draw), ((fun_mk l__law_draw d__law_draw kp__law_draw).binds (ps := ["pen", "many"]) fun _ _ _ _ _ _ us hl => match us, hl with | [_, _], _ => rfl)⟩
    d__law_pick := ⟨_, _, PySem.W.mg_of X G a__law_pick, kp__law_pick, funD_of (fun_mk l__law_pick d__law_pick kp__law_pick), ((fun_mk l__law_pick d__law_pick kp__law_pick).binds (ps := ["pen", "some"]) fun _ _ _ _ _ _ us hl => match us, hl with | [_, _], _ => rfl)⟩
    d__law_int := ⟨_, _, PySem.W.mg_of X G a__law_int, kp__law_int, funD_of (fun_mk l__law_int d__law_int kp__law_int), ((fun_mk l__law_int d__law_int kp__law_int).binds (ps := ["pen"]) fun _ _ _ _ _ _ us hl => match us, hl with | [_], _ => rfl)⟩
    d_is_integer := ⟨_, _, PySem.W.mg_of X G a_is_integer, kp_is_integer, funD_of (fun_mk l_is_integer d_is_integer kp_is_integer), ((fun_mk l_is_integer d_is_integer kp_is_integer).binds (ps := ["value"]) fun _ _ _ _ _ _ us hl => match us, hl with | [_], _ => rfl)⟩
    d_is_number := ⟨_, _, PySem.W.mg_of X G a_is_number, kp_is_number, funD_of (fun_mk l_is_number d_is_number kp_is_number), ((fun_mk l_is_number d_is_number kp_is_number).binds (ps := ["value"]) fun _ _ _ _ _ _ us hl => match us, hl with | [_], _ => rfl)⟩
    d_Ratio___init___1 := ⟨_, _, ⟨ra_6, a_Ratio___init__, i_Ratio___init__, rb_6⟩, (funD_dfl l_Ratio___init__ d_Ratio___init__ kp_Ratio___init__ dt_Ratio___init__ (dvs := [.int 1]) (.cons ⟨_, rfl⟩ (.nil)) (by simp)), FunD.binds1 (funD_dfl l_Ratio___init__ d_Ratio___init__ kp_Ratio___init__ dt_Ratio___init__ (dvs := [.int 1]) (.cons ⟨_, rfl⟩ (.nil)) (by simp)) 2 0 (by simp) (by simp) fun T kV doc pm an cdv ct us its h1 h2 => match us, its, h1, h2 with | [_, _], [_], _, _ => ⟨_, rfl, rfl⟩⟩
    d_Ratio___init___2 := ⟨_, _, ⟨ra_6, a_Ratio___init__, i_Ratio___init__, rb_6⟩, (funD_dfl l_Ratio___init__ d_Ratio___init__ kp_Ratio___init__ dt_Ratio___init__ (dvs := [.int 1]) (.cons ⟨_, rfl⟩ (.nil)) (by simp)), FunD.binds1 (funD_dfl l_Ratio___init__ d_Ratio___init__ kp_Ratio___init__ dt_Ratio___init__ (dvs := [.int 1]) (.cons ⟨_, rfl⟩ (.nil)) (by simp)) 3 1 (by simp) (by simp) fun T kV doc pm an cdv ct us its h1 h2 => match us, its, h1, h2 with | [_, _, _], [_], _, _ => ⟨_, rfl, rfl⟩⟩
    d_plain_ratio := ⟨_, _, PySem.W.mg_of X G a_plain_ratio, kp_plain_ratio, funD_of (fun_mk l_plain_ratio d_plain_ratio kp_plain_ratio), ((fun_mk l_plain_ratio d_plain_ratio kp_plain_ratio).binds (ps := ["value"]) fun _ _ _ _ _ _ us hl => match us, hl with | [_], _ => rfl)⟩
    d_ratio_of := ⟨_, _, PySem.W.mg_of X G a_ratio_of, kp_ratio_of, funD_of (fun_mk l_ratio_of d_ratio_of kp_ratio_of), ((fun_mk l_ratio_of d_ratio_of kp_ratio_of).binds (ps := ["number"]) fun _ _ _ _ _ _ us hl => match us, hl with | [_], _ => rfl)⟩
    d_Ratio___str__ := ⟨_, _, ⟨a_Ratio___str__, i_Ratio___str__, kp_Ratio___str__⟩, funD_of (fun_mk l_Ratio___str__ d_Ratio___str__ kp_Ratio___str__), ((fun_mk l_Ratio___str__ d_Ratio___str__ kp_Ratio___str__).binds (ps := ["self"]) fun _ _ _ _ _ _ us hl => match us, hl with | [_], _ => rfl)⟩
    d_number_text := ⟨_, _, PySem.W.mg_of X G a_number_text, kp_number_text, funD_of (fun_mk l_number_text d_number_text kp_number_text), ((fun_mk l_number_text d_number_text kp_number_text).binds (ps := ["number"]) fun _ _ _ _ _ _ us hl => match us, hl with | [_], _ => rfl)⟩
    d__law_given := ⟨_, _, PySem.W.mg_of X G a__law_given, kp__law_given, funD_of (fun_mk l__law_given d__law_given kp__law_given), ((fun_mk l__law_given d__law_given kp__law_given).binds (ps := ["pen", "one"]) fun _ _ _ _ _ _ us hl => match us, hl with | [_, _], _ => rfl)⟩
    d__law_bent := ⟨_, _, PySem.W.mg_of X G a__law_bent, kp__law_bent, funD_of (fun_mk l__law_bent d__law_bent kp__law_bent), ((fun_mk l__law_bent d__law_bent kp__law_bent).binds (ps := ["pen", "text"]) fun _ _ _ _ _ _ us hl => match us, hl with | [_, _], _ => rfl)⟩
    d__law_count := ⟨_, _, PySem.W.mg_of X G a__law_count, kp__law_count, funD_of (fun_mk l__law_count d__law_count kp__law_count), ((fun_mk l__law_count d__law_count kp__law_count).binds (ps := ["word"]) fun _ _ _ _ _ _ us hl => match us, hl with | [_], _ => rfl)⟩
    d__law_read := ⟨_, _, PySem.W.mg_of X G a__law_read, kp__law_read, funD_of (fun_mk l__law_read d__law_read kp__law_read), ((fun_mk l__law_read d__law_read kp__law_read).binds (ps := ["text"]) fun _ _ _ _ _ _ us hl => match us, hl with | [_], _ => rfl)⟩
    d__law_error_of := ⟨_, _, PySem.W.mg_of X G a__law_error_of, kp__law_error_of, (fun_mk l__law_error_of d__law_error_of kp__law_error_of), ((fun_mk l__law_error_of d__law_error_of kp__law_error_of).binds (ps := ["call"]) fun _ _ _ _ _ _ us hl => match us, hl with | [_], _ => rfl)⟩
    d_count_of := ⟨_, _, PySem.W.mg_of X G a_count_of, kp_count_of, funD_of (fun_mk l_count_of d_count_of kp_count_of), ((fun_mk l_count_of d_count_of kp_count_of).binds (ps := ["word"]) fun _ _ _ _ _ _ us hl => match us, hl with | [_], _ => rfl)⟩
    d_size_of := ⟨_, _, PySem.W.mg_of X G a_size_of, kp_size_of, funD_of (fun_mk l_size_of d_size_of kp_size_of), ((fun_mk l_size_of d_size_of kp_size_of).binds (ps := ["word"]) fun _ _ _ _ _ _ us hl => match us, hl with | [_], _ => rfl)⟩
    d_Ratio___neg__ := ⟨_, _, ⟨a_Ratio___neg__, i_Ratio___neg__, kp_Ratio___neg__⟩, funD_of (fun_mk l_Ratio___neg__ d_Ratio___neg__ kp_Ratio___neg__), ((fun_mk l_Ratio___neg__ d_Ratio___neg__ kp_Ratio___neg__).binds (ps := ["self"]) fun _ _ _ _ _ _ us hl => match us, hl with | [_], _ => rfl)⟩
    d_read_number := ⟨_, _, PySem.W.mg_of X G a_read_number, kp_read_number, funD_of (fun_mk l_read_number d_read_number kp_read_number), ((fun_mk l_read_number d_read_number kp_read_number).binds (ps := ["text"]) fun _ _ _ _ _ _ us hl => match us, hl with | [_], _ => rfl)⟩
    d__law_is_number := ⟨_, _, PySem.W.mg_of X G a__law_is_number, kp__law_is_number, funD_of (fun_mk l__law_is_number d__law_is_number kp__law_is_number), ((fun_mk l__law_is_number d__law_is_number kp__law_is_number).binds (ps := ["value"]) fun _ _ _ _ _ _ us hl => match us, hl with | [_], _ => rfl)⟩
    d__law_is_ratio := ⟨_, _, PySem.W.mg_of X G a__law_is_ratio, kp__law_is_ratio, funD_of (fun_mk l__law_is_ratio d__law_is_ratio kp__law_is_ratio), ((fun_mk l__law_is_ratio d__law_is_ratio kp__law_is_ratio).binds (ps := ["value", "due"]) fun _ _ _ _ _ _ us hl => match us, hl with | [_, _], _ => rfl)⟩
    d__law_read_right := ⟨_, _, PySem.W.mg_of X G a__law_read_right, kp__law_read_right, funA_mk l__law_read_right d__law_read_right, ((fun_mk l__law_read_right d__law_read_right kp__law_read_right).binds (ps := ["text"]) fun _ _ _ _ _ _ us hl => match us, hl with | [_], _ => rfl)⟩
    d__law_no_number := ⟨_, _, PySem.W.mg_of X G a__law_no_number, kp__law_no_number, funD_of (fun_mk l__law_no_number d__law_no_number kp__law_no_number), ((fun_mk l__law_no_number d__law_no_number kp__law_no_number).binds (ps := ["pen"]) fun _ _ _ _ _ _ us hl => match us, hl with | [_], _ => rfl)⟩
    d__law_pen := ⟨_, _, PySem.W.mg_of X G a__law_pen, kp__law_pen, (fun_mk l__law_pen d__law_pen kp__law_pen), ((fun_mk l__law_pen d__law_pen kp__law_pen).binds (ps := ["script"]) fun _ _ _ _ _ _ us hl => match us, hl with | [_], _ => rfl)⟩
  }
  have hT : ∀ p ∈ ([(cd__law_read_right, P__law_read_right), (cd_law, P_law)] : List (Addr × Addr)), h.get? p.2 = some { cls := .none, data := .fields #[] } := by
    intro p hp
    simp only [List.mem_cons, List.not_mem_nil, or_false] at hp
    rcases hp with rfl | rfl
    · exact tt__law_read_right
    · exact tt_law
  have nT : ∀ p ∈ ([(cd__law_read_right, P__law_read_right), (cd_law, P_law)] : List (Addr × Addr)), K.lookup p.2 = none := by
    intro p hp
    simp only [List.mem_cons, List.not_mem_nil, or_false] at hp
    rcases hp with rfl | rfl
    · exact tn__law_read_right
    · exact tn_law
  have hC : ∀ p ∈ ([(cd__law_read_right, P__law_read_right), (cd_law, P_law)] : List (Addr × Addr)), PySem.W.CodeHd h p.1 p.2 := by
    intro p hp
    simp only [List.mem_cons, List.not_mem_nil, or_false] at hp
    rcases hp with rfl | rfl
    · exact PySem.W.codeHd_of_K X (hd_is kc__law_read_right kh__law_read_right)
    · exact PySem.W.codeHd_of_K X (hd_is kc_law kh_law)
  have hTc : ∀ q ∈ tabs ⟨P__law_read_right, P_law⟩, ∃ p ∈ ([(cd__law_read_right, P__law_read_right), (cd_law, P_law)] : List (Addr × Addr)), p.2 = q.1 := by
    intro q hq
    simp only [tabs, List.mem_cons, List.not_mem_nil, or_false] at hq
    rcases hq with rfl | rfl
    · exact ⟨(cd__law_read_right, P__law_read_right), by simp, rfl⟩
    · exact ⟨(cd_law, P_law), by simp, rfl⟩
  exact ⟨_, [(cd__law_read_right, P__law_read_right), (cd_law, P_law)], tabs ⟨P__law_read_right, P_law⟩, hT, nT, hC, hTc, fun s u => .of_eq rfl, fun base KB GB TB => p_law Fx0 ⟨TB (cd__law_read_right, P__law_read_right) (by simp), TB (cd_law, P_law) (by simp)⟩ (funA_mk l_law d_law) hgood⟩
end K05
set_option Elab.async false
set_option linter.all false
set_option maxRecDepth 100000
set_option maxHeartbeats 1000000
namespace K05
open PySem PySem.Spec PyProof.Rows L2 DL
theorem draw_eq : m__law_draw = drawM := rfl
theorem fdraw_eq : f__law_draw = runF 5 drawM := rfl
theorem fpick_eq : f__law_pick = runF 2 pickM := rfl
theorem gcd_loop (s : Pen) : ∀ (n a b : Nat), b < n → whileN (truM (m2 neD (mVar 1) (retM (.int 0)))) (parS 0 1 (consM (mVar 1) (consM (m2 modD (callM intD (consM (mVar 0) (retM []))) (mVar 1)) (retM [])))) n [.d (.int a), .d (.int b)] s = .ok (.nx [.d (.int ((Nat.gcd a b : Nat) : Int)), .d (.int 0)], s)
  | 0, _, _, h => absurd h (Nat.not_lt_zero _)
  | n + 1, a, b, h => by
    by_cases hb : b = 0
    · subst hb
      have e1 : (((0 : Nat) : Int) == 0) = true := rfl
      rw [Nat.gcd_zero_right]
      exact whileN_end (by simp only [callF, List.append_nil, List.cons_append, List.nil_append, List.length_cons, List.length_nil, Nat.zero_add, Nat.reduceAdd, reduceIte, seqS, setS, retS, exprS, nextS, ifS, thenS, DL.bindM, retM, optM, m1, m2, mVar, consM, callM, truM, andT, orT, notT, andV, orV, notV, ifM, penGet, penPut, parS, asgS, tupM, lstM, partM, addD, subD, ltD, gtD, geD, leD, negD, DL.intD, absD, lenD, truD, isNon, strCD, List.getElem?_cons_succ, List.getElem?_cons_zero, List.set_cons_succ, List.set_cons_zero, if_true, Bool.false_eq_true, if_false, Bool.not_true, Bool.not_false, neD_int, e1])
    · have e1 : ((b : Int) == 0) = false := beq_eq_false_iff_ne.mpr (by omega)
      have e2 : modD (.int (a : Int)) (.int (b : Int)) = some (.int ((a % b : Nat) : Int)) := by
        rw [modD_ok (by omega), Int.fmod_eq_emod_of_nonneg _ (by omega)]
        rfl
      rw [whileN_go (e := [.d (.int b), .d (.int ((a % b : Nat) : Int))]) (s1 := s) (s2 := s) (by simp only [callF, List.append_nil, List.cons_append, List.nil_append, List.length_cons, List.length_nil, Nat.zero_add, Nat.reduceAdd, reduceIte, seqS, setS, retS, exprS, nextS, ifS, thenS, DL.bindM, retM, optM, m1, m2, mVar, consM, callM, truM, andT, orT, notT, andV, orV, notV, ifM, penGet, penPut, parS, asgS, tupM, lstM, partM, addD, subD, ltD, gtD, geD, leD, negD, DL.intD, absD, lenD, truD, isNon, strCD, List.getElem?_cons_succ, List.getElem?_cons_zero, List.set_cons_succ, List.set_cons_zero, if_true, Bool.false_eq_true, if_false, Bool.not_true, Bool.not_false, neD_int, e1]) (by simp only [callF, List.append_nil, List.cons_append, List.nil_append, List.length_cons, List.length_nil, Nat.zero_add, Nat.reduceAdd, reduceIte, seqS, setS, retS, exprS, nextS, ifS, thenS, DL.bindM, retM, optM, m1, m2, mVar, consM, callM, truM, andT, orT, notT, andV, orV, notV, ifM, penGet, penPut, parS, asgS, tupM, lstM, partM, addD, subD, ltD, gtD, geD, leD, negD, DL.intD, absD, lenD, truD, isNon, strCD, List.getElem?_cons_succ, List.getElem?_cons_zero, List.set_cons_succ, List.set_cons_zero, if_true, Bool.false_eq_true, if_false, Bool.not_true, Bool.not_false, e2])]
      rw [gcd_loop s n b (a % b) (by have := Nat.mod_lt a (Nat.pos_of_ne_zero hb); omega)]
      rw [Nat.gcd_comm b, ← Nat.gcd_rec, Nat.gcd_comm]
theorem abs_nat (a : Int) : (if a < 0 then -a else a) = (a.natAbs : Int) := by split <;> omega
theorem gcd_ok (a b : Int) (s : Pen) : f__law_gcd [.int a, .int b] s = .ok (.int ((Nat.gcd a.natAbs b.natAbs : Nat) : Int), s) := by
  refine runF_rt (env := [.d (.int a), .d (.int b)]) rfl ?_
  unfold m__law_gcd
  have e1 : (parS 0 1 (consM (callM absD (consM (mVar 0) (retM []))) (consM (callM absD (consM (mVar 1) (retM []))) (retM []))) : MS Pen) [.d (.int a), .d (.int b)] s = .ok (.nx [.d (.int (a.natAbs : Int)), .d (.int (b.natAbs : Int))], s) := by
    simp only [callF, List.append_nil, List.cons_append, List.nil_append, List.length_cons, List.length_nil, Nat.zero_add, Nat.reduceAdd, reduceIte, seqS, setS, retS, exprS, nextS, ifS, thenS, DL.bindM, retM, optM, m1, m2, mVar, consM, callM, truM, andT, orT, notT, andV, orV, notV, ifM, penGet, penPut, parS, asgS, tupM, lstM, partM, addD, subD, ltD, gtD, geD, leD, negD, DL.intD, absD, lenD, truD, isNon, strCD, List.getElem?_cons_succ, List.getElem?_cons_zero, List.set_cons_succ, List.set_cons_zero, if_true, Bool.false_eq_true, if_false, Bool.not_true, Bool.not_false, abs_nat]
  rw [seqS_nx e1]
  have e2 : (whileS fuel__law_gcd (truM (m2 neD (mVar 1) (retM (.int 0)))) (parS 0 1 (consM (mVar 1) (consM (m2 modD (callM intD (consM (mVar 0) (retM []))) (mVar 1)) (retM [])))) : MS Pen) [.d (.int (a.natAbs : Int)), .d (.int (b.natAbs : Int))] s = _ := gcd_loop s _ _ _ (by show b.natAbs < (b.natAbs : Int).natAbs + 1; omega)
  rw [seqS_nx e2]
  rfl
/-- lowest terms -/
def low (top bottom : Int) : Int × Int :=
  let g : Int := if 0 < bottom then ((Nat.gcd top.natAbs bottom.natAbs : Nat) : Int) else -((Nat.gcd top.natAbs bottom.natAbs : Nat) : Int)
  (top.fdiv g, bottom.fdiv g)
theorem gcd_small {a b : Int} {k : Nat} (hb : b ≠ 0) (h : b.natAbs < 2 ^ k) : Nat.gcd a.natAbs b.natAbs < 2 ^ k := Nat.lt_of_le_of_lt (Nat.gcd_le_right _ (by omega)) h
theorem gcd_pos {a b : Int} (hb : b ≠ 0) : 0 < Nat.gcd a.natAbs b.natAbs := Nat.gcd_pos_of_pos_right _ (by omega)
theorem frac_ok {a b : Int} (hb : b ≠ 0) (h : b.natAbs < 2 ^ 8000) (s : Pen) : f__law_frac [.int a, .int b] s = .ok (.tup [.int (low a b).1, .int (low a b).2], s) := by
  have hp := gcd_pos (a := a) hb
  have hs := gcd_small (a := a) hb h
  refine runF_rt (env := [.d (.int a), .d (.int b), .no]) rfl ?_
  unfold m__law_frac
  have g0 : Nat.gcd ((a.natAbs : Int).natAbs) ((b.natAbs : Int).natAbs) = Nat.gcd a.natAbs b.natAbs := by rw [Int.natAbs_natCast, Int.natAbs_natCast]
  by_cases hbp : 0 < b
  · have lg : ((Nat.gcd a.natAbs b.natAbs : Nat) : Int).natAbs.log2 < 9000 := by
      have := log2_small (i := ((Nat.gcd a.natAbs b.natAbs : Nat) : Int)) (k := 8000) (by rw [Int.natAbs_natCast]; exact hs) (by decide)
      omega
    have d1 : ∀ i, fdivD (.int i) (.int ((Nat.gcd a.natAbs b.natAbs : Nat) : Int)) = some (.int (i.fdiv ((Nat.gcd a.natAbs b.natAbs : Nat) : Int))) := fun i => fdivD_ok (by omega) lg
    simp only [callF, List.append_nil, List.cons_append, List.nil_append, List.length_cons, List.length_nil, Nat.zero_add, Nat.reduceAdd, reduceIte, seqS, setS, retS, exprS, nextS, ifS, thenS, DL.bindM, retM, optM, m1, m2, mVar, consM, callM, truM, andT, orT, notT, andV, orV, notV, ifM, penGet, penPut, parS, asgS, tupM, lstM, partM, addD, subD, ltD, gtD, geD, leD, negD, DL.intD, absD, lenD, truD, isNon, strCD, List.getElem?_cons_succ, List.getElem?_cons_zero, List.set_cons_succ, List.set_cons_zero, if_true, Bool.false_eq_true, if_false, Bool.not_true, Bool.not_false, abs_nat, gcd_ok, g0, decide_eq_true hbp, d1, tupD, low, if_pos hbp]
    rfl
  · have lg : (-((Nat.gcd a.natAbs b.natAbs : Nat) : Int)).natAbs.log2 < 9000 := by
      have := log2_small (i := -((Nat.gcd a.natAbs b.natAbs : Nat) : Int)) (k := 8000) (by rw [Int.natAbs_neg, Int.natAbs_natCast]; exact hs) (by decide)
      omega
    have d1 : ∀ i, fdivD (.int i) (.int (-((Nat.gcd a.natAbs b.natAbs : Nat) : Int))) = some (.int (i.fdiv (-((Nat.gcd a.natAbs b.natAbs : Nat) : Int)))) := fun i => fdivD_ok (by omega) lg
    simp only [callF, List.append_nil, List.cons_append, List.nil_append, List.length_cons, List.length_nil, Nat.zero_add, Nat.reduceAdd, reduceIte, seqS, setS, retS, exprS, nextS, ifS, thenS, DL.bindM, retM, optM, m1, m2, mVar, consM, callM, truM, andT, orT, notT, andV, orV, notV, ifM, penGet, penPut, parS, asgS, tupM, lstM, partM, addD, subD, ltD, gtD, geD, leD, negD, DL.intD, absD, lenD, truD, isNon, strCD, List.getElem?_cons_succ, List.getElem?_cons_zero, List.set_cons_succ, List.set_cons_zero, if_true, Bool.false_eq_true, if_false, Bool.not_true, Bool.not_false, abs_nat, gcd_ok, g0, decide_eq_false hbp, d1, tupD, low, if_neg hbp]
    rfl
end K05
set_option Elab.async false
set_option linter.all false
set_option maxRecDepth 100000
set_option maxHeartbeats 1000000
namespace K05
open PySem PySem.Spec PyProof.Rows L2 DL
theorem low_eq (a b : Int) (h : 0 < b) : low a b = (a / (Nat.gcd a.natAbs b.natAbs : Int), b / (Nat.gcd a.natAbs b.natAbs : Int)) := by
  unfold low
  simp only [if_pos h]
  rw [Int.fdiv_eq_ediv_of_nonneg _ (Int.natCast_nonneg _), Int.fdiv_eq_ediv_of_nonneg _ (Int.natCast_nonneg _)]
theorem low_neg (a b : Int) (h : 0 < b) : low (-a) b = (-(low a b).1, (low a b).2) := by
  rw [low_eq _ _ h, low_eq _ _ h, Int.natAbs_neg]
  have hd : ((Nat.gcd a.natAbs b.natAbs : Nat) : Int) ∣ a := Int.ofNat_dvd_left.mpr (Nat.gcd_dvd_left _ _)
  rw [Int.neg_ediv_of_dvd hd]
theorem low_pos (a b : Int) (h : 0 < b) : 0 < (low a b).2 := by
  rw [low_eq _ _ h]
  have hd : ((Nat.gcd a.natAbs b.natAbs : Nat) : Int) ∣ b := Int.ofNat_dvd_left.mpr (Nat.gcd_dvd_right _ _)
  have hg : 0 < Nat.gcd a.natAbs b.natAbs := gcd_pos (by omega)
  exact Int.ediv_pos_of_pos_of_dvd h (by omega) hd
theorem low_one (a b : Int) (h : 0 < b) : Nat.gcd (low a b).1.natAbs (low a b).2.natAbs = 1 := by
  rw [low_eq _ _ h]
  have hg : 0 < Nat.gcd a.natAbs b.natAbs := gcd_pos (by omega)
  have h1 : ((Nat.gcd a.natAbs b.natAbs : Nat) : Int) ∣ a := Int.ofNat_dvd_left.mpr (Nat.gcd_dvd_left _ _)
  have h2 : ((Nat.gcd a.natAbs b.natAbs : Nat) : Int) ∣ b := Int.ofNat_dvd_left.mpr (Nat.gcd_dvd_right _ _)
  show Nat.gcd (a / _).natAbs (b / _).natAbs = 1
  rw [Int.natAbs_ediv_of_dvd h1, Int.natAbs_ediv_of_dvd h2, Int.natAbs_natCast]
  rw [Nat.gcd_div (Nat.gcd_dvd_left _ _) (Nat.gcd_dvd_right _ _)]
  exact Nat.div_self hg
theorem low_idem {a b : Int} (h : 0 < b) (g : Nat.gcd a.natAbs b.natAbs = 1) : low a b = (a, b) := by
  rw [low_eq _ _ h, g]
  show (a / ((1 : Nat) : Int), b / ((1 : Nat) : Int)) = _
  rw [Int.natCast_one, Int.ediv_one, Int.ediv_one]
theorem low_low (a b : Int) (h : 0 < b) : low (low a b).1 (low a b).2 = low a b := low_idem (low_pos a b h) (low_one a b h)
theorem low_abs1 (a b : Int) (h : 0 < b) : (low a b).1.natAbs ≤ a.natAbs := by
  rw [low_eq _ _ h]
  exact Int.natAbs_ediv_le_natAbs _ _
theorem low_abs2 (a b : Int) (h : 0 < b) : (low a b).2.natAbs ≤ b.natAbs := by
  rw [low_eq _ _ h]
  exact Int.natAbs_ediv_le_natAbs _ _
theorem low_scale {a b m : Int} (h : 0 < b) (hm : 0 < m) : low (a * m) (b * m) = low a b := by
  have hbm : 0 < b * m := Int.mul_pos h hm
  rw [low_eq _ _ hbm, low_eq _ _ h]
  have e : Nat.gcd (a * m).natAbs (b * m).natAbs = Nat.gcd a.natAbs b.natAbs * m.natAbs := by
    rw [Int.natAbs_mul, Int.natAbs_mul, Nat.gcd_mul_right]
  rw [e, Int.natCast_mul, Int.natAbs_of_nonneg (Int.le_of_lt hm), Int.mul_ediv_mul_of_pos_left _ _ hm, Int.mul_ediv_mul_of_pos_left _ _ hm]
/-- the value Ratio(x, y) in lowest terms -/
def rat (p : Int × Int) : D := .obj 6 [.int p.1, .int p.2, .int ((if 0 < p.1 then 1 else 0) - (if p.1 < 0 then 1 else 0)), .bl (p.2 == 1)]
theorem is_int_int (i : Int) (s : Pen) : f_is_integer [.int i] s = .ok (.bl true, s) := by
  refine runF_rt (env := [.d (.int i)]) rfl ?_
  unfold m_is_integer
  simp only [callF, List.append_nil, List.cons_append, List.nil_append, List.length_cons, List.length_nil, Nat.zero_add, Nat.reduceAdd, reduceIte, seqS, setS, retS, exprS, nextS, ifS, thenS, DL.bindM, retM, optM, m1, m2, mVar, consM, callM, truM, andT, orT, notT, andV, orV, notV, ifM, penGet, penPut, parS, asgS, tupM, lstM, partM, addD, subD, ltD, gtD, geD, leD, negD, DL.intD, absD, lenD, truD, isNon, strCD, List.getElem?_cons_succ, List.getElem?_cons_zero, List.set_cons_succ, List.set_cons_zero, if_true, Bool.false_eq_true, if_false, Bool.not_true, Bool.not_false, isiD, Option.map_some]
theorem is_int_rat (p : Int × Int) (s : Pen) : f_is_integer [rat p] s = .ok (.bl false, s) := by
  refine runF_rt (env := [.d (rat p)]) rfl ?_
  unfold m_is_integer rat
  simp only [callF, List.append_nil, List.cons_append, List.nil_append, List.length_cons, List.length_nil, Nat.zero_add, Nat.reduceAdd, reduceIte, seqS, setS, retS, exprS, nextS, ifS, thenS, DL.bindM, retM, optM, m1, m2, mVar, consM, callM, truM, andT, orT, notT, andV, orV, notV, ifM, penGet, penPut, parS, asgS, tupM, lstM, partM, addD, subD, ltD, gtD, geD, leD, negD, DL.intD, absD, lenD, truD, isNon, strCD, List.getElem?_cons_succ, List.getElem?_cons_zero, List.set_cons_succ, List.set_cons_zero, if_true, Bool.false_eq_true, if_false, Bool.not_true, Bool.not_false, isiD, List.lookup, beq_self_eq_true, Option.map_some]
theorem is_num_int (i : Int) (s : Pen) : f_is_number [.int i] s = .ok (.bl true, s) := by
  refine runF_rt (env := [.d (.int i)]) rfl ?_
  unfold m_is_number
  simp only [callF, List.append_nil, List.cons_append, List.nil_append, List.length_cons, List.length_nil, Nat.zero_add, Nat.reduceAdd, reduceIte, seqS, setS, retS, exprS, nextS, ifS, thenS, DL.bindM, retM, optM, m1, m2, mVar, consM, callM, truM, andT, orT, notT, andV, orV, notV, ifM, penGet, penPut, parS, asgS, tupM, lstM, partM, addD, subD, ltD, gtD, geD, leD, negD, DL.intD, absD, lenD, truD, isNon, strCD, List.getElem?_cons_succ, List.getElem?_cons_zero, List.set_cons_succ, List.set_cons_zero, if_true, Bool.false_eq_true, if_false, Bool.not_true, Bool.not_false, is_int_int]
theorem is_num_rat (p : Int × Int) (s : Pen) : f_is_number [rat p] s = .ok (.bl true, s) := by
  refine runF_rt (env := [.d (rat p)]) rfl ?_
  unfold m_is_number
  simp only [callF, List.append_nil, List.cons_append, List.nil_append, List.length_cons, List.length_nil, Nat.zero_add, Nat.reduceAdd, reduceIte, seqS, setS, retS, exprS, nextS, ifS, thenS, DL.bindM, retM, optM, m1, m2, mVar, consM, callM, truM, andT, orT, notT, andV, orV, notV, ifM, penGet, penPut, parS, asgS, tupM, lstM, partM, addD, subD, ltD, gtD, geD, leD, negD, DL.intD, absD, lenD, truD, isNon, strCD, List.getElem?_cons_succ, List.getElem?_cons_zero, List.set_cons_succ, List.set_cons_zero, if_true, Bool.false_eq_true, if_false, Bool.not_true, Bool.not_false, is_int_rat]
  unfold rat
  simp only [callF, List.append_nil, List.cons_append, List.nil_append, List.length_cons, List.length_nil, Nat.zero_add, Nat.reduceAdd, reduceIte, seqS, setS, retS, exprS, nextS, ifS, thenS, DL.bindM, retM, optM, m1, m2, mVar, consM, callM, truM, andT, orT, notT, andV, orV, notV, ifM, penGet, penPut, parS, asgS, tupM, lstM, partM, addD, subD, ltD, gtD, geD, leD, negD, DL.intD, absD, lenD, truD, isNon, strCD, List.getElem?_cons_succ, List.getElem?_cons_zero, List.set_cons_succ, List.set_cons_zero, if_true, Bool.false_eq_true, if_false, Bool.not_true, Bool.not_false, isiD, List.lookup, beq_self_eq_true, Option.map_some]
theorem init_ok {a b : Int} (hb : 0 < b) (h : b.natAbs < 2 ^ 8000) (s : Pen) : f_Ratio___init__ [.int a, .int b] s =
    .ok ([.int (low a b).1, .int (low a b).2, .int ((if 0 < (low a b).1 then 1 else 0) - (if (low a b).1 < 0 then 1 else 0)), .bl ((low a b).2 == 1)], s) := by
  have hp := gcd_pos (a := a) (b := b) (by omega)
  have hs := gcd_small (a := a) (b := b) (by omega) h
  have e0 : (b == 0) = false := beq_eq_false_iff_ne.mpr (by omega)
  have lg : ((Nat.gcd a.natAbs b.natAbs : Nat) : Int).natAbs.log2 < 9000 := by
    have := log2_small (i := ((Nat.gcd a.natAbs b.natAbs : Nat) : Int)) (k := 8000) (by rw [Int.natAbs_natCast]; exact hs) (by decide)
    omega
  have d1 : ∀ i, fdivD (.int i) (.int ((Nat.gcd a.natAbs b.natAbs : Nat) : Int)) = some (.int (i.fdiv ((Nat.gcd a.natAbs b.natAbs : Nat) : Int))) := fun i => fdivD_ok (by omega) lg
  have q : m_Ratio___init__ [Slot.ins 6 [], .d (.int a), .d (.int b), .no] s = .ok (.nx [Slot.ins 6 [.int (low a b).1, .int (low a b).2, .int ((if 0 < (low a b).1 then 1 else 0) - (if (low a b).1 < 0 then 1 else 0)), .bl ((low a b).2 == 1)], .d (.int a), .d (.int b), .d (.int ((Nat.gcd a.natAbs b.natAbs : Nat) : Int))], s) := by
    unfold m_Ratio___init__
    refine (seqS_nx (env' := [Slot.ins 6 [], .d (.int a), .d (.int b), .no]) (s' := s) (by simp only [callF, List.append_nil, List.cons_append, List.nil_append, List.length_cons, List.length_nil, Nat.zero_add, Nat.reduceAdd, reduceIte, seqS, setS, retS, exprS, nextS, ifS, thenS, DL.bindM, retM, optM, m1, m2, mVar, consM, callM, truM, andT, orT, notT, andV, orV, notV, ifM, penGet, penPut, parS, asgS, tupM, lstM, partM, addD, subD, ltD, gtD, geD, leD, negD, DL.intD, absD, lenD, truD, isNon, strCD, List.getElem?_cons_succ, List.getElem?_cons_zero, List.set_cons_succ, List.set_cons_zero, if_true, Bool.false_eq_true, if_false, Bool.not_true, Bool.not_false, is_int_int])).trans ?_
    refine (seqS_nx (env' := [Slot.ins 6 [], .d (.int a), .d (.int b), .no]) (s' := s) (by simp only [callF, List.append_nil, List.cons_append, List.nil_append, List.length_cons, List.length_nil, Nat.zero_add, Nat.reduceAdd, reduceIte, seqS, setS, retS, exprS, nextS, ifS, thenS, DL.bindM, retM, optM, m1, m2, mVar, consM, callM, truM, andT, orT, notT, andV, orV, notV, ifM, penGet, penPut, parS, asgS, tupM, lstM, partM, addD, subD, ltD, gtD, geD, leD, negD, DL.intD, absD, lenD, truD, isNon, strCD, List.getElem?_cons_succ, List.getElem?_cons_zero, List.set_cons_succ, List.set_cons_zero, if_true, Bool.false_eq_true, if_false, Bool.not_true, Bool.not_false, is_int_int, eqD_int, e0])).trans ?_
    refine (seqS_nx (env' := [Slot.ins 6 [], .d (.int a), .d (.int b), .d (.int ((Nat.gcd a.natAbs b.natAbs : Nat) : Int))]) (s' := s) (by simp only [callF, List.append_nil, List.cons_append, List.nil_append, List.length_cons, List.length_nil, Nat.zero_add, Nat.reduceAdd, reduceIte, seqS, setS, retS, exprS, nextS, ifS, thenS, DL.bindM, retM, optM, m1, m2, mVar, consM, callM, truM, andT, orT, notT, andV, orV, notV, ifM, penGet, penPut, parS, asgS, tupM, lstM, partM, addD, subD, ltD, gtD, geD, leD, negD, DL.intD, absD, lenD, truD, isNon, strCD, List.getElem?_cons_succ, List.getElem?_cons_zero, List.set_cons_succ, List.set_cons_zero, if_true, Bool.false_eq_true, if_false, Bool.not_true, Bool.not_false, decide_eq_true hb, gcdD])).trans ?_
    refine (seqS_nx (env' := [Slot.ins 6 [.int (low a b).1], .d (.int a), .d (.int b), .d (.int ((Nat.gcd a.natAbs b.natAbs : Nat) : Int))]) (s' := s) (by simp only [callF, List.append_nil, List.cons_append, List.nil_append, List.length_cons, List.length_nil, Nat.zero_add, Nat.reduceAdd, reduceIte, seqS, setS, retS, exprS, nextS, ifS, thenS, DL.bindM, retM, optM, m1, m2, mVar, consM, callM, truM, andT, orT, notT, andV, orV, notV, ifM, penGet, penPut, parS, asgS, tupM, lstM, partM, addD, subD, ltD, gtD, geD, leD, negD, DL.intD, absD, lenD, truD, isNon, strCD, List.getElem?_cons_succ, List.getElem?_cons_zero, List.set_cons_succ, List.set_cons_zero, if_true, Bool.false_eq_true, if_false, Bool.not_true, Bool.not_false, d1, selfS, low, if_pos hb, and_self])).trans ?_
    refine (seqS_nx (env' := [Slot.ins 6 [.int (low a b).1, .int (low a b).2], .d (.int a), .d (.int b), .d (.int ((Nat.gcd a.natAbs b.natAbs : Nat) : Int))]) (s' := s) (by simp only [callF, List.append_nil, List.cons_append, List.nil_append, List.length_cons, List.length_nil, Nat.zero_add, Nat.reduceAdd, reduceIte, seqS, setS, retS, exprS, nextS, ifS, thenS, DL.bindM, retM, optM, m1, m2, mVar, consM, callM, truM, andT, orT, notT, andV, orV, notV, ifM, penGet, penPut, parS, asgS, tupM, lstM, partM, addD, subD, ltD, gtD, geD, leD, negD, DL.intD, absD, lenD, truD, isNon, strCD, List.getElem?_cons_succ, List.getElem?_cons_zero, List.set_cons_succ, List.set_cons_zero, if_true, Bool.false_eq_true, if_false, Bool.not_true, Bool.not_false, d1, selfS, low, if_pos hb, and_self])).trans ?_
    generalize (low a b).1 = x
    generalize (low a b).2 = y
    refine (seqS_nx (env' := [Slot.ins 6 [.int x, .int y, .int ((if 0 < x then 1 else 0) - (if x < 0 then 1 else 0))], .d (.int a), .d (.int b), .d (.int ((Nat.gcd a.natAbs b.natAbs : Nat) : Int))]) (s' := s) (by
      by_cases h1 : 0 < x
      · have h2 : ¬ x < 0 := by omega
        simp only [callF, List.append_nil, List.cons_append, List.nil_append, List.length_cons, List.length_nil, Nat.zero_add, Nat.reduceAdd, reduceIte, seqS, setS, retS, exprS, nextS, ifS, thenS, DL.bindM, retM, optM, m1, m2, mVar, consM, callM, truM, andT, orT, notT, andV, orV, notV, ifM, penGet, penPut, parS, asgS, tupM, lstM, partM, addD, subD, ltD, gtD, geD, leD, negD, DL.intD, absD, lenD, truD, isNon, strCD, List.getElem?_cons_succ, List.getElem?_cons_zero, List.set_cons_succ, List.set_cons_zero, if_true, Bool.false_eq_true, if_false, Bool.not_true, Bool.not_false, selfS, mSelf, and_self, decide_eq_true h1, decide_eq_false h2, if_pos h1, if_neg h2, b2i]
      · by_cases h2 : x < 0
        · simp only [callF, List.append_nil, List.cons_append, List.nil_append, List.length_cons, List.length_nil, Nat.zero_add, Nat.reduceAdd, reduceIte, seqS, setS, retS, exprS, nextS, ifS, thenS, DL.bindM, retM, optM, m1, m2, mVar, consM, callM, truM, andT, orT, notT, andV, orV, notV, ifM, penGet, penPut, parS, asgS, tupM, lstM, partM, addD, subD, ltD, gtD, geD, leD, negD, DL.intD, absD, lenD, truD, isNon, strCD, List.getElem?_cons_succ, List.getElem?_cons_zero, List.set_cons_succ, List.set_cons_zero, if_true, Bool.false_eq_true, if_false, Bool.not_true, Bool.not_false, selfS, mSelf, and_self, decide_eq_false h1, decide_eq_true h2, if_neg h1, if_pos h2, b2i]
        · simp only [callF, List.append_nil, List.cons_append, List.nil_append, List.length_cons, List.length_nil, Nat.zero_add, Nat.reduceAdd, reduceIte, seqS, setS, retS, exprS, nextS, ifS, thenS, DL.bindM, retM, optM, m1, m2, mVar, consM, callM, truM, andT, orT, notT, andV, orV, notV, ifM, penGet, penPut, parS, asgS, tupM, lstM, partM, addD, subD, ltD, gtD, geD, leD, negD, DL.intD, absD, lenD, truD, isNon, strCD, List.getElem?_cons_succ, List.getElem?_cons_zero, List.set_cons_succ, List.set_cons_zero, if_true, Bool.false_eq_true, if_false, Bool.not_true, Bool.not_false, selfS, mSelf, and_self, decide_eq_false h1, decide_eq_false h2, if_neg h1, if_neg h2, b2i])).trans ?_
    simp only [callF, List.append_nil, List.cons_append, List.nil_append, List.length_cons, List.length_nil, Nat.zero_add, Nat.reduceAdd, reduceIte, seqS, setS, retS, exprS, nextS, ifS, thenS, DL.bindM, retM, optM, m1, m2, mVar, consM, callM, truM, andT, orT, notT, andV, orV, notV, ifM, penGet, penPut, parS, asgS, tupM, lstM, partM, addD, subD, ltD, gtD, geD, leD, negD, DL.intD, absD, lenD, truD, isNon, strCD, List.getElem?_cons_succ, List.getElem?_cons_zero, List.set_cons_succ, List.set_cons_zero, if_true, Bool.false_eq_true, if_false, Bool.not_true, Bool.not_false, selfS, mSelf, and_self, eqD_int]
  unfold f_Ratio___init__ runI
  rw [show m_Ratio___init__ (Slot.ins 6 [] :: (([D.int a, .int b] : List D).map Slot.d ++ List.replicate (4 - (([D.int a, .int b] : List D).length + 1)) Slot.no)) s = _ from q]
  rfl
theorem make_ok {a b : Int} (hb : 0 < b) (h : b.natAbs < 2 ^ 8000) (s : Pen) : makeR 6 2 f_Ratio___init__ [.int a, .int b] s = .ok (rat (low a b), s) := by
  unfold makeR
  rw [if_pos (show ([D.int a, .int b] : List D).length = 2 from rfl), init_ok hb h]
  rfl
theorem neg_ok {p : Int × Int} (hb : 0 < p.2) (h : p.2.natAbs < 2 ^ 8000) (s : Pen) : f_Ratio___neg__ [rat p] s = .ok (rat (low (-p.1) p.2), s) := by
  refine runF_rt (env := [.d (rat p)]) rfl ?_
  unfold m_Ratio___neg__
  have e1 : fldD [(6, 0)] (rat p) = some (.int p.1) := rfl
  have e2 : fldD [(6, 1)] (rat p) = some (.int p.2) := rfl
  unfold makeF
  simp only [callF, List.append_nil, List.cons_append, List.nil_append, List.length_cons, List.length_nil, Nat.zero_add, Nat.reduceAdd, reduceIte, seqS, setS, retS, exprS, nextS, ifS, thenS, DL.bindM, retM, optM, m1, m2, mVar, consM, callM, truM, andT, orT, notT, andV, orV, notV, ifM, penGet, penPut, parS, asgS, tupM, lstM, partM, addD, subD, ltD, gtD, geD, leD, negD, DL.intD, absD, lenD, truD, isNon, strCD, List.getElem?_cons_succ, List.getElem?_cons_zero, List.set_cons_succ, List.set_cons_zero, if_true, Bool.false_eq_true, if_false, Bool.not_true, Bool.not_false, e1, e2, make_ok hb h]
/-- the text of a ratio -/
def ratT (p : Int × Int) : Str := if p.2 = 1 then ((toString p.1 : String) : Str) else ((Str.empty ++ ((toString p.1 : String) : Str)) ++ ("/" : Str)) ++ ((toString p.2 : String) : Str)
end K05
set_option Elab.async false
set_option linter.all false
set_option maxRecDepth 100000
set_option maxHeartbeats 1000000
namespace K05
open PySem PySem.Spec PyProof.Rows L2 DL
theorem txt_of (s : String) : Txt0 s.length (Str.ofString s) := by
  refine ⟨ok_iff.mpr fun k hk => ?_, Nat.le_of_eq (PySem.ofString_length s)⟩
  rw [Str.ofString_eq_toList] at hk
  obtain ⟨c, _, rfl⟩ := List.mem_map.mp hk
  have := c.valid
  have hv : c.toNat < 0x110000 := by
    rcases this with h | ⟨_, h⟩
    · exact Nat.lt_trans h (by decide)
    · exact h
  exact hv
theorem txt_int {a : Int} {k : Nat} (hk : 0 < k) (h : a.natAbs < 10 ^ k) : Txt0 (k + 1) ((toString a : String) : Str) := (txt_of _).mono (PySem.int_text_length_le10 hk h)
theorem log2_10 {a : Int} (h : a.natAbs < 10 ^ 60) : a.natAbs.log2 < 1920 := by
  have h1 : (10 : Nat) ^ 60 < 2 ^ 200 := by decide +kernel
  have := log2_small (i := a) (k := 200) (by omega) (by decide)
  omega
theorem str_ok {p : Int × Int} (h1 : p.1.natAbs < 10 ^ 60) (h2 : p.2.natAbs < 10 ^ 60) (s : Pen) : f_Ratio___str__ [rat p] s = .ok (.str (ratT p), s) := by
  refine runF_rt (env := [.d (rat p)]) rfl ?_
  unfold m_Ratio___str__
  have e1 : fldD [(6, 0)] (rat p) = some (.int p.1) := rfl
  have e2 : fldD [(6, 1)] (rat p) = some (.int p.2) := rfl
  by_cases hb : p.2 = 1
  · have e3 : (p.2 == 1) = true := by rw [hb]; rfl
    simp only [callF, List.append_nil, List.cons_append, List.nil_append, List.length_cons, List.length_nil, Nat.zero_add, Nat.reduceAdd, reduceIte, seqS, setS, retS, exprS, nextS, ifS, thenS, DL.bindM, retM, optM, m1, m2, mVar, consM, callM, truM, andT, orT, notT, andV, orV, notV, ifM, penGet, penPut, parS, asgS, tupM, lstM, partM, addD, subD, ltD, gtD, geD, leD, negD, DL.intD, absD, lenD, truD, isNon, strCD, List.getElem?_cons_succ, List.getElem?_cons_zero, List.set_cons_succ, List.set_cons_zero, if_true, Bool.false_eq_true, if_false, Bool.not_true, Bool.not_false, e1, e2, eqD_int, e3, if_pos (log2_10 h1), ratT, if_pos hb]
  · have e3 : (p.2 == 1) = false := beq_eq_false_iff_ne.mpr hb
    have t1 := txt_int (by decide) h1
    have t2 := txt_int (by decide) h2
    have t0 : Txt0 0 Str.empty := ⟨by decide +kernel, by decide +kernel⟩
    have ts : Txt0 1 ("/" : Str) := txt_of "/"
    have c1 := t0.cat t1
    have c2 := c1.cat ts
    have c3 := c2.cat t2
    have l1 : (Str.empty ++ ((toString p.1 : String) : Str)).length ≤ sizeLine := by have := c1.len; rw [sizeLine_eq]; omega
    have l2 : ((Str.empty ++ ((toString p.1 : String) : Str)) ++ ("/" : Str)).length ≤ sizeLine := by have := c2.len; rw [sizeLine_eq]; omega
    have l3 : (((Str.empty ++ ((toString p.1 : String) : Str)) ++ ("/" : Str)) ++ ((toString p.2 : String) : Str)).length ≤ sizeLine := by have := c3.len; rw [sizeLine_eq]; omega
    simp only [callF, List.append_nil, List.cons_append, List.nil_append, List.length_cons, List.length_nil, Nat.zero_add, Nat.reduceAdd, reduceIte, seqS, setS, retS, exprS, nextS, ifS, thenS, DL.bindM, retM, optM, m1, m2, mVar, consM, callM, truM, andT, orT, notT, andV, orV, notV, ifM, penGet, penPut, parS, asgS, tupM, lstM, partM, addD, subD, ltD, gtD, geD, leD, negD, DL.intD, absD, lenD, truD, isNon, strCD, List.getElem?_cons_succ, List.getElem?_cons_zero, List.set_cons_succ, List.set_cons_zero, if_true, Bool.false_eq_true, if_false, Bool.not_true, Bool.not_false, e1, e2, eqD_int, e3, catM, fmtD, if_pos (log2_10 h1), if_pos (log2_10 h2), if_pos l1, if_pos l2, if_pos l3, ratT, if_neg hb]
theorem ratT_txt {p : Int × Int} (h1 : p.1.natAbs < 10 ^ 60) (h2 : p.2.natAbs < 10 ^ 60) : Txt0 124 (ratT p) := by
  have t1 := txt_int (by decide) h1
  have t2 := txt_int (by decide) h2
  have t0 : Txt0 0 Str.empty := ⟨by decide +kernel, by decide +kernel⟩
  have ts : Txt0 1 ("/" : Str) := txt_of "/"
  unfold ratT
  split
  · exact t1.mono (by decide)
  · exact (((t0.cat t1).cat ts).cat t2).mono (by decide)
theorem plain_int {a : Int} (s : Pen) : f_plain_ratio [.int a] s = .ok (rat (low a 1), s) := by
  refine runF_rt (env := [.d (.int a)]) rfl ?_
  unfold m_plain_ratio makeF
  have e : makeR 6 2 f_Ratio___init__ [.int a, .int 1] s = .ok (rat (low a 1), s) := make_ok (by decide) (by decide +kernel) s
  simp only [callF, List.append_nil, List.cons_append, List.nil_append, List.length_cons, List.length_nil, Nat.zero_add, Nat.reduceAdd, reduceIte, seqS, setS, retS, exprS, nextS, ifS, thenS, DL.bindM, retM, optM, m1, m2, mVar, consM, callM, truM, andT, orT, notT, andV, orV, notV, ifM, penGet, penPut, parS, asgS, tupM, lstM, partM, addD, subD, ltD, gtD, geD, leD, negD, DL.intD, absD, lenD, truD, isNon, strCD, List.getElem?_cons_succ, List.getElem?_cons_zero, List.set_cons_succ, List.set_cons_zero, if_true, Bool.false_eq_true, if_false, Bool.not_true, Bool.not_false, is_int_int, e]
theorem plain_rat (p : Int × Int) (s : Pen) : f_plain_ratio [rat p] s = .ok (rat p, s) := by
  refine runF_rt (env := [.d (rat p)]) rfl ?_
  unfold m_plain_ratio
  simp only [callF, List.append_nil, List.cons_append, List.nil_append, List.length_cons, List.length_nil, Nat.zero_add, Nat.reduceAdd, reduceIte, seqS, setS, retS, exprS, nextS, ifS, thenS, DL.bindM, retM, optM, m1, m2, mVar, consM, callM, truM, andT, orT, notT, andV, orV, notV, ifM, penGet, penPut, parS, asgS, tupM, lstM, partM, addD, subD, ltD, gtD, geD, leD, negD, DL.intD, absD, lenD, truD, isNon, strCD, List.getElem?_cons_succ, List.getElem?_cons_zero, List.set_cons_succ, List.set_cons_zero, if_true, Bool.false_eq_true, if_false, Bool.not_true, Bool.not_false, is_int_rat]
theorem ratio_int {a : Int} (s : Pen) : f_ratio_of [.int a] s = .ok (rat (low a 1), s) := by
  refine runF_rt (env := [.d (.int a)]) rfl ?_
  unfold m_ratio_of
  simp only [callF, List.append_nil, List.cons_append, List.nil_append, List.length_cons, List.length_nil, Nat.zero_add, Nat.reduceAdd, reduceIte, seqS, setS, retS, exprS, nextS, ifS, thenS, DL.bindM, retM, optM, m1, m2, mVar, consM, callM, truM, andT, orT, notT, andV, orV, notV, ifM, penGet, penPut, parS, asgS, tupM, lstM, partM, addD, subD, ltD, gtD, geD, leD, negD, DL.intD, absD, lenD, truD, isNon, strCD, List.getElem?_cons_succ, List.getElem?_cons_zero, List.set_cons_succ, List.set_cons_zero, if_true, Bool.false_eq_true, if_false, Bool.not_true, Bool.not_false, is_num_int, plain_int]
theorem ratio_rat (p : Int × Int) (s : Pen) : f_ratio_of [rat p] s = .ok (rat p, s) := by
  refine runF_rt (env := [.d (rat p)]) rfl ?_
  unfold m_ratio_of
  simp only [callF, List.append_nil, List.cons_append, List.nil_append, List.length_cons, List.length_nil, Nat.zero_add, Nat.reduceAdd, reduceIte, seqS, setS, retS, exprS, nextS, ifS, thenS, DL.bindM, retM, optM, m1, m2, mVar, consM, callM, truM, andT, orT, notT, andV, orV, notV, ifM, penGet, penPut, parS, asgS, tupM, lstM, partM, addD, subD, ltD, gtD, geD, leD, negD, DL.intD, absD, lenD, truD, isNon, strCD, List.getElem?_cons_succ, List.getElem?_cons_zero, List.set_cons_succ, List.set_cons_zero, if_true, Bool.false_eq_true, if_false, Bool.not_true, Bool.not_false, is_num_rat, plain_rat]
theorem strO_rat {m : M Pen D} {env : DL.Env} {p : Int × Int} {s s' : Pen} (hm : m env s = .ok (rat p, s')) (h1 : p.1.natAbs < 10 ^ 60) (h2 : p.2.natAbs < 10 ^ 60) : strO 6 f_Ratio___str__ m env s = .ok (.str (ratT p), s') := by
  unfold strO DL.bindM
  rw [hm]
  have q := str_ok h1 h2 s'
  unfold rat at q ⊢
  dsimp only
  rw [if_pos rfl, q]
theorem text_int {a : Int} (h : a.natAbs < 10 ^ 60) (s : Pen) : f_number_text [.int a] s = .ok (.str (ratT (low a 1)), s) := by
  refine runF_rt (env := [.d (.int a)]) rfl ?_
  unfold m_number_text retS thenS
  rw [strO_rat (p := low a 1) (s' := s) (by simp only [callF, List.append_nil, List.cons_append, List.nil_append, List.length_cons, List.length_nil, Nat.zero_add, Nat.reduceAdd, reduceIte, seqS, setS, retS, exprS, nextS, ifS, thenS, DL.bindM, retM, optM, m1, m2, mVar, consM, callM, truM, andT, orT, notT, andV, orV, notV, ifM, penGet, penPut, parS, asgS, tupM, lstM, partM, addD, subD, ltD, gtD, geD, leD, negD, DL.intD, absD, lenD, truD, isNon, strCD, List.getElem?_cons_succ, List.getElem?_cons_zero, List.set_cons_succ, List.set_cons_zero, if_true, Bool.false_eq_true, if_false, Bool.not_true, Bool.not_false, ratio_int]) (Nat.lt_of_le_of_lt (low_abs1 _ _ (by decide)) h) (Nat.lt_of_le_of_lt (low_abs2 _ _ (by decide)) (by decide))]
theorem text_rat {p : Int × Int} (h1 : p.1.natAbs < 10 ^ 60) (h2 : p.2.natAbs < 10 ^ 60) (s : Pen) : f_number_text [rat p] s = .ok (.str (ratT p), s) := by
  refine runF_rt (env := [.d (rat p)]) rfl ?_
  unfold m_number_text retS thenS
  rw [strO_rat (p := p) (s' := s) (by simp only [callF, List.append_nil, List.cons_append, List.nil_append, List.length_cons, List.length_nil, Nat.zero_add, Nat.reduceAdd, reduceIte, seqS, setS, retS, exprS, nextS, ifS, thenS, DL.bindM, retM, optM, m1, m2, mVar, consM, callM, truM, andT, orT, notT, andV, orV, notV, ifM, penGet, penPut, parS, asgS, tupM, lstM, partM, addD, subD, ltD, gtD, geD, leD, negD, DL.intD, absD, lenD, truD, isNon, strCD, List.getElem?_cons_succ, List.getElem?_cons_zero, List.set_cons_succ, List.set_cons_zero, if_true, Bool.false_eq_true, if_false, Bool.not_true, Bool.not_false, ratio_rat]) h1 h2]
theorem p6 : powD (.int 10) (.int 6) = some (.int 1000000) := powD_ok ⟨by decide, by decide, by decide⟩
theorem p9 : powD (.int 10) (.int 9) = some (.int 1000000000) := powD_ok ⟨by decide, by decide, by decide⟩
theorem draw1 {n : Nat} {p : Pen} (h : PenOk n p) (hn : n < 1000000000000) {many : Int} (hm : 0 < many) (hl : many.natAbs < 2 ^ 200) : ∃ r p', f__law_draw [.st, .int many] p = .ok (.int r, p') ∧ 0 ≤ r ∧ r < many ∧ PenOk (n + 1) p' := by
  have := log2_small hl (by decide)
  exact draw_ok h hn hm (by omega)
theorem step_loop {a b c d : Slot} : ∀ (ds : List D) {n : Nat} {p : Pen} {x B : Int}, PenOk n p → n + ds.length < 100000000000 → 0 ≤ x → x < B → ds.length < 4 → B ≤ 1000000000 ^ (4 - ds.length) →
    ∃ y e p', forLoop (.nm 4) (setS 3 (m2 addD (m2 mulD (mVar 3) (m2 powD (retM (.int 10)) (retM (.int 9)))) (callF 2 f__law_draw [] (consM (mVar 0) (consM (m2 powD (retM (.int 10)) (retM (.int 9))) (retM [])))))) ds [.d .st, b, c, .d (.int x), d] p = .ok (.nx [.d .st, b, c, .d (.int y), e], p') ∧ 0 ≤ y ∧ y < 1000000000 ^ 4 ∧ PenOk (n + ds.length) p'
  | [], n, p, x, B, h, _, h0, h1, _, hB => ⟨x, d, p, rfl, h0, by have : B ≤ 1000000000 ^ 4 := hB; omega, h⟩
  | z :: ds, n, p, x, B, h, hn, h0, h1, hl, hB => by
    simp only [List.length_cons] at hn hl hB
    obtain ⟨r, p1, e, r0, r1, h2⟩ := draw1 h (by omega) (many := 1000000000) (by decide) (by decide +kernel)
    have hx : x < 1000000000 ^ 4 := by
      have : (1000000000 : Int) ^ (4 - (ds.length + 1)) ≤ 1000000000 ^ 4 := by
        rcases (by omega : ds.length = 0 ∨ ds.length = 1 ∨ ds.length = 2) with h | h | h <;> rw [h] <;> decide +kernel
      omega
    have hm : mulD (.int x) (.int 1000000000) = some (.int (x * 1000000000)) := mulD_ok (by
      have q1 : (1000000000 : Int) ^ 4 < 2 ^ 128 := by decide +kernel
      have h1 := log2_small (i := x) (k := 128) (by omega) (by decide)
      have h2 : (1000000000 : Int).natAbs.log2 ≤ 40 := by decide
      unfold mulOk; omega)
    have hb : (setS 3 (m2 addD (m2 mulD (mVar 3) (m2 powD (retM (.int 10)) (retM (.int 9)))) (callF 2 f__law_draw [] (consM (mVar 0) (consM (m2 powD (retM (.int 10)) (retM (.int 9))) (retM []))))) : MS Pen) [.d .st, b, c, .d (.int x), .d z] p = .ok (.nx [.d .st, b, c, .d (.int (x * 1000000000 + r)), .d z], p1) := by
      simp only [callF, List.append_nil, List.cons_append, List.nil_append, List.length_cons, List.length_nil, Nat.zero_add, Nat.reduceAdd, reduceIte, seqS, setS, retS, exprS, nextS, ifS, thenS, DL.bindM, retM, optM, m1, m2, mVar, consM, callM, truM, andT, orT, notT, andV, orV, notV, ifM, penGet, penPut, parS, asgS, tupM, lstM, partM, addD, subD, ltD, gtD, geD, leD, negD, DL.intD, absD, lenD, truD, isNon, strCD, List.getElem?_cons_succ, List.getElem?_cons_zero, List.set_cons_succ, List.set_cons_zero, if_true, Bool.false_eq_true, if_false, Bool.not_true, Bool.not_false, p9, hm, e]
    obtain ⟨y, e1, p', e2, y0, y1, h3⟩ := step_loop (a := a) (b := b) (c := c) (d := .d z) ds (x := x * 1000000000 + r) (B := B * 1000000000) h2 (by omega) (by omega) (by omega) (by omega) (by
      have hp : (1000000000 : Int) ^ (4 - ds.length) = 1000000000 ^ (4 - (ds.length + 1)) * 1000000000 := by
        rcases (by omega : ds.length = 0 ∨ ds.length = 1 ∨ ds.length = 2) with h | h | h <;> rw [h] <;> decide +kernel
      omega)
    refine ⟨y, e1, p', ?_, y0, y1, h3.mono (by simp only [List.length_cons]; omega)⟩
    rw [forLoop_nx (env1 := [.d .st, b, c, .d (.int x), .d z]) rfl hb]
    exact e2
theorem int_ok {n : Nat} {p : Pen} (h : PenOk n p) (hn : n < 10000000000) : ∃ z p', f__law_int [.st] p = .ok (.int z, p') ∧ z.natAbs < 10 ^ 36 ∧ PenOk (n + 7) p' := by
  obtain ⟨sg, q1, e1, m1', h1⟩ := pick_lst h (by omega) (xs := [.int 1, .int 1, .int (-1)]) (by simp) (by decide)
  obtain ⟨sz, q2, e2, m2', h2⟩ := pick_lst h1 (by omega) (xs := [.int 4, .int 4, .int 4, .int 60, .int 1000000, .int 1000000000]) (by simp) (by decide)
  obtain ⟨k, rfl, k0, k1⟩ : ∃ k : Int, sz = .int k ∧ 0 < k ∧ k ≤ 1000000000 := by
    simp only [List.mem_cons, List.not_mem_nil, or_false] at m2'
    rcases m2' with rfl | rfl | rfl | rfl | rfl | rfl <;> exact ⟨_, rfl, by decide, by decide⟩
  obtain ⟨x, q3, e3, x0, x1, h3⟩ := draw1 h2 (by omega) k0 (by have : (1000000000 : Nat) < 2 ^ 200 := (by decide +kernel); omega)
  obtain ⟨g, rfl, hg⟩ : ∃ g : Int, sg = .int g ∧ (g = 1 ∨ g = -1) := by
    simp only [List.mem_cons, List.not_mem_nil, or_false] at m1'
    rcases m1' with rfl | rfl | rfl <;> exact ⟨_, rfl, by decide⟩
  have q9 : (1000000000 : Int) ^ 4 = 10 ^ 36 := by decide +kernel
  have fin : ∀ y : Int, 0 ≤ y → y < 1000000000 ^ 4 → ∃ z : Int, mulD (.int g) (.int y) = some (.int z) ∧ z.natAbs < 10 ^ 36 := fun y y0 y1 => by
    refine ⟨g * y, mulD_ok ?_, ?_⟩
    · have q1 : (1000000000 : Int) ^ 4 < 2 ^ 128 := by decide +kernel
      have h1 := log2_small (i := y) (k := 128) (by omega) (by decide)
      have h2 : g.natAbs.log2 ≤ 1 := by rcases hg with rfl | rfl <;> decide
      unfold mulOk; omega
    · have : g.natAbs = 1 := by rcases hg with rfl | rfl <;> rfl
      rw [Int.natAbs_mul, this, Nat.one_mul]; omega
  suffices q : ∃ z p', m__law_int [.d .st, .no, .no, .no, .no] p = .ok (.rt (.int z), p') ∧ z.natAbs < 10 ^ 36 ∧ PenOk (n + 7) p' by
    obtain ⟨z, p', e, k⟩ := q
    exact ⟨z, p', runF_rt rfl e, k⟩
  unfold m__law_int
  have s1 : (setS 1 (callF 2 f__law_pick [] (consM (mVar 0) (consM (lstM (consM (retM (.int 1)) (consM (retM (.int 1)) (consM (m1 negD (retM (.int 1))) (retM []))))) (retM [])))) : MS Pen) [.d .st, .no, .no, .no, .no] p = .ok (.nx [.d .st, .d (.int g), .no, .no, .no], q1) := by
    simp only [callF, List.append_nil, List.cons_append, List.nil_append, List.length_cons, List.length_nil, Nat.zero_add, Nat.reduceAdd, reduceIte, seqS, setS, retS, exprS, nextS, ifS, thenS, DL.bindM, retM, optM, m1, m2, mVar, consM, callM, truM, andT, orT, notT, andV, orV, notV, ifM, penGet, penPut, parS, asgS, tupM, lstM, partM, addD, subD, ltD, gtD, geD, leD, negD, DL.intD, absD, lenD, truD, isNon, strCD, List.getElem?_cons_succ, List.getElem?_cons_zero, List.set_cons_succ, List.set_cons_zero, if_true, Bool.false_eq_true, if_false, Bool.not_true, Bool.not_false, lstD, fpick_eq, e1, Nat.reduceLeDiff, Nat.reduceAdd]
  have s2 : (setS 2 (callF 2 f__law_pick [] (consM (mVar 0) (consM (lstM (consM (retM (.int 4)) (consM (retM (.int 4)) (consM (retM (.int 4)) (consM (retM (.int 60)) (consM (m2 powD (retM (.int 10)) (retM (.int 6))) (consM (m2 powD (retM (.int 10)) (retM (.int 9))) (retM [])))))))) (retM [])))) : MS Pen) [.d .st, .d (.int g), .no, .no, .no] q1 = .ok (.nx [.d .st, .d (.int g), .d (.int k), .no, .no], q2) := by
    simp only [callF, List.append_nil, List.cons_append, List.nil_append, List.length_cons, List.length_nil, Nat.zero_add, Nat.reduceAdd, reduceIte, seqS, setS, retS, exprS, nextS, ifS, thenS, DL.bindM, retM, optM, m1, m2, mVar, consM, callM, truM, andT, orT, notT, andV, orV, notV, ifM, penGet, penPut, parS, asgS, tupM, lstM, partM, addD, subD, ltD, gtD, geD, leD, negD, DL.intD, absD, lenD, truD, isNon, strCD, List.getElem?_cons_succ, List.getElem?_cons_zero, List.set_cons_succ, List.set_cons_zero, if_true, Bool.false_eq_true, if_false, Bool.not_true, Bool.not_false, lstD, fpick_eq, e2, p6, p9, Nat.reduceLeDiff, Nat.reduceAdd]
  have s3 : (setS 3 (callF 2 f__law_draw [] (consM (mVar 0) (consM (mVar 2) (retM [])))) : MS Pen) [.d .st, .d (.int g), .d (.int k), .no, .no] q2 = .ok (.nx [.d .st, .d (.int g), .d (.int k), .d (.int x), .no], q3) := by
    simp only [callF, List.append_nil, List.cons_append, List.nil_append, List.length_cons, List.length_nil, Nat.zero_add, Nat.reduceAdd, reduceIte, seqS, setS, retS, exprS, nextS, ifS, thenS, DL.bindM, retM, optM, m1, m2, mVar, consM, callM, truM, andT, orT, notT, andV, orV, notV, ifM, penGet, penPut, parS, asgS, tupM, lstM, partM, addD, subD, ltD, gtD, geD, leD, negD, DL.intD, absD, lenD, truD, isNon, strCD, List.getElem?_cons_succ, List.getElem?_cons_zero, List.set_cons_succ, List.set_cons_zero, if_true, Bool.false_eq_true, if_false, Bool.not_true, Bool.not_false, e3]
  rw [seqS_nx s1, seqS_nx s2, seqS_nx s3]
  by_cases hk : k = 1000000000
  · have e5 : (k == 1000000000) = true := by rw [hk]; rfl
    obtain ⟨r, q4, e4, r0, r1, h4⟩ := draw1 h3 (by omega) (many := 4) (by decide) (by decide +kernel)
    have hr : r.toNat < 4 := by omega
    have hlen : (rangeL 0 r.toNat).length = r.toNat := by unfold rangeL; rw [List.length_map, List.length_range]
    obtain ⟨y, e, q5, e6, y0, y1, h5⟩ := step_loop (a := .no) (b := .d (.int g)) (c := .d (.int k)) (d := .no) (rangeL 0 r.toNat) (x := x) (B := 1000000000) h4 (by rw [hlen]; omega) x0 (by omega) (by rw [hlen]; exact hr) (by
      rw [hlen]
      rcases (by omega : r.toNat = 0 ∨ r.toNat = 1 ∨ r.toNat = 2 ∨ r.toNat = 3) with h | h | h | h <;> rw [h] <;> decide +kernel)
    obtain ⟨z, e7, z1⟩ := fin y y0 y1
    refine ⟨z, q5, ?_, z1, h5.mono (by rw [hlen]; omega)⟩
    have hrg : (-(2 ^ 62) ≤ r ∧ r < 2 ^ 62) := by constructor <;> omega
    have s4 : (ifS (truM (m2 eqD (mVar 2) (m2 powD (retM (.int 10)) (retM (.int 9))))) (forS (.nm 4) (itA rng1 (consM (callF 2 f__law_draw [] (consM (mVar 0) (consM (retM (.int 4)) (retM [])))) (retM []))) (setS 3 (m2 addD (m2 mulD (mVar 3) (m2 powD (retM (.int 10)) (retM (.int 9)))) (callF 2 f__law_draw [] (consM (mVar 0) (consM (m2 powD (retM (.int 10)) (retM (.int 9))) (retM []))))))) nextS : MS Pen) [.d .st, .d (.int g), .d (.int k), .d (.int x), .no] q3 = .ok (.nx [.d .st, .d (.int g), .d (.int k), .d (.int y), e], q5) := by
      have t : (truM (m2 eqD (mVar 2) (m2 powD (retM (.int 10)) (retM (.int 9)))) : M Pen Bool) [.d .st, .d (.int g), .d (.int k), .d (.int x), .no] q3 = .ok (true, q3) := by
        simp only [callF, List.append_nil, List.cons_append, List.nil_append, List.length_cons, List.length_nil, Nat.zero_add, Nat.reduceAdd, reduceIte, seqS, setS, retS, exprS, nextS, ifS, thenS, DL.bindM, retM, optM, m1, m2, mVar, consM, callM, truM, andT, orT, notT, andV, orV, notV, ifM, penGet, penPut, parS, asgS, tupM, lstM, partM, addD, subD, ltD, gtD, geD, leD, negD, DL.intD, absD, lenD, truD, isNon, strCD, List.getElem?_cons_succ, List.getElem?_cons_zero, List.set_cons_succ, List.set_cons_zero, if_true, Bool.false_eq_true, if_false, Bool.not_true, Bool.not_false, p9, eqD_int, e5]
      have i : (itA rng1 (consM (callF 2 f__law_draw [] (consM (mVar 0) (consM (retM (.int 4)) (retM [])))) (retM [])) : M Pen (List D)) [.d .st, .d (.int g), .d (.int k), .d (.int x), .no] q3 = .ok (rangeL 0 r.toNat, q4) := by
        simp only [callF, List.append_nil, List.cons_append, List.nil_append, List.length_cons, List.length_nil, Nat.zero_add, Nat.reduceAdd, reduceIte, seqS, setS, retS, exprS, nextS, ifS, thenS, DL.bindM, retM, optM, m1, m2, mVar, consM, callM, truM, andT, orT, notT, andV, orV, notV, ifM, penGet, penPut, parS, asgS, tupM, lstM, partM, addD, subD, ltD, gtD, geD, leD, negD, DL.intD, absD, lenD, truD, isNon, strCD, List.getElem?_cons_succ, List.getElem?_cons_zero, List.set_cons_succ, List.set_cons_zero, if_true, Bool.false_eq_true, if_false, Bool.not_true, Bool.not_false, itA, e4, rng1, if_pos hrg]
      unfold ifS thenS
      rw [t]
      show forS _ _ _ _ _ = _
      unfold forS thenS
      rw [i]
      exact e6
    rw [seqS_nx s4]
    simp only [callF, List.append_nil, List.cons_append, List.nil_append, List.length_cons, List.length_nil, Nat.zero_add, Nat.reduceAdd, reduceIte, seqS, setS, retS, exprS, nextS, ifS, thenS, DL.bindM, retM, optM, m1, m2, mVar, consM, callM, truM, andT, orT, notT, andV, orV, notV, ifM, penGet, penPut, parS, asgS, tupM, lstM, partM, addD, subD, ltD, gtD, geD, leD, negD, DL.intD, absD, lenD, truD, isNon, strCD, List.getElem?_cons_succ, List.getElem?_cons_zero, List.set_cons_succ, List.set_cons_zero, if_true, Bool.false_eq_true, if_false, Bool.not_true, Bool.not_false, e7]
  · have e5 : (k == 1000000000) = false := beq_eq_false_iff_ne.mpr hk
    obtain ⟨z, e7, z1⟩ := fin x x0 (by have : (1000000000 : Int) < 1000000000 ^ 4 := (by decide +kernel); omega)
    refine ⟨z, q3, ?_, z1, h3.mono (by omega)⟩
    simp only [callF, List.append_nil, List.cons_append, List.nil_append, List.length_cons, List.length_nil, Nat.zero_add, Nat.reduceAdd, reduceIte, seqS, setS, retS, exprS, nextS, ifS, thenS, DL.bindM, retM, optM, m1, m2, mVar, consM, callM, truM, andT, orT, notT, andV, orV, notV, ifM, penGet, penPut, parS, asgS, tupM, lstM, partM, addD, subD, ltD, gtD, geD, leD, negD, DL.intD, absD, lenD, truD, isNon, strCD, List.getElem?_cons_succ, List.getElem?_cons_zero, List.set_cons_succ, List.set_cons_zero, if_true, Bool.false_eq_true, if_false, Bool.not_true, Bool.not_false, p9, eqD_int, e5, e7]
end K05
set_option Elab.async false
set_option linter.all false
set_option maxRecDepth 100000
set_option maxHeartbeats 1000000
namespace K05
open PySem PySem.Spec PyProof.Rows L2 DL
def digs (l : List Nat) : Bool := l.all fun k => decide (k ∈ ("0123456789" : Str).cps.toList)
theorem dig_is : ("0123456789" : Str).cps.toList = [48, 49, 50, 51, 52, 53, 54, 55, 56, 57] := by decide +kernel
theorem digs_all {l : List Nat} (h : digs l = true) : NumText.AllDigits l := fun c hc => by
  have := of_decide_eq_true (List.all_eq_true.mp h c hc)
  rw [dig_is] at this
  simp only [List.mem_cons, List.not_mem_nil, or_false] at this
  omega
theorem val_lt : ∀ (l : List Nat) (a : Nat), (∀ c ∈ l, 48 ≤ c ∧ c ≤ 57) → l.foldl (fun acc c => acc * 10 + (c - 48)) a < (a + 1) * 10 ^ l.length
  | [], a, _ => by simp
  | c :: l, a, h => by
    have hc := h c (List.mem_cons_self ..)
    refine Nat.lt_of_lt_of_le (val_lt l (a * 10 + (c - 48)) fun c hc => h c (List.mem_cons_of_mem _ hc)) ?_
    rw [List.length_cons, Nat.pow_succ, Nat.mul_comm (10 ^ l.length) 10, ← Nat.mul_assoc]
    exact Nat.mul_le_mul_right _ (by omega)
/-- what a count's text tells -/
def cnt (w : Str) : Option Nat := if w.cps.toList = [] ∨ digs w.cps.toList = false ∨ (1 < w.cps.toList.length ∧ w.cps.toList.head? = some 48) then none else some (NumText.digitsVal w.cps.toList)
def oD : Option Nat → D
  | none => .non
  | some n => .int (n : Int)
theorem cnt_lt {w : Str} {n : Nat} (h : cnt w = some n) (hl : w.length ≤ 640) : n < 2 ^ 8000 := by
  unfold cnt at h
  split at h
  · cases h
  · rename_i hn
    cases h
    have hd : digs w.cps.toList = true := by
      cases z : digs w.cps.toList with
      | true => rfl
      | false => exact absurd (Or.inr (Or.inl z)) hn
    have h1 := val_lt w.cps.toList 0 (digs_all hd)
    have h2 : w.cps.toList.length ≤ 640 := by rw [Array.length_toList]; exact hl
    have h3 : 10 ^ w.cps.toList.length ≤ 10 ^ 640 := Nat.pow_le_pow_right (by decide) h2
    have h4 : (10 : Nat) ^ 640 < 2 ^ 8000 := by decide +kernel
    unfold NumText.digitsVal
    rw [Nat.zero_add, Nat.one_mul] at h1
    omega
theorem at_zero {α : Type} (k : α) (ks : List α) : atI (k :: ks) 0 = some k := by
  unfold atI ixN
  rw [if_pos (by decide), if_pos (by rw [List.length_cons]; omega)]
  rfl
theorem len_ok {w : Str} (h : w.length ≤ 640) : w.length ≤ sizeLine := by rw [sizeLine_eq]; omega
theorem ok_lit (s : String) : PyData.strOk ((s : String) : Str) = true := (txt_of s).ok
theorem str_nil {w : Str} : (w == ("" : Str)) = decide (w.cps.toList = []) := by
  rw [Bool.eq_iff_iff, beq_iff_eq, decide_eq_true_eq]
  exact ⟨fun h => by rw [h]; decide +kernel, fun h => str_eq (by rw [h]; decide +kernel)⟩
theorem zero_is : ("0" : Str) = ⟨#[48]⟩ := by decide +kernel
theorem str_one {k : Nat} : ((⟨#[k]⟩ : Str) == ("0" : Str)) = decide (k = 48) := by
  rw [zero_is, Bool.eq_iff_iff, beq_iff_eq, decide_eq_true_eq]
  exact ⟨fun h => by injection h with h; simpa using h, fun h => by rw [h]⟩
theorem ne_ones {α : Type} (l : List α) : neD (.lst (l.map fun _ => .int 1)) (.lst []) = some (.bl (!l.isEmpty)) := by
  have h : ∀ l : List α, toPys (l.map fun _ => D.int 1) = some (l.map fun _ => PyData.int 1) := fun l => by
    induction l with
    | nil => rfl
    | cons a l ih => rw [List.map_cons, toPys, ih]; rfl
  have hd : ∀ l : List α, PyData.depthAll (l.map fun _ => PyData.int 1) = 0 := fun l => by
    induction l with
    | nil => rfl
    | cons a l ih => rw [List.map_cons, PyData.depthAll, ih]; rfl
  unfold neD eqvD
  simp only [toPy, h, toPys, Option.map_some]
  rw [if_pos ⟨by simp [PyData.depth, hd], by simp [PyData.depth, PyData.depthAll]⟩]
  cases l <;> rfl
theorem filt {l : List Nat} {F : Str} : (l.filter fun k => !(decide (k ∈ F.cps.toList))).isEmpty = l.all fun k => decide (k ∈ F.cps.toList) := by
  induction l with
  | nil => rfl
  | cons a l ih =>
    by_cases h : a ∈ F.cps.toList
    · rw [List.filter_cons_of_neg (by simp [h]), ih, List.all_cons, decide_eq_true h, Bool.true_and]
    · rw [List.filter_cons_of_pos (by simp [h]), List.all_cons, decide_eq_false h, Bool.false_and]; rfl
theorem lc_ones {w : Str} (h : w.length ≤ 640) (s : Pen) : (lcM (.nm 1) (itM strOf (mVar 0)) (truM (m2 notInD (mVar 1) (retM (.str "0123456789")))) (retM (.int 1)) [1] : M Pen D) [.d (.str w), .no] s =
    .ok (.lst ((w.cps.toList.filter fun k => !(decide (k ∈ ("0123456789" : Str).cps.toList))).map fun _ => D.int 1), s) := by
  have q := signs_not (F := "0123456789") (x := .str w) w.cps.toList [] s (by rw [Array.length_toList]; have : w.cps.size ≤ 640 := h; simp; omega)
  have e : DL.strOf (.str w) = some (signsL w) := rfl
  have n : noOwn [.d (.str w), .no] [1] = true := rfl
  have v : wipeE [.d (.str w), .no] [1] = [.d (.str w), .no] := rfl
  unfold lcM DL.bindM itM DL.bindM
  simp only [mVar, List.getElem?_cons_zero, e, optM, if_pos n, v]
  unfold signsL
  rw [q]
  rfl
theorem lc_bools {w : Str} (h : w.length ≤ 640) (s : Pen) : (lcM (.nm 1) (itM strOf (mVar 0)) yesM (m2 notInD (mVar 1) (retM (.str "0123456789"))) [1] : M Pen D) [.d (.str w), .no] s =
    .ok (.lst (w.cps.toList.map fun k => D.bl (!(decide (k ∈ ("0123456789" : Str).cps.toList)))), s) := by
  have q := signs_any (F := "0123456789") (x := .str w) w.cps.toList [] s (by rw [Array.length_toList]; have : w.cps.size ≤ 640 := h; simp; omega)
  have e : DL.strOf (.str w) = some (signsL w) := rfl
  have n : noOwn [.d (.str w), .no] [1] = true := rfl
  have v : wipeE [.d (.str w), .no] [1] = [.d (.str w), .no] := rfl
  unfold lcM DL.bindM itM DL.bindM
  simp only [mVar, List.getElem?_cons_zero, e, optM, if_pos n, v]
  unfold signsL
  rw [q]
  rfl
theorem int_txt {w : Str} (h : w.length ≤ 640) (h0 : w.cps.toList ≠ []) (hd : digs w.cps.toList = true) : intText? w = some ((NumText.digitsVal w.cps.toList : Nat) : Int) := PySem.intText_digits (digs_all hd) h0 (by omega)
theorem any_not {l : List Nat} {F : Str} : ((l.map fun k => !(decide (k ∈ F.cps.toList))).any id) = !(l.all fun k => decide (k ∈ F.cps.toList)) := by
  induction l with
  | nil => rfl
  | cons a l ih => rw [List.map_cons, List.any_cons, ih, List.all_cons]; cases decide (a ∈ F.cps.toList) <;> rfl
theorem lcount_ok {w : Str} (h : Txt0 640 w) (s : Pen) : f__law_count [.str w] s = .ok (oD (cnt w), s) := by
  refine runF_rt (env := [.d (.str w), .no]) rfl ?_
  unfold m__law_count
  have e1 := eqD_str h.ok (ok_lit "")
  rw [str_nil] at e1
  have hl : w.length = w.cps.toList.length := Array.length_toList.symm
  have hL := len_ok h.len
  have hM := h.len
  cases z : w.cps.toList with
  | nil =>
    rw [z] at e1
    have ec : cnt w = none := by unfold cnt; rw [if_pos (Or.inl z)]
    simp only [callF, List.append_nil, List.cons_append, List.nil_append, List.length_cons, List.length_nil, Nat.zero_add, Nat.reduceAdd, reduceIte, seqS, setS, retS, exprS, nextS, ifS, thenS, DL.bindM, retM, optM, m1, m2, mVar, consM, callM, truM, andT, orT, notT, andV, orV, notV, ifM, penGet, penPut, parS, asgS, tupM, lstM, partM, addD, subD, ltD, gtD, geD, leD, negD, DL.intD, absD, lenD, truD, isNon, strCD, List.getElem?_cons_succ, List.getElem?_cons_zero, List.set_cons_succ, List.set_cons_zero, if_true, Bool.false_eq_true, if_false, Bool.not_true, Bool.not_false, e1, decide_true, ec, oD]
  | cons k ks =>
    rw [z] at e1 hl
    have e2 : decide ((k :: ks) = []) = false := rfl
    have ek : PyData.strOk (⟨#[k]⟩ : Str) = true := ok_iff.mpr fun j hj => by
      simp at hj; subst hj
      exact ok_iff.mp h.ok j (by rw [z]; exact List.mem_cons_self ..)
    have e3 : ixD (.str w) (.int 0) = some (.str ⟨#[k]⟩) := by
      unfold ixD; dsimp only; rw [if_pos (len_ok h.len), z, at_zero]; rfl
    have e4 := eqD_str ek (ok_lit "0")
    rw [str_one] at e4
    have lc := lc_ones h.len s
    have e5 := ne_ones (w.cps.toList.filter fun k => !(decide (k ∈ ("0123456789" : Str).cps.toList)))
    rw [filt] at e5
    rw [z] at lc e5
    simp only [callF, List.append_nil, List.cons_append, List.nil_append, List.length_cons, List.length_nil, Nat.zero_add, Nat.reduceAdd, reduceIte, seqS, setS, retS, exprS, nextS, ifS, thenS, DL.bindM, retM, optM, m1, m2, mVar, consM, callM, truM, andT, orT, notT, andV, orV, notV, ifM, penGet, penPut, parS, asgS, tupM, lstM, partM, addD, subD, ltD, gtD, geD, leD, negD, DL.intD, absD, lenD, truD, isNon, strCD, List.getElem?_cons_succ, List.getElem?_cons_zero, List.set_cons_succ, List.set_cons_zero, if_true, Bool.false_eq_true, if_false, Bool.not_true, Bool.not_false] at lc
    cases hd : digs (k :: ks) with
    | false =>
      have ec : cnt w = none := by unfold cnt; rw [z, if_pos (Or.inr (Or.inl hd))]
      unfold digs at hd
      rw [hd] at e5
      simp only [callF, List.append_nil, List.cons_append, List.nil_append, List.length_cons, List.length_nil, Nat.zero_add, Nat.reduceAdd, reduceIte, seqS, setS, retS, exprS, nextS, ifS, thenS, DL.bindM, retM, optM, m1, m2, mVar, consM, callM, truM, andT, orT, notT, andV, orV, notV, ifM, penGet, penPut, parS, asgS, tupM, lstM, partM, addD, subD, ltD, gtD, geD, leD, negD, DL.intD, absD, lenD, truD, isNon, strCD, List.getElem?_cons_succ, List.getElem?_cons_zero, List.set_cons_succ, List.set_cons_zero, if_true, Bool.false_eq_true, if_false, Bool.not_true, Bool.not_false, e1, e2, lc, lstD, Nat.zero_le, e5, ec, oD]
    | true =>
      have e6 := int_txt h.len (by rw [z]; exact List.cons_ne_nil _ _) (by rw [z]; exact hd)
      rw [z] at e6
      have hd' := hd
      unfold digs at hd'
      rw [hd'] at e5
      by_cases hl1 : 1 < (k :: ks).length
      · have g1 : decide ((1 : Int) < (w.length : Int)) = true := decide_eq_true (by omega)
        by_cases hk : k = 48
        · have ec : cnt w = none := by unfold cnt; rw [z, if_pos (Or.inr (Or.inr ⟨hl1, by rw [hk]; rfl⟩))]
          simp only [callF, List.append_nil, List.cons_append, List.nil_append, List.length_cons, List.length_nil, Nat.zero_add, Nat.reduceAdd, reduceIte, seqS, setS, retS, exprS, nextS, ifS, thenS, DL.bindM, retM, optM, m1, m2, mVar, consM, callM, truM, andT, orT, notT, andV, orV, notV, ifM, penGet, penPut, parS, asgS, tupM, lstM, partM, addD, subD, ltD, gtD, geD, leD, negD, DL.intD, absD, lenD, truD, isNon, strCD, List.getElem?_cons_succ, List.getElem?_cons_zero, List.set_cons_succ, List.set_cons_zero, if_true, Bool.false_eq_true, if_false, Bool.not_true, Bool.not_false, e1, e2, lc, lstD, Nat.zero_le, e5, ec, oD, if_pos hL, if_pos hM, Option.map_some, g1, e3, e4, decide_eq_true hk]
        · have ec : cnt w = some (NumText.digitsVal (k :: ks)) := by
            unfold cnt; rw [z, if_neg (fun q => q.elim (List.cons_ne_nil _ _) fun q => q.elim (fun q => by rw [hd] at q; cases q) fun q => hk (by simpa using q.2))]
          simp only [callF, List.append_nil, List.cons_append, List.nil_append, List.length_cons, List.length_nil, Nat.zero_add, Nat.reduceAdd, reduceIte, seqS, setS, retS, exprS, nextS, ifS, thenS, DL.bindM, retM, optM, m1, m2, mVar, consM, callM, truM, andT, orT, notT, andV, orV, notV, ifM, penGet, penPut, parS, asgS, tupM, lstM, partM, addD, subD, ltD, gtD, geD, leD, negD, DL.intD, absD, lenD, truD, isNon, strCD, List.getElem?_cons_succ, List.getElem?_cons_zero, List.set_cons_succ, List.set_cons_zero, if_true, Bool.false_eq_true, if_false, Bool.not_true, Bool.not_false, e1, e2, lc, lstD, Nat.zero_le, e5, ec, oD, if_pos hL, if_pos hM, Option.map_some, g1, e3, e4, decide_eq_false hk, e6]
      · have g1 : decide ((1 : Int) < (w.length : Int)) = false := decide_eq_false (by omega)
        have ec : cnt w = some (NumText.digitsVal (k :: ks)) := by
          unfold cnt; rw [z, if_neg (fun q => q.elim (List.cons_ne_nil _ _) fun q => q.elim (fun q => by rw [hd] at q; cases q) fun q => hl1 q.1)]
        simp only [callF, List.append_nil, List.cons_append, List.nil_append, List.length_cons, List.length_nil, Nat.zero_add, Nat.reduceAdd, reduceIte, seqS, setS, retS, exprS, nextS, ifS, thenS, DL.bindM, retM, optM, m1, m2, mVar, consM, callM, truM, andT, orT, notT, andV, orV, notV, ifM, penGet, penPut, parS, asgS, tupM, lstM, partM, addD, subD, ltD, gtD, geD, leD, negD, DL.intD, absD, lenD, truD, isNon, strCD, List.getElem?_cons_succ, List.getElem?_cons_zero, List.set_cons_succ, List.set_cons_zero, if_true, Bool.false_eq_true, if_false, Bool.not_true, Bool.not_false, e1, e2, lc, lstD, Nat.zero_le, e5, ec, oD, if_pos hL, if_pos hM, Option.map_some, g1, e6]
theorem count_ok {w : Str} (h : Txt0 640 w) (s : Pen) : f_count_of [.str w] s = .ok (oD (cnt w), s) := by
  refine runF_rt (env := [.d (.str w), .no]) rfl ?_
  unfold m_count_of
  have e1 := eqD_str h.ok (ok_lit "")
  rw [str_nil] at e1
  have hl : w.length = w.cps.toList.length := Array.length_toList.symm
  have hL := len_ok h.len
  have hM := h.len
  cases z : w.cps.toList with
  | nil =>
    rw [z] at e1
    have ec : cnt w = none := by unfold cnt; rw [if_pos (Or.inl z)]
    simp only [callF, List.append_nil, List.cons_append, List.nil_append, List.length_cons, List.length_nil, Nat.zero_add, Nat.reduceAdd, reduceIte, seqS, setS, retS, exprS, nextS, ifS, thenS, DL.bindM, retM, optM, m1, m2, mVar, consM, callM, truM, andT, orT, notT, andV, orV, notV, ifM, penGet, penPut, parS, asgS, tupM, lstM, partM, addD, subD, ltD, gtD, geD, leD, negD, DL.intD, absD, lenD, truD, isNon, strCD, List.getElem?_cons_succ, List.getElem?_cons_zero, List.set_cons_succ, List.set_cons_zero, if_true, Bool.false_eq_true, if_false, Bool.not_true, Bool.not_false, e1, decide_true, ec, oD]
  | cons k ks =>
    have hl2 : w.cps.toList.length ≤ 640 := by rw [Array.length_toList]; exact h.len
    rw [z] at e1 hl hl2
    have g2 : decide ((2000 : Int) < (w.length : Int)) = false := decide_eq_false (by omega)
    have e2 : decide ((k :: ks) = []) = false := rfl
    have ek : PyData.strOk (⟨#[k]⟩ : Str) = true := ok_iff.mpr fun j hj => by
      simp at hj; subst hj
      exact ok_iff.mp h.ok j (by rw [z]; exact List.mem_cons_self ..)
    have e3 : ixD (.str w) (.int 0) = some (.str ⟨#[k]⟩) := by
      unfold ixD; dsimp only; rw [if_pos (len_ok h.len), z, at_zero]; rfl
    have e4 := eqD_str ek (ok_lit "0")
    rw [str_one] at e4
    have lc := lc_bools h.len s
    rw [z] at lc
    simp only [callF, List.append_nil, List.cons_append, List.nil_append, List.length_cons, List.length_nil, Nat.zero_add, Nat.reduceAdd, reduceIte, seqS, setS, retS, exprS, nextS, ifS, thenS, DL.bindM, retM, optM, m1, m2, mVar, consM, callM, truM, andT, orT, notT, andV, orV, notV, ifM, penGet, penPut, parS, asgS, tupM, lstM, partM, addD, subD, ltD, gtD, geD, leD, negD, DL.intD, absD, lenD, truD, isNon, strCD, List.getElem?_cons_succ, List.getElem?_cons_zero, List.set_cons_succ, List.set_cons_zero, if_true, Bool.false_eq_true, if_false, Bool.not_true, Bool.not_false] at lc
    have e5 : anyD [.lst ((k :: ks).map fun k => D.bl (!(decide (k ∈ ("0123456789" : Str).cps.toList))))] = some (.bl (!(digs (k :: ks)))) := by
      unfold anyD; dsimp only
      rw [bls_map]
      show some (D.bl _) = _
      rw [any_not]; rfl
    have e8 : neD (.str w) (.str "0") = some (.bl (!(decide (k = 48 ∧ ks = [])))) := by
      rw [neD_str h.ok (ok_lit "0")]
      have : (w == ("0" : Str)) = decide (k = 48 ∧ ks = []) := by
        rw [Bool.eq_iff_iff, beq_iff_eq, decide_eq_true_eq, zero_is]
        exact ⟨fun q => by rw [q] at z; simp at z; exact ⟨z.1.symm, z.2⟩, fun ⟨q1, q2⟩ => str_eq (by rw [z, q1, q2])⟩
      rw [this]
    cases hd : digs (k :: ks) with
    | false =>
      have ec : cnt w = none := by unfold cnt; rw [z, if_pos (Or.inr (Or.inl hd))]
      rw [hd] at e5
      simp only [callF, List.append_nil, List.cons_append, List.nil_append, List.length_cons, List.length_nil, Nat.zero_add, Nat.reduceAdd, reduceIte, seqS, setS, retS, exprS, nextS, ifS, thenS, DL.bindM, retM, optM, m1, m2, mVar, consM, callM, truM, andT, orT, notT, andV, orV, notV, ifM, penGet, penPut, parS, asgS, tupM, lstM, partM, addD, subD, ltD, gtD, geD, leD, negD, DL.intD, absD, lenD, truD, isNon, strCD, List.getElem?_cons_succ, List.getElem?_cons_zero, List.set_cons_succ, List.set_cons_zero, if_true, Bool.false_eq_true, if_false, Bool.not_true, Bool.not_false, e1, e2, lc, e5, ec, oD]
    | true =>
      have e6 := int_txt h.len (by rw [z]; exact List.cons_ne_nil _ _) (by rw [z]; exact hd)
      rw [z] at e6
      rw [hd] at e5
      by_cases hk : k = 48
      · cases ks with
        | nil =>
          have ec : cnt w = some (NumText.digitsVal [k]) := by
            unfold cnt; rw [z, if_neg (fun q => q.elim (List.cons_ne_nil _ _) fun q => q.elim (fun q => by rw [hd] at q; cases q) fun q => by simp at q)]
          rw [show decide (k = 48 ∧ ([] : List Nat) = []) = true from decide_eq_true ⟨hk, rfl⟩] at e8
          simp only [callF, List.append_nil, List.cons_append, List.nil_append, List.length_cons, List.length_nil, Nat.zero_add, Nat.reduceAdd, reduceIte, seqS, setS, retS, exprS, nextS, ifS, thenS, DL.bindM, retM, optM, m1, m2, mVar, consM, callM, truM, andT, orT, notT, andV, orV, notV, ifM, penGet, penPut, parS, asgS, tupM, lstM, partM, addD, subD, ltD, gtD, geD, leD, negD, DL.intD, absD, lenD, truD, isNon, strCD, List.getElem?_cons_succ, List.getElem?_cons_zero, List.set_cons_succ, List.set_cons_zero, if_true, Bool.false_eq_true, if_false, Bool.not_true, Bool.not_false, e1, e2, lc, e5, ec, oD, if_pos hL, if_pos hM, Option.map_some, g2, e3, e4, decide_eq_true hk, e8, e6]
        | cons j ks =>
          have ec : cnt w = none := by unfold cnt; rw [z, if_pos (Or.inr (Or.inr ⟨by simp, by rw [hk]; rfl⟩))]
          have e9 : decide (k = 48 ∧ (j :: ks) = []) = false := decide_eq_false (by simp)
          simp only [callF, List.append_nil, List.cons_append, List.nil_append, List.length_cons, List.length_nil, Nat.zero_add, Nat.reduceAdd, reduceIte, seqS, setS, retS, exprS, nextS, ifS, thenS, DL.bindM, retM, optM, m1, m2, mVar, consM, callM, truM, andT, orT, notT, andV, orV, notV, ifM, penGet, penPut, parS, asgS, tupM, lstM, partM, addD, subD, ltD, gtD, geD, leD, negD, DL.intD, absD, lenD, truD, isNon, strCD, List.getElem?_cons_succ, List.getElem?_cons_zero, List.set_cons_succ, List.set_cons_zero, if_true, Bool.false_eq_true, if_false, Bool.not_true, Bool.not_false, e1, e2, lc, e5, ec, oD, if_pos hL, if_pos hM, Option.map_some, g2, e3, e4, decide_eq_true hk, e8, e9]
      · have ec : cnt w = some (NumText.digitsVal (k :: ks)) := by
          unfold cnt; rw [z, if_neg (fun q => q.elim (List.cons_ne_nil _ _) fun q => q.elim (fun q => by rw [hd] at q; cases q) fun q => hk (by simpa using q.2))]
        simp only [callF, List.append_nil, List.cons_append, List.nil_append, List.length_cons, List.length_nil, Nat.zero_add, Nat.reduceAdd, reduceIte, seqS, setS, retS, exprS, nextS, ifS, thenS, DL.bindM, retM, optM, m1, m2, mVar, consM, callM, truM, andT, orT, notT, andV, orV, notV, ifM, penGet, penPut, parS, asgS, tupM, lstM, partM, addD, subD, ltD, gtD, geD, leD, negD, DL.intD, absD, lenD, truD, isNon, strCD, List.getElem?_cons_succ, List.getElem?_cons_zero, List.set_cons_succ, List.set_cons_zero, if_true, Bool.false_eq_true, if_false, Bool.not_true, Bool.not_false, e1, e2, lc, e5, ec, oD, if_pos hL, if_pos hM, Option.map_some, g2, e3, e4, decide_eq_false hk, e6]
end K05
set_option Elab.async false
set_option linter.all false
set_option maxRecDepth 100000
set_option maxHeartbeats 1000000
namespace K05
open PySem PySem.Spec PyProof.Rows L2 DL
theorem slash_is : ("/" : Str) = ⟨#[47]⟩ := by decide +kernel
theorem minus_is : ("-" : Str) = ⟨#[45]⟩ := by decide +kernel
def mns (t : Str) : Bool := decide (t.cps.toList.head? = some 45)
def word (t : Str) : Str := if mns t = true then cutS t (some 1) none else t
theorem word_txt {n : Nat} {t : Str} (h : Txt0 n t) : Txt0 n (word t) := by
  unfold word
  split
  · exact h.cut _ _
  · exact h
def pair (w : Str) : Option Nat × Option Nat := match Txt.index0 w ⟨#[47]⟩ with
  | none => (cnt w, some 1)
  | some i => (cnt (cutS w none (some (i : Int))), cnt (cutS w (some ((i : Int) + 1)) none))
theorem pair_lt {w : Str} (h : w.length ≤ 640) {a b : Nat} (e : pair w = (some a, some b)) : b < 2 ^ 8000 := by
  unfold pair at e
  split at e
  · have := (Prod.mk.inj e).2
    cases this; decide +kernel
  · exact cnt_lt (Prod.mk.inj e).2 (Nat.le_trans (cutS_length _ _ _) h)
def sizeV : Option Nat × Option Nat → D
  | (some a, some b) => if 0 < b then rat (low a b) else .non
  | _ => .non
theorem isn_oD (o : Option Nat) : isNon (oD o) = o.isNone := by cases o <;> rfl
theorem size_tail {w : Str} (h : w.length ≤ 640) (x1 x2 x3 : Slot) (s : Pen) : (retS (ifM (andT (truM (m1 (fun x => some (.bl (!isNon x))) (mVar 4))) (andT (truM (m1 (fun x => some (.bl (!isNon x))) (mVar 5))) (truM (m2 gtD (mVar 5) (retM (.int 0)))))) (makeF 6 2 f_Ratio___init__ [] (consM (mVar 4) (consM (mVar 5) (retM [])))) (retM .non)) : MS Pen)
    [.d (.str w), x1, x2, x3, .d (oD (pair w).1), .d (oD (pair w).2)] s = .ok (.rt (sizeV (pair w)), s) := by
  cases z : pair w with
  | mk a b =>
    cases a with
    | none => unfold makeF; simp only [callF, List.append_nil, List.cons_append, List.nil_append, List.length_cons, List.length_nil, Nat.zero_add, Nat.reduceAdd, reduceIte, seqS, setS, retS, exprS, nextS, ifS, thenS, DL.bindM, retM, optM, m1, m2, mVar, consM, callM, truM, andT, orT, notT, andV, orV, notV, ifM, penGet, penPut, parS, asgS, tupM, lstM, partM, addD, subD, ltD, gtD, geD, leD, negD, DL.intD, absD, lenD, truD, isNon, strCD, List.getElem?_cons_succ, List.getElem?_cons_zero, List.set_cons_succ, List.set_cons_zero, if_true, Bool.false_eq_true, if_false, Bool.not_true, Bool.not_false, oD, isNon, sizeV]
    | some a =>
      cases b with
      | none => unfold makeF; simp only [callF, List.append_nil, List.cons_append, List.nil_append, List.length_cons, List.length_nil, Nat.zero_add, Nat.reduceAdd, reduceIte, seqS, setS, retS, exprS, nextS, ifS, thenS, DL.bindM, retM, optM, m1, m2, mVar, consM, callM, truM, andT, orT, notT, andV, orV, notV, ifM, penGet, penPut, parS, asgS, tupM, lstM, partM, addD, subD, ltD, gtD, geD, leD, negD, DL.intD, absD, lenD, truD, isNon, strCD, List.getElem?_cons_succ, List.getElem?_cons_zero, List.set_cons_succ, List.set_cons_zero, if_true, Bool.false_eq_true, if_false, Bool.not_true, Bool.not_false, oD, isNon, sizeV]
      | some b =>
        by_cases hb : 0 < b
        · have hi : decide ((0 : Int) < (b : Int)) = true := decide_eq_true (by omega)
          have mk := make_ok (a := (a : Int)) (b := (b : Int)) (by omega) (by rw [Int.natAbs_natCast]; exact pair_lt h z) s
          unfold makeF
          simp only [callF, List.append_nil, List.cons_append, List.nil_append, List.length_cons, List.length_nil, Nat.zero_add, Nat.reduceAdd, reduceIte, seqS, setS, retS, exprS, nextS, ifS, thenS, DL.bindM, retM, optM, m1, m2, mVar, consM, callM, truM, andT, orT, notT, andV, orV, notV, ifM, penGet, penPut, parS, asgS, tupM, lstM, partM, addD, subD, ltD, gtD, geD, leD, negD, DL.intD, absD, lenD, truD, isNon, strCD, List.getElem?_cons_succ, List.getElem?_cons_zero, List.set_cons_succ, List.set_cons_zero, if_true, Bool.false_eq_true, if_false, Bool.not_true, Bool.not_false, oD, isNon, sizeV, hi, mk, if_pos hb]
        · have hi : decide ((0 : Int) < (b : Int)) = false := decide_eq_false (by omega)
          unfold makeF
          simp only [callF, List.append_nil, List.cons_append, List.nil_append, List.length_cons, List.length_nil, Nat.zero_add, Nat.reduceAdd, reduceIte, seqS, setS, retS, exprS, nextS, ifS, thenS, DL.bindM, retM, optM, m1, m2, mVar, consM, callM, truM, andT, orT, notT, andV, orV, notV, ifM, penGet, penPut, parS, asgS, tupM, lstM, partM, addD, subD, ltD, gtD, geD, leD, negD, DL.intD, absD, lenD, truD, isNon, strCD, List.getElem?_cons_succ, List.getElem?_cons_zero, List.set_cons_succ, List.set_cons_zero, if_true, Bool.false_eq_true, if_false, Bool.not_true, Bool.not_false, oD, isNon, sizeV, hi, if_neg hb]
theorem size_ok {w : Str} (h : Txt0 640 w) (s : Pen) : f_size_of [.str w] s = .ok (sizeV (pair w), s) := by
  refine runF_rt (env := [.d (.str w), .no, .no, .no, .no, .no]) rfl ?_
  unfold m_size_of
  have ep : partitionD (.str w) (.str "/") = some (.tup [.str (Txt.partition w ⟨#[47]⟩).1, .str (Txt.partition w ⟨#[47]⟩).2.1, .str (Txt.partition w ⟨#[47]⟩).2.2]) := by
    rw [slash_is]
    exact if_pos ⟨by decide, len_ok h.len⟩
  by_cases hm : 47 ∈ w.cps.toList
  · obtain ⟨i, hi, e1, e2⟩ := part_at hm
    rw [e2] at ep
    have c1 := count_ok (h.cut none (some (i : Int))) s
    have c2 := count_ok (h.cut (some ((i : Int) + 1)) none) s
    have e3 : eqD (.str ⟨#[47]⟩) (.str "") = some (.bl false) := by
      rw [eqD_str (by decide +kernel) (ok_lit "")]
      congr 1
    have ep : pair w = (cnt (cutS w none (some (i : Int))), cnt (cutS w (some ((i : Int) + 1)) none)) := by unfold pair; rw [e1]
    refine (seqS_nx (env' := [.d (.str w), .d (.str (cutS w none (some (i : Int)))), .d (.str ⟨#[47]⟩), .d (.str (cutS w (some ((i : Int) + 1)) none)), .no, .no]) (s' := s) (by simp only [callF, List.append_nil, List.cons_append, List.nil_append, List.length_cons, List.length_nil, Nat.zero_add, Nat.reduceAdd, reduceIte, seqS, setS, retS, exprS, nextS, ifS, thenS, DL.bindM, retM, optM, m1, m2, mVar, consM, callM, truM, andT, orT, notT, andV, orV, notV, ifM, penGet, penPut, parS, asgS, tupM, lstM, partM, addD, subD, ltD, gtD, geD, leD, negD, DL.intD, absD, lenD, truD, isNon, strCD, List.getElem?_cons_succ, List.getElem?_cons_zero, List.set_cons_succ, List.set_cons_zero, if_true, Bool.false_eq_true, if_false, Bool.not_true, Bool.not_false, asgS, mStr1, isStr, *, assignT, setAll])).trans ?_
    refine (seqS_nx (env' := [.d (.str w), .d (.str (cutS w none (some (i : Int)))), .d (.str ⟨#[47]⟩), .d (.str (cutS w (some ((i : Int) + 1)) none)), .d (oD (pair w).1), .d (oD (pair w).2)]) (s' := s) (by simp only [callF, List.append_nil, List.cons_append, List.nil_append, List.length_cons, List.length_nil, Nat.zero_add, Nat.reduceAdd, reduceIte, seqS, setS, retS, exprS, nextS, ifS, thenS, DL.bindM, retM, optM, m1, m2, mVar, consM, callM, truM, andT, orT, notT, andV, orV, notV, ifM, penGet, penPut, parS, asgS, tupM, lstM, partM, addD, subD, ltD, gtD, geD, leD, negD, DL.intD, absD, lenD, truD, isNon, strCD, List.getElem?_cons_succ, List.getElem?_cons_zero, List.set_cons_succ, List.set_cons_zero, if_true, Bool.false_eq_true, if_false, Bool.not_true, Bool.not_false, c1, c2, e3, ep])).trans ?_
    exact size_tail h.len _ _ _ s
  · obtain ⟨e2, e1⟩ := part_no hm
    rw [e2] at ep
    have c1 := count_ok h s
    have e3 : eqD (.str Str.empty) (.str "") = some (.bl true) := by
      rw [eqD_str (by decide +kernel) (ok_lit "")]
      congr 1
    have ep : pair w = (cnt w, some 1) := by unfold pair Txt.index0; rw [e1]; rfl
    refine (seqS_nx (env' := [.d (.str w), .d (.str w), .d (.str Str.empty), .d (.str Str.empty), .no, .no]) (s' := s) (by simp only [callF, List.append_nil, List.cons_append, List.nil_append, List.length_cons, List.length_nil, Nat.zero_add, Nat.reduceAdd, reduceIte, seqS, setS, retS, exprS, nextS, ifS, thenS, DL.bindM, retM, optM, m1, m2, mVar, consM, callM, truM, andT, orT, notT, andV, orV, notV, ifM, penGet, penPut, parS, asgS, tupM, lstM, partM, addD, subD, ltD, gtD, geD, leD, negD, DL.intD, absD, lenD, truD, isNon, strCD, List.getElem?_cons_succ, List.getElem?_cons_zero, List.set_cons_succ, List.set_cons_zero, if_true, Bool.false_eq_true, if_false, Bool.not_true, Bool.not_false, asgS, mStr1, isStr, *, assignT, setAll])).trans ?_
    refine (seqS_nx (env' := [.d (.str w), .d (.str w), .d (.str Str.empty), .d (.str Str.empty), .d (oD (pair w).1), .d (oD (pair w).2)]) (s' := s) (by simp only [callF, List.append_nil, List.cons_append, List.nil_append, List.length_cons, List.length_nil, Nat.zero_add, Nat.reduceAdd, reduceIte, seqS, setS, retS, exprS, nextS, ifS, thenS, DL.bindM, retM, optM, m1, m2, mVar, consM, callM, truM, andT, orT, notT, andV, orV, notV, ifM, penGet, penPut, parS, asgS, tupM, lstM, partM, addD, subD, ltD, gtD, geD, leD, negD, DL.intD, absD, lenD, truD, isNon, strCD, List.getElem?_cons_succ, List.getElem?_cons_zero, List.set_cons_succ, List.set_cons_zero, if_true, Bool.false_eq_true, if_false, Bool.not_true, Bool.not_false, c1, e3, ep, oD, Int.natCast_one])).trans ?_
    exact size_tail h.len _ _ _ s
def sg (t : Str) (a : Nat) : Int := if mns t = true then -(a : Int) else a
def readV (t : Str) : D := match pair (word t) with
  | (some a, some b) => if 0 < b then .tup [.int (low (sg t a) b).1, .int (low (sg t a) b).2] else .non
  | _ => .non
theorem read_tail {t : Str} (h : (word t).length ≤ 640) (x3 : Slot) (s : Pen) : (seqS (ifS (orT (truM (m1 (fun x => some (.bl (isNon x))) (mVar 4))) (orT (truM (m1 (fun x => some (.bl (isNon x))) (mVar 5))) (truM (m2 eqD (mVar 5) (retM (.int 0)))))) (retS (retM .non)) nextS)
    (retS (callF 2 f__law_frac [] (consM (ifM (truM (mVar 1)) (m1 negD (mVar 4)) (mVar 4)) (consM (mVar 5) (retM []))))) : MS Pen)
    [.d (.str t), .d (.bl (mns t)), .d (.str (word t)), x3, .d (oD (pair (word t)).1), .d (oD (pair (word t)).2)] s = .ok (.rt (readV t), s) := by
  unfold readV
  cases z : pair (word t) with
  | mk a b =>
    cases a with
    | none => simp only [callF, List.append_nil, List.cons_append, List.nil_append, List.length_cons, List.length_nil, Nat.zero_add, Nat.reduceAdd, reduceIte, seqS, setS, retS, exprS, nextS, ifS, thenS, DL.bindM, retM, optM, m1, m2, mVar, consM, callM, truM, andT, orT, notT, andV, orV, notV, ifM, penGet, penPut, parS, asgS, tupM, lstM, partM, addD, subD, ltD, gtD, geD, leD, negD, DL.intD, absD, lenD, truD, isNon, strCD, List.getElem?_cons_succ, List.getElem?_cons_zero, List.set_cons_succ, List.set_cons_zero, if_true, Bool.false_eq_true, if_false, Bool.not_true, Bool.not_false, oD]
    | some a =>
      cases b with
      | none => simp only [callF, List.append_nil, List.cons_append, List.nil_append, List.length_cons, List.length_nil, Nat.zero_add, Nat.reduceAdd, reduceIte, seqS, setS, retS, exprS, nextS, ifS, thenS, DL.bindM, retM, optM, m1, m2, mVar, consM, callM, truM, andT, orT, notT, andV, orV, notV, ifM, penGet, penPut, parS, asgS, tupM, lstM, partM, addD, subD, ltD, gtD, geD, leD, negD, DL.intD, absD, lenD, truD, isNon, strCD, List.getElem?_cons_succ, List.getElem?_cons_zero, List.set_cons_succ, List.set_cons_zero, if_true, Bool.false_eq_true, if_false, Bool.not_true, Bool.not_false, oD]
      | some b =>
        have hl := pair_lt h z
        by_cases hb : 0 < b
        · have hi : ((b : Int) == 0) = false := beq_eq_false_iff_ne.mpr (by omega)
          have fr := fun x : Int => frac_ok (a := x) (b := (b : Int)) (by omega) (by rw [Int.natAbs_natCast]; exact hl) s
          cases hm : mns t with
          | true =>
            have es : sg t a = -(a : Int) := by unfold sg; rw [hm]; rfl
            simp only [callF, List.append_nil, List.cons_append, List.nil_append, List.length_cons, List.length_nil, Nat.zero_add, Nat.reduceAdd, reduceIte, seqS, setS, retS, exprS, nextS, ifS, thenS, DL.bindM, retM, optM, m1, m2, mVar, consM, callM, truM, andT, orT, notT, andV, orV, notV, ifM, penGet, penPut, parS, asgS, tupM, lstM, partM, addD, subD, ltD, gtD, geD, leD, negD, DL.intD, absD, lenD, truD, isNon, strCD, List.getElem?_cons_succ, List.getElem?_cons_zero, List.set_cons_succ, List.set_cons_zero, if_true, Bool.false_eq_true, if_false, Bool.not_true, Bool.not_false, oD, eqD_int, hi, fr, if_pos hb, es]
          | false =>
            have es : sg t a = (a : Int) := by unfold sg; rw [hm]; rfl
            simp only [callF, List.append_nil, List.cons_append, List.nil_append, List.length_cons, List.length_nil, Nat.zero_add, Nat.reduceAdd, reduceIte, seqS, setS, retS, exprS, nextS, ifS, thenS, DL.bindM, retM, optM, m1, m2, mVar, consM, callM, truM, andT, orT, notT, andV, orV, notV, ifM, penGet, penPut, parS, asgS, tupM, lstM, partM, addD, subD, ltD, gtD, geD, leD, negD, DL.intD, absD, lenD, truD, isNon, strCD, List.getElem?_cons_succ, List.getElem?_cons_zero, List.set_cons_succ, List.set_cons_zero, if_true, Bool.false_eq_true, if_false, Bool.not_true, Bool.not_false, oD, eqD_int, hi, fr, if_pos hb, es]
        · have hi : ((b : Int) == 0) = true := beq_iff_eq.mpr (by omega)
          simp only [callF, List.append_nil, List.cons_append, List.nil_append, List.length_cons, List.length_nil, Nat.zero_add, Nat.reduceAdd, reduceIte, seqS, setS, retS, exprS, nextS, ifS, thenS, DL.bindM, retM, optM, m1, m2, mVar, consM, callM, truM, andT, orT, notT, andV, orV, notV, ifM, penGet, penPut, parS, asgS, tupM, lstM, partM, addD, subD, ltD, gtD, geD, leD, negD, DL.intD, absD, lenD, truD, isNon, strCD, List.getElem?_cons_succ, List.getElem?_cons_zero, List.set_cons_succ, List.set_cons_zero, if_true, Bool.false_eq_true, if_false, Bool.not_true, Bool.not_false, oD, eqD_int, hi, if_neg hb]
theorem lread_ok {t : Str} (h : Txt0 640 t) (s : Pen) : f__law_read [.str t] s = .ok (readV t, s) := by
  refine runF_rt (env := [.d (.str t), .no, .no, .no, .no, .no]) rfl ?_
  unfold m__law_read
  have hw := word_txt h
  have hL := len_ok h.len
  have hW := len_ok hw.len
  have e0 : eqD (.str (cutS t none (some 1))) (.str "-") = some (.bl (mns t)) := by
    rw [eqD_str (h.cut _ _).ok (ok_lit "-"), minus_is, head_cut]; rfl
  refine (seqS_nx (env' := [.d (.str t), .d (.bl (mns t)), .no, .no, .no, .no]) (s' := s) (by simp only [callF, List.append_nil, List.cons_append, List.nil_append, List.length_cons, List.length_nil, Nat.zero_add, Nat.reduceAdd, reduceIte, seqS, setS, retS, exprS, nextS, ifS, thenS, DL.bindM, retM, optM, m1, m2, mVar, consM, callM, truM, andT, orT, notT, andV, orV, notV, ifM, penGet, penPut, parS, asgS, tupM, lstM, partM, addD, subD, ltD, gtD, geD, leD, negD, DL.intD, absD, lenD, truD, isNon, strCD, List.getElem?_cons_succ, List.getElem?_cons_zero, List.set_cons_succ, List.set_cons_zero, if_true, Bool.false_eq_true, if_false, Bool.not_true, Bool.not_false, sliceM, sliceD, partD, if_pos hL, e0])).trans ?_
  refine (seqS_nx (env' := [.d (.str t), .d (.bl (mns t)), .d (.str (word t)), .no, .no, .no]) (s' := s) (by
    unfold word
    cases hm : mns t <;> simp only [callF, List.append_nil, List.cons_append, List.nil_append, List.length_cons, List.length_nil, Nat.zero_add, Nat.reduceAdd, reduceIte, seqS, setS, retS, exprS, nextS, ifS, thenS, DL.bindM, retM, optM, m1, m2, mVar, consM, callM, truM, andT, orT, notT, andV, orV, notV, ifM, penGet, penPut, parS, asgS, tupM, lstM, partM, addD, subD, ltD, gtD, geD, leD, negD, DL.intD, absD, lenD, truD, isNon, strCD, List.getElem?_cons_succ, List.getElem?_cons_zero, List.set_cons_succ, List.set_cons_zero, if_true, Bool.false_eq_true, if_false, Bool.not_true, Bool.not_false, sliceM, sliceD, partD, if_pos hL])).trans ?_
  have ei : inD (.str "/") (.str (word t)) = some (.bl (decide (47 ∈ (word t).cps.toList))) := by rw [slash_is]; rfl
  by_cases hm : 47 ∈ (word t).cps.toList
  · obtain ⟨i, hi, e1, e2⟩ := part_at hm
    have ex : indexD (.str (word t)) (.str "/") = some (.int (i : Int)) := by
      rw [slash_is]; unfold indexD; dsimp only; rw [e1]; rfl
    rw [decide_eq_true hm] at ei
    refine (seqS_nx (env' := [.d (.str t), .d (.bl (mns t)), .d (.str (word t)), .d (.int (i : Int)), .no, .no]) (s' := s) (by simp only [callF, List.append_nil, List.cons_append, List.nil_append, List.length_cons, List.length_nil, Nat.zero_add, Nat.reduceAdd, reduceIte, seqS, setS, retS, exprS, nextS, ifS, thenS, DL.bindM, retM, optM, m1, m2, mVar, consM, callM, truM, andT, orT, notT, andV, orV, notV, ifM, penGet, penPut, parS, asgS, tupM, lstM, partM, addD, subD, ltD, gtD, geD, leD, negD, DL.intD, absD, lenD, truD, isNon, strCD, List.getElem?_cons_succ, List.getElem?_cons_zero, List.set_cons_succ, List.set_cons_zero, if_true, Bool.false_eq_true, if_false, Bool.not_true, Bool.not_false, mStr1, isStr, ei, ex])).trans ?_
    have c1 := lcount_ok (hw.cut none (some (i : Int))) s
    have c2 := lcount_ok (hw.cut (some ((i : Int) + 1)) none) s
    have ep : pair (word t) = (cnt (cutS (word t) none (some (i : Int))), cnt (cutS (word t) (some ((i : Int) + 1)) none)) := by unfold pair; rw [e1]
    have g : decide ((i : Int) < ((word t).length : Int)) = true := decide_eq_true (by omega)
    refine (seqS_nx (env' := [.d (.str t), .d (.bl (mns t)), .d (.str (word t)), .d (.int (i : Int)), .d (oD (pair (word t)).1), .d (oD (pair (word t)).2)]) (s' := s) (by simp only [callF, List.append_nil, List.cons_append, List.nil_append, List.length_cons, List.length_nil, Nat.zero_add, Nat.reduceAdd, reduceIte, seqS, setS, retS, exprS, nextS, ifS, thenS, DL.bindM, retM, optM, m1, m2, mVar, consM, callM, truM, andT, orT, notT, andV, orV, notV, ifM, penGet, penPut, parS, asgS, tupM, lstM, partM, addD, subD, ltD, gtD, geD, leD, negD, DL.intD, absD, lenD, truD, isNon, strCD, List.getElem?_cons_succ, List.getElem?_cons_zero, List.set_cons_succ, List.set_cons_zero, if_true, Bool.false_eq_true, if_false, Bool.not_true, Bool.not_false, sliceM, sliceD, partD, if_pos hW, g, c1, c2, ep])).trans ?_
    exact read_tail hw.len _ s
  · obtain ⟨e2, e1⟩ := part_no hm
    rw [decide_eq_false hm] at ei
    refine (seqS_nx (env' := [.d (.str t), .d (.bl (mns t)), .d (.str (word t)), .d (.int ((word t).length : Int)), .no, .no]) (s' := s) (by simp only [callF, List.append_nil, List.cons_append, List.nil_append, List.length_cons, List.length_nil, Nat.zero_add, Nat.reduceAdd, reduceIte, seqS, setS, retS, exprS, nextS, ifS, thenS, DL.bindM, retM, optM, m1, m2, mVar, consM, callM, truM, andT, orT, notT, andV, orV, notV, ifM, penGet, penPut, parS, asgS, tupM, lstM, partM, addD, subD, ltD, gtD, geD, leD, negD, DL.intD, absD, lenD, truD, isNon, strCD, List.getElem?_cons_succ, List.getElem?_cons_zero, List.set_cons_succ, List.set_cons_zero, if_true, Bool.false_eq_true, if_false, Bool.not_true, Bool.not_false, mStr1, isStr, ei, if_pos hW])).trans ?_
    have c1 := lcount_ok hw s
    have ep : pair (word t) = (cnt (word t), some 1) := by unfold pair Txt.index0; rw [e1]; rfl
    have g : decide (((word t).length : Int) < ((word t).length : Int)) = false := decide_eq_false (by omega)
    refine (seqS_nx (env' := [.d (.str t), .d (.bl (mns t)), .d (.str (word t)), .d (.int ((word t).length : Int)), .d (oD (pair (word t)).1), .d (oD (pair (word t)).2)]) (s' := s) (by simp only [callF, List.append_nil, List.cons_append, List.nil_append, List.length_cons, List.length_nil, Nat.zero_add, Nat.reduceAdd, reduceIte, seqS, setS, retS, exprS, nextS, ifS, thenS, DL.bindM, retM, optM, m1, m2, mVar, consM, callM, truM, andT, orT, notT, andV, orV, notV, ifM, penGet, penPut, parS, asgS, tupM, lstM, partM, addD, subD, ltD, gtD, geD, leD, negD, DL.intD, absD, lenD, truD, isNon, strCD, List.getElem?_cons_succ, List.getElem?_cons_zero, List.set_cons_succ, List.set_cons_zero, if_true, Bool.false_eq_true, if_false, Bool.not_true, Bool.not_false, sliceM, sliceD, partD, if_pos hW, cut_all, g, c1, ep, oD, Int.natCast_one])).trans ?_
    exact read_tail hw.len _ s
/-- what read_number answers -/
def numV (t : Str) : D := match pair (word t) with
  | (some a, some b) => if 0 < b then rat (low (sg t a) b) else .non
  | _ => .non
theorem rnum_ok {t : Str} (h : Txt0 640 t) (s : Pen) : (numV t = .non ∧ readV t = .non ∧ f_read_number [.str t] s = .exc 4 [.int 0] s) ∨ ∃ q : Int × Int, numV t = rat q ∧ readV t = .tup [.int q.1, .int q.2] ∧ f_read_number [.str t] s = .ok (rat q, s) := by
  have hL := len_ok h.len
  have e0 : startsD (.str t) (.str "-") = some (.bl (mns t)) := by
    rw [minus_is]; unfold startsD; dsimp only; rw [head_starts]; rfl
  have sz := size_ok (word_txt h) s
  have st : ∀ d : D, f_size_of [.str (word t)] s = .ok (d, s) → (setS 1 (callF 1 f_size_of [] (consM (ifM (truM (mStr1 startsD (mVar 0) (retM (.str "-")))) (sliceM (mVar 0) (partM (retM (.int 1))) (retM none)) (mVar 0)) (retM []))) : MS Pen) [.d (.str t), .no] s = .ok (.nx [.d (.str t), .d d], s) := fun d e => by
    unfold word at e
    cases hm : mns t with
    | true =>
      rw [hm] at e e0; simp only [if_true] at e
      simp only [callF, List.append_nil, List.cons_append, List.nil_append, List.length_cons, List.length_nil, Nat.zero_add, Nat.reduceAdd, reduceIte, seqS, setS, retS, exprS, nextS, ifS, thenS, DL.bindM, retM, optM, m1, m2, mVar, consM, callM, truM, andT, orT, notT, andV, orV, notV, ifM, penGet, penPut, parS, asgS, tupM, lstM, partM, addD, subD, ltD, gtD, geD, leD, negD, DL.intD, absD, lenD, truD, isNon, strCD, List.getElem?_cons_succ, List.getElem?_cons_zero, List.set_cons_succ, List.set_cons_zero, if_true, Bool.false_eq_true, if_false, Bool.not_true, Bool.not_false, mStr1, isStr, sliceM, sliceD, partD, if_pos hL, e0, e]
    | false =>
      rw [hm] at e e0; simp only [Bool.false_eq_true, if_false] at e
      simp only [callF, List.append_nil, List.cons_append, List.nil_append, List.length_cons, List.length_nil, Nat.zero_add, Nat.reduceAdd, reduceIte, seqS, setS, retS, exprS, nextS, ifS, thenS, DL.bindM, retM, optM, m1, m2, mVar, consM, callM, truM, andT, orT, notT, andV, orV, notV, ifM, penGet, penPut, parS, asgS, tupM, lstM, partM, addD, subD, ltD, gtD, geD, leD, negD, DL.intD, absD, lenD, truD, isNon, strCD, List.getElem?_cons_succ, List.getElem?_cons_zero, List.set_cons_succ, List.set_cons_zero, if_true, Bool.false_eq_true, if_false, Bool.not_true, Bool.not_false, mStr1, isStr, sliceM, sliceD, partD, if_pos hL, e0, e]
  have s1 : (ifS (notT (truM (m1 (isiD false false false true false false [(6, false)]) (mVar 0)))) (raiseS 4 1 (consM (retM .non) (retM []))) nextS : MS Pen) [.d (.str t), .no] s = .ok (.nx [.d (.str t), .no], s) := by
    simp only [callF, List.append_nil, List.cons_append, List.nil_append, List.length_cons, List.length_nil, Nat.zero_add, Nat.reduceAdd, reduceIte, seqS, setS, retS, exprS, nextS, ifS, thenS, DL.bindM, retM, optM, m1, m2, mVar, consM, callM, truM, andT, orT, notT, andV, orV, notV, ifM, penGet, penPut, parS, asgS, tupM, lstM, partM, addD, subD, ltD, gtD, geD, leD, negD, DL.intD, absD, lenD, truD, isNon, strCD, List.getElem?_cons_succ, List.getElem?_cons_zero, List.set_cons_succ, List.set_cons_zero, if_true, Bool.false_eq_true, if_false, Bool.not_true, Bool.not_false, isiD]
  have no : sizeV (pair (word t)) = .non → f_read_number [.str t] s = .exc 4 [.int 0] s := fun e => by
    rw [e] at sz
    refine runF_exc (env := [.d (.str t), .no]) (env' := [.d (.str t), .d .non]) rfl ?_
    unfold m_read_number
    rw [seqS_nx s1, seqS_nx (st _ sz)]
    simp only [callF, List.append_nil, List.cons_append, List.nil_append, List.length_cons, List.length_nil, Nat.zero_add, Nat.reduceAdd, reduceIte, seqS, setS, retS, exprS, nextS, ifS, thenS, DL.bindM, retM, optM, m1, m2, mVar, consM, callM, truM, andT, orT, notT, andV, orV, notV, ifM, penGet, penPut, parS, asgS, tupM, lstM, partM, addD, subD, ltD, gtD, geD, leD, negD, DL.intD, absD, lenD, truD, isNon, strCD, List.getElem?_cons_succ, List.getElem?_cons_zero, List.set_cons_succ, List.set_cons_zero, if_true, Bool.false_eq_true, if_false, Bool.not_true, Bool.not_false, raiseS, isNon]
  have yes : ∀ a b : Nat, pair (word t) = (some a, some b) → 0 < b → f_read_number [.str t] s = .ok (rat (low (sg t a) b), s) := fun a b e hb => by
    rw [e, show sizeV (some a, some b) = rat (low a b) from if_pos hb] at sz
    refine runF_rt (env := [.d (.str t), .no]) rfl ?_
    unfold m_read_number
    rw [seqS_nx s1, seqS_nx (st _ sz)]
    have s3 : ∀ p : Int × Int, (ifS (truM (m1 (fun x => some (.bl (isNon x))) (mVar 1))) (raiseS 4 1 (consM (retM (.int 0)) (retM []))) nextS : MS Pen) [.d (.str t), .d (rat p)] s = .ok (.nx [.d (.str t), .d (rat p)], s) := fun p => by
      unfold rat
      simp only [callF, List.append_nil, List.cons_append, List.nil_append, List.length_cons, List.length_nil, Nat.zero_add, Nat.reduceAdd, reduceIte, seqS, setS, retS, exprS, nextS, ifS, thenS, DL.bindM, retM, optM, m1, m2, mVar, consM, callM, truM, andT, orT, notT, andV, orV, notV, ifM, penGet, penPut, parS, asgS, tupM, lstM, partM, addD, subD, ltD, gtD, geD, leD, negD, DL.intD, absD, lenD, truD, isNon, strCD, List.getElem?_cons_succ, List.getElem?_cons_zero, List.set_cons_succ, List.set_cons_zero, if_true, Bool.false_eq_true, if_false, Bool.not_true, Bool.not_false]
    rw [seqS_nx (s3 _)]
    have hp := low_pos (a : Int) (b : Int) (by omega)
    have hl : (low (a : Int) (b : Int)).2.natAbs < 2 ^ 8000 := Nat.lt_of_le_of_lt (low_abs2 _ _ (by omega)) (by rw [Int.natAbs_natCast]; exact pair_lt (word_txt h).len e)
    have ng := neg_ok hp hl s
    have e6 : low (-(low (a : Int) (b : Int)).1) (low (a : Int) (b : Int)).2 = low (-(a : Int)) b := by
      rw [low_neg _ _ hp, low_low _ _ (by omega), low_neg _ _ (by omega)]
    rw [e6] at ng
    cases hm : mns t with
    | true =>
      rw [hm] at e0
      have es : sg t a = -(a : Int) := by unfold sg; rw [hm]; rfl
      rw [es]
      have en : negO 6 f_Ratio___neg__ (mVar 1) [.d (.str t), .d (rat (low (a : Int) (b : Int)))] s = .ok (rat (low (-(a : Int)) b), s) := by
        unfold negO DL.bindM mVar
        unfold rat at ng ⊢
        simp only [List.getElem?_cons_succ, List.getElem?_cons_zero, oneF, if_true, ng]
      have tt : (truM (mStr1 startsD (mVar 0) (retM (.str "-"))) : M Pen Bool) [.d (.str t), .d (rat (low (a : Int) (b : Int)))] s = .ok (true, s) := by
        simp only [callF, List.append_nil, List.cons_append, List.nil_append, List.length_cons, List.length_nil, Nat.zero_add, Nat.reduceAdd, reduceIte, seqS, setS, retS, exprS, nextS, ifS, thenS, DL.bindM, retM, optM, m1, m2, mVar, consM, callM, truM, andT, orT, notT, andV, orV, notV, ifM, penGet, penPut, parS, asgS, tupM, lstM, partM, addD, subD, ltD, gtD, geD, leD, negD, DL.intD, absD, lenD, truD, isNon, strCD, List.getElem?_cons_succ, List.getElem?_cons_zero, List.set_cons_succ, List.set_cons_zero, if_true, Bool.false_eq_true, if_false, Bool.not_true, Bool.not_false, mStr1, isStr, e0]
      unfold retS thenS ifM DL.bindM
      rw [tt]
      simp only [if_true]
      rw [en]
    | false =>
      rw [hm] at e0
      have es : sg t a = (a : Int) := by unfold sg; rw [hm]; rfl
      rw [es]
      simp only [callF, List.append_nil, List.cons_append, List.nil_append, List.length_cons, List.length_nil, Nat.zero_add, Nat.reduceAdd, reduceIte, seqS, setS, retS, exprS, nextS, ifS, thenS, DL.bindM, retM, optM, m1, m2, mVar, consM, callM, truM, andT, orT, notT, andV, orV, notV, ifM, penGet, penPut, parS, asgS, tupM, lstM, partM, addD, subD, ltD, gtD, geD, leD, negD, DL.intD, absD, lenD, truD, isNon, strCD, List.getElem?_cons_succ, List.getElem?_cons_zero, List.set_cons_succ, List.set_cons_zero, if_true, Bool.false_eq_true, if_false, Bool.not_true, Bool.not_false, mStr1, isStr, e0]
  unfold numV readV
  cases z : pair (word t) with
  | mk a b =>
    rw [z] at no
    cases a with
    | none => exact .inl ⟨rfl, rfl, no rfl⟩
    | some a =>
      cases b with
      | none => exact .inl ⟨rfl, rfl, no rfl⟩
      | some b =>
        by_cases hb : 0 < b
        · exact .inr ⟨low (sg t a) b, if_pos hb, if_pos hb, yes a b z hb⟩
        · exact .inl ⟨if_neg hb, if_neg hb, no (if_neg hb)⟩
end K05
set_option Elab.async false
set_option linter.all false
set_option maxRecDepth 100000
set_option maxHeartbeats 1000000
namespace K05
open PySem PySem.Spec PyProof.Rows L2 DL
theorem err_ok {me : M Pen D} {env : DL.Env} {s s' : Pen} {v : D} (h : me (env.map dOnly) s = .ok (v, s')) : lamM n__law_error_of m__law_error_of me env s = .ok (.tup [.str "ok", v], s') := by
  unfold lamM runT
  have e : m__law_error_of (fun s => me (env.map dOnly) s) (Slot.fn :: List.replicate (n__law_error_of - 1) .no) s = .ok (.rt (.tup [.str "ok", v]), s') := by
    show m__law_error_of _ [Slot.fn, .no] s = _
    unfold m__law_error_of tryS
    simp only [callF, List.append_nil, List.cons_append, List.nil_append, List.length_cons, List.length_nil, Nat.zero_add, Nat.reduceAdd, reduceIte, seqS, setS, retS, exprS, nextS, ifS, thenS, DL.bindM, retM, optM, m1, m2, mVar, consM, callM, truM, andT, orT, notT, andV, orV, notV, ifM, penGet, penPut, parS, asgS, tupM, lstM, partM, addD, subD, ltD, gtD, geD, leD, negD, DL.intD, absD, lenD, truD, isNon, strCD, List.getElem?_cons_succ, List.getElem?_cons_zero, List.set_cons_succ, List.set_cons_zero, if_true, Bool.false_eq_true, if_false, Bool.not_true, Bool.not_false, actM, h, tupD, Nat.reduceLeDiff]
  rw [e]
theorem err_text {me : M Pen D} {env : DL.Env} {s s' : Pen} {d : D} (h : me (env.map dOnly) s = .exc 4 [d] s') : lamM n__law_error_of m__law_error_of me env s = .ok (.tup [.str "text", d], s') := by
  unfold lamM runT
  have e : m__law_error_of (fun s => me (env.map dOnly) s) (Slot.fn :: List.replicate (n__law_error_of - 1) .no) s = .ok (.rt (.tup [.str "text", d]), s') := by
    show m__law_error_of _ [Slot.fn, .no] s = _
    unfold m__law_error_of tryS
    have e0 : exT tab__law_error_of_0 4 = some false := rfl
    have e1 : exT tab__law_error_of_1 4 = some false := rfl
    have e2 : exT tab__law_error_of_2 4 = some false := rfl
    have e3 : exT tab__law_error_of_3 4 = some true := rfl
    simp only [callF, List.append_nil, List.cons_append, List.nil_append, List.length_cons, List.length_nil, Nat.zero_add, Nat.reduceAdd, reduceIte, seqS, setS, retS, exprS, nextS, ifS, thenS, DL.bindM, retM, optM, m1, m2, mVar, consM, callM, truM, andT, orT, notT, andV, orV, notV, ifM, penGet, penPut, parS, asgS, tupM, lstM, partM, addD, subD, ltD, gtD, geD, leD, negD, DL.intD, absD, lenD, truD, isNon, strCD, List.getElem?_cons_succ, List.getElem?_cons_zero, List.set_cons_succ, List.set_cons_zero, if_true, Bool.false_eq_true, if_false, Bool.not_true, Bool.not_false, actM, h, tupD, Nat.reduceLeDiff, handleS, e0, e1, e2, e3, endS, plainF, excSlot, List.map_cons, List.map_nil, plainSlot, xfM]
  rw [e]
theorem err_item {me : M Pen D} {env : DL.Env} {s s' : Pen} {d r : D} (h : me (env.map dOnly) s = .exc 3 [d] s') (hr : reprD [d] = some r) : lamM n__law_error_of m__law_error_of me env s = .ok (.tup [.str "item", r], s') := by
  unfold lamM runT
  have e : m__law_error_of (fun s => me (env.map dOnly) s) (Slot.fn :: List.replicate (n__law_error_of - 1) .no) s = .ok (.rt (.tup [.str "item", r]), s') := by
    show m__law_error_of _ [Slot.fn, .no] s = _
    unfold m__law_error_of tryS
    have e0 : exT tab__law_error_of_0 3 = some false := rfl
    have e1 : exT tab__law_error_of_1 3 = some false := rfl
    have e2 : exT tab__law_error_of_2 3 = some true := rfl
    simp only [callF, List.append_nil, List.cons_append, List.nil_append, List.length_cons, List.length_nil, Nat.zero_add, Nat.reduceAdd, reduceIte, seqS, setS, retS, exprS, nextS, ifS, thenS, DL.bindM, retM, optM, m1, m2, mVar, consM, callM, truM, andT, orT, notT, andV, orV, notV, ifM, penGet, penPut, parS, asgS, tupM, lstM, partM, addD, subD, ltD, gtD, geD, leD, negD, DL.intD, absD, lenD, truD, isNon, strCD, List.getElem?_cons_succ, List.getElem?_cons_zero, List.set_cons_succ, List.set_cons_zero, if_true, Bool.false_eq_true, if_false, Bool.not_true, Bool.not_false, actM, h, tupD, Nat.reduceLeDiff, handleS, e0, e1, e2, endS, plainF, excSlot, List.map_cons, List.map_nil, plainSlot, xfM, hr]
  rw [e]
theorem eq_text0 {x y : Str} {a b : Int} (hx : PyData.strOk x = true) (hy : PyData.strOk y = true) : eqD (.tup [.str x, .int a]) (.tup [.str y, .int b]) = some (.bl ((x == y) && (a == b))) := by
  unfold eqD eqvD
  simp only [toPy, toPys, if_pos hx, if_pos hy, Option.map_some]
  rw [if_pos ⟨by simp [PyData.depth, PyData.depthAll], by simp [PyData.depth, PyData.depthAll]⟩]
  simp only [PyData.eqv, PyData.eqvAll, Bool.and_true, Option.map_some]
theorem ne_textN {x y : Str} (hx : PyData.strOk x = true) (hy : PyData.strOk y = true) : neD (.tup [.str x, .non]) (.tup [.str y, .non]) = some (.bl (!(x == y))) := by
  unfold neD eqvD
  simp only [toPy, toPys, if_pos hx, if_pos hy, Option.map_some]
  rw [if_pos ⟨by simp [PyData.depth, PyData.depthAll], by simp [PyData.depth, PyData.depthAll]⟩]
  simp only [PyData.eqv, PyData.eqvAll, Bool.and_true, Option.map_some]
theorem eq_strs {x y z w : Str} (hx : PyData.strOk x = true) (hy : PyData.strOk y = true) (hz : PyData.strOk z = true) (hw : PyData.strOk w = true) : eqD (.tup [.str x, .str z]) (.tup [.str y, .str w]) = some (.bl ((x == y) && (z == w))) := by
  unfold eqD eqvD
  simp only [toPy, toPys, if_pos hx, if_pos hy, if_pos hz, if_pos hw, Option.map_some]
  rw [if_pos ⟨by simp [PyData.depth, PyData.depthAll], by simp [PyData.depth, PyData.depthAll]⟩]
  simp only [PyData.eqv, PyData.eqvAll, Bool.and_true, Option.map_some]
theorem is_n (i : Int) (s : Pen) : f__law_is_number [.int i] s = .ok (.bl true, s) := by
  refine runF_rt (env := [.d (.int i)]) rfl ?_
  unfold m__law_is_number
  simp only [callF, List.append_nil, List.cons_append, List.nil_append, List.length_cons, List.length_nil, Nat.zero_add, Nat.reduceAdd, reduceIte, seqS, setS, retS, exprS, nextS, ifS, thenS, DL.bindM, retM, optM, m1, m2, mVar, consM, callM, truM, andT, orT, notT, andV, orV, notV, ifM, penGet, penPut, parS, asgS, tupM, lstM, partM, addD, subD, ltD, gtD, geD, leD, negD, DL.intD, absD, lenD, truD, isNon, strCD, List.getElem?_cons_succ, List.getElem?_cons_zero, List.set_cons_succ, List.set_cons_zero, if_true, Bool.false_eq_true, if_false, Bool.not_true, Bool.not_false, isiD, Option.map_some]
theorem is_r (q : Int × Int) (s : Pen) : f__law_is_ratio [rat q, .tup [.int q.1, .int q.2]] s = .ok (.bl true, s) := by
  refine runF_rt (env := [.d (rat q), .d (.tup [.int q.1, .int q.2])]) rfl ?_
  unfold m__law_is_ratio
  have e1 : fldD [(6, 0)] (rat q) = some (.int q.1) := rfl
  have e2 : fldD [(6, 1)] (rat q) = some (.int q.2) := rfl
  have e3 : isiD false false false false false false [(6, true)] (rat q) = some (.bl true) := rfl
  simp only [callF, List.append_nil, List.cons_append, List.nil_append, List.length_cons, List.length_nil, Nat.zero_add, Nat.reduceAdd, reduceIte, seqS, setS, retS, exprS, nextS, ifS, thenS, DL.bindM, retM, optM, m1, m2, mVar, consM, callM, truM, andT, orT, notT, andV, orV, notV, ifM, penGet, penPut, parS, asgS, tupM, lstM, partM, addD, subD, ltD, gtD, geD, leD, negD, DL.intD, absD, lenD, truD, isNon, strCD, List.getElem?_cons_succ, List.getElem?_cons_zero, List.set_cons_succ, List.set_cons_zero, if_true, Bool.false_eq_true, if_false, Bool.not_true, Bool.not_false, e1, e2, e3, is_n, tupD, Nat.reduceLeDiff, eqD_pair, beq_self_eq_true, Bool.and_self]
theorem right_ok {t : Str} (h : Txt0 640 t) (s : Pen) : f__law_read_right [.str t] s = .ok (.bl true, s) := by
  refine runF_rt (env := [.d (.str t), .no, .no]) rfl ?_
  unfold m__law_read_right
  have rd := lread_ok h s
  rcases rnum_ok h s with ⟨_, e1, e2⟩ | ⟨q, _, e1, e2⟩
  · rw [e1] at rd
    refine (seqS_nx (env' := [.d (.str t), .d .non, .no]) (s' := s) (by simp only [callF, List.append_nil, List.cons_append, List.nil_append, List.length_cons, List.length_nil, Nat.zero_add, Nat.reduceAdd, reduceIte, seqS, setS, retS, exprS, nextS, ifS, thenS, DL.bindM, retM, optM, m1, m2, mVar, consM, callM, truM, andT, orT, notT, andV, orV, notV, ifM, penGet, penPut, parS, asgS, tupM, lstM, partM, addD, subD, ltD, gtD, geD, leD, negD, DL.intD, absD, lenD, truD, isNon, strCD, List.getElem?_cons_succ, List.getElem?_cons_zero, List.set_cons_succ, List.set_cons_zero, if_true, Bool.false_eq_true, if_false, Bool.not_true, Bool.not_false, rd])).trans ?_
    have et := err_text (me := callF 1 f_read_number [] (consM (mVar 0) (retM []))) (env := [.d (.str t), .d .non, .no]) (s := s) (s' := s) (d := .int 0) (by simp only [List.map_cons, List.map_nil, dOnly, callF, List.append_nil, List.cons_append, List.nil_append, List.length_cons, List.length_nil, Nat.zero_add, Nat.reduceAdd, reduceIte, seqS, setS, retS, exprS, nextS, ifS, thenS, DL.bindM, retM, optM, m1, m2, mVar, consM, callM, truM, andT, orT, notT, andV, orV, notV, ifM, penGet, penPut, parS, asgS, tupM, lstM, partM, addD, subD, ltD, gtD, geD, leD, negD, DL.intD, absD, lenD, truD, isNon, strCD, List.getElem?_cons_succ, List.getElem?_cons_zero, List.set_cons_succ, List.set_cons_zero, if_true, Bool.false_eq_true, if_false, Bool.not_true, Bool.not_false, e2])
    refine (seqS_nx (env' := [.d (.str t), .d .non, .d (.tup [.str "text", .int 0])]) (s' := s) (by unfold setS thenS; rw [et]; rfl)).trans ?_
    have eq := eq_text0 (x := "text") (y := "text") (a := 0) (b := 0) (ok_lit _) (ok_lit _)
    simp only [callF, List.append_nil, List.cons_append, List.nil_append, List.length_cons, List.length_nil, Nat.zero_add, Nat.reduceAdd, reduceIte, seqS, setS, retS, exprS, nextS, ifS, thenS, DL.bindM, retM, optM, m1, m2, mVar, consM, callM, truM, andT, orT, notT, andV, orV, notV, ifM, penGet, penPut, parS, asgS, tupM, lstM, partM, addD, subD, ltD, gtD, geD, leD, negD, DL.intD, absD, lenD, truD, isNon, strCD, List.getElem?_cons_succ, List.getElem?_cons_zero, List.set_cons_succ, List.set_cons_zero, if_true, Bool.false_eq_true, if_false, Bool.not_true, Bool.not_false, tupD, Nat.reduceLeDiff, eq, beq_self_eq_true, Bool.and_self]
  · rw [e1] at rd
    refine (seqS_nx (env' := [.d (.str t), .d (.tup [.int q.1, .int q.2]), .no]) (s' := s) (by simp only [callF, List.append_nil, List.cons_append, List.nil_append, List.length_cons, List.length_nil, Nat.zero_add, Nat.reduceAdd, reduceIte, seqS, setS, retS, exprS, nextS, ifS, thenS, DL.bindM, retM, optM, m1, m2, mVar, consM, callM, truM, andT, orT, notT, andV, orV, notV, ifM, penGet, penPut, parS, asgS, tupM, lstM, partM, addD, subD, ltD, gtD, geD, leD, negD, DL.intD, absD, lenD, truD, isNon, strCD, List.getElem?_cons_succ, List.getElem?_cons_zero, List.set_cons_succ, List.set_cons_zero, if_true, Bool.false_eq_true, if_false, Bool.not_true, Bool.not_false, rd])).trans ?_
    have et := err_ok (me := callF 1 f_read_number [] (consM (mVar 0) (retM []))) (env := [.d (.str t), .d (.tup [.int q.1, .int q.2]), .no]) (s := s) (s' := s) (v := rat q) (by simp only [List.map_cons, List.map_nil, dOnly, callF, List.append_nil, List.cons_append, List.nil_append, List.length_cons, List.length_nil, Nat.zero_add, Nat.reduceAdd, reduceIte, seqS, setS, retS, exprS, nextS, ifS, thenS, DL.bindM, retM, optM, m1, m2, mVar, consM, callM, truM, andT, orT, notT, andV, orV, notV, ifM, penGet, penPut, parS, asgS, tupM, lstM, partM, addD, subD, ltD, gtD, geD, leD, negD, DL.intD, absD, lenD, truD, isNon, strCD, List.getElem?_cons_succ, List.getElem?_cons_zero, List.set_cons_succ, List.set_cons_zero, if_true, Bool.false_eq_true, if_false, Bool.not_true, Bool.not_false, e2])
    refine (seqS_nx (env' := [.d (.str t), .d (.tup [.int q.1, .int q.2]), .d (.tup [.str "ok", rat q])]) (s' := s) (by unfold setS thenS; rw [et]; rfl)).trans ?_
    have eq := eqD_str (ok_lit "ok") (ok_lit "ok")
    have a0 : ixD (.tup [.str "ok", rat q]) (.int 0) = some (.str "ok") := at_zero _ _
    have a1 : ixD (.tup [.str "ok", rat q]) (.int 1) = some (rat q) := rfl
    simp only [callF, List.append_nil, List.cons_append, List.nil_append, List.length_cons, List.length_nil, Nat.zero_add, Nat.reduceAdd, reduceIte, seqS, setS, retS, exprS, nextS, ifS, thenS, DL.bindM, retM, optM, m1, m2, mVar, consM, callM, truM, andT, orT, notT, andV, orV, notV, ifM, penGet, penPut, parS, asgS, tupM, lstM, partM, addD, subD, ltD, gtD, geD, leD, negD, DL.intD, absD, lenD, truD, isNon, strCD, List.getElem?_cons_succ, List.getElem?_cons_zero, List.set_cons_succ, List.set_cons_zero, if_true, Bool.false_eq_true, if_false, Bool.not_true, Bool.not_false, a0, a1, eq, beq_self_eq_true, is_r]
theorem len_lt {n : Nat} {t : Str} (h : Txt0 n t) (hn : n ≤ 640) : t.length ≤ 640 := Nat.le_trans h.len hn
theorem signs_is : addD (.str "0123456789-/+. x") (.str "\n") = some (.str "0123456789-/+. x\n") := by
  unfold addD; exact congrArg (fun x => some (D.str x)) (by decide +kernel)
theorem bent_ok {n m : Nat} {p : Pen} {t : Str} (h : PenOk n p) (hn : n < 10000000000) (ht : Txt0 m t) (hm : m ≤ 640) : ∃ u p', f__law_bent [.st, .str t] p = .ok (.str u, p') ∧ Txt0 (m + 1 + m) u ∧ PenOk (n + 3) p' := by
  have hl := ht.len
  obtain ⟨r, q1, e1, r0, r1, h1⟩ := draw1 h (by omega) (many := (t.length : Int) + 1) (by omega) (by have : (1000 : Nat) < 2 ^ 200 := (by decide +kernel); omega)
  obtain ⟨v, q2, e2, v0, v1, h2⟩ := draw1 h1 (by omega) (many := 3) (by decide) (by decide +kernel)
  obtain ⟨k, q3, e3, hk, h3⟩ := pick_str h2 (by omega) (y := "0123456789-/+. x\n") (by decide +kernel) (by decide +kernel)
  have hkk : Txt0 1 (⟨#[k]⟩ : Str) := ⟨ok_iff.mpr fun j hj => by
    simp at hj; subst hj
    exact ok_iff.mp (ok_lit "0123456789-/+. x\n") j hk, Nat.le_refl _⟩
  have hL : t.length ≤ sizeLine := by rw [sizeLine_eq]; omega
  suffices q : ∃ u, m__law_bent [.d .st, .d (.str t), .no, .no, .no] p = .ok (.rt (.str u), q3) ∧ Txt0 (m + 1 + m) u by
    obtain ⟨u, e, k⟩ := q
    exact ⟨u, q3, runF_rt rfl e, k, h3⟩
  unfold m__law_bent
  have c1 := ht.cut none (some r)
  by_cases hv : v = 0
  · have ev : (v == 0) = true := by rw [hv]; rfl
    have c2 := ht.cut (some (r + 1)) none
    have z1 : (cutS t none (some r)).length + (cutS t (some (r + 1)) none).length ≤ sizeLine := by have := c1.len; have := c2.len; rw [sizeLine_eq]; omega
    refine ⟨cutS t none (some r) ++ cutS t (some (r + 1)) none, ?_, (c1.cat c2).mono (by omega)⟩
    refine (seqS_nx (env' := [.d .st, .d (.str t), .d (.int r), .d (.int v), .no]) (s' := q2) (by simp only [callF, List.append_nil, List.cons_append, List.nil_append, List.length_cons, List.length_nil, Nat.zero_add, Nat.reduceAdd, reduceIte, seqS, setS, retS, exprS, nextS, ifS, thenS, DL.bindM, retM, optM, m1, m2, mVar, consM, callM, truM, andT, orT, notT, andV, orV, notV, ifM, penGet, penPut, parS, asgS, tupM, lstM, partM, addD, subD, ltD, gtD, geD, leD, negD, DL.intD, absD, lenD, truD, isNon, strCD, List.getElem?_cons_succ, List.getElem?_cons_zero, List.set_cons_succ, List.set_cons_zero, if_true, Bool.false_eq_true, if_false, Bool.not_true, Bool.not_false, if_pos hL, e1, e2])).trans ?_
    refine (seqS_nx (env' := [.d .st, .d (.str t), .d (.int r), .d (.int v), .d (.str ⟨#[k]⟩)]) (s' := q3) (by
      have := signs_is
      unfold addD at this
      simp only [callF, List.append_nil, List.cons_append, List.nil_append, List.length_cons, List.length_nil, Nat.zero_add, Nat.reduceAdd, reduceIte, seqS, setS, retS, exprS, nextS, ifS, thenS, DL.bindM, retM, optM, m1, m2, mVar, consM, callM, truM, andT, orT, notT, andV, orV, notV, ifM, penGet, penPut, parS, asgS, tupM, lstM, partM, addD, subD, ltD, gtD, geD, leD, negD, DL.intD, absD, lenD, truD, isNon, strCD, List.getElem?_cons_succ, List.getElem?_cons_zero, List.set_cons_succ, List.set_cons_zero, if_true, Bool.false_eq_true, if_false, Bool.not_true, Bool.not_false, this, fpick_eq, e3])).trans ?_
    simp only [callF, List.append_nil, List.cons_append, List.nil_append, List.length_cons, List.length_nil, Nat.zero_add, Nat.reduceAdd, reduceIte, seqS, setS, retS, exprS, nextS, ifS, thenS, DL.bindM, retM, optM, m1, m2, mVar, consM, callM, truM, andT, orT, notT, andV, orV, notV, ifM, penGet, penPut, parS, asgS, tupM, lstM, partM, addD, subD, ltD, gtD, geD, leD, negD, DL.intD, absD, lenD, truD, isNon, strCD, List.getElem?_cons_succ, List.getElem?_cons_zero, List.set_cons_succ, List.set_cons_zero, if_true, Bool.false_eq_true, if_false, Bool.not_true, Bool.not_false, sliceM, sliceD, partD, if_pos hL, eqD_int, ev, if_pos z1]
  · have ev : (v == 0) = false := beq_eq_false_iff_ne.mpr hv
    have c2 := ht.cut (some (r + v - 1)) none
    have z1 : (cutS t none (some r)).length + (⟨#[k]⟩ : Str).length ≤ sizeLine := by have := c1.len; have := hkk.len; rw [sizeLine_eq]; omega
    have z2 : (cutS t none (some r) ++ (⟨#[k]⟩ : Str)).length + (cutS t (some (r + v - 1)) none).length ≤ sizeLine := by have := (c1.cat hkk).len; have := c2.len; rw [sizeLine_eq]; omega
    refine ⟨(cutS t none (some r) ++ ⟨#[k]⟩) ++ cutS t (some (r + v - 1)) none, ?_, (c1.cat hkk).cat c2⟩
    refine (seqS_nx (env' := [.d .st, .d (.str t), .d (.int r), .d (.int v), .no]) (s' := q2) (by simp only [callF, List.append_nil, List.cons_append, List.nil_append, List.length_cons, List.length_nil, Nat.zero_add, Nat.reduceAdd, reduceIte, seqS, setS, retS, exprS, nextS, ifS, thenS, DL.bindM, retM, optM, m1, m2, mVar, consM, callM, truM, andT, orT, notT, andV, orV, notV, ifM, penGet, penPut, parS, asgS, tupM, lstM, partM, addD, subD, ltD, gtD, geD, leD, negD, DL.intD, absD, lenD, truD, isNon, strCD, List.getElem?_cons_succ, List.getElem?_cons_zero, List.set_cons_succ, List.set_cons_zero, if_true, Bool.false_eq_true, if_false, Bool.not_true, Bool.not_false, if_pos hL, e1, e2])).trans ?_
    refine (seqS_nx (env' := [.d .st, .d (.str t), .d (.int r), .d (.int v), .d (.str ⟨#[k]⟩)]) (s' := q3) (by
      have := signs_is
      unfold addD at this
      simp only [callF, List.append_nil, List.cons_append, List.nil_append, List.length_cons, List.length_nil, Nat.zero_add, Nat.reduceAdd, reduceIte, seqS, setS, retS, exprS, nextS, ifS, thenS, DL.bindM, retM, optM, m1, m2, mVar, consM, callM, truM, andT, orT, notT, andV, orV, notV, ifM, penGet, penPut, parS, asgS, tupM, lstM, partM, addD, subD, ltD, gtD, geD, leD, negD, DL.intD, absD, lenD, truD, isNon, strCD, List.getElem?_cons_succ, List.getElem?_cons_zero, List.set_cons_succ, List.set_cons_zero, if_true, Bool.false_eq_true, if_false, Bool.not_true, Bool.not_false, this, fpick_eq, e3])).trans ?_
    simp only [callF, List.append_nil, List.cons_append, List.nil_append, List.length_cons, List.length_nil, Nat.zero_add, Nat.reduceAdd, reduceIte, seqS, setS, retS, exprS, nextS, ifS, thenS, DL.bindM, retM, optM, m1, m2, mVar, consM, callM, truM, andT, orT, notT, andV, orV, notV, ifM, penGet, penPut, parS, asgS, tupM, lstM, partM, addD, subD, ltD, gtD, geD, leD, negD, DL.intD, absD, lenD, truD, isNon, strCD, List.getElem?_cons_succ, List.getElem?_cons_zero, List.set_cons_succ, List.set_cons_zero, if_true, Bool.false_eq_true, if_false, Bool.not_true, Bool.not_false, sliceM, sliceD, partD, if_pos hL, eqD_int, ev, if_pos z1, if_pos z2]
theorem seqS_exc {m1 m2 : MS Pen} {env : DL.Env} {s : Pen} {k : Nat} {fs : List D} {p : DL.Env × Pen} (h : m1 env s = .exc k fs p) : seqS m1 m2 env s = .exc k fs p := by unfold seqS; rw [h]
theorem no_text {d : D} (h : isiD false false false true false false [(6, false)] d = some (.bl false)) (s : Pen) : f_read_number [d] s = .exc 4 [.non] s := by
  refine runF_exc (env := [.d d, .no]) (env' := [.d d, .no]) rfl ?_
  unfold m_read_number
  have s1 : (ifS (notT (truM (m1 (isiD false false false true false false [(6, false)]) (mVar 0)))) (raiseS 4 1 (consM (retM .non) (retM []))) nextS : MS Pen) [.d d, .no] s = .exc 4 [.non] ([.d d, .no], s) := by
    simp only [callF, List.append_nil, List.cons_append, List.nil_append, List.length_cons, List.length_nil, Nat.zero_add, Nat.reduceAdd, reduceIte, seqS, setS, retS, exprS, nextS, ifS, thenS, DL.bindM, retM, optM, m1, m2, mVar, consM, callM, truM, andT, orT, notT, andV, orV, notV, ifM, penGet, penPut, parS, asgS, tupM, lstM, partM, addD, subD, ltD, gtD, geD, leD, negD, DL.intD, absD, lenD, truD, isNon, strCD, List.getElem?_cons_succ, List.getElem?_cons_zero, List.set_cons_succ, List.set_cons_zero, if_true, Bool.false_eq_true, if_false, Bool.not_true, Bool.not_false, h, raiseS]
  exact seqS_exc s1
def noNums : List D := [.non, .bl true, .str "1", .tup [.int 1], .tup [.int 1, .int 2]]
theorem no_num {d : D} (h : d ∈ noNums) (s : Pen) : f_number_text [d] s = .exc 3 [d] s := by
  have ii : f_is_integer [d] s = .ok (.bl false, s) := by
    refine runF_rt (env := [.d d]) rfl ?_
    unfold m_is_integer
    unfold noNums at h
    simp only [List.mem_cons, List.not_mem_nil, or_false] at h
    rcases h with rfl | rfl | rfl | rfl | rfl <;> simp only [callF, List.append_nil, List.cons_append, List.nil_append, List.length_cons, List.length_nil, Nat.zero_add, Nat.reduceAdd, reduceIte, seqS, setS, retS, exprS, nextS, ifS, thenS, DL.bindM, retM, optM, m1, m2, mVar, consM, callM, truM, andT, orT, notT, andV, orV, notV, ifM, penGet, penPut, parS, asgS, tupM, lstM, partM, addD, subD, ltD, gtD, geD, leD, negD, DL.intD, absD, lenD, truD, isNon, strCD, List.getElem?_cons_succ, List.getElem?_cons_zero, List.set_cons_succ, List.set_cons_zero, if_true, Bool.false_eq_true, if_false, Bool.not_true, Bool.not_false, isiD, Option.map_some]
  have iN : f_is_number [d] s = .ok (.bl false, s) := by
    refine runF_rt (env := [.d d]) rfl ?_
    unfold m_is_number
    unfold noNums at h
    simp only [List.mem_cons, List.not_mem_nil, or_false] at h
    rcases h with rfl | rfl | rfl | rfl | rfl <;> simp only [callF, List.append_nil, List.cons_append, List.nil_append, List.length_cons, List.length_nil, Nat.zero_add, Nat.reduceAdd, reduceIte, seqS, setS, retS, exprS, nextS, ifS, thenS, DL.bindM, retM, optM, m1, m2, mVar, consM, callM, truM, andT, orT, notT, andV, orV, notV, ifM, penGet, penPut, parS, asgS, tupM, lstM, partM, addD, subD, ltD, gtD, geD, leD, negD, DL.intD, absD, lenD, truD, isNon, strCD, List.getElem?_cons_succ, List.getElem?_cons_zero, List.set_cons_succ, List.set_cons_zero, if_true, Bool.false_eq_true, if_false, Bool.not_true, Bool.not_false, ii, isiD]
  have ro : f_ratio_of [d] s = .exc 3 [d] s := by
    refine runF_exc (env := [.d d]) (env' := [.d d]) rfl ?_
    unfold m_ratio_of
    simp only [callF, List.append_nil, List.cons_append, List.nil_append, List.length_cons, List.length_nil, Nat.zero_add, Nat.reduceAdd, reduceIte, seqS, setS, retS, exprS, nextS, ifS, thenS, DL.bindM, retM, optM, m1, m2, mVar, consM, callM, truM, andT, orT, notT, andV, orV, notV, ifM, penGet, penPut, parS, asgS, tupM, lstM, partM, addD, subD, ltD, gtD, geD, leD, negD, DL.intD, absD, lenD, truD, isNon, strCD, List.getElem?_cons_succ, List.getElem?_cons_zero, List.set_cons_succ, List.set_cons_zero, if_true, Bool.false_eq_true, if_false, Bool.not_true, Bool.not_false, iN, raiseS]
  refine runF_exc (env := [.d d]) (env' := [.d d]) rfl ?_
  unfold m_number_text
  simp only [callF, List.append_nil, List.cons_append, List.nil_append, List.length_cons, List.length_nil, Nat.zero_add, Nat.reduceAdd, reduceIte, seqS, setS, retS, exprS, nextS, ifS, thenS, DL.bindM, retM, optM, m1, m2, mVar, consM, callM, truM, andT, orT, notT, andV, orV, notV, ifM, penGet, penPut, parS, asgS, tupM, lstM, partM, addD, subD, ltD, gtD, geD, leD, negD, DL.intD, absD, lenD, truD, isNon, strCD, List.getElem?_cons_succ, List.getElem?_cons_zero, List.set_cons_succ, List.set_cons_zero, if_true, Bool.false_eq_true, if_false, Bool.not_true, Bool.not_false, strO, ro]
theorem no_repr {d : D} (h : d ∈ noNums) : ∃ y : Str, reprD [d] = some (.str y) ∧ PyData.strOk y = true := by
  have k : ∀ p, toPy d = some p → p.showable = true → p.depth ≤ 60 → p.shown.length ≤ 1000 → PyData.strOk p.shown = true → ∃ y : Str, reprD [d] = some (.str y) ∧ PyData.strOk y = true := fun p e h1 h2 h3 h4 => by
    refine ⟨p.shown, ?_, h4⟩
    show (reprV d).map D.str = _
    unfold reprV
    rw [e]
    dsimp only
    rw [if_pos ⟨h1, h2, by rw [sizeLine_eq]; omega⟩]
    rfl
  unfold noNums at h
  simp only [List.mem_cons, List.not_mem_nil, or_false] at h
  rcases h with rfl | rfl | rfl | rfl | rfl
  · exact k .none rfl (by decide +kernel) (by decide +kernel) (by decide +kernel) (by decide +kernel)
  · exact k (.bool true) rfl (by decide +kernel) (by decide +kernel) (by decide +kernel) (by decide +kernel)
  · exact k (.str "1") (by unfold toPy; exact if_pos (ok_lit "1")) (by decide +kernel) (by decide +kernel) (by decide +kernel) (by decide +kernel)
  · exact k (.tuple [.int 1]) rfl (by decide +kernel) (by decide +kernel) (by decide +kernel) (by decide +kernel)
  · exact k (.tuple [.int 1, .int 2]) rfl (by decide +kernel) (by decide +kernel) (by decide +kernel) (by decide +kernel)
theorem nonum_ok {n : Nat} {p : Pen} (h : PenOk n p) (hn : n < 10000000000) : ∃ d p', f__law_no_number [.st] p = .ok (d, p') ∧ d ∈ noNums ∧ PenOk (n + 1) p' := by
  obtain ⟨d, q1, e1, hd, h1⟩ := pick_lst h (by omega) (xs := noNums) (by unfold noNums; simp) (by decide)
  refine ⟨d, q1, ?_, hd, h1⟩
  refine runF_rt (env := [.d .st]) rfl ?_
  unfold m__law_no_number
  unfold noNums at e1
  simp only [callF, List.append_nil, List.cons_append, List.nil_append, List.length_cons, List.length_nil, Nat.zero_add, Nat.reduceAdd, reduceIte, seqS, setS, retS, exprS, nextS, ifS, thenS, DL.bindM, retM, optM, m1, m2, mVar, consM, callM, truM, andT, orT, notT, andV, orV, notV, ifM, penGet, penPut, parS, asgS, tupM, lstM, partM, addD, subD, ltD, gtD, geD, leD, negD, DL.intD, absD, lenD, truD, isNon, strCD, List.getElem?_cons_succ, List.getElem?_cons_zero, List.set_cons_succ, List.set_cons_zero, if_true, Bool.false_eq_true, if_false, Bool.not_true, Bool.not_false, tupD, lstD, Nat.reduceLeDiff, fpick_eq, e1]
end K05
set_option Elab.async false
set_option linter.all false
set_option maxRecDepth 100000
set_option maxHeartbeats 1000000
namespace K05
open PySem PySem.Spec PyProof.Rows L2 DL
def good (cells : List Int) : Prop := cells.length ≤ 63
theorem given_ok {n : Nat} {p : Pen} (h : PenOk n p) (hn : n < 10000000000) {q : Int × Int} (h0 : 0 < q.2) (h1 : Nat.gcd q.1.natAbs q.2.natAbs = 1) (h2 : q.2.natAbs < 2 ^ 8000) :
    ∃ d p', f__law_given [.st, .tup [.int q.1, .int q.2]] p = .ok (d, p') ∧ PenOk (n + 1) p' ∧ (d = rat q ∨ (q.2 = 1 ∧ d = .int q.1)) := by
  have a0 : ixD (.tup [.int q.1, .int q.2]) (.int 0) = some (.int q.1) := at_zero _ _
  have a1 : ixD (.tup [.int q.1, .int q.2]) (.int 1) = some (.int q.2) := rfl
  have mk : ∀ s, makeR 6 2 f_Ratio___init__ [.int q.1, .int q.2] s = .ok (rat q, s) := fun s => by
    rw [make_ok h0 h2, low_idem h0 h1]
  by_cases hb : q.2 = 1
  · have e : (q.2 == 1) = true := beq_iff_eq.mpr hb
    obtain ⟨r, q1, e1, r0, r1, k1⟩ := draw1 h (by omega) (many := 2) (by decide) (by decide +kernel)
    by_cases hr : r = 0
    · have er : (r == 0) = true := beq_iff_eq.mpr hr
      refine ⟨.int q.1, q1, ?_, k1, .inr ⟨hb, rfl⟩⟩
      refine runF_rt (env := [.d .st, .d (.tup [.int q.1, .int q.2])]) rfl ?_
      unfold m__law_given makeF
      simp only [callF, List.append_nil, List.cons_append, List.nil_append, List.length_cons, List.length_nil, Nat.zero_add, Nat.reduceAdd, reduceIte, seqS, setS, retS, exprS, nextS, ifS, thenS, DL.bindM, retM, optM, m1, m2, mVar, consM, callM, truM, andT, orT, notT, andV, orV, notV, ifM, penGet, penPut, parS, asgS, tupM, lstM, partM, addD, subD, ltD, gtD, geD, leD, negD, DL.intD, absD, lenD, truD, isNon, strCD, List.getElem?_cons_succ, List.getElem?_cons_zero, List.set_cons_succ, List.set_cons_zero, if_true, Bool.false_eq_true, if_false, Bool.not_true, Bool.not_false, a0, a1, eqD_int, e, e1, er]
    · have er : (r == 0) = false := beq_eq_false_iff_ne.mpr hr
      refine ⟨rat q, q1, ?_, k1, .inl rfl⟩
      refine runF_rt (env := [.d .st, .d (.tup [.int q.1, .int q.2])]) rfl ?_
      unfold m__law_given makeF
      simp only [callF, List.append_nil, List.cons_append, List.nil_append, List.length_cons, List.length_nil, Nat.zero_add, Nat.reduceAdd, reduceIte, seqS, setS, retS, exprS, nextS, ifS, thenS, DL.bindM, retM, optM, m1, m2, mVar, consM, callM, truM, andT, orT, notT, andV, orV, notV, ifM, penGet, penPut, parS, asgS, tupM, lstM, partM, addD, subD, ltD, gtD, geD, leD, negD, DL.intD, absD, lenD, truD, isNon, strCD, List.getElem?_cons_succ, List.getElem?_cons_zero, List.set_cons_succ, List.set_cons_zero, if_true, Bool.false_eq_true, if_false, Bool.not_true, Bool.not_false, a0, a1, eqD_int, e, e1, er, mk]
  · have e : (q.2 == 1) = false := beq_eq_false_iff_ne.mpr hb
    refine ⟨rat q, p, ?_, h.mono (by omega), .inl rfl⟩
    refine runF_rt (env := [.d .st, .d (.tup [.int q.1, .int q.2])]) rfl ?_
    unfold m__law_given makeF
    simp only [callF, List.append_nil, List.cons_append, List.nil_append, List.length_cons, List.length_nil, Nat.zero_add, Nat.reduceAdd, reduceIte, seqS, setS, retS, exprS, nextS, ifS, thenS, DL.bindM, retM, optM, m1, m2, mVar, consM, callM, truM, andT, orT, notT, andV, orV, notV, ifM, penGet, penPut, parS, asgS, tupM, lstM, partM, addD, subD, ltD, gtD, geD, leD, negD, DL.intD, absD, lenD, truD, isNon, strCD, List.getElem?_cons_succ, List.getElem?_cons_zero, List.set_cons_succ, List.set_cons_zero, if_true, Bool.false_eq_true, if_false, Bool.not_true, Bool.not_false, a0, a1, eqD_int, e, mk]
theorem empty_cat (x : Str) : Str.empty ++ x = x := str_eq (by rw [show (Str.empty ++ x).cps.toList = _ from TL.tl_append Str.empty x]; rfl)
/-- the texts of a lap are read right -/
theorem reads_ok {a b c d e f g : Slot} {i : Nat} (p : Pen) : ∀ (ts : List Str), (∀ t ∈ ts, Txt0 640 t) → ∀ x : Slot, ∃ y, forLoop (.nm 7) (ifS (notT (truM (callF 1 f__law_read_right [] (consM (mVar 7) (retM []))))) (retS (retM (.bl false))) nextS) (ts.map D.str) [a, b, c, d, e, f, g, x, .no] p = .ok (.nx [a, b, c, d, e, f, g, y, .no], p)
  | [], _, x => ⟨x, rfl⟩
  | t :: ts, h, x => by
    have r := right_ok (h t (List.mem_cons_self ..)) p
    have hb : (ifS (notT (truM (callF 1 f__law_read_right [] (consM (mVar 7) (retM []))))) (retS (retM (.bl false))) nextS : MS Pen) [a, b, c, d, e, f, g, .d (.str t), .no] p = .ok (.nx [a, b, c, d, e, f, g, .d (.str t), .no], p) := by
      simp only [callF, List.append_nil, List.cons_append, List.nil_append, List.length_cons, List.length_nil, Nat.zero_add, Nat.reduceAdd, reduceIte, seqS, setS, retS, exprS, nextS, ifS, thenS, DL.bindM, retM, optM, m1, m2, mVar, consM, callM, truM, andT, orT, notT, andV, orV, notV, ifM, penGet, penPut, parS, asgS, tupM, lstM, partM, addD, subD, ltD, gtD, geD, leD, negD, DL.intD, absD, lenD, truD, isNon, strCD, List.getElem?_cons_succ, List.getElem?_cons_zero, List.set_cons_succ, List.set_cons_zero, if_true, Bool.false_eq_true, if_false, Bool.not_true, Bool.not_false, r]
    obtain ⟨y, e'⟩ := reads_ok (a := a) (b := b) (c := c) (d := d) (e := e) (f := f) (g := g) (i := i) p ts (fun u hu => h u (List.mem_cons_of_mem _ hu)) (.d (.str t))
    refine ⟨y, ?_⟩
    rw [List.map_cons, forLoop_nx (env1 := [a, b, c, d, e, f, g, .d (.str t), .no]) rfl hb]
    exact e'
theorem reads4_ok {a b c d e f g h' : Slot} (p : Pen) : ∀ (ts : List Str), (∀ t ∈ ts, Txt0 640 t) → ∀ x : Slot, ∃ y, forLoop (.nm 4) (ifS (notT (truM (callF 1 f__law_read_right [] (consM (mVar 4) (retM []))))) (retS (retM (.bl false))) nextS) (ts.map D.str) [a, b, c, d, x, e, f, g, h'] p = .ok (.nx [a, b, c, d, y, e, f, g, h'], p)
  | [], _, x => ⟨x, rfl⟩
  | t :: ts, h, x => by
    have r := right_ok (h t (List.mem_cons_self ..)) p
    have hb : (ifS (notT (truM (callF 1 f__law_read_right [] (consM (mVar 4) (retM []))))) (retS (retM (.bl false))) nextS : MS Pen) [a, b, c, d, .d (.str t), e, f, g, h'] p = .ok (.nx [a, b, c, d, .d (.str t), e, f, g, h'], p) := by
      simp only [callF, List.append_nil, List.cons_append, List.nil_append, List.length_cons, List.length_nil, Nat.zero_add, Nat.reduceAdd, reduceIte, seqS, setS, retS, exprS, nextS, ifS, thenS, DL.bindM, retM, optM, m1, m2, mVar, consM, callM, truM, andT, orT, notT, andV, orV, notV, ifM, penGet, penPut, parS, asgS, tupM, lstM, partM, addD, subD, ltD, gtD, geD, leD, negD, DL.intD, absD, lenD, truD, isNon, strCD, List.getElem?_cons_succ, List.getElem?_cons_zero, List.set_cons_succ, List.set_cons_zero, if_true, Bool.false_eq_true, if_false, Bool.not_true, Bool.not_false, r]
    obtain ⟨y, e'⟩ := reads4_ok (a := a) (b := b) (c := c) (d := d) (e := e) (f := f) (g := g) (h' := h') p ts (fun u hu => h u (List.mem_cons_of_mem _ hu)) (.d (.str t))
    refine ⟨y, ?_⟩
    rw [List.map_cons, forLoop_nx (env1 := [a, b, c, d, .d (.str t), e, f, g, h']) rfl hb]
    exact e'
end K05
set_option Elab.async false
set_option linter.all false
set_option maxRecDepth 100000
set_option maxHeartbeats 1000000
namespace K05
open PySem PySem.Spec PyProof.Rows L2 DL
def lap0 : MS Pen := (setS 3 (callF 2 f__law_frac [] (consM (callF 1 f__law_int [] (consM (mVar 1) (retM []))) (consM (callF 2 f__law_pick [] (consM (mVar 1) (consM (lstM (consM (retM (.int 1)) (consM (retM (.int 2)) (consM (retM (.int 3)) (consM (m2 addD (retM (.int 1)) (callM absD (consM (callF 1 f__law_int [] (consM (mVar 1) (retM []))) (retM [])))) (retM [])))))) (retM [])))) (retM [])))))
def lap1 : MS Pen := (setS 4 (callF 1 f_number_text [] (consM (callF 2 f__law_given [] (consM (mVar 1) (consM (mVar 3) (retM [])))) (retM []))))
def lap2 : MS Pen := (ifS (orT (truM (m2 neD (mVar 4) (ifM (truM (m2 eqD (m2 ixD (mVar 3) (retM (.int 1))) (retM (.int 1)))) (callM strCD (consM (m2 ixD (mVar 3) (retM (.int 0))) (retM []))) (m2 addD (m2 addD (callM strCD (consM (m2 ixD (mVar 3) (retM (.int 0))) (retM []))) (retM (.str "/"))) (callM strCD (consM (m2 ixD (mVar 3) (retM (.int 1))) (retM []))))))) (notT (truM (m1 (isiD false false false true false false [(6, false)]) (mVar 4))))) (retS (retM (.bl false))) nextS)
def lap3 : MS Pen := (setS 5 (m2 addD (retM (.int 1)) (callF 2 f__law_draw [] (consM (mVar 1) (consM (retM (.int 9)) (retM []))))))
def lap4 : MS Pen := (setS 6 (m2 addD (m2 addD (callM strCD (consM (m2 mulD (m2 ixD (mVar 3) (retM (.int 0))) (mVar 5)) (retM []))) (retM (.str "/"))) (callM strCD (consM (m2 mulD (m2 ixD (mVar 3) (retM (.int 1))) (mVar 5)) (retM [])))))
def lap5 : MS Pen := (forS (.nm 7) (itM lstOf (lstM (consM (mVar 4) (consM (mVar 6) (consM (callF 2 f__law_bent [] (consM (mVar 1) (consM (mVar 4) (retM [])))) (consM (callF 2 f__law_bent [] (consM (mVar 1) (consM (mVar 6) (retM [])))) (consM (callF 2 f__law_bent [] (consM (mVar 1) (consM (callF 2 f__law_bent [] (consM (mVar 1) (consM (mVar 6) (retM [])))) (retM [])))) (retM [])))))))) (ifS (notT (truM (callF 1 f__law_read_right [] (consM (mVar 7) (retM []))))) (retS (retM (.bl false))) nextS))
def lapM : MS Pen := seqS lap0 (seqS lap1 (seqS lap2 (seqS lap3 (seqS lap4 lap5))))
section
variable {c x2 x3 x4 x5 x6 x7 : Slot}
structure Q (q : Int × Int) : Prop where
  pos : 0 < q.2
  one : Nat.gcd q.1.natAbs q.2.natAbs = 1
  b1 : q.1.natAbs < 10 ^ 37
  b2 : q.2.natAbs < 10 ^ 37
theorem lap0_ok {n : Nat} {p : Pen} (h : PenOk n p) (hn : n < 1000000000) : ∃ q p', lap0 [c, .d .st, x2, x3, x4, x5, x6, x7, .no] p = .ok (.nx [c, .d .st, x2, .d (.tup [.int q.1, .int q.2]), x4, x5, x6, x7, .no], p') ∧ Q q ∧ PenOk (n + 15) p' := by
  obtain ⟨z, q1, e1, z1, h1⟩ := int_ok h (by omega)
  obtain ⟨y, q2, e2, y1, h2⟩ := int_ok h1 (by omega)
  obtain ⟨d, q3, e3, hd, h3⟩ := pick_lst h2 (by omega) (xs := [.int 1, .int 2, .int 3, .int (1 + (y.natAbs : Int))]) (by simp) (by simp)
  have t36 : (10 : Nat) ^ 36 = 1000000000000000000000000000000000000 := by decide +kernel
  have t37 : (10 : Nat) ^ 37 = 10000000000000000000000000000000000000 := by decide +kernel
  obtain ⟨b, rfl, b0, b1⟩ : ∃ b : Int, d = .int b ∧ 0 < b ∧ b.natAbs < 10 ^ 37 := by
    simp only [List.mem_cons, List.not_mem_nil, or_false] at hd
    rcases hd with rfl | rfl | rfl | rfl
    · exact ⟨_, rfl, by decide, by omega⟩
    · exact ⟨_, rfl, by decide, by omega⟩
    · exact ⟨_, rfl, by decide, by omega⟩
    · exact ⟨_, rfl, by omega, by omega⟩
  have hb : b.natAbs < 2 ^ 8000 := Nat.lt_trans b1 (by decide +kernel)
  have fr := frac_ok (a := z) (b := b) (by omega) hb q3
  refine ⟨low z b, q3, ?_, ⟨low_pos _ _ b0, low_one _ _ b0, ?_, Nat.lt_of_le_of_lt (low_abs2 _ _ b0) b1⟩, h3.mono (by omega)⟩
  · unfold lap0
    simp only [callF, List.append_nil, List.cons_append, List.nil_append, List.length_cons, List.length_nil, Nat.zero_add, Nat.reduceAdd, reduceIte, seqS, setS, retS, exprS, nextS, ifS, thenS, DL.bindM, retM, optM, m1, m2, mVar, consM, callM, truM, andT, orT, notT, andV, orV, notV, ifM, penGet, penPut, parS, asgS, tupM, lstM, partM, addD, subD, ltD, gtD, geD, leD, negD, DL.intD, absD, lenD, truD, isNon, strCD, List.getElem?_cons_succ, List.getElem?_cons_zero, List.set_cons_succ, List.set_cons_zero, if_true, Bool.false_eq_true, if_false, Bool.not_true, Bool.not_false, e1, e2, lstD, Nat.reduceLeDiff, abs_nat, fpick_eq, e3, fr]
  · have := low_abs1 z b b0
    omega
theorem Q.l1 {q : Int × Int} (h : Q q) : q.1.natAbs < 10 ^ 60 := Nat.lt_trans h.b1 (by decide +kernel)
theorem Q.l2 {q : Int × Int} (h : Q q) : q.2.natAbs < 10 ^ 60 := Nat.lt_trans h.b2 (by decide +kernel)
theorem Q.t {q : Int × Int} (h : Q q) : Txt0 124 (ratT q) := ratT_txt h.l1 h.l2
theorem lap1_ok {n : Nat} {p : Pen} {q : Int × Int} (h : PenOk n p) (hn : n < 1000000000) (hq : Q q) : ∃ p', lap1 [c, .d .st, x2, .d (.tup [.int q.1, .int q.2]), x4, x5, x6, x7, .no] p = .ok (.nx [c, .d .st, x2, .d (.tup [.int q.1, .int q.2]), .d (.str (ratT q)), x5, x6, x7, .no], p') ∧ PenOk (n + 1) p' := by
  obtain ⟨d, q1, e1, h1, hd⟩ := given_ok h (by omega) hq.pos hq.one (Nat.lt_trans hq.b2 (by decide +kernel))
  have e2 : f_number_text [d] q1 = .ok (.str (ratT q), q1) := by
    rcases hd with rfl | ⟨h2, rfl⟩
    · exact text_rat hq.l1 hq.l2 q1
    · rw [text_int hq.l1, low_idem (a := q.1) (b := 1) (by decide) (by rw [show (1 : Int).natAbs = 1 from rfl]; exact Nat.gcd_one_right _)]
      rw [show (q.1, (1 : Int)) = q from Prod.ext rfl h2.symm]
  refine ⟨q1, ?_, h1⟩
  unfold lap1
  simp only [callF, List.append_nil, List.cons_append, List.nil_append, List.length_cons, List.length_nil, Nat.zero_add, Nat.reduceAdd, reduceIte, seqS, setS, retS, exprS, nextS, ifS, thenS, DL.bindM, retM, optM, m1, m2, mVar, consM, callM, truM, andT, orT, notT, andV, orV, notV, ifM, penGet, penPut, parS, asgS, tupM, lstM, partM, addD, subD, ltD, gtD, geD, leD, negD, DL.intD, absD, lenD, truD, isNon, strCD, List.getElem?_cons_succ, List.getElem?_cons_zero, List.set_cons_succ, List.set_cons_zero, if_true, Bool.false_eq_true, if_false, Bool.not_true, Bool.not_false, e1, e2]
theorem ratT_eq {q : Int × Int} (h : q.2 ≠ 1) : ratT q = (((toString q.1 : String) : Str) ++ ("/" : Str)) ++ ((toString q.2 : String) : Str) := by
  unfold ratT
  rw [if_neg h, empty_cat]
theorem add_ok {x y : Str} {n m : Nat} (hx : Txt0 n x) (hy : Txt0 m y) (h : n + m ≤ 1000) : x.length + y.length ≤ sizeLine := by
  have := hx.len; have := hy.len; rw [sizeLine_eq]; omega
theorem lap2_ok {p : Pen} {q : Int × Int} (hq : Q q) : lap2 [c, .d .st, x2, .d (.tup [.int q.1, .int q.2]), .d (.str (ratT q)), x5, x6, x7, .no] p = .ok (.nx [c, .d .st, x2, .d (.tup [.int q.1, .int q.2]), .d (.str (ratT q)), x5, x6, x7, .no], p) := by
  have a0 : ixD (.tup [.int q.1, .int q.2]) (.int 0) = some (.int q.1) := at_zero _ _
  have a1 : ixD (.tup [.int q.1, .int q.2]) (.int 1) = some (.int q.2) := rfl
  have e := neD_str hq.t.ok hq.t.ok
  have t1 := txt_int (by decide) hq.l1
  have t2 := txt_int (by decide) hq.l2
  unfold lap2
  by_cases hb : q.2 = 1
  · have eb : (q.2 == 1) = true := beq_iff_eq.mpr hb
    have er : ratT q = ((toString q.1 : String) : Str) := if_pos hb
    rw [er] at e ⊢
    simp only [callF, List.append_nil, List.cons_append, List.nil_append, List.length_cons, List.length_nil, Nat.zero_add, Nat.reduceAdd, reduceIte, seqS, setS, retS, exprS, nextS, ifS, thenS, DL.bindM, retM, optM, m1, m2, mVar, consM, callM, truM, andT, orT, notT, andV, orV, notV, ifM, penGet, penPut, parS, asgS, tupM, lstM, partM, addD, subD, ltD, gtD, geD, leD, negD, DL.intD, absD, lenD, truD, isNon, strCD, List.getElem?_cons_succ, List.getElem?_cons_zero, List.set_cons_succ, List.set_cons_zero, if_true, Bool.false_eq_true, if_false, Bool.not_true, Bool.not_false, a0, a1, eqD_int, eb, if_pos (log2_10 hq.l1), e, beq_self_eq_true, isiD]
  · have eb : (q.2 == 1) = false := beq_eq_false_iff_ne.mpr hb
    have z1 := add_ok t1 (txt_of "/") (by decide)
    have z2 := add_ok (t1.cat (txt_of "/")) t2 (by decide)
    rw [ratT_eq hb] at e ⊢
    simp only [callF, List.append_nil, List.cons_append, List.nil_append, List.length_cons, List.length_nil, Nat.zero_add, Nat.reduceAdd, reduceIte, seqS, setS, retS, exprS, nextS, ifS, thenS, DL.bindM, retM, optM, m1, m2, mVar, consM, callM, truM, andT, orT, notT, andV, orV, notV, ifM, penGet, penPut, parS, asgS, tupM, lstM, partM, addD, subD, ltD, gtD, geD, leD, negD, DL.intD, absD, lenD, truD, isNon, strCD, List.getElem?_cons_succ, List.getElem?_cons_zero, List.set_cons_succ, List.set_cons_zero, if_true, Bool.false_eq_true, if_false, Bool.not_true, Bool.not_false, a0, a1, eqD_int, eb, if_pos (log2_10 hq.l1), if_pos (log2_10 hq.l2), if_pos z1, if_pos z2, e, beq_self_eq_true, isiD]
theorem lap3_ok {n : Nat} {p : Pen} (h : PenOk n p) (hn : n < 1000000000) : ∃ (m : Int) (p' : Pen), lap3 [c, .d .st, x2, x3, x4, x5, x6, x7, .no] p = .ok (.nx [c, .d .st, x2, x3, x4, .d (.int m), x6, x7, .no], p') ∧ 0 < m ∧ m < 10 ∧ PenOk (n + 1) p' := by
  obtain ⟨r, q1, e1, r0, r1, h1⟩ := draw1 h (by omega) (many := 9) (by decide) (by decide +kernel)
  refine ⟨1 + r, q1, ?_, by omega, by omega, h1⟩
  unfold lap3
  simp only [callF, List.append_nil, List.cons_append, List.nil_append, List.length_cons, List.length_nil, Nat.zero_add, Nat.reduceAdd, reduceIte, seqS, setS, retS, exprS, nextS, ifS, thenS, DL.bindM, retM, optM, m1, m2, mVar, consM, callM, truM, andT, orT, notT, andV, orV, notV, ifM, penGet, penPut, parS, asgS, tupM, lstM, partM, addD, subD, ltD, gtD, geD, leD, negD, DL.intD, absD, lenD, truD, isNon, strCD, List.getElem?_cons_succ, List.getElem?_cons_zero, List.set_cons_succ, List.set_cons_zero, if_true, Bool.false_eq_true, if_false, Bool.not_true, Bool.not_false, e1]
theorem lap4_ok {p : Pen} {q : Int × Int} {m : Int} (hq : Q q) (m0 : 0 < m) (m1 : m < 10) : ∃ w, lap4 [c, .d .st, x2, .d (.tup [.int q.1, .int q.2]), x4, .d (.int m), x6, x7, .no] p = .ok (.nx [c, .d .st, x2, .d (.tup [.int q.1, .int q.2]), x4, .d (.int m), .d (.str w), x7, .no], p) ∧ Txt0 124 w := by
  have a0 : ixD (.tup [.int q.1, .int q.2]) (.int 0) = some (.int q.1) := at_zero _ _
  have a1 : ixD (.tup [.int q.1, .int q.2]) (.int 1) = some (.int q.2) := rfl
  have ml : ∀ a : Int, a.natAbs < 10 ^ 37 → mulOk a m ∧ (a * m).natAbs < 10 ^ 60 := fun a ha => by
    have t37 : (10 : Nat) ^ 37 < 2 ^ 130 := by decide +kernel
    refine ⟨?_, ?_⟩
    · have h1 := log2_small (i := a) (k := 130) (by omega) (by decide)
      have h2 := log2_small (i := m) (k := 4) (by omega) (by decide)
      unfold mulOk; omega
    · rw [Int.natAbs_mul]
      have : m.natAbs ≤ 10 := by omega
      have h3 : a.natAbs * m.natAbs ≤ 10 ^ 37 * 10 := Nat.mul_le_mul (by omega) this
      have h4 : (10 : Nat) ^ 37 * 10 < 10 ^ 60 := by decide +kernel
      omega
  obtain ⟨k1, l1⟩ := ml q.1 hq.b1
  obtain ⟨k2, l2⟩ := ml q.2 hq.b2
  have t1 := txt_int (by decide) l1
  have t2 := txt_int (by decide) l2
  have z1 := add_ok t1 (txt_of "/") (by decide)
  have z2 := add_ok (t1.cat (txt_of "/")) t2 (by decide)
  refine ⟨(((toString (q.1 * m) : String) : Str) ++ ("/" : Str)) ++ ((toString (q.2 * m) : String) : Str), ?_, ((t1.cat (txt_of "/")).cat t2).mono (by decide)⟩
  unfold lap4
  simp only [callF, List.append_nil, List.cons_append, List.nil_append, List.length_cons, List.length_nil, Nat.zero_add, Nat.reduceAdd, reduceIte, seqS, setS, retS, exprS, nextS, ifS, thenS, DL.bindM, retM, optM, m1, m2, mVar, consM, callM, truM, andT, orT, notT, andV, orV, notV, ifM, penGet, penPut, parS, asgS, tupM, lstM, partM, addD, subD, ltD, gtD, geD, leD, negD, DL.intD, absD, lenD, truD, isNon, strCD, List.getElem?_cons_succ, List.getElem?_cons_zero, List.set_cons_succ, List.set_cons_zero, if_true, Bool.false_eq_true, if_false, Bool.not_true, Bool.not_false, a0, a1, mulD_ok k1, mulD_ok k2, if_pos (log2_10 l1), if_pos (log2_10 l2), if_pos z1, if_pos z2]
theorem lap5_ok {n : Nat} {p : Pen} {t w : Str} (h : PenOk n p) (hn : n < 1000000000) (ht : Txt0 124 t) (hw : Txt0 124 w) : ∃ y p', lap5 [c, .d .st, x2, x3, .d (.str t), x5, .d (.str w), x7, .no] p = .ok (.nx [c, .d .st, x2, x3, .d (.str t), x5, .d (.str w), y, .no], p') ∧ PenOk (n + 12) p' := by
  obtain ⟨u1, q1, e1, k1, h1⟩ := bent_ok h (by omega) ht (by decide)
  obtain ⟨u2, q2, e2, k2, h2⟩ := bent_ok h1 (by omega) hw (by decide)
  obtain ⟨u3, q3, e3, k3, h3⟩ := bent_ok h2 (by omega) hw (by decide)
  obtain ⟨u4, q4, e4, k4, h4⟩ := bent_ok h3 (by omega) k3 (by decide)
  obtain ⟨y, e5⟩ := reads_ok (a := c) (b := .d .st) (c := x2) (d := x3) (e := .d (.str t)) (f := x5) (g := .d (.str w)) (i := 0) q4 [t, w, u1, u2, u4] (fun v hv => by
    simp only [List.mem_cons, List.not_mem_nil, or_false] at hv
    rcases hv with rfl | rfl | rfl | rfl | rfl
    · exact ht.mono (by decide)
    · exact hw.mono (by decide)
    · exact k1.mono (by decide)
    · exact k2.mono (by decide)
    · exact k4.mono (by decide)) x7
  refine ⟨y, q4, ?_, h4.mono (by omega)⟩
  have it : (itM DL.lstOf (lstM (consM (mVar 4) (consM (mVar 6) (consM (callF 2 f__law_bent [] (consM (mVar 1) (consM (mVar 4) (retM [])))) (consM (callF 2 f__law_bent [] (consM (mVar 1) (consM (mVar 6) (retM [])))) (consM (callF 2 f__law_bent [] (consM (mVar 1) (consM (callF 2 f__law_bent [] (consM (mVar 1) (consM (mVar 6) (retM [])))) (retM [])))) (retM []))))))) : M Pen (List D)) [c, .d .st, x2, x3, .d (.str t), x5, .d (.str w), x7, .no] p = .ok ([t, w, u1, u2, u4].map D.str, q4) := by
    simp only [callF, List.append_nil, List.cons_append, List.nil_append, List.length_cons, List.length_nil, Nat.zero_add, Nat.reduceAdd, reduceIte, seqS, setS, retS, exprS, nextS, ifS, thenS, DL.bindM, retM, optM, m1, m2, mVar, consM, callM, truM, andT, orT, notT, andV, orV, notV, ifM, penGet, penPut, parS, asgS, tupM, lstM, partM, addD, subD, ltD, gtD, geD, leD, negD, DL.intD, absD, lenD, truD, isNon, strCD, List.getElem?_cons_succ, List.getElem?_cons_zero, List.set_cons_succ, List.set_cons_zero, if_true, Bool.false_eq_true, if_false, Bool.not_true, Bool.not_false, itM, e1, e2, e3, e4, lstD, Nat.reduceLeDiff, DL.lstOf, List.map_cons, List.map_nil]
  unfold lap5 forS thenS
  rw [it]
  exact e5
theorem lap_ok {n : Nat} {p : Pen} (h : PenOk n p) (hn : n < 100000000) : ∃ y3 y4 y5 y6 y7 p', lapM [c, .d .st, x2, x3, x4, x5, x6, x7, .no] p = .ok (.nx [c, .d .st, x2, y3, y4, y5, y6, y7, .no], p') ∧ PenOk (n + 40) p' := by
  obtain ⟨q, p1, e1, hq, h1⟩ := lap0_ok (c := c) (x2 := x2) (x3 := x3) (x4 := x4) (x5 := x5) (x6 := x6) (x7 := x7) h (by omega)
  obtain ⟨p2, e2, h2⟩ := lap1_ok (c := c) (x2 := x2) (x4 := x4) (x5 := x5) (x6 := x6) (x7 := x7) h1 (by omega) hq
  obtain ⟨m, p3, e3, m0, m1, h3⟩ := lap3_ok (c := c) (x2 := x2) (x3 := .d (.tup [.int q.1, .int q.2])) (x4 := .d (.str (ratT q))) (x5 := x5) (x6 := x6) (x7 := x7) h2 (by omega)
  obtain ⟨w, e4, hw⟩ := lap4_ok (c := c) (x2 := x2) (x4 := .d (.str (ratT q))) (x6 := x6) (x7 := x7) (p := p3) hq m0 m1
  obtain ⟨y, p5, e5, h5⟩ := lap5_ok (c := c) (x2 := x2) (x3 := .d (.tup [.int q.1, .int q.2])) (x5 := .d (.int m)) (x7 := x7) h3 (by omega) hq.t hw
  refine ⟨.d (.tup [.int q.1, .int q.2]), .d (.str (ratT q)), .d (.int m), .d (.str w), y, p5, ?_, h5.mono (by omega)⟩
  unfold lapM
  rw [seqS_nx e1, seqS_nx e2, seqS_nx (lap2_ok hq), seqS_nx e3, seqS_nx e4]
  exact e5
end
theorem laps_ok {c : Slot} : ∀ (ds : List D) {n : Nat} {p : Pen} {x2 x3 x4 x5 x6 x7 : Slot}, PenOk n p → n + 40 * ds.length < 100000000 → ∃ y2 y3 y4 y5 y6 y7 p', forLoop (.nm 2) lapM ds [c, .d .st, x2, x3, x4, x5, x6, x7, .no] p = .ok (.nx [c, .d .st, y2, y3, y4, y5, y6, y7, .no], p') ∧ PenOk (n + 40 * ds.length) p'
  | [], n, p, x2, x3, x4, x5, x6, x7, h, _ => ⟨x2, x3, x4, x5, x6, x7, p, rfl, h⟩
  | d :: ds, n, p, x2, x3, x4, x5, x6, x7, h, hn => by
    simp only [List.length_cons] at hn
    obtain ⟨y3, y4, y5, y6, y7, p1, e1, h1⟩ := lap_ok (c := c) (x2 := .d d) (x3 := x3) (x4 := x4) (x5 := x5) (x6 := x6) (x7 := x7) h (by omega)
    obtain ⟨z2, z3, z4, z5, z6, z7, p2, e2, h2⟩ := laps_ok (c := c) ds (x2 := .d d) (x3 := y3) (x4 := y4) (x5 := y5) (x6 := y6) (x7 := y7) h1 (by omega)
    refine ⟨z2, z3, z4, z5, z6, z7, p2, ?_, h2.mono (by simp only [List.length_cons]; omega)⟩
    rw [forLoop_nx (env1 := [c, .d .st, .d d, x3, x4, x5, x6, x7, .no]) rfl e1]
    exact e2
def fixed : List String := ["", "-", "/", "1/0", "-0", "00", "0/1", "-0/7", "+1", "1/-2", "--1", "1 ", " 1", "1/2/3", "1.5", "1e3", "x", "1/01", "01/2"]
theorem good_of (ns : List Int) (h : ns.length ≤ 63) (_ : ∀ z ∈ ns, Builtin.Int.intBits z ≤ 1048576) : good ns := h
def law0 : MS Pen := forS (.nm 2) (itA rng1 (consM (retM (.int 6)) (retM []))) lapM
def law1 : MS Pen := (forS (.nm 4) (itM lstOf (lstM (consM (retM (.str "")) (consM (retM (.str "-")) (consM (retM (.str "/")) (consM (retM (.str "1/0")) (consM (retM (.str "-0")) (consM (retM (.str "00")) (consM (retM (.str "0/1")) (consM (retM (.str "-0/7")) (consM (retM (.str "+1")) (consM (retM (.str "1/-2")) (consM (retM (.str "--1")) (consM (retM (.str "1 ")) (consM (retM (.str " 1")) (consM (retM (.str "1/2/3")) (consM (retM (.str "1.5")) (consM (retM (.str "1e3")) (consM (retM (.str "x")) (consM (retM (.str "1/01")) (consM (retM (.str "01/2")) (retM [])))))))))))))))))))))) (ifS (notT (truM (callF 1 f__law_read_right [] (consM (mVar 4) (retM []))))) (retS (retM (.bl false))) nextS))
def law2 : MS Pen := (setS 8 (callF 2 f__law_pick [] (consM (mVar 1) (consM (lstM (consM (retM .non) (consM (retM (.int 7)) (consM (retM (.bl true)) (consM (tupM (retM [])) (consM (tupM (consM (retM (.str "1")) (retM []))) (consM (makeF 6 2 f_Ratio___init__ [] (consM (retM (.int 1)) (consM (retM (.int 2)) (retM [])))) (retM [])))))))) (retM [])))))
def law3 : MS Pen := (ifS (truM (m2 neD (lamM n__law_error_of m__law_error_of (callF 1 f_read_number [] (consM (mVar 8) (retM [])))) (tupM (consM (retM (.str "text")) (consM (retM .non) (retM [])))))) (retS (retM (.bl false))) nextS)
def law4 : MS Pen := (setS 8 (callF 1 f__law_no_number [] (consM (mVar 1) (retM []))))
def law5 : MS Pen := (retS (m2 eqD (lamM n__law_error_of m__law_error_of (callF 1 f_number_text [] (consM (mVar 8) (retM [])))) (tupM (consM (retM (.str "item")) (consM (callM reprD (consM (mVar 8) (retM []))) (retM []))))))
theorem law_is : m_law = seqS law0 (seqS law1 (seqS law2 (seqS law3 (seqS law4 law5)))) := rfl
theorem law1_ok {a b c d e f g h' x : Slot} (p : Pen) : ∃ y, law1 [a, b, c, d, x, e, f, g, h'] p = .ok (.nx [a, b, c, d, y, e, f, g, h'], p) := by
  obtain ⟨y, r⟩ := reads4_ok (a := a) (b := b) (c := c) (d := d) (e := e) (f := f) (g := g) (h' := h') p (fixed.map Str.ofString) (fun t ht => by
    obtain ⟨s, hs, rfl⟩ := List.mem_map.mp ht
    have hl : s.length ≤ 640 := (by decide : ∀ s ∈ fixed, s.length ≤ 640) s hs
    exact (txt_of s).mono hl) x
  refine ⟨y, ?_⟩
  have it : ((itM lstOf (lstM (consM (retM (.str "")) (consM (retM (.str "-")) (consM (retM (.str "/")) (consM (retM (.str "1/0")) (consM (retM (.str "-0")) (consM (retM (.str "00")) (consM (retM (.str "0/1")) (consM (retM (.str "-0/7")) (consM (retM (.str "+1")) (consM (retM (.str "1/-2")) (consM (retM (.str "--1")) (consM (retM (.str "1 ")) (consM (retM (.str " 1")) (consM (retM (.str "1/2/3")) (consM (retM (.str "1.5")) (consM (retM (.str "1e3")) (consM (retM (.str "x")) (consM (retM (.str "1/01")) (consM (retM (.str "01/2")) (retM [])))))))))))))))))))))) : M Pen (List D)) [a, b, c, d, x, e, f, g, h'] p = .ok ((fixed.map Str.ofString).map D.str, p) := by
    simp only [callF, List.append_nil, List.cons_append, List.nil_append, List.length_cons, List.length_nil, Nat.zero_add, Nat.reduceAdd, reduceIte, seqS, setS, retS, exprS, nextS, ifS, thenS, DL.bindM, retM, optM, m1, m2, mVar, consM, callM, truM, andT, orT, notT, andV, orV, notV, ifM, penGet, penPut, parS, asgS, tupM, lstM, partM, addD, subD, ltD, gtD, geD, leD, negD, DL.intD, absD, lenD, truD, isNon, strCD, List.getElem?_cons_succ, List.getElem?_cons_zero, List.set_cons_succ, List.set_cons_zero, if_true, Bool.false_eq_true, if_false, Bool.not_true, Bool.not_false, itM, lstD, Nat.reduceLeDiff, DL.lstOf, List.map_cons, List.map_nil, fixed]
  unfold law1 forS thenS
  rw [it]
  exact r
theorem law2_ok {a c d e f g h' x : Slot} {n : Nat} {p : Pen} (h : PenOk n p) (hn : n < 1000000000) : ∃ o p', law2 [a, .d .st, c, d, e, f, g, h', x] p = .ok (.nx [a, .d .st, c, d, e, f, g, h', .d o], p') ∧ isiD false false false true false false [(6, false)] o = some (.bl false) ∧ PenOk (n + 1) p' := by
  obtain ⟨o, q1, e1, ho, h1⟩ := pick_lst h (by omega) (xs := [.non, .int 7, .bl true, .tup [], .tup [.str "1"], rat (low 1 2)]) (by simp) (by simp)
  refine ⟨o, q1, ?_, ?_, h1⟩
  · have mk := make_ok (a := 1) (b := 2) (by decide) (by decide +kernel) p
    unfold law2 makeF
    simp only [callF, List.append_nil, List.cons_append, List.nil_append, List.length_cons, List.length_nil, Nat.zero_add, Nat.reduceAdd, reduceIte, seqS, setS, retS, exprS, nextS, ifS, thenS, DL.bindM, retM, optM, m1, m2, mVar, consM, callM, truM, andT, orT, notT, andV, orV, notV, ifM, penGet, penPut, parS, asgS, tupM, lstM, partM, addD, subD, ltD, gtD, geD, leD, negD, DL.intD, absD, lenD, truD, isNon, strCD, List.getElem?_cons_succ, List.getElem?_cons_zero, List.set_cons_succ, List.set_cons_zero, if_true, Bool.false_eq_true, if_false, Bool.not_true, Bool.not_false, mk, tupD, lstD, Nat.reduceLeDiff, Nat.zero_le, fpick_eq, e1]
  · simp only [List.mem_cons, List.not_mem_nil, or_false] at ho
    rcases ho with rfl | rfl | rfl | rfl | rfl | rfl <;> rfl
theorem law3_ok {a b c d e f g h' : Slot} {o : D} {p : Pen} (h : isiD false false false true false false [(6, false)] o = some (.bl false)) : law3 [a, b, c, d, e, f, g, h', .d o] p = .ok (.nx [a, b, c, d, e, f, g, h', .d o], p) := by
  have et := err_text (me := callF 1 f_read_number [] (consM (mVar 8) (retM []))) (env := [a, b, c, d, e, f, g, h', .d o]) (s := p) (s' := p) (d := .non) (by simp only [List.map_cons, List.map_nil, dOnly, callF, List.append_nil, List.cons_append, List.nil_append, List.length_cons, List.length_nil, Nat.zero_add, Nat.reduceAdd, reduceIte, seqS, setS, retS, exprS, nextS, ifS, thenS, DL.bindM, retM, optM, m1, m2, mVar, consM, callM, truM, andT, orT, notT, andV, orV, notV, ifM, penGet, penPut, parS, asgS, tupM, lstM, partM, addD, subD, ltD, gtD, geD, leD, negD, DL.intD, absD, lenD, truD, isNon, strCD, List.getElem?_cons_succ, List.getElem?_cons_zero, List.set_cons_succ, List.set_cons_zero, if_true, Bool.false_eq_true, if_false, Bool.not_true, Bool.not_false, no_text h])
  have ne := ne_textN (x := "text") (y := "text") (ok_lit _) (ok_lit _)
  have tt : (truM (m2 neD (lamM n__law_error_of m__law_error_of (callF 1 f_read_number [] (consM (mVar 8) (retM [])))) (tupM (consM (retM (.str "text")) (consM (retM .non) (retM []))))) : M Pen Bool) [a, b, c, d, e, f, g, h', .d o] p = .ok (false, p) := by
    unfold truM m2 DL.bindM
    dsimp only
    rw [et]
    simp only [callF, List.append_nil, List.cons_append, List.nil_append, List.length_cons, List.length_nil, Nat.zero_add, Nat.reduceAdd, reduceIte, seqS, setS, retS, exprS, nextS, ifS, thenS, DL.bindM, retM, optM, m1, m2, mVar, consM, callM, truM, andT, orT, notT, andV, orV, notV, ifM, penGet, penPut, parS, asgS, tupM, lstM, partM, addD, subD, ltD, gtD, geD, leD, negD, DL.intD, absD, lenD, truD, isNon, strCD, List.getElem?_cons_succ, List.getElem?_cons_zero, List.set_cons_succ, List.set_cons_zero, if_true, Bool.false_eq_true, if_false, Bool.not_true, Bool.not_false, tupD, Nat.reduceLeDiff, ne, beq_self_eq_true]
  unfold law3 ifS thenS
  rw [tt]
  rfl
theorem law4_ok {a c d e f g h' x : Slot} {n : Nat} {p : Pen} (h : PenOk n p) (hn : n < 1000000000) : ∃ o p', law4 [a, .d .st, c, d, e, f, g, h', x] p = .ok (.nx [a, .d .st, c, d, e, f, g, h', .d o], p') ∧ o ∈ noNums := by
  obtain ⟨o, q1, e1, ho, h1⟩ := nonum_ok h (by omega)
  refine ⟨o, q1, ?_, ho⟩
  unfold law4
  simp only [callF, List.append_nil, List.cons_append, List.nil_append, List.length_cons, List.length_nil, Nat.zero_add, Nat.reduceAdd, reduceIte, seqS, setS, retS, exprS, nextS, ifS, thenS, DL.bindM, retM, optM, m1, m2, mVar, consM, callM, truM, andT, orT, notT, andV, orV, notV, ifM, penGet, penPut, parS, asgS, tupM, lstM, partM, addD, subD, ltD, gtD, geD, leD, negD, DL.intD, absD, lenD, truD, isNon, strCD, List.getElem?_cons_succ, List.getElem?_cons_zero, List.set_cons_succ, List.set_cons_zero, if_true, Bool.false_eq_true, if_false, Bool.not_true, Bool.not_false, e1]
theorem law5_ok {a b c d e f g h' : Slot} {o : D} {p : Pen} (h : o ∈ noNums) : law5 [a, b, c, d, e, f, g, h', .d o] p = .ok (.rt (.bl true), p) := by
  obtain ⟨y, hy, ok⟩ := no_repr h
  have et := err_item (me := callF 1 f_number_text [] (consM (mVar 8) (retM []))) (env := [a, b, c, d, e, f, g, h', .d o]) (s := p) (s' := p) (d := o) (r := .str y) (by simp only [List.map_cons, List.map_nil, dOnly, callF, List.append_nil, List.cons_append, List.nil_append, List.length_cons, List.length_nil, Nat.zero_add, Nat.reduceAdd, reduceIte, seqS, setS, retS, exprS, nextS, ifS, thenS, DL.bindM, retM, optM, m1, m2, mVar, consM, callM, truM, andT, orT, notT, andV, orV, notV, ifM, penGet, penPut, parS, asgS, tupM, lstM, partM, addD, subD, ltD, gtD, geD, leD, negD, DL.intD, absD, lenD, truD, isNon, strCD, List.getElem?_cons_succ, List.getElem?_cons_zero, List.set_cons_succ, List.set_cons_zero, if_true, Bool.false_eq_true, if_false, Bool.not_true, Bool.not_false, no_num h]) hy
  have eq := eq_strs (x := "item") (y := "item") (z := y) (w := y) (ok_lit _) (ok_lit _) ok ok
  unfold law5 retS thenS m2 DL.bindM
  dsimp only
  rw [et]
  simp only [callF, List.append_nil, List.cons_append, List.nil_append, List.length_cons, List.length_nil, Nat.zero_add, Nat.reduceAdd, reduceIte, seqS, setS, retS, exprS, nextS, ifS, thenS, DL.bindM, retM, optM, m1, m2, mVar, consM, callM, truM, andT, orT, notT, andV, orV, notV, ifM, penGet, penPut, parS, asgS, tupM, lstM, partM, addD, subD, ltD, gtD, geD, leD, negD, DL.intD, absD, lenD, truD, isNon, strCD, List.getElem?_cons_succ, List.getElem?_cons_zero, List.set_cons_succ, List.set_cons_zero, if_true, Bool.false_eq_true, if_false, Bool.not_true, Bool.not_false, hy, tupD, Nat.reduceLeDiff, eq, beq_self_eq_true, Bool.and_self]
theorem law_good (cells : List Int) (h : good cells) : lawTrue 8 1 m_law cells := by
  obtain ⟨y2, y3, y4, y5, y6, y7, p1, e0, h1⟩ := laps_ok (c := .d (.lst (cells.map .int))) (rangeL 0 6) (x2 := .no) (x3 := .no) (x4 := .no) (x5 := .no) (x6 := .no) (x7 := .no) (pen0_ok cells) (by decide)
  have h1 : PenOk 240 p1 := h1
  have l0 : law0 [.d (.lst (cells.map .int)), .d .st, .no, .no, .no, .no, .no, .no, .no] (pen0 cells) = .ok (.nx [.d (.lst (cells.map .int)), .d .st, y2, y3, y4, y5, y6, y7, .no], p1) := by
    have it : ((itA rng1 (consM (retM (.int 6)) (retM []))) : M Pen (List D)) [.d (.lst (cells.map .int)), .d .st, .no, .no, .no, .no, .no, .no, .no] (pen0 cells) = .ok (rangeL 0 6, pen0 cells) := by
      have g : (-(2 ^ 62) ≤ (6 : Int) ∧ (6 : Int) < 2 ^ 62) := by decide
      simp only [callF, List.append_nil, List.cons_append, List.nil_append, List.length_cons, List.length_nil, Nat.zero_add, Nat.reduceAdd, reduceIte, seqS, setS, retS, exprS, nextS, ifS, thenS, DL.bindM, retM, optM, m1, m2, mVar, consM, callM, truM, andT, orT, notT, andV, orV, notV, ifM, penGet, penPut, parS, asgS, tupM, lstM, partM, addD, subD, ltD, gtD, geD, leD, negD, DL.intD, absD, lenD, truD, isNon, strCD, List.getElem?_cons_succ, List.getElem?_cons_zero, List.set_cons_succ, List.set_cons_zero, if_true, Bool.false_eq_true, if_false, Bool.not_true, Bool.not_false, itA, rng1, if_pos g]
      rfl
    unfold law0 forS thenS
    rw [it]
    exact e0
  obtain ⟨z4, e1⟩ := law1_ok (a := .d (.lst (cells.map .int))) (b := .d .st) (c := y2) (d := y3) (x := y4) (e := y5) (f := y6) (g := y7) (h' := .no) p1
  obtain ⟨o, p2, e2, ho, h2⟩ := law2_ok (a := .d (.lst (cells.map .int))) (c := y2) (d := y3) (e := z4) (f := y5) (g := y6) (h' := y7) (x := .no) h1 (by decide)
  obtain ⟨o2, p3, e4, ho2⟩ := law4_ok (a := .d (.lst (cells.map .int))) (c := y2) (d := y3) (e := z4) (f := y5) (g := y6) (h' := y7) (x := .d o) h2 (by decide)
  refine ⟨p3, ?_⟩
  show m_law [.d (.lst (cells.map .int)), .d .st, .no, .no, .no, .no, .no, .no, .no] (pen0 cells) = _
  rw [law_is, seqS_nx l0, seqS_nx e1, seqS_nx e2, seqS_nx (law3_ok ho), seqS_nx e4]
  exact law5_ok ho2
end K05
set_option Elab.async false
set_option linter.all false
open PySem PySem.W PyProof.Rows
theorem DL.km_free {K : Params → Frag} {as : List Addr} {e : ∀ P, as = (K P).map (·.1)} {ts : List Addr} {w : World} {h : Heap} (Y : (kmHook K as e ts).says w h) {P : Addr} (hP : as.elem P = false) : (K w.params).lookup P = none := by
  rw [e w.params] at hP
  generalize K w.params = l at hP
  induction l with
  | nil => rfl
  | cons q l ih =>
    obtain ⟨b, o⟩ := q
    rw [List.map_cons, List.elem_cons] at hP
    cases z : (P == b) with
    | true => rw [z] at hP; cases hP
    | false => rw [z] at hP; rw [List.lookup_cons, z]; exact ih hP
set_option maxRecDepth 100000 in
set_option maxHeartbeats 0 in
theorem PySem.Challenge.cw_leverheaps_k05_whole_number_texts_holds : PySem.Challenge.rw_leverheaps_k05_whole_number_texts.Holds := by
  w_on; o_law; k_head; (case hw => w_witness2)
  k_fill
  refine DL.walk_law (l := PySem.Challenge.rw_leverheaps_k05_whole_number_texts) (n := 63) (k := 9) (x := "script") (good := K05.good) rfl (by decide) rfl ⟨rfl, by decide, by decide⟩ K05.good_of (fun w h Y => km_in_of Y) ?F
  intro w mg fa h Y KX G hmg
  have tts := km_tabs_of Y
  refine' K05.law_mk (h := h) K05.law_good KX G hmg ?zz_g0 ?zz_g1 ?zz_g2 ?zz_g3 ?zz_g4 ?zz_g5 ?zz_g6 ?zz_n_abs ?zz_n_any ?zz_n_bool ?zz_n_gcd ?zz_n_int ?zz_n_isinstance ?zz_n_len ?zz_n_list ?zz_n_range ?zz_n_repr ?zz_n_str ?zz_v_FIGURES ?zz_ho ?zz_hsu ?zz_x1_1 ?zz_x2_1 ?zz_x3_1 ?zz_x4_1 ?zz_x5_1 ?zz_x6_1 ?zz_x7_1 ?zz_x8_1 ?zz_x9_1_what ?zz_x9_1_value ?zz_xa_1 ?zz_xb_1 ?zz_xc_1 ?zz_xd_1 ?zz_xe_1 ?zz_xf_1 ?zz_xg_1 ?zz_xh_1 ?zz_xi_1 ?zz_xj_1 ?zz_xk_1 ?zz_x1_2 ?zz_x2_2 ?zz_x3_2 ?zz_x4_2 ?zz_x5_2 ?zz_x6_2 ?zz_x7_2 ?zz_x8_2 ?zz_x9_2_value ?zz_xa_2 ?zz_xb_2 ?zz_xc_2 ?zz_xd_2 ?zz_xe_2 ?zz_xf_2 ?zz_xg_2 ?zz_xh_2 ?zz_xi_2 ?zz_xj_2 ?zz_xk_2 ?zz_x1_3 ?zz_x2_3 ?zz_x3_3 ?zz_x4_3 ?zz_x5_3 ?zz_x6_3 ?zz_x7_3 ?zz_x8_3 ?zz_x9_3_value ?zz_xa_3 ?zz_xb_3 ?zz_xc_3 ?zz_xd_3 ?zz_xe_3 ?zz_xf_3 ?zz_xg_3 ?zz_xh_3 ?zz_xi_3 ?zz_xj_3 ?zz_xk_3 ?zz_x1_4 ?zz_x2_4 ?zz_x3_4 ?zz_x4_4 ?zz_x5_4 ?zz_x6_4 ?zz_x7_4 ?zz_x8_4 ?zz_x9_4_index ?zz_xa_4 ?zz_xb_4 ?zz_xc_4 ?zz_xd_4 ?zz_xe_4 ?zz_xf_4 ?zz_xg_4 ?zz_xh_4 ?zz_xi_4 ?zz_xj_4 ?zz_xk_4 ?zz_x1_5 ?zz_x2_5 ?zz_x3_5 ?zz_x4_5 ?zz_x5_5 ?zz_x6_5 ?zz_x7_5 ?zz_x8_5 ?zz_x9_5_index ?zz_xa_5 ?zz_xb_5 ?zz_xc_5 ?zz_xd_5 ?zz_xe_5 ?zz_xf_5 ?zz_xg_5 ?zz_xh_5 ?zz_xi_5 ?zz_xj_5 ?zz_xk_5 ?zz_r1_6 ?zz_r2_6 ?zz_r3_6 ?zz_r4_6 ?zz_r5_6_top ?zz_r5_6_bottom ?zz_r5_6_sign ?zz_r5_6_whole ?zz_r6_6 ?zz_r7_6 ?zz_r8_6 ?zz_r9_6 ?zz_ra_6 ?zz_rb_6 ?zz_o_bool_6 ?zz_o_int_6 ?zz_o_str_6 ?zz_p_6_NoneType ?zz_p_6_bool ?zz_p_6_int ?zz_p_6_str ?zz_p_6_tuple ?zz_p_6_list ?zz_oo_6_6 ?zz_e_4_1 ?zz_e_3_1 ?zz_e_1_1 ?zz_e_4_2 ?zz_e_3_2 ?zz_e_4_3 ?zz_e_3_3 ?zz_e_4_4 ?zz_a__law_gcd ?zz_l__law_gcd ?zz_d__law_gcd ?zz_kp__law_gcd ?zz_a__law_frac ?zz_l__law_frac ?zz_d__law_frac ?zz_kp__law_frac ?zz_a__law_draw ?zz_l__law_draw ?zz_d__law_draw ?zz_kp__law_draw ?zz_a__law_pick ?zz_l__law_pick ?zz_d__law_pick ?zz_kp__law_pick ?zz_a__law_int ?zz_l__law_int ?zz_d__law_int ?zz_kp__law_int ?zz_a_is_integer ?zz_l_is_integer ?zz_d_is_integer ?zz_kp_is_integer ?zz_a_is_number ?zz_l_is_number ?zz_d_is_number ?zz_kp_is_number ?zz_a_Ratio___init__ ?zz_i_Ratio___init__ ?zz_l_Ratio___init__ ?zz_d_Ratio___init__ ?zz_kp_Ratio___init__ ?zz_dt_Ratio___init__ ?zz_a_plain_ratio ?zz_l_plain_ratio ?zz_d_plain_ratio ?zz_kp_plain_ratio ?zz_a_ratio_of ?zz_l_ratio_of ?zz_d_ratio_of ?zz_kp_ratio_of ?zz_a_Ratio___str__ ?zz_i_Ratio___str__ ?zz_l_Ratio___str__ ?zz_d_Ratio___str__ ?zz_kp_Ratio___str__ ?zz_a_number_text ?zz_l_number_text ?zz_d_number_text ?zz_kp_number_text ?zz_a__law_given ?zz_l__law_given ?zz_d__law_given ?zz_kp__law_given ?zz_a__law_bent ?zz_l__law_bent ?zz_d__law_bent ?zz_kp__law_bent ?zz_a__law_count ?zz_l__law_count ?zz_d__law_count ?zz_kp__law_count ?zz_a__law_read ?zz_l__law_read ?zz_d__law_read ?zz_kp__law_read ?zz_a__law_error_of ?zz_l__law_error_of ?zz_d__law_error_of ?zz_kp__law_error_of ?zz_a_count_of ?zz_l_count_of ?zz_d_count_of ?zz_kp_count_of ?zz_a_size_of ?zz_l_size_of ?zz_d_size_of ?zz_kp_size_of ?zz_a_Ratio___neg__ ?zz_i_Ratio___neg__ ?zz_l_Ratio___neg__ ?zz_d_Ratio___neg__ ?zz_kp_Ratio___neg__ ?zz_a_read_number ?zz_l_read_number ?zz_d_read_number ?zz_kp_read_number ?zz_a__law_is_number ?zz_l__law_is_number ?zz_d__law_is_number ?zz_kp__law_is_number ?zz_a__law_is_ratio ?zz_l__law_is_ratio ?zz_d__law_is_ratio ?zz_kp__law_is_ratio ?zz_a__law_read_right ?zz_l__law_read_right ?zz_d__law_read_right ?zz_kp__law_read_right ?zz_a__law_no_number ?zz_l__law_no_number ?zz_d__law_no_number ?zz_kp__law_no_number ?zz_a__law_pen ?zz_l__law_pen ?zz_d__law_pen ?zz_kp__law_pen ?zz_a_law ?zz_l_law ?zz_d_law ?zz_kp_law ?zz_kc__law_read_right ?zz_kf__law_read_right ?zz_kh__law_read_right ?zz_kc_law ?zz_kf_law ?zz_kh_law ?zz_tt__law_read_right ?zz_tn__law_read_right ?zz_tt_law ?zz_tn_law ?zz_tnd
  (case zz_g0 => k_is)
  (case zz_g1 => k_is)
  (case zz_g2 => k_is)
  (case zz_g3 => k_is)
  (case zz_g4 => k_is)
  (case zz_g5 => k_is)
  (case zz_g6 => k_is)
  (case zz_n_abs => k_is)
  (case zz_n_any => k_is)
  (case zz_n_bool => k_is)
  (case zz_n_gcd => k_is)
  (case zz_n_int => k_is)
  (case zz_n_isinstance => k_is)
  (case zz_n_len => k_is)
  (case zz_n_list => k_is)
  (case zz_n_range => k_is)
  (case zz_n_repr => k_is)
  (case zz_n_str => k_is)
  (case zz_v_FIGURES => k_is)
  (case zz_ho => k_is)
  (case zz_hsu => k_is)
  (case zz_x1_1 => k_is)
  (case zz_x2_1 => k_is)
  (case zz_x3_1 => k_is)
  (case zz_x4_1 => k_is)
  (case zz_x5_1 => k_is)
  (case zz_x6_1 => k_is)
  (case zz_x7_1 => k_is)
  (case zz_x8_1 => k_is)
  (case zz_x9_1_what => k_is)
  (case zz_x9_1_value => k_is)
  (case zz_xa_1 => k_is)
  (case zz_xb_1 => k_is)
  (case zz_xc_1 => ks_is)
  (case zz_xd_1 => k_is)
  (case zz_xe_1 => k_is)
  (case zz_xf_1 => k_is)
  (case zz_xg_1 => k_is)
  (case zz_xh_1 => k_is)
  (case zz_xi_1 => k_is)
  (case zz_xj_1 => rfl)
  (case zz_xk_1 => decide +kernel)
  (case zz_x1_2 => k_is)
  (case zz_x2_2 => k_is)
  (case zz_x3_2 => k_is)
  (case zz_x4_2 => k_is)
  (case zz_x5_2 => k_is)
  (case zz_x6_2 => k_is)
  (case zz_x7_2 => k_is)
  (case zz_x8_2 => k_is)
  (case zz_x9_2_value => k_is)
  (case zz_xa_2 => k_is)
  (case zz_xb_2 => k_is)
  (case zz_xc_2 => ks_is)
  (case zz_xd_2 => k_is)
  (case zz_xe_2 => k_is)
  (case zz_xf_2 => k_is)
  (case zz_xg_2 => k_is)
  (case zz_xh_2 => k_is)
  (case zz_xi_2 => k_is)
  (case zz_xj_2 => rfl)
  (case zz_xk_2 => decide +kernel)
  (case zz_x1_3 => k_is)
  (case zz_x2_3 => k_is)
  (case zz_x3_3 => k_is)
  (case zz_x4_3 => k_is)
  (case zz_x5_3 => k_is)
  (case zz_x6_3 => k_is)
  (case zz_x7_3 => k_is)
  (case zz_x8_3 => k_is)
  (case zz_x9_3_value => k_is)
  (case zz_xa_3 => k_is)
  (case zz_xb_3 => k_is)
  (case zz_xc_3 => ks_is)
  (case zz_xd_3 => k_is)
  (case zz_xe_3 => k_is)
  (case zz_xf_3 => k_is)
  (case zz_xg_3 => k_is)
  (case zz_xh_3 => k_is)
  (case zz_xi_3 => k_is)
  (case zz_xj_3 => rfl)
  (case zz_xk_3 => decide +kernel)
  (case zz_x1_4 => k_is)
  (case zz_x2_4 => k_is)
  (case zz_x3_4 => k_is)
  (case zz_x4_4 => k_is)
  (case zz_x5_4 => k_is)
  (case zz_x6_4 => k_is)
  (case zz_x7_4 => k_is)
  (case zz_x8_4 => k_is)
  (case zz_x9_4_index => k_is)
  (case zz_xa_4 => k_is)
  (case zz_xb_4 => k_is)
  (case zz_xc_4 => ks_is)
  (case zz_xd_4 => k_is)
  (case zz_xe_4 => k_is)
  (case zz_xf_4 => k_is)
  (case zz_xg_4 => k_is)
  (case zz_xh_4 => k_is)
  (case zz_xi_4 => k_is)
  (case zz_xj_4 => rfl)
  (case zz_xk_4 => decide +kernel)
  (case zz_x1_5 => k_is)
  (case zz_x2_5 => k_is)
  (case zz_x3_5 => k_is)
  (case zz_x4_5 => k_is)
  (case zz_x5_5 => k_is)
  (case zz_x6_5 => k_is)
  (case zz_x7_5 => k_is)
  (case zz_x8_5 => k_is)
  (case zz_x9_5_index => k_is)
  (case zz_xa_5 => k_is)
  (case zz_xb_5 => k_is)
  (case zz_xc_5 => ks_is)
  (case zz_xd_5 => k_is)
  (case zz_xe_5 => k_is)
  (case zz_xf_5 => k_is)
  (case zz_xg_5 => k_is)
  (case zz_xh_5 => k_is)
  (case zz_xi_5 => k_is)
  (case zz_xj_5 => rfl)
  (case zz_xk_5 => decide +kernel)
  (case zz_r1_6 => k_is)
  (case zz_r2_6 => k_is)
  (case zz_r3_6 => k_is)
  (case zz_r4_6 => k_is)
  (case zz_r5_6_top => k_is)
  (case zz_r5_6_bottom => k_is)
  (case zz_r5_6_sign => k_is)
  (case zz_r5_6_whole => k_is)
  (case zz_r6_6 => k_is)
  (case zz_r7_6 => k_is)
  (case zz_r8_6 => k_is)
  (case zz_r9_6 => k_is)
  (case zz_ra_6 => k_is)
  (case zz_rb_6 => k_is)
  (case zz_o_bool_6 => kit_is)
  (case zz_o_int_6 => kit_is)
  (case zz_o_str_6 => kit_is)
  (case zz_p_6_NoneType => kit_is)
  (case zz_p_6_bool => kit_is)
  (case zz_p_6_int => kit_is)
  (case zz_p_6_str => kit_is)
  (case zz_p_6_tuple => kit_is)
  (case zz_p_6_list => kit_is)
  (case zz_oo_6_6 => kit_is)
  (case zz_e_4_1 => kts_exm)
  (case zz_e_3_1 => kts_exm)
  (case zz_e_1_1 => kts_exm)
  (case zz_e_4_2 => kts_exm)
  (case zz_e_3_2 => kts_exm)
  (case zz_e_4_3 => kts_exm)
  (case zz_e_3_3 => kts_exm)
  (case zz_e_4_4 => kts_exm)
  (case zz_a__law_gcd => k_is)
  (case zz_l__law_gcd => k_is)
  (case zz_d__law_gcd => k_is)
  (case zz_kp__law_gcd => k_is)
  (case zz_a__law_frac => k_is)
  (case zz_l__law_frac => k_is)
  (case zz_d__law_frac => k_is)
  (case zz_kp__law_frac => k_is)
  (case zz_a__law_draw => k_is)
  (case zz_l__law_draw => k_is)
  (case zz_d__law_draw => k_is)
  (case zz_kp__law_draw => k_is)
  (case zz_a__law_pick => k_is)
  (case zz_l__law_pick => k_is)
  (case zz_d__law_pick => k_is)
  (case zz_kp__law_pick => k_is)
  (case zz_a__law_int => k_is)
  (case zz_l__law_int => k_is)
  (case zz_d__law_int => k_is)
  (case zz_kp__law_int => k_is)
  (case zz_a_is_integer => k_is)
  (case zz_l_is_integer => k_is)
  (case zz_d_is_integer => k_is)
  (case zz_kp_is_integer => k_is)
  (case zz_a_is_number => k_is)
  (case zz_l_is_number => k_is)
  (case zz_d_is_number => k_is)
  (case zz_kp_is_number => k_is)
  (case zz_a_Ratio___init__ => k_is)
  (case zz_i_Ratio___init__ => k_is)
  (case zz_l_Ratio___init__ => k_is)
  (case zz_d_Ratio___init__ => k_is)
  (case zz_kp_Ratio___init__ => k_is)
  (case zz_dt_Ratio___init__ => k_is)
  (case zz_a_plain_ratio => k_is)
  (case zz_l_plain_ratio => k_is)
  (case zz_d_plain_ratio => k_is)
  (case zz_kp_plain_ratio => k_is)
  (case zz_a_ratio_of => k_is)
  (case zz_l_ratio_of => k_is)
  (case zz_d_ratio_of => k_is)
  (case zz_kp_ratio_of => k_is)
  (case zz_a_Ratio___str__ => k_is)
  (case zz_i_Ratio___str__ => k_is)
  (case zz_l_Ratio___str__ => k_is)
  (case zz_d_Ratio___str__ => k_is)
  (case zz_kp_Ratio___str__ => k_is)
  (case zz_a_number_text => k_is)
  (case zz_l_number_text => k_is)
  (case zz_d_number_text => k_is)
  (case zz_kp_number_text => k_is)
  (case zz_a__law_given => k_is)
  (case zz_l__law_given => k_is)
  (case zz_d__law_given => k_is)
  (case zz_kp__law_given => k_is)
  (case zz_a__law_bent => k_is)
  (case zz_l__law_bent => k_is)
  (case zz_d__law_bent => k_is)
  (case zz_kp__law_bent => k_is)
  (case zz_a__law_count => k_is)
  (case zz_l__law_count => k_is)
  (case zz_d__law_count => k_is)
  (case zz_kp__law_count => k_is)
  (case zz_a__law_read => k_is)
  (case zz_l__law_read => k_is)
  (case zz_d__law_read => k_is)
  (case zz_kp__law_read => k_is)
  (case zz_a__law_error_of => k_is)
  (case zz_l__law_error_of => k_is)
  (case zz_d__law_error_of => k_is)
  (case zz_kp__law_error_of => k_is)
  (case zz_a_count_of => k_is)
  (case zz_l_count_of => k_is)
  (case zz_d_count_of => k_is)
  (case zz_kp_count_of => k_is)
  (case zz_a_size_of => k_is)
  (case zz_l_size_of => k_is)
  (case zz_d_size_of => k_is)
  (case zz_kp_size_of => k_is)
  (case zz_a_Ratio___neg__ => k_is)
  (case zz_i_Ratio___neg__ => k_is)
  (case zz_l_Ratio___neg__ => k_is)
  (case zz_d_Ratio___neg__ => k_is)
  (case zz_kp_Ratio___neg__ => k_is)
  (case zz_a_read_number => k_is)
  (case zz_l_read_number => k_is)
  (case zz_d_read_number => k_is)
  (case zz_kp_read_number => k_is)
  (case zz_a__law_is_number => k_is)
  (case zz_l__law_is_number => k_is)
  (case zz_d__law_is_number => k_is)
  (case zz_kp__law_is_number => k_is)
  (case zz_a__law_is_ratio => k_is)
  (case zz_l__law_is_ratio => k_is)
  (case zz_d__law_is_ratio => k_is)
  (case zz_kp__law_is_ratio => k_is)
  (case zz_a__law_read_right => k_is)
  (case zz_l__law_read_right => k_is)
  (case zz_d__law_read_right => k_is)
  (case zz_kp__law_read_right => k_is)
  (case zz_a__law_no_number => k_is)
  (case zz_l__law_no_number => k_is)
  (case zz_d__law_no_number => k_is)
  (case zz_kp__law_no_number => k_is)
  (case zz_a__law_pen => k_is)
  (case zz_l__law_pen => k_is)
  (case zz_d__law_pen => k_is)
  (case zz_kp__law_pen => k_is)
  (case zz_a_law => k_is)
  (case zz_l_law => k_is)
  (case zz_d_law => k_is)
  (case zz_kp_law => k_is)
  (case zz_kc__law_read_right => k_is)
  (case zz_kf__law_read_right => exact rfl)
  (case zz_kh__law_read_right => exact rfl)
  (case zz_kc_law => k_is)
  (case zz_kf_law => exact rfl)
  (case zz_kh_law => exact rfl)
  (case zz_tt__law_read_right => exact tts _ (by simp))
  (case zz_tn__law_read_right => exact DL.km_free Y (by decide +kernel))
  (case zz_tt_law => exact tts _ (by simp))
  (case zz_tn_law => exact DL.km_free Y (by decide +kernel))
  (case zz_tnd => decide)
