import PyProof.Rows.All
import Wide.All
import OpenK.AllK
import Wide.FinOn
import HandS.ForMost
import HandS.ForExc
import HandS.Deep
import HandS.IsInst
import HandS.Walk
import HandS.TupAny
import HandS.Style
import HandS.Zip
import KE.GoesEnum
import PyProof.InstEq
import PyProof.InstNe
import KE.KExcIs
import HandS.ExcInit
import HandS.ExcField
import HandS.ExcIs
import PyProof.ReprRoads
import HandS.HeadEnd
import HandS.HeadHook1
import HandS.HeadHook2
import PyProof.ReprBulk
import HandS.Head0
import HandS.Head1
import HandS.Head2
import PySem.Challenge.RW_wholecommits_k87_whole_programs_judged
set_option Elab.async false
set_option linter.all false
set_option maxRecDepth 100000
/-! Mir: data trees D over an abstract store; wp-style mirrors of HandS readings. -/
namespace Mir
open PySem PySem.Spec PyProof.Rows L2

/-- data: immutable trees; vl, vd, vi: lists, dicts, instances that nobody changes any more; sq: the script or a module's list; ref: a mutable object of the store -/
inductive D where
  | non | bl (b : Bool) | int (i : Int) | str (s : Str)
  | tup (l : List D) | vl (l : List D) | sq (l : List D)
  | vd (ks : List Key) (vs : List D)
  | vi (c : Str) (fs : List Str) (vs : List D)
  | ref (n : Nat)
inductive Ob where
  | lst (l : List D) | dic (ks : List Key) (vs : List D) | ins (c : Str) (fs : List Str) (vs : List D)
abbrev Sto := List Ob
structure Ex where
  c : Str
  fs : List Str
  vs : List D
abbrev LL := List (Option D)

/-- read, never written: frozen, or the module's own -/
def SqF (K : PySem.W.Frag) (H : Hp) (a : Addr) (xs : List V) : Prop := (∃ o, H a = some (.frz o (.lst xs))) ∨
    ∃ (o : Obj) (its : Array Value) (n : Nat), K.lookup a = some o ∧ o.cls = .type "list" ∧ o.dict = none ∧ o.data = .seq its n ∧ its.size ≤ sizeLine ∧ Vals xs its.toList
theorem SqF.sq {K : PySem.W.Frag} {H : Hp} {a : Addr} {xs : List V} (h : SqF K H a xs) : SqL K H a xs := by
  rcases h with ⟨o, h⟩ | h
  · exact .inl (.inr ⟨o, h⟩)
  · exact .inr h

/-- where the store's objects lie; what is being made and is not to be seen -/
structure Rh where
  ids : List Addr
  bz : List Addr
def Rh.no (ρ : Rh) (a : Addr) : Prop := a ∉ ρ.ids ∧ a ∉ ρ.bz
def Rh.add (ρ : Rh) (a : Addr) : Rh := ⟨ρ.ids ++ [a], ρ.bz⟩
def Rh.hide (ρ : Rh) (a : Addr) : Rh := ⟨ρ.ids, a :: ρ.bz⟩
/-- never written -/
def Imm : HO → Prop
  | .tup _ => True
  | .frz _ _ => True
  | .xd _ => True
  | .own _ => True
  | _ => False
section
variable (K : PySem.W.Frag) (mg : Str → Option Value)
mutual
def IsV (ρ : Rh) (H : Hp) : D → V → Prop
  | .non, v => v = .non
  | .bl b, v => v = .bl b
  | .int i, v => v = .int i
  | .str s, v => v = .str s
  | .tup l, v => ∃ a xs, v = .ref a ∧ SqT K H a xs ∧ IsL ρ H l xs
  | .vl l, v => ∃ a xs, v = .ref a ∧ H a = some (.lst xs) ∧ ρ.no a ∧ IsL ρ H l xs
  | .sq l, v => ∃ a xs, v = .ref a ∧ SqF K H a xs ∧ IsL ρ H l xs
  | .vd ks vs, v => ∃ a xs, v = .ref a ∧ H a = some (.dK (ks.zip xs)) ∧ ρ.no a ∧ ks.length = xs.length ∧ IsL ρ H vs xs
  | .vi c fs vs, v => ∃ a C dx xs, v = .ref a ∧ mg c = some (.ref C) ∧ H a = some (.ins C dx (fs.zip xs)) ∧ ρ.no a ∧ fs.length = xs.length ∧ IsL ρ H vs xs
  | .ref n, v => ∃ a, v = .ref a ∧ ρ.ids[n]? = some a
def IsL (ρ : Rh) (H : Hp) : List D → List V → Prop
  | [], xs => xs = []
  | d :: l, xs => ∃ x r, xs = x :: r ∧ IsV ρ H d x ∧ IsL ρ H l r
end
def ObIs (ρ : Rh) (H : Hp) : Ob → Addr → Prop
  | .lst l, a => ∃ xs, H a = some (.lst xs) ∧ IsL K mg ρ H l xs
  | .dic ks vs, a => ∃ xs, H a = some (.dK (ks.zip xs)) ∧ ks.length = xs.length ∧ IsL K mg ρ H vs xs
  | .ins c fs vs, a => ∃ C dx xs, mg c = some (.ref C) ∧ H a = some (.ins C dx (fs.zip xs)) ∧ fs.length = xs.length ∧ IsL K mg ρ H vs xs
structure Rel (ρ : Rh) (st : Sto) (H : Hp) : Prop where
  len : ρ.ids.length = st.length
  nd : ρ.ids.Nodup
  at_ : ∀ (n : Nat) (a : Addr) (ob : Ob), ρ.ids[n]? = some a → st[n]? = some ob → ObIs K mg ρ H ob a
  bz : ∀ a ∈ ρ.bz, (∃ u, H a = some u ∧ ¬ Imm u) ∧ a ∉ ρ.ids
structure RelL (ρ : Rh) (H : Hp) (σ : L2.St) (l : LL) : Prop where
  len : σ.length = l.length
  at_ : ∀ (i : Nat) (d : D), l[i]? = some (some d) → ∃ v, σ[i]? = some (some v) ∧ IsV K mg ρ H d v
def IsX (ρ : Rh) (H : Hp) (c : Value) (od : Option Addr) (x : Ex) : Prop :=
  ∃ C, mg x.c = some (.ref C) ∧ c = .ref C ∧ ((x.fs = [] ∧ x.vs = [] ∧ od = none) ∨ ∃ d xs, od = some d ∧ H d = some (.xd (x.fs.zip xs)) ∧ x.fs.length = xs.length ∧ IsL K mg ρ H x.vs xs)
end

structure Ext (ρ : Rh) (H : Hp) (ρ' : Rh) (H' : Hp) : Prop where
  pre : ∃ r, ρ'.ids = ρ.ids ++ r
  bz : ρ'.bz = ρ.bz
  keep : ∀ a o, H a = some o → a ∉ ρ.ids → H' a = some o ∧ a ∉ ρ'.ids
  imm : ∀ a o, H a = some o → Imm o → H' a = some o
theorem Ext.refl (ρ : Rh) (H : Hp) : Ext ρ H ρ H := ⟨⟨[], by simp⟩, rfl, fun _ _ h n => ⟨h, n⟩, fun _ _ h _ => h⟩
theorem Ext.trans {ρ ρ1 ρ2 : Rh} {H H1 H2 : Hp} (a : Ext ρ H ρ1 H1) (b : Ext ρ1 H1 ρ2 H2) : Ext ρ H ρ2 H2 := by
  obtain ⟨⟨r, e⟩, z, k, i⟩ := a
  obtain ⟨⟨r', e'⟩, z', k', i'⟩ := b
  exact ⟨⟨r ++ r', by rw [e', e, List.append_assoc]⟩, z'.trans z, fun x o h n => k' x o (k x o h n).1 (k x o h n).2, fun x o h m => i' x o (i x o h m) m⟩
theorem Ext.get {ρ ρ' : Rh} {H H' : Hp} (e : Ext ρ H ρ' H') {n : Nat} {a : Addr} (h : ρ.ids[n]? = some a) : ρ'.ids[n]? = some a := by
  obtain ⟨r, er⟩ := e.pre
  obtain ⟨hl, _⟩ := List.getElem?_eq_some_iff.mp h
  rw [er, List.getElem?_append_left hl]
  exact h
theorem Ext.no {ρ ρ' : Rh} {H H' : Hp} (e : Ext ρ H ρ' H') {a : Addr} {o : HO} (h : H a = some o) (n : ρ.no a) : H' a = some o ∧ ρ'.no a :=
  ⟨(e.keep a o h n.1).1, (e.keep a o h n.1).2, by rw [e.bz]; exact n.2⟩
/-- a new object that the store does not name -/
theorem Ext.new {ρ : Rh} {H : Hp} {p : Addr} {o : HO} (h : H p = none) : Ext ρ H ρ (upd H p o) :=
  ⟨⟨[], by simp⟩, rfl, fun a u e n => ⟨by rw [upd_ne (ne_of_none e h)]; exact e, n⟩, fun a u e _ => by rw [upd_ne (ne_of_none e h)]; exact e⟩
/-- .. that it names -/
theorem Ext.newR {ρ : Rh} {H : Hp} {p : Addr} {o : HO} (h : H p = none) : Ext ρ H (ρ.add p) (upd H p o) :=
  ⟨⟨[p], rfl⟩, rfl, fun a u e n => ⟨by rw [upd_ne (ne_of_none e h)]; exact e, fun m => by
    rcases List.mem_append.mp m with m | m
    · exact n m
    · exact ne_of_none e h (by simpa using m)⟩, fun a u e _ => by rw [upd_ne (ne_of_none e h)]; exact e⟩
/-- an object of the store is written -/
theorem Ext.write {ρ : Rh} {H : Hp} {p : Addr} {o u : HO} (m : p ∈ ρ.ids) (h : H p = some u) (ni : ¬ Imm u) : Ext ρ H ρ (upd H p o) :=
  ⟨⟨[], by simp⟩, rfl, fun a v e n => ⟨by
    have hne : a ≠ p := fun z => by subst z; exact n m
    rw [upd_ne hne]; exact e, n⟩, fun a v e i => by
    have hne : a ≠ p := fun z => by
      subst z
      rw [h] at e
      cases e
      exact ni i
    rw [upd_ne hne]; exact e⟩

section
variable {K : PySem.W.Frag} {mg : Str → Option Value} {ρ ρ' : Rh} {H H' : Hp}
theorem Ext.rdT {a : Addr} {xs : List V} (e : Ext ρ H ρ' H') (h : SqT K H a xs) : SqT K H' a xs := by
  rcases h with (h | ⟨o, h⟩) | h
  · exact .inl (.inl (e.imm _ _ h True.intro))
  · exact .inl (.inr ⟨o, e.imm _ _ h True.intro⟩)
  · exact .inr h
theorem Ext.sqF {a : Addr} {xs : List V} (e : Ext ρ H ρ' H') (h : SqF K H a xs) : SqF K H' a xs := by
  rcases h with ⟨o, h⟩ | h
  · exact .inl ⟨o, e.imm _ _ h True.intro⟩
  · exact .inr h
/-- what is named stays named, what is seen stays, unseen objects may come -/
structure Mov (ρ : Rh) (H : Hp) (ρ' : Rh) (H' : Hp) : Prop where
  get : ∀ (n : Nat) (a : Addr), ρ.ids[n]? = some a → ρ'.ids[n]? = some a
  no : ∀ a o, H a = some o → ρ.no a → H' a = some o ∧ ρ'.no a
  imm : ∀ a o, H a = some o → Imm o → H' a = some o
theorem Ext.mov (e : Ext ρ H ρ' H') : Mov ρ H ρ' H' := ⟨fun _ _ h => e.get h, fun _ _ h n => e.no h n, e.imm⟩
theorem Mov.trans {ρ2 : Rh} {H2 : Hp} (a : Mov ρ H ρ' H') (b : Mov ρ' H' ρ2 H2) : Mov ρ H ρ2 H2 := ⟨fun n x h => b.get n x (a.get n x h), fun x o h n => b.no x o (a.no x o h n).1 (a.no x o h n).2, fun x o h i => b.imm x o (a.imm x o h i) i⟩
theorem Mov.rdT {a : Addr} {xs : List V} (e : Mov ρ H ρ' H') (h : SqT K H a xs) : SqT K H' a xs := by
  rcases h with (h | ⟨o, h⟩) | h
  · exact .inl (.inl (e.imm _ _ h True.intro))
  · exact .inl (.inr ⟨o, e.imm _ _ h True.intro⟩)
  · exact .inr h
theorem Mov.sqF {a : Addr} {xs : List V} (e : Mov ρ H ρ' H') (h : SqF K H a xs) : SqF K H' a xs := by
  rcases h with ⟨o, h⟩ | h
  · exact .inl ⟨o, e.imm _ _ h True.intro⟩
  · exact .inr h
mutual
theorem IsV.mov (e : Mov ρ H ρ' H') : ∀ (d : D) (v : V), IsV K mg ρ H d v → IsV K mg ρ' H' d v
  | .non, _, h => h
  | .bl _, _, h => h
  | .int _, _, h => h
  | .str _, _, h => h
  | .tup l, v, ⟨a, xs, e1, e2, e3⟩ => ⟨a, xs, e1, e.rdT e2, IsL.mov e l xs e3⟩
  | .vl l, v, ⟨a, xs, e1, e2, n, e3⟩ => ⟨a, xs, e1, (e.no _ _ e2 n).1, (e.no _ _ e2 n).2, IsL.mov e l xs e3⟩
  | .sq l, v, ⟨a, xs, e1, e2, e3⟩ => ⟨a, xs, e1, e.sqF e2, IsL.mov e l xs e3⟩
  | .vd ks vs, v, ⟨a, xs, e1, e2, n, e3, e4⟩ => ⟨a, xs, e1, (e.no _ _ e2 n).1, (e.no _ _ e2 n).2, e3, IsL.mov e vs xs e4⟩
  | .vi c fs vs, v, ⟨a, C, dx, xs, e1, e2, e3, n, e4, e5⟩ => ⟨a, C, dx, xs, e1, e2, (e.no _ _ e3 n).1, (e.no _ _ e3 n).2, e4, IsL.mov e vs xs e5⟩
  | .ref n, v, ⟨a, e1, e2⟩ => ⟨a, e1, e.get _ _ e2⟩
theorem IsL.mov (e : Mov ρ H ρ' H') : ∀ (l : List D) (xs : List V), IsL K mg ρ H l xs → IsL K mg ρ' H' l xs
  | [], _, h => h
  | d :: l, _, ⟨x, r, e1, e2, e3⟩ => ⟨x, r, e1, IsV.mov e d x e2, IsL.mov e l r e3⟩
end
theorem IsV.mono (e : Ext ρ H ρ' H') (d : D) (v : V) (h : IsV K mg ρ H d v) : IsV K mg ρ' H' d v := IsV.mov e.mov d v h
theorem IsL.mono (e : Ext ρ H ρ' H') (l : List D) (xs : List V) (h : IsL K mg ρ H l xs) : IsL K mg ρ' H' l xs := IsL.mov e.mov l xs h
/-- what is hidden may be written -/
structure Hid (ρ : Rh) (H : Hp) (ρ' : Rh) (H' : Hp) : Prop where
  ids : ρ'.ids = ρ.ids
  sub : ∀ a, a ∈ ρ'.bz → a ∈ ρ.bz
  keep : ∀ a o, H a = some o → a ∉ ρ.bz → H' a = some o
  imm : ∀ a o, H a = some o → Imm o → H' a = some o
theorem Hid.mov (e : Hid ρ H ρ' H') : Mov ρ H ρ' H' := ⟨fun n a h => by rw [e.ids]; exact h, fun a o h n => ⟨e.keep a o h n.2, by rw [e.ids]; exact n.1, fun z => n.2 (e.sub a z)⟩, e.imm⟩
theorem IsV.hid (e : Hid ρ H ρ' H') (d : D) (v : V) (h : IsV K mg ρ H d v) : IsV K mg ρ' H' d v := IsV.mov e.mov d v h
theorem IsL.hid (e : Hid ρ H ρ' H') (l : List D) (xs : List V) (h : IsL K mg ρ H l xs) : IsL K mg ρ' H' l xs := IsL.mov e.mov l xs h
theorem IsL.len : ∀ {l : List D} {xs : List V}, IsL K mg ρ H l xs → l.length = xs.length
  | [], _, h => by cases h; rfl
  | d :: l, _, ⟨x, r, e1, _, e3⟩ => by subst e1; simp [IsL.len e3]
theorem IsL.get : ∀ {l : List D} {xs : List V} {i : Nat} {d : D}, IsL K mg ρ H l xs → l[i]? = some d → ∃ x, xs[i]? = some x ∧ IsV K mg ρ H d x
  | [], _, _, _, _, h => by simp at h
  | d :: l, _, 0, _, ⟨x, r, e1, e2, _⟩, h => by
    subst e1
    cases h
    exact ⟨x, rfl, e2⟩
  | d :: l, _, i + 1, _, ⟨x, r, e1, _, e3⟩, h => by
    subst e1
    obtain ⟨y, h1, h2⟩ := IsL.get e3 (by simpa using h)
    exact ⟨y, by simpa using h1, h2⟩
theorem IsL.get' : ∀ {l : List D} {xs : List V} {i : Nat} {x : V}, IsL K mg ρ H l xs → xs[i]? = some x → ∃ d, l[i]? = some d ∧ IsV K mg ρ H d x := fun {l xs i x} h e => by
  have hl := h.len
  obtain ⟨hi, _⟩ := List.getElem?_eq_some_iff.mp e
  obtain ⟨y, h1, h2⟩ := h.get (i := i) (d := l[i]'(by omega)) (by simp)
  rw [e] at h1
  cases h1
  exact ⟨_, by simp, h2⟩
theorem IsL.append : ∀ {l m : List D} {xs ys : List V}, IsL K mg ρ H l xs → IsL K mg ρ H m ys → IsL K mg ρ H (l ++ m) (xs ++ ys)
  | [], _, _, _, h, q => by cases h; exact q
  | d :: l, _, _, _, ⟨x, r, e1, e2, e3⟩, q => by subst e1; exact ⟨x, _, rfl, e2, IsL.append e3 q⟩
theorem IsL.one {d : D} {x : V} (h : IsV K mg ρ H d x) : IsL K mg ρ H [d] [x] := ⟨x, [], rfl, h, rfl⟩
theorem IsL.take : ∀ {l : List D} {xs : List V} (n : Nat), IsL K mg ρ H l xs → IsL K mg ρ H (l.take n) (xs.take n)
  | _, _, 0, _ => by simp [IsL]
  | [], _, n + 1, h => by cases h; simp [IsL]
  | d :: l, _, n + 1, ⟨x, r, e1, e2, e3⟩ => by subst e1; exact ⟨x, _, rfl, e2, IsL.take n e3⟩
theorem IsL.drop : ∀ {l : List D} {xs : List V} (n : Nat), IsL K mg ρ H l xs → IsL K mg ρ H (l.drop n) (xs.drop n)
  | _, _, 0, h => h
  | [], _, n + 1, h => by cases h; simp [IsL]
  | d :: l, _, n + 1, ⟨x, r, e1, e2, e3⟩ => by subst e1; exact IsL.drop n e3
theorem IsL.reverse : ∀ {l : List D} {xs : List V}, IsL K mg ρ H l xs → IsL K mg ρ H l.reverse xs.reverse
  | [], _, h => by cases h; rfl
  | d :: l, _, ⟨x, r, e1, e2, e3⟩ => by
    subst e1
    rw [List.reverse_cons, List.reverse_cons]
    exact (IsL.reverse e3).append (.one e2)
theorem IsL.set : ∀ {l : List D} {xs : List V} {d : D} {x : V} (i : Nat), IsL K mg ρ H l xs → IsV K mg ρ H d x → IsL K mg ρ H (l.set i d) (xs.set i x)
  | [], _, _, _, _, h, _ => by cases h; rfl
  | d :: l, _, _, _, 0, ⟨x, r, e1, e2, e3⟩, q => by subst e1; exact ⟨_, r, rfl, q, e3⟩
  | d :: l, _, _, _, i + 1, ⟨x, r, e1, e2, e3⟩, q => by subst e1; exact ⟨x, _, rfl, e2, IsL.set i e3 q⟩
theorem ObIs.mono (e : Ext ρ H ρ' H') {ob : Ob} {a : Addr} (ha : ∀ o, H a = some o → H' a = some o) (h : ObIs K mg ρ H ob a) : ObIs K mg ρ' H' ob a := by
  cases ob with
  | lst l => obtain ⟨xs, h1, h2⟩ := h; exact ⟨xs, ha _ h1, IsL.mono e _ _ h2⟩
  | dic ks vs => obtain ⟨xs, h1, h2, h3⟩ := h; exact ⟨xs, ha _ h1, h2, IsL.mono e _ _ h3⟩
  | ins c fs vs => obtain ⟨C, dx, xs, h0, h1, h2, h3⟩ := h; exact ⟨C, dx, xs, h0, ha _ h1, h2, IsL.mono e _ _ h3⟩
theorem RelL.mono {σ : L2.St} {l : LL} (e : Ext ρ H ρ' H') (h : RelL K mg ρ H σ l) : RelL K mg ρ' H' σ l :=
  ⟨h.len, fun i d q => let ⟨v, h1, h2⟩ := h.at_ i d q; ⟨v, h1, IsV.mono e _ _ h2⟩⟩
theorem RelL.set {σ : L2.St} {l : LL} {i : Nat} {d : D} {v : V} (h : RelL K mg ρ H σ l) (q : IsV K mg ρ H d v) : RelL K mg ρ H (σ.set i (some v)) (l.set i (some d)) := by
  refine ⟨by simp [h.len], fun j e hj => ?_⟩
  by_cases hji : i = j
  · subst hji
    rw [List.getElem?_set] at hj
    split at hj
    · split at hj
      · have : d = e := by simpa using hj
        subst this
        exact ⟨v, by rw [List.getElem?_set_self (by rw [h.len]; assumption)], q⟩
      · cases hj
    · exact absurd rfl (by assumption)
  · rw [List.getElem?_set_ne hji] at hj
    obtain ⟨w, h1, h2⟩ := h.at_ j e hj
    exact ⟨w, by rw [List.getElem?_set_ne hji]; exact h1, h2⟩
/-- slots may be forgotten -/
theorem RelL.none {σ : L2.St} {l : LL} {i : Nat} {o : Option V} (h : RelL K mg ρ H σ l) : RelL K mg ρ H (σ.set i o) (l.set i none) := by
  refine ⟨by simp [h.len], fun j e hj => ?_⟩
  by_cases hji : i = j
  · subst hji
    rw [List.getElem?_set] at hj
    split at hj
    · split at hj <;> simp at hj
    · exact absurd rfl (by assumption)
  · rw [List.getElem?_set_ne hji] at hj
    obtain ⟨w, h1, h2⟩ := h.at_ j e hj
    exact ⟨w, by rw [List.getElem?_set_ne hji]; exact h1, h2⟩
/-- all that is kept stays related -/
theorem Rel.kept {st : Sto} (r : Rel K mg ρ st H) (e : Ext ρ H ρ H') (k : ∀ a o, a ∈ ρ.ids → H a = some o → H' a = some o) : Rel K mg ρ st H' :=
  ⟨r.len, r.nd, fun n a ob h1 h2 => (r.at_ n a ob h1 h2).mono e fun o q => k a o (List.mem_of_getElem? h1) q, fun a ha => by
    obtain ⟨⟨u, h1, h2⟩, h3⟩ := r.bz a ha
    exact ⟨⟨u, (e.keep a u h1 h3).1, h2⟩, h3⟩⟩
theorem Rel.there {st : Sto} (r : Rel K mg ρ st H) {n : Nat} {ob : Ob} (h : st[n]? = some ob) : ∃ a, ρ.ids[n]? = some a ∧ ObIs K mg ρ H ob a := by
  obtain ⟨hl, _⟩ := List.getElem?_eq_some_iff.mp h
  have hn : n < ρ.ids.length := by rw [r.len]; exact hl
  exact ⟨ρ.ids[n], by simp, r.at_ n _ ob (by simp) h⟩
theorem Rel.new {st : Sto} (r : Rel K mg ρ st H) {p : Addr} {o : HO} (h : H p = Option.none) : Rel K mg ρ st (upd H p o) :=
  r.kept (Ext.new h) fun a u _ e => by rw [upd_ne (ne_of_none e h)]; exact e
theorem ObIs.tracked {ob : Ob} {a : Addr} (h : ObIs K mg ρ H ob a) : ∃ u, H a = some u ∧ ¬ Imm u := by
  cases ob with
  | lst l => obtain ⟨xs, h1, _⟩ := h; exact ⟨_, h1, fun z => z⟩
  | dic ks vs => obtain ⟨xs, h1, _⟩ := h; exact ⟨_, h1, fun z => z⟩
  | ins c fs vs => obtain ⟨C, dx, xs, _, h1, _⟩ := h; exact ⟨_, h1, fun z => z⟩
theorem Rel.mem {st : Sto} (r : Rel K mg ρ st H) {a : Addr} (h : a ∈ ρ.ids) : ∃ u, H a = some u ∧ ¬ Imm u := by
  obtain ⟨n, hn⟩ := List.getElem?_of_mem h
  obtain ⟨hl, _⟩ := List.getElem?_eq_some_iff.mp hn
  have : n < st.length := by rw [← r.len]; exact hl
  exact (r.at_ n a st[n] hn (by simp)).tracked
/-- a new object of the store -/
theorem Rel.newR {st : Sto} (r : Rel K mg ρ st H) {p : Addr} {o : HO} {ob : Ob} (h : H p = Option.none) (q : ObIs K mg (ρ.add p) (upd H p o) ob p) : Rel K mg (ρ.add p) (st ++ [ob]) (upd H p o) := by
  have np : p ∉ ρ.ids := fun z => by
    obtain ⟨u, e, _⟩ := r.mem z
    rw [h] at e
    cases e
  refine ⟨by simp [Rh.add, r.len], List.nodup_append.mpr ⟨r.nd, by simp, fun a ha b hb => ?_⟩, fun n a b h1 h2 => ?_, fun a ha => ?_⟩
  · have hb : b = p := by simpa using hb
    rw [hb]
    exact fun z => np (z ▸ ha)
  · have h1 : (ρ.ids ++ [p])[n]? = some a := h1
    by_cases hn : n < ρ.ids.length
    · rw [List.getElem?_append_left hn] at h1
      rw [List.getElem?_append_left (by rw [← r.len]; exact hn)] at h2
      exact (r.at_ n a b h1 h2).mono (Ext.newR h) fun u e => by rw [upd_ne (ne_of_none e h)]; exact e
    · rw [List.getElem?_append_right (by omega)] at h1
      rw [List.getElem?_append_right (by rw [← r.len]; omega), ← r.len] at h2
      have h0 : n - ρ.ids.length = 0 := by
        rcases Nat.eq_zero_or_pos (n - ρ.ids.length) with z | z
        · exact z
        · rw [List.getElem?_eq_none (by simp; omega)] at h1
          cases h1
      rw [h0] at h1 h2
      have e1 : p = a := by simpa using h1
      have e2 : ob = b := by simpa using h2
      rw [← e1, ← e2]
      exact q
  · obtain ⟨⟨u, h1, h2⟩, h3⟩ := r.bz a ha
    exact ⟨⟨u, ((Ext.newR h).keep a u h1 h3).1, h2⟩, ((Ext.newR (o := o) h).keep a u h1 h3).2⟩
/-- an object of the store is written -/
theorem Rel.write {st : Sto} (r : Rel K mg ρ st H) {n : Nat} {p : Addr} {o : HO} {ob : Ob} (hp : ρ.ids[n]? = some p) (q : ObIs K mg ρ (upd H p o) ob p) : Rel K mg ρ (st.set n ob) (upd H p o) := by
  obtain ⟨u, hu, ni⟩ := r.mem (List.mem_of_getElem? hp)
  refine ⟨by simp [r.len], r.nd, fun m a b h1 h2 => ?_, fun a ha => ?_⟩
  rotate_left
  · obtain ⟨⟨w, h1, h2⟩, h3⟩ := r.bz a ha
    exact ⟨⟨w, ((Ext.write (o := o) (List.mem_of_getElem? hp) hu ni).keep a w h1 h3).1, h2⟩, h3⟩
  by_cases hm : n = m
  · subst hm
    rw [hp] at h1
    cases h1
    rw [List.getElem?_set] at h2
    split at h2
    · split at h2
      · have e : ob = b := by simpa using h2
        rw [← e]
        exact q
      · cases h2
    · exact absurd rfl (by assumption)
  · rw [List.getElem?_set_ne hm] at h2
    refine (r.at_ m a b h1 h2).mono (Ext.write (List.mem_of_getElem? hp) hu ni) fun v e => ?_
    have hne : a ≠ p := fun z => by
      subst z
      exact hm (nd_ix r.nd hp h1)
    rw [upd_ne hne]
    exact e
theorem Rel.fresh {st : Sto} (r : Rel K mg ρ st H) {p : Addr} (h : H p = Option.none) : ρ.no p := by
  refine ⟨fun z => ?_, fun z => ?_⟩
  · obtain ⟨u, e, _⟩ := r.mem z
    rw [h] at e
    cases e
  · obtain ⟨⟨u, e, _⟩, _⟩ := r.bz p z
    rw [h] at e
    cases e
theorem ObIs.hid (e : Hid ρ H ρ' H') {ob : Ob} {a : Addr} (ha : ∀ o, H a = some o → H' a = some o) (h : ObIs K mg ρ H ob a) : ObIs K mg ρ' H' ob a := by
  cases ob with
  | lst l => obtain ⟨xs, h1, h2⟩ := h; exact ⟨xs, ha _ h1, IsL.hid e _ _ h2⟩
  | dic ks vs => obtain ⟨xs, h1, h2, h3⟩ := h; exact ⟨xs, ha _ h1, h2, IsL.hid e _ _ h3⟩
  | ins c fs vs => obtain ⟨C, dx, xs, h0, h1, h2, h3⟩ := h; exact ⟨C, dx, xs, h0, ha _ h1, h2, IsL.hid e _ _ h3⟩
theorem RelL.hid {σ : L2.St} {l : LL} (e : Hid ρ H ρ' H') (h : RelL K mg ρ H σ l) : RelL K mg ρ' H' σ l :=
  ⟨h.len, fun i d q => let ⟨v, h1, h2⟩ := h.at_ i d q; ⟨v, h1, IsV.hid e _ _ h2⟩⟩
theorem Rel.hid {st : Sto} (r : Rel K mg ρ st H) (e : Hid ρ H ρ' H') (b : ∀ a ∈ ρ'.bz, ∃ u, H' a = some u ∧ ¬ Imm u) : Rel K mg ρ' st H' :=
  ⟨by rw [e.ids]; exact r.len, by rw [e.ids]; exact r.nd, fun n a ob h1 h2 => by
    rw [e.ids] at h1
    refine (r.at_ n a ob h1 h2).hid e fun o q => e.keep a o q fun z => ?_
    exact (r.bz a z).2 (List.mem_of_getElem? h1), fun a ha => ⟨b a ha, by rw [e.ids]; exact (r.bz a (e.sub a ha)).2⟩⟩
theorem RelL.mov {σ : L2.St} {l : LL} (e : Mov ρ H ρ' H') (h : RelL K mg ρ H σ l) : RelL K mg ρ' H' σ l :=
  ⟨h.len, fun i d q => let ⟨v, h1, h2⟩ := h.at_ i d q; ⟨v, h1, IsV.mov e _ _ h2⟩⟩
theorem ObIs.mov (e : Mov ρ H ρ' H') {ob : Ob} {a : Addr} (ha : ∀ o, H a = some o → H' a = some o) (h : ObIs K mg ρ H ob a) : ObIs K mg ρ' H' ob a := by
  cases ob with
  | lst l => obtain ⟨xs, h1, h2⟩ := h; exact ⟨xs, ha _ h1, IsL.mov e _ _ h2⟩
  | dic ks vs => obtain ⟨xs, h1, h2, h3⟩ := h; exact ⟨xs, ha _ h1, h2, IsL.mov e _ _ h3⟩
  | ins c fs vs => obtain ⟨C, dx, xs, h0, h1, h2, h3⟩ := h; exact ⟨C, dx, xs, h0, ha _ h1, h2, IsL.mov e _ _ h3⟩
/-- something new is laid and hidden -/
theorem Mov.hide {p : Addr} {o : HO} (h : H p = Option.none) : Mov ρ H (ρ.hide p) (upd H p o) :=
  ⟨fun _ _ h => h, fun a u e n => by
    have hne := ne_of_none e h
    refine ⟨by rw [upd_ne hne]; exact e, n.1, fun z => ?_⟩
    rcases List.mem_cons.mp z with z | z
    · exact hne z
    · exact n.2 z, fun a u e _ => by rw [upd_ne (ne_of_none e h)]; exact e⟩
theorem Rel.hide {st : Sto} (r : Rel K mg ρ st H) {p : Addr} {o : HO} (h : H p = Option.none) (ni : ¬ Imm o) : Rel K mg (ρ.hide p) st (upd H p o) := by
  refine ⟨r.len, r.nd, fun n a ob h1 h2 => (r.at_ n a ob h1 h2).mov (.hide h) fun u e => by rw [upd_ne (ne_of_none e h)]; exact e, fun a ha => ?_⟩
  rcases List.mem_cons.mp ha with z | z
  · subst z
    exact ⟨⟨o, upd_same, ni⟩, (r.fresh h).1⟩
  · obtain ⟨⟨u, e, n⟩, z2⟩ := r.bz a z
    exact ⟨⟨u, by rw [upd_ne (ne_of_none e h)]; exact e, n⟩, z2⟩
/-- no more hidden -/
theorem Mov.unhide {bz : List Addr} (h : ∀ a ∈ bz, a ∈ ρ.bz) : Mov ρ H ⟨ρ.ids, bz⟩ H := ⟨fun _ _ h => h, fun a o e n => ⟨e, n.1, fun z => n.2 (h a z)⟩, fun _ _ e _ => e⟩
theorem Rel.unhide {st : Sto} {bz : List Addr} (r : Rel K mg ρ st H) (h : ∀ a ∈ bz, a ∈ ρ.bz) : Rel K mg ⟨ρ.ids, bz⟩ st H :=
  ⟨r.len, r.nd, fun n a ob h1 h2 => (r.at_ n a ob h1 h2).mov (.unhide h) fun _ e => e, fun a ha => r.bz a (h a ha)⟩
/-- a new object that is being made -/
theorem Hid.laid {p : Addr} {o : HO} (h : H p = Option.none) : Hid ρ H ρ (upd H p o) :=
  ⟨rfl, fun _ h => h, fun a u e _ => by rw [upd_ne (ne_of_none e h)]; exact e, fun a u e _ => by rw [upd_ne (ne_of_none e h)]; exact e⟩
end
end Mir

set_option Elab.async false
set_option linter.all false
set_option maxRecDepth 100000
set_option maxHeartbeats 1000000
/-! Mir2: mirrors of expressions. -/
namespace Mir
open PySem PySem.Spec PyProof.Rows L2

abbrev QD := D → Sto → Prop
abbrev QX := Ex → Sto → Prop
abbrev WG (α : Type) := LL → Sto → (α → Sto → Prop) → QX → Prop
abbrev WE := WG D
abbrev WA := WG (List D)
abbrev WT := WG Bool
abbrev WO := WG (Option Int)
/-- no locals -/
abbrev WD := Sto → QD → QX → Prop
def MonoD (f : WD) : Prop := ∀ st (Q Q' : QD) (X X' : QX), (∀ a s, Q a s → Q' a s) → (∀ x s, X x s → X' x s) → f st Q X → f st Q' X'
def MonoG {α : Type} (m : WG α) : Prop := ∀ l st (Q Q' : α → Sto → Prop) (X X' : QX), (∀ a s, Q a s → Q' a s) → (∀ x s, X x s → X' x s) → m l st Q X → m l st Q' X'

abbrev RG (α β : Type) := Rh → Hp → α → β → Prop
section
variable (K : PySem.W.Frag) (mg : Str → Option Value)
def up {α β : Type} (R : RG α β) (ρ : Rh) (H : Hp) (Q : β → Hp → Prop) : α → Sto → Prop := fun d st' => ∀ v ρ' H', Ext ρ H ρ' H' → Rel K mg ρ' st' H' → R ρ' H' d v → Q v H'
def upX (ρ : Rh) (H : Hp) (σ : L2.St) (W : WX) : QX := fun x st' => ∀ ρ' H' c od, Ext ρ H ρ' H' → Rel K mg ρ' st' H' → IsX K mg ρ' H' c od x → W c od σ H'
structure EvG {α β : Type} (R : RG α β) (W : WX) (te : L2.St → Hp → (β → Hp → Prop) → Prop) (m : WG α) : Prop where
  mono : MonoG m
  run : ∀ ρ st H σ l Q, Rel K mg ρ st H → RelL K mg ρ H σ l → m l st (up K mg R ρ H Q) (upX K mg ρ H σ W) → te σ H Q
def rV : RG D V := fun ρ H d v => IsV K mg ρ H d v
def rL : RG (List D) (List V) := fun ρ H d v => IsL K mg ρ H d v
def rI {α : Type} : RG α α := fun _ _ a b => a = b
end
section
variable {K : PySem.W.Frag} {mg : Str → Option Value} {ρ ρ1 : Rh} {H H1 : Hp} {α β : Type} {R : RG α β}
theorem up.ext {Q : β → Hp → Prop} {d : α} {s : Sto} (h : up K mg R ρ H Q d s) (e : Ext ρ H ρ1 H1) : up K mg R ρ1 H1 Q d s := fun v ρ' H' e' r q => h v ρ' H' (e.trans e') r q
theorem upX.ext {σ : L2.St} {W : WX} {x : Ex} {s : Sto} (h : upX K mg ρ H σ W x s) (e : Ext ρ H ρ1 H1) : upX K mg ρ1 H1 σ W x s := fun ρ' H' c od e' r q => h ρ' H' c od (e.trans e') r q
theorem EvG.bind {W : WX} {te : L2.St → Hp → (β → Hp → Prop) → Prop} {m : WG α} (h : EvG K mg R W te m) {st : Sto} {σ : L2.St} {l : LL} {P : α → Sto → Prop} {X : QX} {Q : β → Hp → Prop}
    (r : Rel K mg ρ st H) (rl : RelL K mg ρ H σ l) (hm : m l st P X) (hX : ∀ x s, X x s → upX K mg ρ H σ W x s)
    (k : ∀ d s v ρ' H', Ext ρ H ρ' H' → Rel K mg ρ' s H' → R ρ' H' d v → P d s → Q v H') : te σ H Q :=
  h.run ρ st H σ l Q r rl (h.mono l st _ _ _ _ (fun d s p v ρ' H' e r' i => k d s v ρ' H' e r' i p) hX hm)
/-- the end of a reading -/
theorem up.now {Q : β → Hp → Prop} {d : α} {s : Sto} {v : β} (h : up K mg R ρ H Q d s) (e : Ext ρ H ρ1 H1) (r : Rel K mg ρ1 s H1) (q : R ρ1 H1 d v) : Q v H1 := h v ρ1 H1 e r q
end

/-- an expression's reading and its mirror -/
structure DE (X : Cx) (W : WX) (e : Expr) (te : TE) (m : WE) : Prop where
  pe : PE X e te
  ev : EvG X.K X.mg (rV X.K X.mg) W te m
structure DT (X : Cx) (W : WX) (e : Expr) (te : TT) (m : WT) : Prop where
  pe : PT X e te
  ev : EvG X.K X.mg rI W te m
structure DW (X : Cx) (W : WX) (e : Expr) (te : TT) (m : WT) : Prop where
  pe : PW X e te
  ev : EvG X.K X.mg rI W te m
structure DA (X : Cx) (W : WX) (es : List Expr) (ta : TA) (m : WA) : Prop where
  pe : PA X es ta
  ev : EvG X.K X.mg (rL X.K X.mg) W ta m
structure DO (X : Cx) (W : WX) (e : Option Expr) (te : TO) (m : WO) : Prop where
  pe : PO X e te
  ev : EvG X.K X.mg rI W te m

/-! ### names, constants -/
def mVar (i : Nat) : WE := fun l st Q _ => match l[i]? with
  | some (some d) => Q d st
  | _ => False
def mC (d : D) : WE := fun _ st Q _ => Q d st
section
variable {K : PySem.W.Frag} {mg : Str → Option Value} {W : WX}
theorem ev_var {i : Nat} : EvG K mg (rV K mg) W (tVar i) (mVar i) where
  mono := fun l st Q Q' X X' h _ q => by
    unfold mVar at *
    split at q
    · exact h _ _ q
    · exact q.elim
  run := fun ρ st H σ l Q r rl h => by
    unfold mVar at h
    split at h
    · rename_i d e
      obtain ⟨v, h1, h2⟩ := rl.at_ i d e
      exact ⟨v, h1, h.now (.refl _ _) r h2⟩
    · exact h.elim
theorem ev_c {d : D} {v : V} (hd : ∀ ρ H, IsV K mg ρ H d v) : EvG K mg (rV K mg) W (tC v) (mC d) where
  mono := fun _ _ _ _ _ _ h _ q => h _ _ q
  run := fun ρ st H σ l Q r rl h => up.now (R := rV K mg) h (.refl _ _) r (hd _ _)
end
section
variable {X : Cx} {W : WX}
theorem de_var (i : Nat) {x : Str} {pos : Pos} (hN : X.N[i]? = some x := by rfl) (hv : Vis X.env.scope x := by first | exact Or.inl rfl | exact Or.inr (Or.inl rfl) | exact Or.inr (Or.inr rfl)) (hd : (x == ("__debug__" : Str)) = false := by decide)
    (hcd : (x == ("__classdict__" : Str)) = false := by decide) : DE X W (.Name x pos) (tVar i) (mVar i) := ⟨pe_var hN hv hd hcd, ev_var⟩
theorem de_int {i : Int} {j pos} : DE X W (.Constant (.int i) j pos) (tC (.int i)) (mC (.int i)) := ⟨pe_int, ev_c fun _ _ => rfl⟩
theorem de_bl {b : Bool} {j pos} : DE X W (.Constant (.bool b) j pos) (tC (.bl b)) (mC (.bl b)) := ⟨pe_bl, ev_c fun _ _ => rfl⟩
theorem de_non {j pos} : DE X W (.Constant .none j pos) (tC .non) (mC .non) := ⟨pe_non, ev_c fun _ _ => rfl⟩
theorem de_str {x : Str} {j pos} : DE X W (.Constant (.str x) j pos) (tC (.str x)) (mC (.str x)) := ⟨pe_str, ev_c fun _ _ => rfl⟩
/-- a module's constant -/
theorem de_glob {x : Str} {v : V} {u : Value} {d : D} {pos : Pos} (hm : X.mg x = some u ∧ RelV v u ∧ ∀ ρ H, IsV X.K X.mg ρ H d v) (hg : Gl X x := by rfl) (hd : (x == ("__debug__" : Str)) = false := by decide) : DE X W (.Name x pos) (tC v) (mC d) :=
  ⟨pe_glob hg hm.1 hm.2.1 hd, ev_c hm.2.2⟩
end

/-! ### two operands -/
def mOp (f : D → D → WD) (ma mb : WE) : WE := fun l st Q X => ma l st (fun x s1 => mb l s1 (fun y s2 => f x y s2 Q X) X) X
structure OpM (K : PySem.W.Frag) (mg : Str → Option Value) (r : R2) (f : D → D → WD) : Prop where
  mono : ∀ x y, MonoD (f x y)
  run : ∀ ρ st H x y v u Q X, Rel K mg ρ st H → IsV K mg ρ H x v → IsV K mg ρ H y u → f x y st (up K mg (rV K mg) ρ H Q) X → r v u H Q
theorem ev_op {K : PySem.W.Frag} {mg : Str → Option Value} {W : WX} {r : R2} {f : D → D → WD} {ta tb : TE} {ma mb : WE} (hf : OpM K mg r f) (ha : EvG K mg (rV K mg) W ta ma) (hb : EvG K mg (rV K mg) W tb mb) :
    EvG K mg (rV K mg) W (tOp r ta tb) (mOp f ma mb) where
  mono := fun l st Q Q' X X' h hX q => ha.mono _ _ _ _ _ _ (fun x s1 q1 => hb.mono _ _ _ _ _ _ (fun y s2 q2 => hf.mono _ _ _ _ _ _ _ h hX q2) hX q1) hX q
  run := fun ρ st H σ l Q r rl h => by
    refine ha.bind r rl h (fun _ _ z => z) fun x s1 v ρ1 H1 e1 r1 i1 h1 => ?_
    refine hb.bind r1 (rl.mono e1) h1 (fun _ _ z => z.ext e1) fun y s2 u ρ2 H2 e2 r2 i2 h2 => ?_
    exact hf.run ρ2 s2 H2 x y v u Q _ r2 (IsV.mono e2 _ _ i1) i2 (hf.mono _ _ _ _ _ _ _ (fun d s z => z.ext (e1.trans e2)) (fun _ _ z => z) h2)
/-- an operation of the mirror by cases -/
theorem OpM.mk' {K : PySem.W.Frag} {mg : Str → Option Value} {r : R2} {f : D → D → WD} (m : ∀ x y, MonoD (f x y)) (h : ∀ ρ st H x y v u Q X, Rel K mg ρ st H → IsV K mg ρ H x v → IsV K mg ρ H y u → f x y st (up K mg (rV K mg) ρ H Q) X → r v u H Q) : OpM K mg r f := ⟨m, h⟩
section
variable {X : Cx} {W : WX} {a b : Expr} {ta tb : TE} {ma mb : WE} {pos : Pos}
theorem de_op {op : Operator} {r : R2} {f : D → D → WD} (ho : OpR X (binaryOp op) r) (hf : OpM X.K X.mg r f) (ha : DE X W a ta ma) (hb : DE X W b tb mb) : DE X W (.BinOp a op b pos) (tOp r ta tb) (mOp f ma mb) :=
  ⟨pe_op ho ha.pe hb.pe, ev_op hf ha.ev hb.ev⟩
theorem de_cmp {op : CmpOp} {r : R2} {f : D → D → WD} (ho : OpR X (compareOp op) r) (hf : OpM X.K X.mg r f) (ha : DE X W a ta ma) (hb : DE X W b tb mb) (hm : behindInMarks op b = false := by rfl) : DE X W (.Compare a [op] [b] pos) (tOp r ta tb) (mOp f ma mb) :=
  ⟨pe_cmpR ho ha.pe hb.pe hm, ev_op hf ha.ev hb.ev⟩
end

/-! ### lists by what they hold -/
/-- the items of a list that is tracked -/
def lstT (st : Sto) : D → Option (List D)
  | .vl l => some l
  | .ref n => match st[n]? with
    | some (.lst l) => some l
    | _ => none
  | _ => none
/-- of any list -/
def lstA (st : Sto) : D → Option (List D)
  | .sq l => some l
  | d => lstT st d
/-- of a list or a tuple -/
def seqA (st : Sto) : D → Option (List D)
  | .tup l => some l
  | d => lstA st d
section
variable {K : PySem.W.Frag} {mg : Str → Option Value} {ρ : Rh} {st : Sto} {H : Hp} {d : D} {v : V} {l : List D}
theorem lstT.at_ (r : Rel K mg ρ st H) (i : IsV K mg ρ H d v) (h : lstT st d = some l) : ∃ a xs, v = .ref a ∧ H a = some (.lst xs) ∧ IsL K mg ρ H l xs := by
  cases d with
  | vl m =>
    obtain ⟨a, xs, e, h1, _, h2⟩ := i
    cases h
    exact ⟨a, xs, e, h1, h2⟩
  | ref n =>
    obtain ⟨a, e, h1⟩ := i
    simp only [lstT] at h
    split at h
    · rename_i m hm
      cases h
      obtain ⟨xs, h2, h3⟩ := r.at_ n a _ h1 hm
      exact ⟨a, xs, e, h2, h3⟩
    · cases h
  | _ => cases h
theorem lstA.at_ (r : Rel K mg ρ st H) (i : IsV K mg ρ H d v) (h : lstA st d = some l) : ∃ a xs, v = .ref a ∧ SqL K H a xs ∧ IsL K mg ρ H l xs := by
  have t : ∀ {d}, IsV K mg ρ H d v → lstT st d = some l → ∃ a xs, v = .ref a ∧ SqL K H a xs ∧ IsL K mg ρ H l xs := fun i h => by
    obtain ⟨a, xs, e, h1, h2⟩ := lstT.at_ r i h
    exact ⟨a, xs, e, .of h1, h2⟩
  cases d with
  | sq m =>
    obtain ⟨a, xs, e, h1, h2⟩ := i
    cases h
    exact ⟨a, xs, e, h1.sq, h2⟩
  | vl m => exact t i h
  | ref n => exact t i h
  | _ => cases h
theorem seqA.at_ (r : Rel K mg ρ st H) (i : IsV K mg ρ H d v) (h : seqA st d = some l) : ∃ a xs, v = .ref a ∧ (SqL K H a xs ∨ SqT K H a xs) ∧ IsL K mg ρ H l xs := by
  have t : ∀ {d}, IsV K mg ρ H d v → lstA st d = some l → ∃ a xs, v = .ref a ∧ (SqL K H a xs ∨ SqT K H a xs) ∧ IsL K mg ρ H l xs := fun i h => by
    obtain ⟨a, xs, e, h1, h2⟩ := lstA.at_ r i h
    exact ⟨a, xs, e, .inl h1, h2⟩
  cases d with
  | tup m =>
    obtain ⟨a, xs, e, h1, h2⟩ := i
    cases h
    exact ⟨a, xs, e, .inr h1, h2⟩
  | sq m => exact t i h
  | vl m => exact t i h
  | ref n => exact t i h
  | _ => cases h
theorem IsV.ref_of_new {p : Addr} {o : HO} (h : H p = none) : Ext ρ H ρ (upd H p o) := .new h
/-- a new list that nobody changes -/
theorem IsV.newL {p : Addr} {xs : List V} (r : Rel K mg ρ st H) (h : H p = none) (i : IsL K mg ρ H l xs) : IsV K mg ρ (upd H p (.lst xs)) (.vl l) (.ref p) :=
  ⟨p, xs, rfl, upd_same, r.fresh h, IsL.mono (.new h) _ _ i⟩
theorem IsV.newU {p : Addr} {xs : List V} (h : H p = none) (i : IsL K mg ρ H l xs) : IsV K mg ρ (upd H p (.tup xs)) (.tup l) (.ref p) :=
  ⟨p, xs, rfl, .of upd_same, IsL.mono (.new h) _ _ i⟩
theorem IsL.nil_iff {xs : List V} (i : IsL K mg ρ H l xs) : xs = [] ↔ l = [] := by
  have := i.len
  constructor
  · intro e; subst e; exact List.length_eq_zero_iff.mp this
  · intro e; subst e; exact List.length_eq_zero_iff.mp this.symm
end

/-! ### arithmetic -/
def addD (x y : D) : WD := fun st Q _ => match x, y with
  | .int i, .int j => Q (.int (i + j)) st
  | .str i, .str j => i.length + j.length ≤ sizeLine ∧ Q (.str (i ++ j)) st
  | .tup a, .tup b => a.length + b.length ≤ sizeLine ∧ Q (.tup (a ++ b)) st
  | x, y => match lstT st x, lstT st y with
    | some a, some b => a.length + b.length ≤ sizeLine ∧ Q (.vl (a ++ b)) st
    | _, _ => False
def rAddA (K : PySem.W.Frag) : R2 := fun x y H Q => (∃ i j, x = .int i ∧ y = .int j ∧ Q (.int (i + j)) H) ∨ (∃ i j, x = .str i ∧ y = .str j ∧ i.length + j.length ≤ sizeLine ∧ Q (.str (i ++ j)) H) ∨ rCatA K x y H Q ∨ rCat x y H Q
theorem op_addA {X : Cx} : OpR X (binaryOp .Add) (rAddA X.K) := OpR.or op_add (OpR.or op_add_str (OpR.or op_catA op_cat))
theorem opm_add {K : PySem.W.Frag} {mg : Str → Option Value} : OpM K mg (rAddA K) addD where
  mono := fun x y st Q Q' X X' h _ q => by
    unfold addD at *
    split at q
    · exact h _ _ q
    · exact ⟨q.1, h _ _ q.2⟩
    · exact ⟨q.1, h _ _ q.2⟩
    · split at q
      · exact ⟨q.1, h _ _ q.2⟩
      · exact q.elim
  run := fun ρ st H x y v u Q X r ix iy h => by
    unfold addD at h
    split at h
    · cases ix; cases iy
      exact .inl ⟨_, _, rfl, rfl, h.now (.refl _ _) r rfl⟩
    · cases ix; cases iy
      exact .inr (.inl ⟨_, _, rfl, rfl, h.1, h.2.now (.refl _ _) r rfl⟩)
    · obtain ⟨a, xs, rfl, h1, h2⟩ := ix
      obtain ⟨b, ys, rfl, h3, h4⟩ := iy
      refine .inr (.inr (.inl ⟨a, b, xs, ys, rfl, rfl, h1, h3, by rw [← h2.len, ← h4.len]; exact h.1, fun e => ?_, fun e e' => ?_, fun _ _ p hp => ?_⟩))
      · subst e
        have e0 := h2.nil_iff.mp rfl
        subst e0
        exact h.2.now (.refl _ _) r ⟨b, ys, rfl, h3, h4⟩
      · subst e'
        have e0 := h4.nil_iff.mp rfl
        subst e0
        rw [List.append_nil] at h
        exact h.2.now (.refl _ _) r ⟨a, xs, rfl, h1, h2⟩
      · exact h.2.now (.new hp) (r.new hp) (IsV.newU hp (h2.append h4))
    · split at h
      · rename_i a b ha hb
        obtain ⟨p, xs, rfl, h1, h2⟩ := lstT.at_ r ix ha
        obtain ⟨q, ys, rfl, h3, h4⟩ := lstT.at_ r iy hb
        exact .inr (.inr (.inr ⟨p, q, xs, ys, rfl, rfl, h1, h3, by rw [← h2.len, ← h4.len]; exact h.1, fun n hn => h.2.now (.new hn) (r.new hn) (IsV.newL r hn (h2.append h4))⟩))
      · exact h.elim
/-- two ints, a condition, a value -/
def intD (C : Int → Int → Prop) (g : Int → Int → D) (x y : D) : WD := fun st Q _ => match x, y with
  | .int i, .int j => C i j ∧ Q (g i j) st
  | _, _ => False
theorem intD.mono {C : Int → Int → Prop} {g : Int → Int → D} (x y : D) : MonoD (intD C g x y) := fun st Q Q' X X' h _ q => by
  unfold intD at *
  split at q
  · exact ⟨q.1, h _ _ q.2⟩
  · exact q.elim
theorem opm_int {K : PySem.W.Frag} {mg : Str → Option Value} {C : Int → Int → Prop} {g : Int → Int → D} {gv : Int → Int → V} (hg : ∀ i j ρ H, IsV K mg ρ H (g i j) (gv i j)) : OpM K mg (L2.rI C gv) (intD C g) where
  mono := intD.mono
  run := fun ρ st H x y v u Q X r ix iy h => by
    unfold intD at h
    split at h
    · cases ix; cases iy
      exact ⟨_, _, rfl, rfl, h.1, h.2.now (.refl _ _) r (hg _ _ _ _)⟩
    · exact h.elim
theorem opm_int0 {K : PySem.W.Frag} {mg : Str → Option Value} {g : Int → Int → D} {gv : Int → Int → V} (hg : ∀ i j ρ H, IsV K mg ρ H (g i j) (gv i j)) : OpM K mg (rI0 gv) (intD (fun _ _ => True) g) where
  mono := intD.mono
  run := fun ρ st H x y v u Q X r ix iy h => by
    unfold intD at h
    split at h
    · cases ix; cases iy
      exact ⟨_, _, rfl, rfl, h.2.now (.refl _ _) r (hg _ _ _ _)⟩
    · exact h.elim
section
variable {X : Cx} {W : WX} {a b : Expr} {ta tb : TE} {ma mb : WE} {pos : Pos}
theorem de_add (ha : DE X W a ta ma) (hb : DE X W b tb mb) : DE X W (.BinOp a .Add b pos) (tOp (rAddA X.K) ta tb) (mOp addD ma mb) := de_op op_addA opm_add ha hb
theorem de_sub (ha : DE X W a ta ma) (hb : DE X W b tb mb) : DE X W (.BinOp a .Sub b pos) (tOp (rI0 fun i j => .int (i - j)) ta tb) (mOp (intD (fun _ _ => True) fun i j => .int (i - j)) ma mb) := de_op op_sub (opm_int0 fun _ _ _ _ => rfl) ha hb
theorem de_mod (ha : DE X W a ta ma) (hb : DE X W b tb mb) : DE X W (.BinOp a .Mod b pos) (tOp (L2.rI (fun _ j => 0 < j) fun i j => .int (i % j)) ta tb) (mOp (intD (fun _ j => 0 < j) fun i j => .int (i % j)) ma mb) := de_op op_mod (opm_int fun _ _ _ _ => rfl) ha hb
theorem de_fdiv (ha : DE X W a ta ma) (hb : DE X W b tb mb) : DE X W (.BinOp a .FloorDiv b pos) (tOp (L2.rI CDiv fun i j => .int (i / j)) ta tb) (mOp (intD CDiv fun i j => .int (i / j)) ma mb) := de_op op_fdiv (opm_int fun _ _ _ _ => rfl) ha hb
theorem de_mulI (ha : DE X W a ta ma) (hb : DE X W b tb mb) : DE X W (.BinOp a .Mult b pos) (tOp (L2.rI CMul fun i j => .int (i * j)) ta tb) (mOp (intD CMul fun i j => .int (i * j)) ma mb) := de_op op_mul (opm_int fun _ _ _ _ => rfl) ha hb
theorem de_pow (ha : DE X W a ta ma) (hb : DE X W b tb mb) : DE X W (.BinOp a .Pow b pos) (tOp (L2.rI CPow fun i j => .int (i ^ j.toNat)) ta tb) (mOp (intD CPow fun i j => .int (i ^ j.toNat)) ma mb) := de_op op_pow (opm_int fun _ _ _ _ => rfl) ha hb
end
/-! ### order -/
/-- the order of ints and of texts: p on ints, q on texts -/
def ordD (p : Int → Int → Bool) (q : List Nat → List Nat → Bool) (x y : D) : WD := fun st Q _ => match x, y with
  | .int i, .int j => Q (.bl (p i j)) st
  | .str i, .str j => Q (.bl (q i.cps.toList j.cps.toList)) st
  | _, _ => False
def rOrd (p : Int → Int → Bool) (q : List Nat → List Nat → Bool) : R2 := fun x y H Q => (∃ i j, x = .int i ∧ y = .int j ∧ Q (.bl (p i j)) H) ∨ ∃ i j, x = .str i ∧ y = .str j ∧ Q (.bl (q i.cps.toList j.cps.toList)) H
theorem opm_ord {K : PySem.W.Frag} {mg : Str → Option Value} {p : Int → Int → Bool} {q : List Nat → List Nat → Bool} : OpM K mg (rOrd p q) (ordD p q) where
  mono := fun x y st Q Q' X X' h _ z => by
    unfold ordD at *
    split at z
    · exact h _ _ z
    · exact h _ _ z
    · exact z.elim
  run := fun ρ st H x y v u Q X r ix iy h => by
    unfold ordD at h
    split at h
    · cases ix; cases iy
      exact .inl ⟨_, _, rfl, rfl, h.now (.refl _ _) r rfl⟩
    · cases ix; cases iy
      exact .inr ⟨_, _, rfl, rfl, h.now (.refl _ _) r rfl⟩
    · exact h.elim
abbrev ltI : Int → Int → Bool := fun i j => decide (i < j)
abbrev leI : Int → Int → Bool := fun i j => decide (i ≤ j)
abbrev ltS : List Nat → List Nat → Bool := fun i j => decide (i < j)
abbrev leS : List Nat → List Nat → Bool := fun i j => !decide (j < i)
theorem op_ltA {X : Cx} : OpR X (compareOp .Lt) (rOrd ltI ltS) := OpR.or op_lt op_lt_str
theorem op_leA {X : Cx} : OpR X (compareOp .LtE) (rOrd leI leS) := OpR.or op_le op_le_str
theorem op_gtA {X : Cx} : OpR X (compareOp .Gt) (rOrd (fun i j => ltI j i) (fun i j => ltS j i)) := OpR.or op_gt op_gt_str
theorem op_geA {X : Cx} : OpR X (compareOp .GtE) (rOrd (fun i j => leI j i) (fun i j => leS j i)) := OpR.or op_ge op_ge_str
section
variable {X : Cx} {W : WX} {a b c : Expr} {ta tb tc : TE} {ma mb mc : WE} {pos : Pos}
theorem de_lt (ha : DE X W a ta ma) (hb : DE X W b tb mb) : DE X W (.Compare a [.Lt] [b] pos) (tOp (rOrd ltI ltS) ta tb) (mOp (ordD ltI ltS) ma mb) := de_cmp op_ltA opm_ord ha hb (nomark _)
theorem de_le (ha : DE X W a ta ma) (hb : DE X W b tb mb) : DE X W (.Compare a [.LtE] [b] pos) (tOp (rOrd leI leS) ta tb) (mOp (ordD leI leS) ma mb) := de_cmp op_leA opm_ord ha hb (nomark _)
theorem de_gt (ha : DE X W a ta ma) (hb : DE X W b tb mb) : DE X W (.Compare a [.Gt] [b] pos) (tOp (rOrd (fun i j => ltI j i) (fun i j => ltS j i)) ta tb) (mOp (ordD (fun i j => ltI j i) (fun i j => ltS j i)) ma mb) := de_cmp op_gtA opm_ord ha hb (nomark _)
theorem de_ge (ha : DE X W a ta ma) (hb : DE X W b tb mb) : DE X W (.Compare a [.GtE] [b] pos) (tOp (rOrd (fun i j => leI j i) (fun i j => leS j i)) ta tb) (mOp (ordD (fun i j => leI j i) (fun i j => leS j i)) ma mb) := de_cmp op_geA opm_ord ha hb (nomark _)
/-- a R b R' c -/
def mChain (f f' : D → D → WD) (ma mb mc : WE) : WE := fun l st Q X => ma l st (fun x s1 => mb l s1 (fun y s2 => f x y s2 (fun z s3 => match z with
  | .bl true => mc l s3 (fun w s4 => f' y w s4 Q X) X
  | .bl false => Q (.bl false) s3
  | _ => False) X) X) X
theorem de_chain {op op' : CmpOp} {r r' : R2} {f f' : D → D → WD} (ho : OpR X (compareOp op) r) (ho' : OpR X (compareOp op') r') (hf : OpM X.K X.mg r f) (hf' : OpM X.K X.mg r' f') (ha : DE X W a ta ma) (hb : DE X W b tb mb) (hc : DE X W c tc mc)
    (hn1 : op ≠ .In := by decide) (hn2 : op ≠ .NotIn := by decide) (hn3 : op' ≠ .In := by decide) (hn4 : op' ≠ .NotIn := by decide) : DE X W (.Compare a [op, op'] [b, c] pos) (tChain r r' ta tb tc) (mChain f f' ma mb mc) := by
  refine ⟨?_, ⟨?_, ?_⟩⟩
  · exact pe_chain ho ho' ha.pe hb.pe hc.pe (by show behindInMarks op' c = false; exact nomark _ hn3 hn4)
  · intro l st Q Q' X1 X1' h hX q
    refine ha.ev.mono _ _ _ _ _ _ (fun x s1 q1 => hb.ev.mono _ _ _ _ _ _ (fun y s2 q2 => hf.mono _ _ _ _ _ _ _ (fun z s3 q3 => ?_) hX q2) hX q1) hX q
    split at q3
    · exact hc.ev.mono _ _ _ _ _ _ (fun w s4 q4 => hf'.mono _ _ _ _ _ _ _ h hX q4) hX q3
    · exact h _ _ q3
    · exact q3.elim
  · intro ρ st H σ l Q r rl h
    refine ha.ev.bind r rl h (fun _ _ z => z) fun x s1 v ρ1 H1 e1 r1 i1 h1 => ?_
    refine hb.ev.bind r1 (rl.mono e1) h1 (fun _ _ z => z.ext e1) fun y s2 u ρ2 H2 e2 r2 i2 h2 => ?_
    refine hf.run ρ2 s2 H2 x y v u _ _ r2 (IsV.mono e2 _ _ i1) i2 (hf.mono _ _ _ _ _ _ _ (fun z s3 q3 => ?_) (fun _ _ z => z) h2)
    intro w ρ3 H3 e3 r3 i3
    split at q3
    · cases i3
      refine ⟨true, rfl, ?_⟩
      rw [if_pos rfl]
      refine hc.ev.bind r3 (rl.mono ((e1.trans e2).trans e3)) q3 (fun _ _ z => z.ext ((e1.trans e2).trans e3)) fun t s4 w4 ρ4 H4 e4 r4 i4 h4 => ?_
      exact hf'.run ρ4 s4 H4 y t u w4 Q _ r4 (IsV.mono (e3.trans e4) _ _ i2) i4 (hf'.mono _ _ _ _ _ _ _ (fun d s z => z.ext (((e1.trans e2).trans e3).trans e4)) (fun _ _ z => z) h4)
    · cases i3
      refine ⟨false, rfl, ?_⟩
      rw [if_neg Bool.false_ne_true]
      exact q3.now ((e1.trans e2).trans e3) r3 rfl
    · exact q3.elim
theorem de_le_le (ha : DE X W a ta ma) (hb : DE X W b tb mb) (hc : DE X W c tc mc) : DE X W (.Compare a [.LtE, .LtE] [b, c] pos) (tChain (rOrd leI leS) (rOrd leI leS) ta tb tc) (mChain (ordD leI leS) (ordD leI leS) ma mb mc) := de_chain op_leA op_leA opm_ord opm_ord ha hb hc
end
/-! ### is None -/
def isNon : D → Bool
  | .non => true
  | _ => false
section
variable {K : PySem.W.Frag} {mg : Str → Option Value}
theorem isNon_ok {ρ : Rh} {H : Hp} {d : D} {v : V} (i : IsV K mg ρ H d v) : decide (v = .non) = isNon d := by
  cases d with
  | non => cases i; rfl
  | bl b => cases i; rfl
  | int b => cases i; rfl
  | str b => cases i; rfl
  | tup l => obtain ⟨a, _, e, _⟩ := i; subst e; rfl
  | vl l => obtain ⟨a, _, e, _⟩ := i; subst e; rfl
  | sq l => obtain ⟨a, _, e, _⟩ := i; subst e; rfl
  | vd k l => obtain ⟨a, _, e, _⟩ := i; subst e; rfl
  | vi c k l => obtain ⟨a, _, _, _, e, _⟩ := i; subst e; rfl
  | ref n => obtain ⟨a, e, _⟩ := i; subst e; rfl
end
def mUn (g : D → D) (ma : WE) : WE := fun l st Q X => ma l st (fun x s1 => Q (g x) s1) X
section
variable {X : Cx} {W : WX} {a b : Expr} {ta tb : TE} {ma mb : WE} {pos : Pos}
theorem de_isN {j pos'} (ha : DE X W a ta ma) : DE X W (.Compare a [.Is] [.Constant .none j pos'] pos) (tIsN ta) (mUn (fun d => .bl (isNon d)) ma) :=
  ⟨pe_cmp (pc_isN ha.pe), ⟨fun l st Q Q' X X' h hX q => ha.ev.mono _ _ _ _ _ _ (fun x s1 q1 => h _ _ q1) hX q, fun ρ st H σ l Q r rl h => by
    refine ha.ev.bind r rl h (fun _ _ z => z) fun x s1 v ρ1 H1 e1 r1 i1 h1 => ?_
    refine h1.now e1 r1 ?_
    show V.bl (decide (v = .non)) = V.bl (isNon x)
    rw [isNon_ok i1]⟩⟩
theorem de_notN {j pos'} (ha : DE X W a ta ma) : DE X W (.Compare a [.IsNot] [.Constant .none j pos'] pos) (tNotN ta) (mUn (fun d => .bl (!isNon d)) ma) :=
  ⟨pe_cmp (pc_notN ha.pe), ⟨fun l st Q Q' X X' h hX q => ha.ev.mono _ _ _ _ _ _ (fun x s1 q1 => h _ _ q1) hX q, fun ρ st H σ l Q r rl h => by
    refine ha.ev.bind r rl h (fun _ _ z => z) fun x s1 v ρ1 H1 e1 r1 i1 h1 => ?_
    refine h1.now e1 r1 ?_
    show V.bl (!decide (v = .non)) = V.bl (!isNon x)
    rw [isNon_ok i1]⟩⟩
end
/-! ### tests -/
/-- a value's truth -/
def truD (st : Sto) : D → Option Bool
  | .non => some false
  | .bl b => some b
  | .int i => some (i != 0)
  | .str s => if s.length ≤ sizeLine then some ((s.length : Int) != 0) else none
  | .tup l => some (!l.isEmpty)
  | .vl l => some (!l.isEmpty)
  | .sq l => some (!l.isEmpty)
  | .vd ks _ => some (!ks.isEmpty)
  | .vi _ _ _ => none
  | .ref n => match st[n]? with
    | some (.lst l) => some (!l.isEmpty)
    | some (.dic ks _) => some (!ks.isEmpty)
    | _ => none
section
variable {K : PySem.W.Frag} {mg : Str → Option Value} {ρ : Rh} {st : Sto} {H : Hp}
theorem IsL.empty {l : List D} {xs : List V} (i : IsL K mg ρ H l xs) : xs.isEmpty = l.isEmpty := by
  have := i.len
  cases l <;> cases xs <;> simp at this ⊢
theorem zip_empty {α β : Type} {ks : List α} {xs : List β} (h : ks.length = xs.length) : (ks.zip xs).isEmpty = ks.isEmpty := by
  cases ks <;> cases xs <;> simp at h ⊢
theorem truD_ok {d : D} {v : V} {b : Bool} (r : Rel K mg ρ st H) (i : IsV K mg ρ H d v) (h : truD st d = some b) : TruV K v H b := by
  cases d with
  | non => cases i; cases h; rfl
  | bl b => cases i; cases h; rfl
  | int b => cases i; cases h; rfl
  | str s =>
    cases i
    simp only [truD] at h
    split at h
    · cases h; exact ⟨by assumption, rfl⟩
    · cases h
  | tup l => obtain ⟨a, xs, e, h1, h2⟩ := i; subst e; cases h; exact .inr (.inl ⟨xs, h1, by rw [h2.empty]⟩)
  | vl l => obtain ⟨a, xs, e, h1, _, h2⟩ := i; subst e; cases h; exact .inl ⟨xs, .of h1, by rw [h2.empty]⟩
  | sq l => obtain ⟨a, xs, e, h1, h2⟩ := i; subst e; cases h; exact .inl ⟨xs, h1.sq, by rw [h2.empty]⟩
  | vd k l => obtain ⟨a, xs, e, h1, _, h2, _⟩ := i; subst e; cases h; exact .inr (.inr ⟨_, h1, by rw [zip_empty h2]⟩)
  | vi c k l => cases h
  | ref n =>
    obtain ⟨a, e, h1⟩ := i
    subst e
    simp only [truD] at h
    split at h
    · rename_i m hm
      cases h
      obtain ⟨xs, h2, h3⟩ := r.at_ n a _ h1 hm
      exact .inl ⟨xs, .of h2, by rw [h3.empty]⟩
    · rename_i ks vs hm
      cases h
      obtain ⟨xs, h2, h3, h4⟩ := r.at_ n a _ h1 hm
      exact .inr (.inr ⟨_, h2, by rw [zip_empty h3]⟩)
    · cases h
end
def mTru (ma : WE) : WT := fun l st Q X => ma l st (fun x s1 => match truD s1 x with
  | some b => Q b s1
  | none => False) X
section
variable {X : Cx} {W : WX} {a b : Expr} {ta tb : TE} {ma mb : WE} {tA tB' : TT} {mA mB : WT} {pos : Pos} {rest : List Expr}
theorem dt_of (ha : DE X W a ta ma) (he : ∀ whole, isTrue a X.env whole = (do let v ← whole; standAt a.pos; holding [v] (truthy v)) := by intro _; rfl) : DT X W a (fun σ H Q => ta σ H fun x H1 => ∃ k, TruV X.K x H1 k ∧ Q k H1) (mTru ma) := by
  refine ⟨pt_truth ha.pe he, ⟨fun l st Q Q' X X' h hX q => ha.ev.mono _ _ _ _ _ _ (fun x s1 q1 => ?_) hX q, fun ρ st H σ l Q r rl h => ?_⟩⟩
  · split at q1
    · exact h _ _ q1
    · exact q1.elim
  · refine ha.ev.bind r rl h (fun _ _ z => z) fun x s1 v ρ1 H1 e1 r1 i1 h1 => ?_
    split at h1
    · rename_i b hb
      exact ⟨b, truD_ok r1 i1 hb, h1.now e1 r1 rfl⟩
    · exact h1.elim
def mAndT (m n : WT) : WT := fun l st Q X => m l st (fun c s1 => if c = true then n l s1 Q X else Q false s1) X
def mOrT (m n : WT) : WT := fun l st Q X => m l st (fun c s1 => if c = true then Q true s1 else n l s1 Q X) X
def mNotT (m : WT) : WT := fun l st Q X => m l st (fun c s1 => Q (!c) s1) X
theorem dw_and1 (ha : DT X W a tA mA) : DW X W (.BoolOp .And [a] pos) tA mA := ⟨pw_and1 ha.pe, ha.ev⟩
theorem dw_or1 (ha : DT X W a tA mA) : DW X W (.BoolOp .Or [a] pos) tA mA := ⟨pw_or1 ha.pe, ha.ev⟩
theorem DW.dt (h : DW X W a tA mA) : DT X W a tA mA := ⟨h.pe.pt, h.ev⟩
theorem ev_and {K : PySem.W.Frag} {mg : Str → Option Value} (ha : EvG K mg rI W tA mA) (hb : EvG K mg rI W tB' mB) : EvG K mg rI W (tAnd tA tB') (mAndT mA mB) where
  mono := fun l st Q Q' X X' h hX q => ha.mono _ _ _ _ _ _ (fun c s1 q1 => by
    cases c with
    | true => exact hb.mono _ _ _ _ _ _ h hX q1
    | false => exact h _ _ q1) hX q
  run := fun ρ st H σ l Q r rl h => by
    refine ha.bind r rl h (fun _ _ z => z) fun c s1 v ρ1 H1 e1 r1 i1 h1 => ?_
    cases i1
    cases c with
    | true => exact hb.bind r1 (rl.mono e1) h1 (fun _ _ z => z.ext e1) fun c s2 v ρ2 H2 e2 r2 i2 h2 => h2.now (e1.trans e2) r2 i2
    | false => exact up.now (R := rI) h1 e1 r1 rfl
theorem ev_or {K : PySem.W.Frag} {mg : Str → Option Value} (ha : EvG K mg rI W tA mA) (hb : EvG K mg rI W tB' mB) : EvG K mg rI W (tOr tA tB') (mOrT mA mB) where
  mono := fun l st Q Q' X X' h hX q => ha.mono _ _ _ _ _ _ (fun c s1 q1 => by
    cases c with
    | false => exact hb.mono _ _ _ _ _ _ h hX q1
    | true => exact h _ _ q1) hX q
  run := fun ρ st H σ l Q r rl h => by
    refine ha.bind r rl h (fun _ _ z => z) fun c s1 v ρ1 H1 e1 r1 i1 h1 => ?_
    cases i1
    cases c with
    | false => exact hb.bind r1 (rl.mono e1) h1 (fun _ _ z => z.ext e1) fun c s2 v ρ2 H2 e2 r2 i2 h2 => h2.now (e1.trans e2) r2 i2
    | true => exact up.now (R := rI) h1 e1 r1 rfl
theorem dw_and (ha : DT X W a tA mA) (hb : DW X W (.BoolOp .And (b :: rest) pos) tB' mB) : DW X W (.BoolOp .And (a :: b :: rest) pos) (tAnd tA tB') (mAndT mA mB) := ⟨pw_and ha.pe hb.pe, ev_and ha.ev hb.ev⟩
theorem dw_or (ha : DT X W a tA mA) (hb : DW X W (.BoolOp .Or (b :: rest) pos) tB' mB) : DW X W (.BoolOp .Or (a :: b :: rest) pos) (tOr tA tB') (mOrT mA mB) := ⟨pw_or ha.pe hb.pe, ev_or ha.ev hb.ev⟩
theorem dt_not (ha : DT X W a tA mA) : DT X W (.UnaryOp .Not a pos) (tNot tA) (mNotT mA) :=
  ⟨pt_not ha.pe, ⟨fun l st Q Q' X X' h hX q => ha.ev.mono _ _ _ _ _ _ (fun c s1 q1 => h _ _ q1) hX q, fun ρ st H σ l Q r rl h => by
    refine ha.ev.bind r rl h (fun _ _ z => z) fun c s1 v ρ1 H1 e1 r1 i1 h1 => ?_
    cases i1
    exact up.now (R := rI) h1 e1 r1 rfl⟩⟩
/-- comparisons as tests -/
theorem dt_cmp {op : CmpOp} {r : R2} {f : D → D → WD} (ho : OpR X (compareOp op) r) (hf : OpM X.K X.mg r f) (ha : DE X W a ta ma) (hb : DE X W b tb mb) (hm : behindInMarks op b = false := by rfl) :
    DT X W (.Compare a [op] [b] pos) (tTest (tOp r ta tb)) (fun l st Q X => mOp f ma mb l st (fun x s1 => match x with
      | .bl k => Q k s1
      | _ => False) X) := by
  have ev := ev_op hf ha.ev hb.ev
  refine ⟨pt_cmpR ho ha.pe hb.pe hm, ⟨fun l st Q Q' X X' h hX q => ev.mono _ _ _ _ _ _ (fun x s1 q1 => ?_) hX q, fun ρ st H σ l Q r rl h => ?_⟩⟩
  · split at q1
    · exact h _ _ q1
    · exact q1.elim
  · refine ev.bind r rl h (fun _ _ z => z) fun x s1 v ρ1 H1 e1 r1 i1 h1 => ?_
    split at h1
    · cases i1
      exact ⟨_, rfl, up.now (R := rI) h1 e1 r1 rfl⟩
    · exact h1.elim
/-! ### and, or, not as values; a if t else b -/
def mAndV (ma mb : WE) : WE := fun l st Q X => ma l st (fun x s1 => match x with
  | .bl true => mb l s1 Q X
  | .bl false => Q (.bl false) s1
  | _ => False) X
def mOrV (ma mb : WE) : WE := fun l st Q X => ma l st (fun x s1 => match x with
  | .bl true => Q (.bl true) s1
  | .bl false => mb l s1 Q X
  | _ => False) X
def mNotV (ma : WE) : WE := fun l st Q X => ma l st (fun x s1 => match x with
  | .bl b => Q (.bl (!b)) s1
  | _ => False) X
theorem de_one {op} {t : TE} {m : WE} (h : DE X W a t m) : DE X W (.BoolOp op [a] pos) t m := ⟨pe_one h.pe, h.ev⟩
theorem de_and (ha : DE X W a ta ma) (hb : DE X W (.BoolOp .And (b :: rest) pos) tb mb) : DE X W (.BoolOp .And (a :: b :: rest) pos) (tAndV ta tb) (mAndV ma mb) := by
  refine ⟨pe_and ha.pe hb.pe, ⟨fun l st Q Q' X X' h hX q => ha.ev.mono _ _ _ _ _ _ (fun x s1 q1 => ?_) hX q, fun ρ st H σ l Q r rl h => ?_⟩⟩
  · split at q1
    · exact hb.ev.mono _ _ _ _ _ _ h hX q1
    · exact h _ _ q1
    · exact q1.elim
  · refine ha.ev.bind r rl h (fun _ _ z => z) fun c s1 v ρ1 H1 e1 r1 i1 h1 => ?_
    split at h1
    · cases i1
      refine ⟨true, rfl, ?_⟩
      rw [if_pos rfl]
      exact hb.ev.bind r1 (rl.mono e1) h1 (fun _ _ z => z.ext e1) fun c s2 v ρ2 H2 e2 r2 i2 h2 => h2.now (e1.trans e2) r2 i2
    · cases i1
      refine ⟨false, rfl, ?_⟩
      rw [if_neg Bool.false_ne_true]
      exact h1.now e1 r1 rfl
    · exact h1.elim
theorem de_or (ha : DE X W a ta ma) (hb : DE X W (.BoolOp .Or (b :: rest) pos) tb mb) : DE X W (.BoolOp .Or (a :: b :: rest) pos) (tOrV ta tb) (mOrV ma mb) := by
  refine ⟨pe_or ha.pe hb.pe, ⟨fun l st Q Q' X X' h hX q => ha.ev.mono _ _ _ _ _ _ (fun x s1 q1 => ?_) hX q, fun ρ st H σ l Q r rl h => ?_⟩⟩
  · split at q1
    · exact h _ _ q1
    · exact hb.ev.mono _ _ _ _ _ _ h hX q1
    · exact q1.elim
  · refine ha.ev.bind r rl h (fun _ _ z => z) fun c s1 v ρ1 H1 e1 r1 i1 h1 => ?_
    split at h1
    · cases i1
      refine ⟨true, rfl, ?_⟩
      rw [if_pos rfl]
      exact h1.now e1 r1 rfl
    · cases i1
      refine ⟨false, rfl, ?_⟩
      rw [if_neg Bool.false_ne_true]
      exact hb.ev.bind r1 (rl.mono e1) h1 (fun _ _ z => z.ext e1) fun c s2 v ρ2 H2 e2 r2 i2 h2 => h2.now (e1.trans e2) r2 i2
    · exact h1.elim
theorem de_not (ha : DE X W a ta ma) : DE X W (.UnaryOp .Not a pos) (tNotV ta) (mNotV ma) := by
  refine ⟨pe_not ha.pe, ⟨fun l st Q Q' X X' h hX q => ha.ev.mono _ _ _ _ _ _ (fun x s1 q1 => ?_) hX q, fun ρ st H σ l Q r rl h => ?_⟩⟩
  · split at q1
    · exact h _ _ q1
    · exact q1.elim
  · refine ha.ev.bind r rl h (fun _ _ z => z) fun c s1 v ρ1 H1 e1 r1 i1 h1 => ?_
    split at h1
    · cases i1
      exact ⟨_, rfl, h1.now e1 r1 rfl⟩
    · exact h1.elim
def mIf (t : WT) (ma mb : WE) : WE := fun l st Q X => t l st (fun c s1 => if c = true then ma l s1 Q X else mb l s1 Q X) X
theorem de_if {c : Expr} (hc : DT X W c tA mA) (ha : DE X W a ta ma) (hb : DE X W b tb mb) : DE X W (.IfExp c a b pos) (tIf tA ta tb) (mIf mA ma mb) := by
  refine ⟨pe_ifExp hc.pe ha.pe hb.pe, ⟨fun l st Q Q' X X' h hX q => hc.ev.mono _ _ _ _ _ _ (fun c s1 q1 => ?_) hX q, fun ρ st H σ l Q r rl h => ?_⟩⟩
  · cases c with
    | true => exact ha.ev.mono _ _ _ _ _ _ h hX q1
    | false => exact hb.ev.mono _ _ _ _ _ _ h hX q1
  · refine hc.ev.bind r rl h (fun _ _ z => z) fun c s1 v ρ1 H1 e1 r1 i1 h1 => ?_
    cases i1
    cases c with
    | true => exact ha.ev.bind r1 (rl.mono e1) h1 (fun _ _ z => z.ext e1) fun c s2 v ρ2 H2 e2 r2 i2 h2 => h2.now (e1.trans e2) r2 i2
    | false => exact hb.ev.bind r1 (rl.mono e1) h1 (fun _ _ z => z.ext e1) fun c s2 v ρ2 H2 e2 r2 i2 h2 => h2.now (e1.trans e2) r2 i2
end
/-! ### argument lists, displays -/
def mNil : WA := fun _ st Q _ => Q [] st
def mCons (me : WE) (mr : WA) : WA := fun l st Q X => me l st (fun x s1 => mr l s1 (fun xs s2 => Q (x :: xs) s2) X) X
def mTup (m : WA) : WE := fun l st Q X => m l st (fun xs s1 => xs.length ≤ sizeLine ∧ Q (.tup xs) s1) X
def mLst (m : WA) : WE := fun l st Q X => m l st (fun xs s1 => xs.length ≤ sizeLine ∧ Q (.vl xs) s1) X
/-- a list that will be changed -/
def mLstR (m : WA) : WE := fun l st Q X => m l st (fun xs s1 => xs.length ≤ sizeLine ∧ Q (.ref s1.length) (s1 ++ [.lst xs])) X
section
variable {X : Cx} {W : WX} {e : Expr} {es : List Expr} {te : TE} {ta : TA} {me : WE} {m : WA} {pos : Pos}
theorem da_nil : DA X W [] tNil mNil := ⟨pa_nil, ⟨fun _ _ _ _ _ _ h _ q => h _ _ q, fun ρ st H σ l Q r rl h => up.now (R := rL X.K X.mg) h (.refl _ _) r rfl⟩⟩
theorem da_cons (he : DE X W e te me) (hr : DA X W es ta m) (hs : starEach (e :: es) X.env = (false, eval e X.env) :: starEach es X.env := by rfl) : DA X W (e :: es) (tCons te ta) (mCons me m) := by
  refine ⟨pa_cons he.pe hr.pe hs, ⟨fun l st Q Q' X X' h hX q => he.ev.mono _ _ _ _ _ _ (fun x s1 q1 => hr.ev.mono _ _ _ _ _ _ (fun xs s2 q2 => h _ _ q2) hX q1) hX q, fun ρ st H σ l Q r rl h => ?_⟩⟩
  refine he.ev.bind r rl h (fun _ _ z => z) fun x s1 v ρ1 H1 e1 r1 i1 h1 => ?_
  refine hr.ev.bind r1 (rl.mono e1) h1 (fun _ _ z => z.ext e1) fun xs s2 vs ρ2 H2 e2 r2 i2 h2 => ?_
  exact up.now (R := rL X.K X.mg) h2 (e1.trans e2) r2 ⟨v, vs, rfl, IsV.mono e2 _ _ i1, i2⟩
theorem de_tup {x1} (h : DA X W es ta m) : DE X W (.Tuple es x1 pos) (tTup ta) (mTup m) := by
  refine ⟨pe_tup h.pe, ⟨fun l st Q Q' X X' k hX q => h.ev.mono _ _ _ _ _ _ (fun x s1 q1 => ⟨q1.1, k _ _ q1.2⟩) hX q, fun ρ st H σ l Q r rl q => ?_⟩⟩
  refine h.ev.bind r rl q (fun _ _ z => z) fun xs s1 vs ρ1 H1 e1 r1 i1 h1 => ⟨by rw [← i1.len]; exact h1.1, fun p hp => ?_⟩
  exact h1.2.now (e1.trans (.new hp)) (r1.new hp) (IsV.newU hp i1)
theorem de_lst (h : DA X W es ta m) : DE X W (.List es pos) (tLst ta) (mLst m) := by
  refine ⟨pe_lst h.pe, ⟨fun l st Q Q' X X' k hX q => h.ev.mono _ _ _ _ _ _ (fun x s1 q1 => ⟨q1.1, k _ _ q1.2⟩) hX q, fun ρ st H σ l Q r rl q => ?_⟩⟩
  refine h.ev.bind r rl q (fun _ _ z => z) fun xs s1 vs ρ1 H1 e1 r1 i1 h1 => ⟨by rw [← i1.len]; exact h1.1, fun p hp => ?_⟩
  exact h1.2.now (e1.trans (.new hp)) (r1.new hp) (IsV.newL r1 hp i1)
theorem de_lstR (h : DA X W es ta m) : DE X W (.List es pos) (tLst ta) (mLstR m) := by
  refine ⟨pe_lst h.pe, ⟨fun l st Q Q' X X' k hX q => h.ev.mono _ _ _ _ _ _ (fun x s1 q1 => ⟨q1.1, k _ _ q1.2⟩) hX q, fun ρ st H σ l Q r rl q => ?_⟩⟩
  refine h.ev.bind r rl q (fun _ _ z => z) fun xs s1 vs ρ1 H1 e1 r1 i1 h1 => ⟨by rw [← i1.len]; exact h1.1, fun p hp => ?_⟩
  exact h1.2.now (e1.trans (.newR hp)) (r1.newR hp ⟨vs, upd_same, IsL.mono (.newR hp) _ _ i1⟩) ⟨p, rfl, by rw [← r1.len]; simp [Rh.add]⟩
end
end Mir

set_option Elab.async false
set_option linter.all false
set_option maxRecDepth 100000
set_option maxHeartbeats 1000000
/-! Mir3: subscripts, slices, equality, membership, calls. -/
namespace Mir
open PySem PySem.Spec PyProof.Rows L2
section
variable {K : PySem.W.Frag} {mg : Str → Option Value} {ρ : Rh} {st : Sto} {H : Hp}
/-! ### subscripts -/
theorem IsL.atI {l : List D} {xs : List V} {i : Int} {d : D} (h : IsL K mg ρ H l xs) (e : atI l i = some d) : ∃ x, atI xs i = some x ∧ IsV K mg ρ H d x := by
  unfold L2.atI at *
  rw [← h.len]
  cases q : ixN l.length i with
  | none => rw [q] at e; cases e
  | some j =>
    rw [q] at e
    exact h.get e
end
def ixD (x y : D) : WD := fun st Q _ => match y with
  | .int i => match x with
    | .str z => z.length ≤ sizeLine ∧ (match atI z.cps.toList i with
      | some c => Q (.str ⟨#[c]⟩) st
      | none => False)
    | x => match seqA st x with
      | some l => (match atI l i with
        | some d => Q d st
        | none => False)
      | none => False
  | _ => False
theorem opm_ix {K : PySem.W.Frag} {mg : Str → Option Value} : OpM K mg (rIx K) ixD where
  mono := fun x y st Q Q' X X' h _ q => by
    unfold ixD at *
    split at q
    · split at q
      · refine ⟨q.1, ?_⟩
        have q2 := q.2
        split at q2
        · exact h _ _ q2
        · exact q2.elim
      · split at q
        · split at q
          · exact h _ _ q
          · exact q.elim
        · exact q.elim
    · exact q.elim
  run := fun ρ st H x y v u Q X r ix iy h => by
    unfold ixD at h
    split at h
    · rename_i i
      cases iy
      split at h
      · rename_i z
        cases ix
        obtain ⟨hz, h⟩ := h
        split at h
        · rename_i c hc
          exact .inr (.inr ⟨z, i, c, rfl, rfl, hz, hc, h.now (.refl _ _) r rfl⟩)
        · exact h.elim
      · split at h
        · rename_i l hl
          split at h
          · rename_i d hd
            obtain ⟨a, xs, rfl, h1, h2⟩ := seqA.at_ r ix hl
            obtain ⟨w, e1, e2⟩ := h2.atI hd
            rcases h1 with h1 | h1
            · exact .inl ⟨a, xs, i, w, rfl, rfl, h1, e1, h.now (.refl _ _) r e2⟩
            · exact .inr (.inl ⟨a, xs, i, w, rfl, rfl, h1, e1, h.now (.refl _ _) r e2⟩)
          · exact h.elim
        · exact h.elim
    · exact h.elim
section
variable {X : Cx} {W : WX} {a b : Expr} {ta tb : TE} {ma mb : WE} {pos : Pos}
theorem de_ix (ha : DE X W a ta ma) (hb : DE X W b tb mb) (hs : PlainIx b := by exact fun _ _ => rfl) : DE X W (.Subscript a b pos) (tOp (rIx X.K) ta tb) (mOp ixD ma mb) :=
  ⟨pe_ix ix_seq ha.pe hb.pe hs, ev_op opm_ix ha.ev hb.ev⟩
end
/-! ### slices -/
def mNoPart : WO := fun _ st Q _ => Q none st
def mPart (m : WE) : WO := fun l st Q X => m l st (fun x s1 => match x with
  | .int i => Q (some i) s1
  | _ => False) X
section
variable {X : Cx} {W : WX} {a b : Expr} {ta tb : TE} {ma mb : WE} {pos : Pos}
theorem do_none : DO X W none tNoPart mNoPart := ⟨po_none, ⟨fun _ _ _ _ _ _ h _ q => h _ _ q, fun ρ st H σ l Q r rl h => up.now (R := rI) h (.refl _ _) r rfl⟩⟩
theorem do_some (ha : DE X W a ta ma) : DO X W (some a) (tPart ta) (mPart ma) := by
  refine ⟨po_some ha.pe, ⟨fun l st Q Q' X X' h hX q => ha.ev.mono _ _ _ _ _ _ (fun x s1 q1 => ?_) hX q, fun ρ st H σ l Q r rl h => ?_⟩⟩
  · split at q1
    · exact h _ _ q1
    · exact q1.elim
  · refine ha.ev.bind r rl h (fun _ _ z => z) fun x s1 v ρ1 H1 e1 r1 i1 h1 => ?_
    split at h1
    · cases i1
      exact ⟨_, rfl, up.now (R := rI) h1 e1 r1 rfl⟩
    · exact h1.elim
end
def cutD (l : List D) (lo hi : Option Int) : List D := (l.drop (HT.sIx l.length 0 lo)).take (HT.sIx l.length l.length hi - HT.sIx l.length 0 lo)
theorem IsL.cut {K : PySem.W.Frag} {mg : Str → Option Value} {ρ : Rh} {H : Hp} {l : List D} {xs : List V} (h : IsL K mg ρ H l xs) (lo hi : Option Int) : IsL K mg ρ H (cutD l lo hi) (cutV xs lo hi) := by
  unfold cutD cutV
  rw [h.len]
  exact (h.drop _).take _
/-- any slice by ones -/
def slD (x : D) (lo hi : Option Int) : WD := fun st Q _ => match x with
  | .str z => z.length ≤ sizeLine ∧ Q (.str (cutS z lo hi)) st
  | .tup l => Q (.tup (cutD l lo hi)) st
  | x => match lstA st x with
    | some l => Q (.vl (cutD l lo hi)) st
    | none => False
def mSl (me : WE) (ml mh : WO) : WE := fun l st Q X => me l st (fun x s1 => ml l s1 (fun lo s2 => mh l s2 (fun hi s3 => slD x lo hi s3 Q X) X) X) X
theorem slD.mono (x : D) (lo hi : Option Int) : MonoD (slD x lo hi) := fun st Q Q' X X' h _ q => by
  unfold slD at *
  split at q
  · exact ⟨q.1, h _ _ q.2⟩
  · exact h _ _ q
  · split at q
    · exact h _ _ q
    · exact q.elim
abbrev rSlAny (K : PySem.W.Frag) : V → Option Int → Option Int → Hp → VK → Prop := fun x lo hi H Q => rSlS x lo hi H Q ∨ rSlA K x lo hi H Q ∨ rSlL K x lo hi H Q
theorem sl_any {X : Cx} : SlR X (rSlAny X.K) := SlR.or sl_str (SlR.or sl_tupA sl_list)
theorem slD.run {K : PySem.W.Frag} {mg : Str → Option Value} {ρ : Rh} {st : Sto} {H : Hp} {x : D} {v : V} {lo hi : Option Int} {Q : VK} {X : QX} (r : Rel K mg ρ st H) (ix : IsV K mg ρ H x v) (h : slD x lo hi st (up K mg (rV K mg) ρ H Q) X) : rSlAny K v lo hi H Q := by
  unfold slD at h
  split at h
  · cases ix
    exact .inl ⟨_, rfl, h.1, h.2.now (.refl _ _) r rfl⟩
  · obtain ⟨a, xs, rfl, h1, h2⟩ := ix
    refine .inr (.inl ⟨a, xs, rfl, h1, fun e => ?_, fun _ p hp => ?_⟩)
    · refine h.now (.refl _ _) r ⟨a, xs, rfl, h1, ?_⟩
      have q := h2.cut lo hi
      have e2 : cutV xs lo hi = xs := by
        unfold cutV
        rw [e.1, e.2]
        simp
      rw [e2] at q
      exact q
    · exact h.now (.new hp) (r.new hp) (IsV.newU hp (h2.cut lo hi))
  · split at h
    · rename_i l hl
      obtain ⟨a, xs, rfl, h1, h2⟩ := lstA.at_ r ix hl
      exact .inr (.inr ⟨a, xs, rfl, h1, fun p hp => h.now (.new hp) (r.new hp) (IsV.newL r hp (h2.cut lo hi))⟩)
    · exact h.elim
section
variable {X : Cx} {W : WX} {a b : Expr} {lo hi : Option Expr} {ta tb : TE} {tl th : TO} {ma mb : WE} {ml mh : WO} {pos p2 : Pos}
theorem de_sl (ha : DE X W a ta ma) (hl : DO X W lo tl ml) (hh : DO X W hi th mh) : DE X W (.Subscript a (.Slice lo hi none p2) pos) (tSl (rSlAny X.K) ta tl th) (mSl ma ml mh) := by
  refine ⟨pe_slice sl_any ha.pe hl.pe hh.pe, ⟨fun l st Q Q' X X' h hX q => ha.ev.mono _ _ _ _ _ _ (fun x s1 q1 => hl.ev.mono _ _ _ _ _ _ (fun lo s2 q2 => hh.ev.mono _ _ _ _ _ _ (fun hi s3 q3 => slD.mono _ _ _ _ _ _ _ _ h hX q3) hX q2) hX q1) hX q, fun ρ st H σ l Q r rl h => ?_⟩⟩
  refine ha.ev.bind r rl h (fun _ _ z => z) fun x s1 v ρ1 H1 e1 r1 i1 h1 => ?_
  refine hl.ev.bind r1 (rl.mono e1) h1 (fun _ _ z => z.ext e1) fun lo s2 lo' ρ2 H2 e2 r2 i2 h2 => ?_
  refine hh.ev.bind r2 (rl.mono (e1.trans e2)) h2 (fun _ _ z => z.ext (e1.trans e2)) fun hi s3 hi' ρ3 H3 e3 r3 i3 h3 => ?_
  cases i2
  cases i3
  exact slD.run r3 (IsV.mono (e2.trans e3) _ _ i1) (slD.mono _ _ _ _ _ _ _ _ (fun d s z => z.ext ((e1.trans e2).trans e3)) (fun _ _ z => z) h3)
/-- xs[::-1] of a list -/
def mRev (ma : WE) : WE := fun l st Q X => ma l st (fun x s1 => match lstA s1 x with
  | some l => Q (.vl l.reverse) s1
  | none => False) X
theorem de_rev {k : Nat} {p1 p2 p3 : Pos} (ha : DE X W a ta ma) : DE X W (.Subscript a (.Slice none none (some (.UnaryOp .USub (.Constant (.int 1) k p1) p2)) p3) pos) (tRevL X.K ta) (mRev ma) := by
  refine ⟨pe_revL ha.pe, ⟨fun l st Q Q' X X' h hX q => ha.ev.mono _ _ _ _ _ _ (fun x s1 q1 => ?_) hX q, fun ρ st H σ l Q r rl h => ?_⟩⟩
  · split at q1
    · exact h _ _ q1
    · exact q1.elim
  · refine ha.ev.bind r rl h (fun _ _ z => z) fun x s1 v ρ1 H1 e1 r1 i1 h1 => ?_
    split at h1
    · rename_i m hm
      obtain ⟨b, xs, rfl, h2, h3⟩ := lstA.at_ r1 i1 hm
      exact ⟨b, xs, rfl, h2, fun p hp => h1.now (e1.trans (.new hp)) (r1.new hp) (IsV.newL r1 hp h3.reverse)⟩
    · exact h1.elim
/-- -e -/
theorem de_neg (ha : DE X W a ta ma) : DE X W (.UnaryOp .USub a pos) (tUn (rU fun i => .int (-i)) ta) (fun l st Q X => ma l st (fun x s1 => match x with
    | .int i => Q (.int (-i)) s1
    | _ => False) X) := by
  refine ⟨pe_un un_neg ha.pe, ⟨fun l st Q Q' X X' h hX q => ha.ev.mono _ _ _ _ _ _ (fun x s1 q1 => ?_) hX q, fun ρ st H σ l Q r rl h => ?_⟩⟩
  · split at q1
    · exact h _ _ q1
    · exact q1.elim
  · refine ha.ev.bind r rl h (fun _ _ z => z) fun x s1 v ρ1 H1 e1 r1 i1 h1 => ?_
    split at h1
    · cases i1
      exact ⟨_, rfl, h1.now e1 r1 rfl⟩
    · exact h1.elim
end
/-! ### equality -/
mutual
def pyD : D → Option PyData
  | .non => some .none
  | .bl b => some (.bool b)
  | .int i => some (.int i)
  | .str s => some (.str s)
  | .tup l => (pyL l).map .tuple
  | .vl l => (pyL l).map .list
  | .sq l => (pyL l).map .list
  | .vd _ _ => none
  | .vi _ _ _ => none
  | .ref _ => none
def pyL : List D → Option (List PyData)
  | [] => some []
  | d :: l => match pyD d, pyL l with
    | some x, some xs => some (x :: xs)
    | _, _ => none
end
/-- a list of the store at the top -/
def pyA (st : Sto) : D → Option PyData
  | .ref n => match st[n]? with
    | some (.lst l) => (pyL l).map .list
    | _ => none
  | d => pyD d
section
variable {K : PySem.W.Frag} {mg : Str → Option Value} {ρ : Rh} {st : Sto} {H : Hp}
mutual
theorem pyD_ok : ∀ {d : D} {v : V} {p : PyData}, IsV K mg ρ H d v → pyD d = some p → Dp K H v p
  | .non, _, _, i, h => by cases i; cases h; exact .non
  | .bl b, _, _, i, h => by cases i; cases h; exact .bl b
  | .int b, _, _, i, h => by cases i; cases h; exact .int b
  | .str b, _, _, i, h => by cases i; cases h; exact .str b
  | .tup l, _, _, i, h => by
    obtain ⟨a, xs, rfl, h1, h2⟩ := i
    simp only [pyD, Option.map_eq_some_iff] at h
    obtain ⟨ps, h3, rfl⟩ := h
    exact .tup h1 (pyL_ok h2 h3)
  | .vl l, _, _, i, h => by
    obtain ⟨a, xs, rfl, h1, _, h2⟩ := i
    simp only [pyD, Option.map_eq_some_iff] at h
    obtain ⟨ps, h3, rfl⟩ := h
    exact .lst (.of h1) (pyL_ok h2 h3)
  | .sq l, _, _, i, h => by
    obtain ⟨a, xs, rfl, h1, h2⟩ := i
    simp only [pyD, Option.map_eq_some_iff] at h
    obtain ⟨ps, h3, rfl⟩ := h
    exact .lst h1.sq (pyL_ok h2 h3)
  | .vd _ _, _, _, _, h => by simp [pyD] at h
  | .vi _ _ _, _, _, _, h => by simp [pyD] at h
  | .ref _, _, _, _, h => by simp [pyD] at h
theorem pyL_ok : ∀ {l : List D} {xs : List V} {ps : List PyData}, IsL K mg ρ H l xs → pyL l = some ps → DpAll K H xs ps
  | [], _, _, i, h => by
    cases i
    simp only [pyL] at h
    cases h
    exact .nil
  | d :: l, _, _, i, h => by
    obtain ⟨x, r, rfl, i1, i2⟩ := i
    simp only [pyL] at h
    split at h
    · rename_i p ps e1 e2
      cases h
      exact .cons (pyD_ok i1 e1) (pyL_ok i2 e2)
    · cases h
end
theorem pyA_ok {d : D} {v : V} {p : PyData} (r : Rel K mg ρ st H) (i : IsV K mg ρ H d v) (h : pyA st d = some p) : Dp K H v p := by
  cases d with
  | ref n =>
    obtain ⟨a, rfl, h1⟩ := i
    simp only [pyA] at h
    split at h
    · rename_i l hl
      obtain ⟨xs, h2, h3⟩ := r.at_ n a _ h1 hl
      simp only [Option.map_eq_some_iff] at h
      obtain ⟨ps, h4, rfl⟩ := h
      exact .lst (.of h2) (pyL_ok h3 h4)
    · cases h
  | _ => exact pyD_ok i h
end
/-- scalars of one kind, None, texts beside numbers -/
def sEq : D → D → Option Bool
  | .non, .non => some true
  | .int i, .int j => some (decide (i = j))
  | .str i, .str j => some (decide (i = j))
  | .bl i, .bl j => some (decide (i = j))
  | .non, .int _ => some false
  | .int _, .non => some false
  | .non, .bl _ => some false
  | .bl _, .non => some false
  | .non, .str _ => some false
  | .str _, .non => some false
  | .int _, .str _ => some false
  | .str _, .int _ => some false
  | .bl _, .str _ => some false
  | .str _, .bl _ => some false
  | _, _ => none
def eqD (neg : Bool) (x y : D) : WD := fun st Q _ => match sEq x y with
  | some b => Q (.bl (if neg then !b else b)) st
  | none => match pyA st x, pyA st y with
    | some p, some q => SeqAt.shaped p = true ∧ SeqAt.shaped q = true ∧ Q (.bl (if neg then !PyData.eqv p q else PyData.eqv p q)) st
    | _, _ => False
theorem sEq_ok {K : PySem.W.Frag} {mg : Str → Option Value} {ρ : Rh} {H : Hp} {x y : D} {v u : V} {b : Bool} (ix : IsV K mg ρ H x v) (iy : IsV K mg ρ H y u) (h : sEq x y = some b) : scal v u = true ∧ decide (v = u) = b := by
  unfold sEq at h
  split at h <;> first
    | (cases h; cases ix; cases iy; exact ⟨rfl, by simp⟩)
    | (cases h)
theorem opm_eq {K : PySem.W.Frag} {mg : Str → Option Value} : OpM K mg (fun x y H Q => rEq x y H Q ∨ rEqD K x y H Q) (eqD false) where
  mono := fun x y st Q Q' X X' h _ q => by
    unfold eqD at *
    split at q
    · exact h _ _ q
    · split at q
      · exact ⟨q.1, q.2.1, h _ _ q.2.2⟩
      · exact q.elim
  run := fun ρ st H x y v u Q X r ix iy h => by
    unfold eqD at h
    split at h
    · rename_i b hb
      obtain ⟨h1, h2⟩ := sEq_ok ix iy hb
      exact .inl ⟨h1, by rw [h2]; exact h.now (.refl _ _) r rfl⟩
    · split at h
      · rename_i p q hp hq
        exact .inr ⟨p, q, pyA_ok r ix hp, pyA_ok r iy hq, h.1, h.2.1, h.2.2.now (.refl _ _) r rfl⟩
      · exact h.elim
theorem opm_ne {K : PySem.W.Frag} {mg : Str → Option Value} : OpM K mg (fun x y H Q => rNe x y H Q ∨ rNeD K x y H Q) (eqD true) where
  mono := fun x y st Q Q' X X' h _ q => by
    unfold eqD at *
    split at q
    · exact h _ _ q
    · split at q
      · exact ⟨q.1, q.2.1, h _ _ q.2.2⟩
      · exact q.elim
  run := fun ρ st H x y v u Q X r ix iy h => by
    unfold eqD at h
    split at h
    · rename_i b hb
      obtain ⟨h1, h2⟩ := sEq_ok ix iy hb
      exact .inl ⟨h1, by rw [h2]; exact h.now (.refl _ _) r rfl⟩
    · split at h
      · rename_i p q hp hq
        exact .inr ⟨p, q, pyA_ok r ix hp, pyA_ok r iy hq, h.1, h.2.1, h.2.2.now (.refl _ _) r rfl⟩
      · exact h.elim
section
variable {X : Cx} {W : WX} {a b : Expr} {ta tb : TE} {ma mb : WE} {pos : Pos} {k : Nat}
theorem de_eq (hr : Room k X.A) (ha : DE X W a ta ma) (hb : DE X W b tb mb) : DE X W (.Compare a [.Eq] [b] pos) (tOp (fun x y H Q => rEq x y H Q ∨ rEqD X.K x y H Q) ta tb) (mOp (eqD false) ma mb) := de_cmp (OpR.or op_eq (op_eqD hr.units)) opm_eq ha hb (nomark _)
theorem de_ne (hr : Room k X.A) (ha : DE X W a ta ma) (hb : DE X W b tb mb) : DE X W (.Compare a [.NotEq] [b] pos) (tOp (fun x y H Q => rNe x y H Q ∨ rNeD X.K x y H Q) ta tb) (mOp (eqD true) ma mb) := de_cmp (OpR.or op_ne (op_neD hr.units)) opm_ne ha hb (nomark _)
end
/-! ### membership -/
def flatD : D → Bool
  | .non => true
  | .bl _ => true
  | .int _ => true
  | .str _ => true
  | _ => false
/-- == of flat data -/
def feq : D → D → Bool
  | .non, .non => true
  | .bl a, .bl b => a == b
  | .bl a, .int b => (if a then 1 else 0) == b
  | .int a, .bl b => a == (if b then 1 else 0)
  | .int a, .int b => a == b
  | .str a, .str b => a == b
  | _, _ => false
section
variable {K : PySem.W.Frag} {mg : Str → Option Value} {ρ : Rh} {st : Sto} {H : Hp}
theorem flatD_ok {d : D} {v : V} (i : IsV K mg ρ H d v) (h : flatD d = true) : flatV v = true := by
  cases d <;> first
    | (cases i; rfl)
    | (cases h)
theorem feq_ok {d e : D} {v u : V} (i : IsV K mg ρ H d v) (j : IsV K mg ρ H e u) (h : flatD d = true) (h' : flatD e = true) : eqV v u = feq d e := by
  cases d <;> first
    | (cases h; done)
    | (cases e <;> first
      | (cases h'; done)
      | (cases i; cases j; rfl))
theorem flatAll_ok : ∀ {l : List D} {xs : List V}, IsL K mg ρ H l xs → l.all flatD = true → xs.all flatV = true
  | [], _, i, _ => by cases i; rfl
  | d :: l, _, i, h => by
    obtain ⟨x, r, rfl, i1, i2⟩ := i
    rw [List.all_cons, Bool.and_eq_true] at h
    rw [List.all_cons, flatD_ok i1 h.1, flatAll_ok i2 h.2]
    rfl
theorem inV_ok {d : D} {v : V} (i : IsV K mg ρ H d v) (hd : flatD d = true) : ∀ {l : List D} {xs : List V}, IsL K mg ρ H l xs → l.all flatD = true → inV v xs = l.any fun e => feq e d
  | [], _, j, _ => by cases j; rfl
  | e :: l, _, j, h => by
    obtain ⟨x, r, rfl, i1, i2⟩ := j
    rw [List.all_cons, Bool.and_eq_true] at h
    have ih := inV_ok i hd i2 h.2
    unfold inV at *
    rw [List.any_cons, List.any_cons, ih, feq_ok i1 i h.1 hd]
end
/-- x in y: a sign in a text, a flat thing in a list or tuple of flat things, data in a list of data -/
def inD (neg : Bool) (x y : D) : WD := fun st Q _ => match x, y with
  | .str s, .str z => ∃ c, s = ⟨#[c]⟩ ∧ Q (.bl (if neg then !decide (c ∈ z.cps.toList) else decide (c ∈ z.cps.toList))) st
  | x, y => match seqA st y with
    | some l => if flatD x && l.all flatD then Q (.bl (if neg then !(l.any fun e => feq e x) else l.any fun e => feq e x)) st
      else match lstA st y, pyA st x, pyL l with
        | some _, some p, some ps => SeqAt.shaped p = true ∧ SeqAt.shaped (.list ps) = true ∧ Q (.bl (if neg then !(ps.any fun z => PyData.eqv z p) else ps.any fun z => PyData.eqv z p)) st
        | _, _, _ => False
    | none => False
theorem inD.mono (neg : Bool) (x y : D) : MonoD (inD neg x y) := fun st Q Q' X X' h _ q => by
  unfold inD at *
  split at q
  · obtain ⟨c, e, q⟩ := q
    exact ⟨c, e, h _ _ q⟩
  · split at q
    · split at q
      · rename_i hf
        rw [if_pos hf]
        exact h _ _ q
      · rename_i hf
        rw [if_neg hf]
        split at q
        · exact ⟨q.1, q.2.1, h _ _ q.2.2⟩
        · exact q.elim
    · exact q.elim
theorem inD.list {st : Sto} {y : D} {l m : List D} (h : seqA st y = some l) (h' : lstA st y = some m) : l = m := by
  cases y <;> simp_all [seqA, lstA, lstT]
abbrev rInAny (K : PySem.W.Frag) : R2 := fun x y H Q => (∃ (c : Nat) (z : Str), x = .str ⟨#[c]⟩ ∧ y = .str z ∧ Q (.bl (decide (c ∈ z.cps.toList))) H) ∨ rIn K false x y H Q ∨ rInD K x y H Q
abbrev rNiAny (K : PySem.W.Frag) : R2 := fun x y H Q => (∃ (c : Nat) (z : Str), x = .str ⟨#[c]⟩ ∧ y = .str z ∧ Q (.bl (!decide (c ∈ z.cps.toList))) H) ∨ rIn K true x y H Q ∨ rNotInD K x y H Q
theorem opm_in {K : PySem.W.Frag} {mg : Str → Option Value} : OpM K mg (rInAny K) (inD false) where
  mono := inD.mono false
  run := fun ρ st H x y v u Q X r ix iy h => by
    unfold inD at h
    split at h
    · obtain ⟨c, rfl, h⟩ := h
      cases ix; cases iy
      exact .inl ⟨c, _, rfl, rfl, h.now (.refl _ _) r rfl⟩
    · split at h
      · rename_i l hl
        obtain ⟨a, xs, rfl, h1, h2⟩ := seqA.at_ r iy hl
        split at h
        · rename_i hf
          rw [Bool.and_eq_true] at hf
          refine .inr (.inl ⟨a, xs, rfl, h1, flatD_ok ix hf.1, flatAll_ok h2 hf.2, ?_⟩)
          rw [inV_ok ix hf.1 h2 hf.2]
          exact h.now (.refl _ _) r rfl
        · split at h
          · rename_i m p ps hm hp hps
            have e := inD.list hl hm
            subst e
            obtain ⟨b, ys, e, h3, h4⟩ := lstA.at_ r iy hm
            cases e
            exact .inr (.inr ⟨p, ps, pyA_ok r ix hp, .lst h3 (pyL_ok h4 hps), h.1, h.2.1, h.2.2.now (.refl _ _) r rfl⟩)
          · exact h.elim
      · exact h.elim
theorem opm_ni {K : PySem.W.Frag} {mg : Str → Option Value} : OpM K mg (rNiAny K) (inD true) where
  mono := inD.mono true
  run := fun ρ st H x y v u Q X r ix iy h => by
    unfold inD at h
    split at h
    · obtain ⟨c, rfl, h⟩ := h
      cases ix; cases iy
      exact .inl ⟨c, _, rfl, rfl, h.now (.refl _ _) r rfl⟩
    · split at h
      · rename_i l hl
        obtain ⟨a, xs, rfl, h1, h2⟩ := seqA.at_ r iy hl
        split at h
        · rename_i hf
          rw [Bool.and_eq_true] at hf
          refine .inr (.inl ⟨a, xs, rfl, h1, flatD_ok ix hf.1, flatAll_ok h2 hf.2, ?_⟩)
          rw [inV_ok ix hf.1 h2 hf.2]
          exact h.now (.refl _ _) r rfl
        · split at h
          · rename_i m p ps hm hp hps
            have e := inD.list hl hm
            subst e
            obtain ⟨b, ys, e, h3, h4⟩ := lstA.at_ r iy hm
            cases e
            exact .inr (.inr ⟨p, ps, pyA_ok r ix hp, .lst h3 (pyL_ok h4 hps), h.1, h.2.1, h.2.2.now (.refl _ _) r rfl⟩)
          · exact h.elim
      · exact h.elim
section
variable {X : Cx} {W : WX} {a b : Expr} {ta tb : TE} {ma mb : WE} {pos : Pos} {k : Nat}
theorem Room.u65 {A : Around} (r : Room k A) : A.units + 65 < cLine := by have := r.un; omega
theorem de_in (hr : Room k X.A) (ha : DE X W a ta ma) (hb : DE X W b tb mb) (hm : behindInMarks .In b = false := by rfl) : DE X W (.Compare a [.In] [b] pos) (tOp (rInAny X.K) ta tb) (mOp (inD false) ma mb) :=
  de_cmp (OpR.or op_in_sign (OpR.or op_in_seq (op_inD (Room.u65 hr)))) opm_in ha hb hm
theorem de_ni (hr : Room k X.A) (ha : DE X W a ta ma) (hb : DE X W b tb mb) (hm : behindInMarks .NotIn b = false := by rfl) : DE X W (.Compare a [.NotIn] [b] pos) (tOp (rNiAny X.K) ta tb) (mOp (inD true) ma mb) :=
  de_cmp (OpR.or op_notIn_sign (OpR.or op_notIn_seq (op_notInD (Room.u65 hr)))) opm_ni ha hb hm
end
/-! ### built-ins by values -/
structure CallM (K : PySem.W.Frag) (mg : Str → Option Value) (r : List V → Hp → VK → Prop) (f : List D → WD) : Prop where
  mono : ∀ xs, MonoD (f xs)
  run : ∀ ρ st H xs vs Q X, Rel K mg ρ st H → IsL K mg ρ H xs vs → f xs st (up K mg (rV K mg) ρ H Q) X → r vs H Q
def mCB (f : List D → WD) (ma : WA) : WE := fun l st Q X => ma l st (fun xs s1 => f xs s1 Q X) X
theorem ev_cb {K : PySem.W.Frag} {mg : Str → Option Value} {W : WX} {r : List V → Hp → VK → Prop} {f : List D → WD} {ta : TA} {ma : WA} (hf : CallM K mg r f) (ha : EvG K mg (rL K mg) W ta ma) : EvG K mg (rV K mg) W (tCB r ta) (mCB f ma) where
  mono := fun l st Q Q' X X' h hX q => ha.mono _ _ _ _ _ _ (fun x s1 q1 => hf.mono _ _ _ _ _ _ h hX q1) hX q
  run := fun ρ st H σ l Q r rl h => by
    refine ha.bind r rl h (fun _ _ z => z) fun xs s1 vs ρ1 H1 e1 r1 i1 h1 => ?_
    exact hf.run ρ1 s1 H1 xs vs Q _ r1 i1 (hf.mono _ _ _ _ _ _ (fun d s z => z.ext e1) (fun _ _ z => z) h1)
section
variable {X : Cx} {W : WX} {e : Expr} {es : List Expr} {ta : TA} {ma : WA} {x : Str} {p pos : Pos} {r : List V → Hp → VK → Prop} {f : List D → WD}
theorem de_callB {id : String} (hc : CallR X (.builtin id) r) (hf : CallM X.K X.mg r f) (hm : X.mg x = none) (hv : bootBuiltins x = some (.builtin id)) (ha : DA X W (e :: es) ta ma) (hg : Gl X x := by rfl) (hn : x ≠ "__name__" := by decide) (hdb : (x == ("__debug__" : Str)) = false := by decide)
    (he : starEach (e :: es) X.env = (false, eval e X.env) :: starEach es X.env := by rfl) (hpl : (backTo pos (starEach es X.env)).any (·.1) = false := by rfl) : DE X W (.Call (.Name x p) (e :: es) [] pos) (tCB r ta) (mCB f ma) :=
  ⟨pe_callB hc hg hm hv ha.pe hn hdb he hpl, ev_cb hf ha.ev⟩
theorem de_callTy {T : String} (hc : CallR X (.type T) r) (hf : CallM X.K X.mg r f) (hm : X.mg x = none) (hv : bootBuiltins x = some (.type T)) (ha : DA X W (e :: es) ta ma) (hg : Gl X x := by rfl) (hn : x ≠ "__name__" := by decide) (hdb : (x == ("__debug__" : Str)) = false := by decide)
    (he : starEach (e :: es) X.env = (false, eval e X.env) :: starEach es X.env := by rfl) (hpl : (backTo pos (starEach es X.env)).any (·.1) = false := by rfl) : DE X W (.Call (.Name x p) (e :: es) [] pos) (tCB r ta) (mCB f ma) :=
  ⟨pe_callTy hc hg hm hv ha.pe hn hdb he hpl, ev_cb hf ha.ev⟩
end
end Mir

set_option Elab.async false
set_option linter.all false
set_option maxRecDepth 100000
set_option maxHeartbeats 2000000
/-! MirE: what is walked: enumerate of a tuple; any of list, tuple, text. -/
namespace PySem
open AutoSeq1 (wpAny_loadPart')
theorem meets_enumerate_new1 {v : Value} {o : Obj} {H : Heap → Prop} (B : Begins v o H) :
    Meets (Builtin.«enumerate.__new__» ⟨[.type "enumerate", v], []⟩) (fun _ R s => H s.heap ∧
      R (.ok (.ret (.ref (s.heap.push o).objs.size))) { s with heap := (s.heap.push o).push { cls := .type "enumerate", data := .fields #[.none, .bool false, .ref s.heap.objs.size, rawInt 0, .none, .none] } }) :=
  .of_wp fun prog w A R s h => by
    obtain ⟨hp, g, d, tk, os⟩ := s; obtain ⟨h1, h⟩ := h
    have hsub := sub_enumerate
    have q1 : ∀ {A' : Around} {E : Value → Shared → Prop} {Q : Value → Shared → Prop}, Q (.ref hp.objs.size) ⟨hp.push o, g, d, tk, os⟩ → wpAny (model prog w) A' (pyIter v) Q E ⟨hp, g, d, tk, os⟩ :=
      fun q => B.iter prog w _ _ ⟨hp, g, d, tk, os⟩ _ h1 q
    wp_walk using q1
    refine wpAny_stack_any fun st => wpAny_pure ?_
    split
    · rename_i c _ _ _ _ _
      cases (c == Value.type "enumerate")
      · wp_walk using q1
        exact ⟨_, rfl, h⟩
      · wp_walk using q1
        exact ⟨_, rfl, h⟩
    · wp_walk using q1
      exact ⟨_, rfl, h⟩
theorem enum_begins1 {prog : Program} {w : World} {A : Around} {E : Value → Shared → Prop} {s : Shared} {v : Value} {o : Obj} {H : Heap → Prop} {Q : Value → Shared → Prop} (B : Begins v o H) (h1 : H s.heap)
    (h : ∀ h', IsEnum h' (s.heap.objs.size + 1) s.heap.objs.size 0 .none → h'.get? s.heap.objs.size = some o → h'.objs.size = s.heap.objs.size + 2 →
      (∀ b o, s.heap.get? b = some o → h'.get? b = some o) → Q (.ref (s.heap.objs.size + 1)) { s with heap := h' }) :
    wpAny (model prog w) A (call (.type "enumerate") [v]) Q E s := by
  refine callType_new F.called_enumerate (by decide) (F.typeCall_enumerate_1 _) (F.newCall_enumerate_1 _) (fun obj => F.args_object_init_2 obj _) F.entry_enumerate_new
    (meets_enumerate_new1 B) ⟨h1, ?_⟩
  have hz : (s.heap.push o).objs.size = s.heap.objs.size + 1 := Heap.size_push ..
  show _ ∧ _
  rw [hz]
  have he : IsEnum ((s.heap.push o).push { cls := .type "enumerate", data := .fields #[.none, .bool false, .ref s.heap.objs.size, rawInt 0, .none, .none] }) (s.heap.objs.size + 1) s.heap.objs.size 0 .none := by
    have := Heap.get?_push_size (s.heap.push o) (o := { cls := .type "enumerate", data := .fields #[.none, .bool false, .ref s.heap.objs.size, rawInt 0, .none, .none] }) rfl
    rw [hz] at this; exact this
  refine ⟨⟨_, he, rfl⟩, h _ he (Heap.get?_push_of_some _ (Heap.get?_push_size _ B.free)) (by rw [Heap.size_push, hz]) fun b o x => Heap.get?_push_of_some _ (Heap.get?_push_of_some _ x)⟩
end PySem
namespace Mir
open PySem PySem.Spec PyProof.Rows L2
/-- the tuple at a, each item in a new pair -/
def IteT (K : PySem.W.Frag) (a : Addr) : It :=
  ⟨fun i H => ∃ (xs : List V) (x : V), SqT K H a xs ∧ xs[i]? = some x, fun i H v H' => ∃ T x, v = .ref T ∧ H T = none ∧ H' = upd H T (.tup [.int (i : Nat), x]) ∧ ∀ xs, SqT K H a xs → xs[i]? = some x, fun i H => ∃ xs : List V, SqT K H a xs ∧ xs.length ≤ i⟩
theorem turn_enumT {P : Program} {w : World} {K : PySem.W.Frag} {elts : List Expr} {kk : Nat} {tpos : Pos} (a e it : Addr) :
    Turn P w K (.Tuple elts kk tpos) (IteT K a) [e, it] e (fun i h => (∃ old, IsEnum h e it ((i : Nat) : Int) old) ∧ h.IsTupleIter it a i ∧ e ≠ it ∧ a ≠ it ∧ a ≠ e) where
  mem := by simp
  obj := fun i h st b hb => by
    obtain ⟨⟨old, he⟩, ⟨o, ho, hc, hd⟩, _⟩ := st
    have e' : b = e ∨ b = it := by simpa using hb
    rcases e' with z | z
    · rw [z]; exact ⟨_, he, fun v q => nomatch q⟩
    · rw [z]; exact ⟨o, ho, fun v q => by rw [hd] at q; cases q⟩
  keep := fun i h h' st k => let ⟨⟨old, he⟩, hi, hne⟩ := st; ⟨⟨old, k e (by simp) _ he⟩, hi.at fun o q => k it (by simp) o q, hne⟩
  item := by
    intro X hP hw hK hc i pins s σ H E I hf st hg
    subst hP hw hK
    obtain ⟨⟨old, he⟩, hit, hne, hai, hae⟩ := st
    obtain ⟨xs, x, hq, hx⟩ := hg
    obtain ⟨its, rv, p, hz⟩ := I.tuple hq
    obtain ⟨u, hu, ru⟩ := rv.get hx
    have hel : e < s.heap.objs.size := Heap.lt_size he
    have hil : it < s.heap.objs.size := by obtain ⟨_, q, _⟩ := hit; exact Heap.lt_size q
    have hi : i < its.toArray.size := by
      have := (List.getElem?_eq_some_iff.mp hu).1
      simpa using this
    refine wpAny_pyNext_enum_itemD (Draws.tuple (prog := X.prog) (w := X.w) (A := X.A.in1) (I.ok.hd hc) it a hai its.toArray) he ⟨hit, p⟩ hi hne (by simp; exact ⟨hne, fun z => hae z.symm⟩) fun x' h' tk hP ho hst' hT hsz hk => ?_
    obtain ⟨hit', _⟩ := hst'
    have hxx : x' = u := by
      have q : its.toArray[i]? = some u := by simpa using hu
      rw [hP] at q
      exact Option.some.inj q
    subst hxx
    refine ⟨_, rfl, wpAny_letOwnedTupleGo_enum (s := { s with heap := h', toks := tk + 1 }) ho fun h'' he' sb => ?_⟩
    have hT2 : h''.get? s.heap.objs.size = some { cls := .type "tuple", data := .seq #[.int i tk, x'] } := (sb.2 _ (Nat.ne_of_gt hel)).trans hT
    have new : ObjOk X.prog X.w (upd H s.heap.objs.size (.tup [.int (i : Nat), x])) h'' s.heap.objs.size (.tup [.int (i : Nat), x]) :=
      ⟨by show 2 ≤ sizeLine; decide, [.int i tk, x'], .cons ⟨_, rfl⟩ (.cons ru .nil), ⟨_, hT2, rfl, _, rfl⟩⟩
    have I1 : Inv X pins σ (upd H s.heap.objs.size (.tup [.int (i : Nat), x])) { s with heap := h'', toks := tk + 1 } :=
      I.turnedNew (ch := [e, it]) (fun b ob hb q => (sb.2 b (fun z => hb (by simp [z]))).trans (hk b ob (fun z => hb (by simp [z])) (fun z => hb (by simp [z])) q)) hf (Nat.le_refl _) new
    refine ⟨.ref s.heap.objs.size, _, I1, rfl, ⟨_, x, rfl, I.hok.fresh (Nat.le_refl _), rfl, fun ys hy => by rw [I.tuple_inj hy hq]; exact hx⟩, ⟨⟨x', ?_⟩, hit'.at fun o q => (sb.2 it (Ne.symm hne)).trans q, hne, hai, hae⟩, fun b hb => ?_⟩
    · have e1 : ((i + 1 : Nat) : Int) = (i : Int) + 1 := by omega
      rw [e1]; exact he'
    · have hb' : b < s.heap.objs.size := by
        have e' : b = e ∨ b = it := by simpa using hb
        rcases e' with z | z
        · rw [z]; exact hel
        · rw [z]; exact hil
      rw [upd_ne (Nat.ne_of_lt hb')]
      exact (hf b hb).1
  done := by
    intro X hP hw hK hc i pins s σ H E I hf st hg
    subst hP hw hK
    obtain ⟨⟨old, he⟩, hit, hne, hai, hae⟩ := st
    obtain ⟨xs, hq, hx⟩ := hg
    obtain ⟨its, rv, p, hz⟩ := I.tuple hq
    obtain ⟨f0, f1, f2, f3, f4, f5⟩ := hf it (by simp)
    have hl := rv.length
    have hT : s.TypeIs (.ref e) "enumerate" := ⟨_, he, rfl⟩
    unfold pyNext
    refine wpAny_bind (wpAny_attempt (wpAny_callSpecial?_slot (name := Str.ofString "__next__") hT F.slot_enumerate_next
      (wpAny_call_entry F.slot_enumerate_next hT F.entry_enumerate_next ?_ (F.args_enumerate_next_1 _))))
    show wpAny _ _ (field (.ref e) 2 >>= _) _ _ _
    refine wpAny_bind (wpAny_field he rfl (x := .ref it) rfl ?_)
    refine wpAny_bind (wpAny_nextOf_tuple_end (I.ok.hd hc) hit (show s.heap.IsTuple a its.toArray from p) (by simp; omega) fun h' x he' hx' => ?_)
    obtain ⟨o, ho, hc2⟩ := hx'
    refine wpAny_bind (wpAny_isInstance (T := "StopIteration") (b := true) ⟨o, ho, hc2⟩ isSubtype_stop ?_)
    exact wpAny_pure ⟨rfl, I.turned (t' := s.toks) (fun b o hb q => he' b o hb q) f0 f1 f3 f4 f5⟩
  self := fun A i s Q E st h => let ⟨⟨_, he⟩, _⟩ := st; wpAny_pyIter_enum he h
def iEnumA (K : PySem.W.Frag) (ta : TA) : TI := fun σ H R => ta σ H fun vs H1 => ∃ a xs, vs = [.ref a] ∧ ((SqL K H1 a xs ∧ R (Ite K a) H1) ∨ (SqT K H1 a xs ∧ R (IteT K a) H1))
theorem pi_enumA {X : Cx} {e : Expr} {ta : TA} {p pos tpos : Pos} {elts : List Expr} {kk : Nat} (hg : Gl X "enumerate") (hm : X.mg "enumerate" = none) (ha : PA X [e] ta) (hs : starEach [e] X.env = [(false, eval e X.env)] := by rfl) :
    PI X (.Tuple elts kk tpos) (.Call (.Name "enumerate" p) [e] [] pos) (iEnumA X.K ta) := by
  refine ⟨fun pins s σ H R I h => ?_⟩
  refine Call_ (ld_blt I hg hm boot_enumerate (PyProof.Rows.callWith_type1 (thn (ha.run pos pins s σ H _ I h) fun us s1 ⟨vs, H1, I1, r1, q1⟩ => ?_) hs rfl))
  obtain ⟨a, xs, ex, q⟩ := q1
  subst ex
  cases r1 with
  | cons r rr =>
    cases rr
    cases r
    have fresh : ∀ b ∈ [s1.heap.objs.size + 1, s1.heap.objs.size], FpOk X pins H1 b := fun b hb => by
      have e' : b = s1.heap.objs.size + 1 ∨ b = s1.heap.objs.size := by simpa using hb
      have hle : s1.heap.objs.size ≤ b := by
        rcases e' with z | z
        · rw [z]; exact Nat.le_add_right _ _
        · rw [z]; exact Nat.le_refl _
      exact I1.fpOk hle (I1.hok.fresh hle)
    rcases q with ⟨hq, q⟩ | ⟨hq, q⟩
    · obtain ⟨its, rv, p', hz⟩ := I1.list hq
      refine call_enumerate_list p'.isList fun h' he hit hsz hk => wpAny_pyIter_enum he ?_
      have I2 : Inv X pins σ H1 { s1 with heap := h' } := I1.kept (t' := s1.toks) hk
      exact ⟨s1.heap.objs.size + 1, [s1.heap.objs.size + 1, s1.heap.objs.size], _, _, H1, rfl, I2, turn_enum a (s1.heap.objs.size + 1) s1.heap.objs.size, ⟨⟨.none, he⟩, hit, Nat.succ_ne_self _⟩, fresh, q⟩
    · obtain ⟨its, rv, p', hz⟩ := I1.tuple hq
      have hlt : a < s1.heap.objs.size := p'.lt
      refine enum_begins1 (begins_tuple a its.toArray) (show s1.heap.IsTuple a its.toArray from p') fun h' he hit hsz hk => wpAny_pyIter_enum he ?_
      have I2 : Inv X pins σ H1 { s1 with heap := h' } := I1.kept (t' := s1.toks) hk
      exact ⟨s1.heap.objs.size + 1, [s1.heap.objs.size + 1, s1.heap.objs.size], _, _, H1, rfl, I2, turn_enumT a (s1.heap.objs.size + 1) s1.heap.objs.size, ⟨⟨.none, he⟩, ⟨_, hit, rfl, rfl⟩, Nat.succ_ne_self _, Nat.ne_of_lt hlt, Nat.ne_of_lt (Nat.lt_succ_of_lt hlt)⟩, fresh, q⟩
theorem walk_enumT {K : PySem.W.Frag} {a : Addr} {xs : List V} : Walk (IteT K a) xs.length (fun H => SqT K H a xs) (YPair (fun i => some (.int (i : Nat))) (fun i => xs[i]?)) := by
  refine ⟨fun i _ hi q => ⟨xs, xs[i], q, by simp [hi]⟩, fun _ q => ⟨xs, q, Nat.le_refl _⟩, fun i H v H' _ q y => ?_⟩
  obtain ⟨T, x, h1, h2, h3, h4⟩ := y
  exact ⟨T, .int (i : Nat), x, h1, h2, h3, rfl, h4 xs q⟩
theorem walk_zipT {K : PySem.W.Frag} {a b : Addr} {xs ys : List V} {n : Nat} (hn : n = min xs.length ys.length) : Walk (RZ.ItzT K a b) n (fun H => SqT K H a xs ∧ SqT K H b ys) (YPair (fun i => xs[i]?) (fun i => ys[i]?)) := by
  subst hn
  refine ⟨fun i _ hi q => ?_, fun _ q => ⟨xs, ys, q.1, q.2, by omega⟩, fun i H v H' _ q y => ?_⟩
  · have h1 : i < xs.length := by omega
    have h2 : i < ys.length := by omega
    exact ⟨xs, ys, xs[i], ys[i], q.1, q.2, by simp [h1], by simp [h2]⟩
  · obtain ⟨T, x, z, h1, h2, h3, h4, h5⟩ := y
    exact ⟨T, x, z, h1, h2, h3, h4 xs q.1, h5 ys q.2⟩
/-- a list, a tuple, a text -/
def iSeq (K : PySem.W.Frag) (tl : TE) : TI := fun σ H R => tl σ H fun x H1 => (∃ a xs, x = .ref a ∧ ((SqL K H1 a xs ∧ R (Itl K a) H1) ∨ (SqT K H1 a xs ∧ R (Itt K a) H1))) ∨ ∃ z, x = .str z ∧ R (Its z) H1
theorem pi_seq {X : Cx} {tg l : Expr} {tl : TE} (hl : PE X l tl) : PI X tg l (iSeq X.K tl) := by
  refine ⟨fun pins s σ H R I h => ?_⟩
  refine thn (hl.run pins s σ H _ I h) fun v s1 ⟨x, H1, I1, r1, q1⟩ => ?_
  have fresh : ∀ b ∈ [s1.heap.objs.size], FpOk X pins H1 b := fun b hb => by
    have e : b = s1.heap.objs.size := by simpa using hb
    subst e
    exact I1.fpOk (Nat.le_refl _) (I1.hok.fresh (Nat.le_refl _))
  rcases q1 with ⟨a, xs, e, ⟨hq, q⟩ | ⟨hq, q⟩⟩ | ⟨z, e, q⟩
  · subst e
    cases r1
    obtain ⟨its, rv, p, hz⟩ := I1.list hq
    refine wpAny_pyIter_list p.isList ?_
    exact ⟨s1.heap.objs.size, [s1.heap.objs.size], _, _, H1, rfl, I1.kept (t' := s1.toks) fun b o e => Heap.get?_push_of_some _ e, turn_list a _, ⟨_, Heap.get?_push_size _ rfl, rfl, rfl⟩, fresh, q⟩
  · subst e
    cases r1
    obtain ⟨its, rv, p, hz⟩ := I1.tuple hq
    refine wpAny_pyIter_tuple (show s1.heap.IsTuple a its.toArray from p) ?_
    exact ⟨s1.heap.objs.size, [s1.heap.objs.size], _, _, H1, rfl, I1.kept (t' := s1.toks) fun b o e => Heap.get?_push_of_some _ e, turn_tuple a _, ⟨_, Heap.get?_push_size _ rfl, rfl, rfl⟩, fresh, q⟩
  · subst e
    obtain ⟨t, rfl⟩ := r1
    cases ha : z.cps.all (· < 128)
    · exact wpAny_pyIter_wide ha (pi_one (tk := s1.toks) I1 _ (turn_str _ z t "str_iterator" (.inr rfl)) ⟨_, Heap.get?_push_size _ rfl, rfl, rfl⟩ q)
    · exact wpAny_pyIter_ascii ha (pi_one (tk := s1.toks) I1 _ (turn_str _ z t "str_ascii_iterator" (.inl rfl)) ⟨_, Heap.get?_push_size _ rfl, rfl, rfl⟩ q)
end Mir

set_option Elab.async false
set_option linter.all false
set_option maxRecDepth 100000
set_option maxHeartbeats 2000000
/-! Mir4: built-ins, own calls, what is walked, comprehensions. -/
namespace Mir
open PySem PySem.Spec PyProof.Rows L2
/-! ### built-ins -/
def boolsOf : List D → Option (List Bool)
  | [] => some []
  | .bl b :: r => (boolsOf r).map (b :: ·)
  | _ :: _ => none
def intsOf : List D → Option (List Int)
  | [] => some []
  | .int b :: r => (intsOf r).map (b :: ·)
  | _ :: _ => none
def strsOf : List D → Option (List Str)
  | [] => some []
  | .str b :: r => (strsOf r).map (b :: ·)
  | _ :: _ => none
section
variable {K : PySem.W.Frag} {mg : Str → Option Value} {ρ : Rh} {H : Hp}
theorem boolsOf_ok : ∀ {l : List D} {xs : List V} {bs : List Bool}, IsL K mg ρ H l xs → boolsOf l = some bs → xs = bs.map V.bl
  | [], _, _, i, h => by cases i; cases h; rfl
  | .bl b :: r, _, _, ⟨x, r', e, i1, i2⟩, h => by
    subst e
    cases i1
    simp only [boolsOf, Option.map_eq_some_iff] at h
    obtain ⟨bs, h1, rfl⟩ := h
    rw [boolsOf_ok i2 h1, List.map_cons]
  | .non :: _, _, _, _, h => by simp [boolsOf] at h
  | .int _ :: _, _, _, _, h => by simp [boolsOf] at h
  | .str _ :: _, _, _, _, h => by simp [boolsOf] at h
  | .tup _ :: _, _, _, _, h => by simp [boolsOf] at h
  | .vl _ :: _, _, _, _, h => by simp [boolsOf] at h
  | .sq _ :: _, _, _, _, h => by simp [boolsOf] at h
  | .vd _ _ :: _, _, _, _, h => by simp [boolsOf] at h
  | .vi _ _ _ :: _, _, _, _, h => by simp [boolsOf] at h
  | .ref _ :: _, _, _, _, h => by simp [boolsOf] at h
theorem intsOf_ok : ∀ {l : List D} {xs : List V} {bs : List Int}, IsL K mg ρ H l xs → intsOf l = some bs → xs = bs.map V.int
  | [], _, _, i, h => by cases i; cases h; rfl
  | .int b :: r, _, _, ⟨x, r', e, i1, i2⟩, h => by
    subst e
    cases i1
    simp only [intsOf, Option.map_eq_some_iff] at h
    obtain ⟨bs, h1, rfl⟩ := h
    rw [intsOf_ok i2 h1, List.map_cons]
  | .non :: _, _, _, _, h => by simp [intsOf] at h
  | .bl _ :: _, _, _, _, h => by simp [intsOf] at h
  | .str _ :: _, _, _, _, h => by simp [intsOf] at h
  | .tup _ :: _, _, _, _, h => by simp [intsOf] at h
  | .vl _ :: _, _, _, _, h => by simp [intsOf] at h
  | .sq _ :: _, _, _, _, h => by simp [intsOf] at h
  | .vd _ _ :: _, _, _, _, h => by simp [intsOf] at h
  | .vi _ _ _ :: _, _, _, _, h => by simp [intsOf] at h
  | .ref _ :: _, _, _, _, h => by simp [intsOf] at h
theorem strsOf_ok : ∀ {l : List D} {xs : List V} {bs : List Str}, IsL K mg ρ H l xs → strsOf l = some bs → xs = bs.map V.str
  | [], _, _, i, h => by cases i; cases h; rfl
  | .str b :: r, _, _, ⟨x, r', e, i1, i2⟩, h => by
    subst e
    cases i1
    simp only [strsOf, Option.map_eq_some_iff] at h
    obtain ⟨bs, h1, rfl⟩ := h
    rw [strsOf_ok i2 h1, List.map_cons]
  | .non :: _, _, _, _, h => by simp [strsOf] at h
  | .bl _ :: _, _, _, _, h => by simp [strsOf] at h
  | .int _ :: _, _, _, _, h => by simp [strsOf] at h
  | .tup _ :: _, _, _, _, h => by simp [strsOf] at h
  | .vl _ :: _, _, _, _, h => by simp [strsOf] at h
  | .sq _ :: _, _, _, _, h => by simp [strsOf] at h
  | .vd _ _ :: _, _, _, _, h => by simp [strsOf] at h
  | .vi _ _ _ :: _, _, _, _, h => by simp [strsOf] at h
  | .ref _ :: _, _, _, _, h => by simp [strsOf] at h
end
/-- a built-in of one argument: its value by data and store -/
def oneF (g : Sto → D → Option D) (xs : List D) : WD := fun st Q _ => match xs with
  | [d] => (match g st d with
    | some y => Q y st
    | none => False)
  | _ => False
theorem oneF.mono (g : Sto → D → Option D) (xs : List D) : MonoD (oneF g xs) := fun st Q Q' X X' h _ q => by
  unfold oneF at *
  split at q
  · split at q
    · exact h _ _ q
    · exact q.elim
  · exact q.elim
theorem oneF.callM {K : PySem.W.Frag} {mg : Str → Option Value} {g : Sto → D → Option D} {r : List V → Hp → VK → Prop}
    (k : ∀ ρ st H d v y (Q : VK), Rel K mg ρ st H → IsV K mg ρ H d v → g st d = some y → up K mg (rV K mg) ρ H Q y st → r [v] H Q) : CallM K mg r (oneF g) where
  mono := oneF.mono g
  run := fun ρ st H xs vs Q X r' i h => by
    unfold oneF at h
    split at h
    · obtain ⟨v, vs', rfl, i1, i2⟩ := i
      cases i2
      split at h
      · rename_i y hy
        exact k ρ st H _ v y Q r' i1 hy h
      · exact h.elim
    · exact h.elim
def lenG (st : Sto) : D → Option D
  | .str z => if z.length ≤ sizeLine then some (.int z.length) else none
  | d => (seqA st d).map fun l => .int l.length
def allG (st : Sto) (d : D) : Option D := match lstA st d with
  | some l => (boolsOf l).map fun bs => .bl (bs.all id)
  | none => none
def anyG (st : Sto) (d : D) : Option D := match lstA st d with
  | some l => (boolsOf l).map fun bs => .bl (bs.any id)
  | none => none
def sumG (st : Sto) (d : D) : Option D := match lstA st d with
  | some l => (intsOf l).map fun bs => .int bs.sum
  | none => none
def tupG (st : Sto) : D → Option D
  | .tup l => some (.tup l)
  | d => (lstA st d).map .tup
def listG (st : Sto) (d : D) : Option D := (seqA st d).map .vl
def intG (_ : Sto) : D → Option D
  | .int i => some (.int i)
  | .bl k => some (.int (if k then 1 else 0))
  | _ => none
def absG (_ : Sto) : D → Option D
  | .int i => some (.int (if i < 0 then -i else i))
  | _ => none
def strG (_ : Sto) : D → Option D
  | .int i => if i.natAbs.log2 < 1920 then some (.str (toString i)) else none
  | _ => none
theorem call_lenA {K : PySem.W.Frag} {mg : Str → Option Value} : CallM K mg (fun xs H Q => ∃ x n, xs = [x] ∧ LenV K x H n ∧ Q (.int n) H) (oneF lenG) :=
  oneF.callM fun ρ st H d v y Q r i e q => by
    unfold lenG at e
    split at e
    · split at e
      · cases e
        cases i
        exact ⟨_, _, rfl, ⟨by assumption, rfl⟩, q.now (.refl _ _) r rfl⟩
      · cases e
    · simp only [Option.map_eq_some_iff] at e
      obtain ⟨l, hl, rfl⟩ := e
      obtain ⟨a, xs, rfl, h1, h2⟩ := seqA.at_ r i hl
      refine ⟨_, l.length, rfl, ?_, q.now (.refl _ _) r rfl⟩
      rcases h1 with h1 | h1
      · exact .inl ⟨xs, h1, h2.len⟩
      · exact .inr ⟨xs, h1, h2.len⟩
theorem call_allA {K : PySem.W.Frag} {mg : Str → Option Value} : CallM K mg (rAll K) (oneF allG) :=
  oneF.callM fun ρ st H d v y Q r i e q => by
    unfold allG at e
    split at e
    · rename_i l hl
      simp only [Option.map_eq_some_iff] at e
      obtain ⟨bs, hb, rfl⟩ := e
      obtain ⟨a, xs, rfl, h1, h2⟩ := lstA.at_ r i hl
      have e2 := boolsOf_ok h2 hb
      subst e2
      exact ⟨a, bs, rfl, h1, q.now (.refl _ _) r rfl⟩
    · cases e
theorem call_anyA {K : PySem.W.Frag} {mg : Str → Option Value} : CallM K mg (rAny K) (oneF anyG) :=
  oneF.callM fun ρ st H d v y Q r i e q => by
    unfold anyG at e
    split at e
    · rename_i l hl
      simp only [Option.map_eq_some_iff] at e
      obtain ⟨bs, hb, rfl⟩ := e
      obtain ⟨a, xs, rfl, h1, h2⟩ := lstA.at_ r i hl
      have e2 := boolsOf_ok h2 hb
      subst e2
      exact ⟨a, bs, rfl, h1, q.now (.refl _ _) r rfl⟩
    · cases e
theorem call_sumA {K : PySem.W.Frag} {mg : Str → Option Value} : CallM K mg (rSum K) (oneF sumG) :=
  oneF.callM fun ρ st H d v y Q r i e q => by
    unfold sumG at e
    split at e
    · rename_i l hl
      simp only [Option.map_eq_some_iff] at e
      obtain ⟨bs, hb, rfl⟩ := e
      obtain ⟨a, xs, rfl, h1, h2⟩ := lstA.at_ r i hl
      have e2 := intsOf_ok h2 hb
      subst e2
      exact ⟨a, bs, rfl, h1, q.now (.refl _ _) r rfl⟩
    · cases e
theorem call_tupA {K : PySem.W.Frag} {mg : Str → Option Value} : CallM K mg (fun xs H Q => ∃ p ys, xs = [.ref p] ∧ ((SqL K H p ys ∧ ∀ l, H l = none → Q (.ref l) (upd H l (.tup ys))) ∨ (SqT K H p ys ∧ Q (.ref p) H))) (oneF tupG) :=
  oneF.callM fun ρ st H d v y Q r i e q => by
    unfold tupG at e
    split at e
    · cases e
      obtain ⟨a, xs, rfl, h1, h2⟩ := i
      exact ⟨a, xs, rfl, .inr ⟨h1, q.now (.refl _ _) r ⟨a, xs, rfl, h1, h2⟩⟩⟩
    · simp only [Option.map_eq_some_iff] at e
      obtain ⟨l, hl, rfl⟩ := e
      obtain ⟨a, xs, rfl, h1, h2⟩ := lstA.at_ r i hl
      exact ⟨a, xs, rfl, .inl ⟨h1, fun p hp => q.now (.new hp) (r.new hp) (IsV.newU hp h2)⟩⟩
theorem call_listA {K : PySem.W.Frag} {mg : Str → Option Value} : CallM K mg (fun xs H Q => ∃ p ys, xs = [.ref p] ∧ (SqL K H p ys ∨ SqT K H p ys) ∧ ∀ l, H l = none → Q (.ref l) (upd H l (.lst ys))) (oneF listG) :=
  oneF.callM fun ρ st H d v y Q r i e q => by
    simp only [listG, Option.map_eq_some_iff] at e
    obtain ⟨l, hl, rfl⟩ := e
    obtain ⟨a, xs, rfl, h1, h2⟩ := seqA.at_ r i hl
    exact ⟨a, xs, rfl, h1, fun p hp => q.now (.new hp) (r.new hp) (IsV.newL r hp h2)⟩
/-- list(x), a list that will be changed -/
def listF (xs : List D) : WD := fun st Q _ => match xs with
  | [d] => (match seqA st d with
    | some l => Q (.ref st.length) (st ++ [.lst l])
    | none => False)
  | _ => False
theorem call_listR {K : PySem.W.Frag} {mg : Str → Option Value} : CallM K mg (fun xs H Q => ∃ p ys, xs = [.ref p] ∧ (SqL K H p ys ∨ SqT K H p ys) ∧ ∀ l, H l = none → Q (.ref l) (upd H l (.lst ys))) listF where
  mono := fun xs st Q Q' X X' h _ q => by
    unfold listF at *
    split at q
    · split at q
      · exact h _ _ q
      · exact q.elim
    · exact q.elim
  run := fun ρ st H xs vs Q X r i h => by
    unfold listF at h
    split at h
    · obtain ⟨v, vs', rfl, i1, i2⟩ := i
      cases i2
      split at h
      · rename_i l hl
        obtain ⟨a, ys, rfl, h1, h2⟩ := seqA.at_ r i1 hl
        exact ⟨a, ys, rfl, h1, fun p hp => h.now (.newR hp) (r.newR hp ⟨ys, upd_same, IsL.mono (.newR hp) _ _ h2⟩) ⟨p, rfl, by rw [← r.len]; simp [Rh.add]⟩⟩
      · exact h.elim
    · exact h.elim
theorem call_intA {K : PySem.W.Frag} {mg : Str → Option Value} : CallM K mg (fun xs H Q => (∃ i, xs = [.int i] ∧ Q (.int i) H) ∨ ∃ k, xs = [.bl k] ∧ Q (.int (if k then 1 else 0)) H) (oneF intG) :=
  oneF.callM fun ρ st H d v y Q r i e q => by
    unfold intG at e
    split at e
    · cases e; cases i; exact .inl ⟨_, rfl, q.now (.refl _ _) r rfl⟩
    · cases e; cases i; exact .inr ⟨_, rfl, q.now (.refl _ _) r rfl⟩
    · cases e
theorem call_absA {K : PySem.W.Frag} {mg : Str → Option Value} : CallM K mg (fun xs H Q => ∃ i, xs = [.int i] ∧ Q (.int (if i < 0 then -i else i)) H) (oneF absG) :=
  oneF.callM fun ρ st H d v y Q r i e q => by
    unfold absG at e
    split at e
    · cases e; cases i; exact ⟨_, rfl, q.now (.refl _ _) r rfl⟩
    · cases e
theorem call_strA {K : PySem.W.Frag} {mg : Str → Option Value} : CallM K mg (fun xs H Q => ∃ i, xs = [.int i] ∧ i.natAbs.log2 < 1920 ∧ Q (.str (toString i)) H) (oneF strG) :=
  oneF.callM fun ρ st H d v y Q r i e q => by
    unfold strG at e
    split at e
    · split at e
      · cases e; cases i; exact ⟨_, rfl, by assumption, q.now (.refl _ _) r rfl⟩
      · cases e
    · cases e
def twoF (g : Int → Int → D) (xs : List D) : WD := fun st Q _ => match xs with
  | [.int i, .int j] => Q (g i j) st
  | _ => False
theorem twoF.callM {K : PySem.W.Frag} {mg : Str → Option Value} {g : Int → Int → D} {gv : Int → Int → V} (hg : ∀ i j ρ H, IsV K mg ρ H (g i j) (gv i j)) : CallM K mg (fun xs H Q => ∃ i j, xs = [.int i, .int j] ∧ Q (gv i j) H) (twoF g) where
  mono := fun xs st Q Q' X X' h _ q => by
    unfold twoF at *
    split at q
    · exact h _ _ q
    · exact q.elim
  run := fun ρ st H xs vs Q X r i h => by
    unfold twoF at h
    split at h
    · obtain ⟨v, vs', rfl, i1, v2, vs2, rfl, i2, i3⟩ := i
      cases i1; cases i2; cases i3
      exact ⟨_, _, rfl, h.now (.refl _ _) r (hg _ _ _ _)⟩
    · exact h.elim
section
variable {X : Cx} {W : WX} {e e2 : Expr} {te te2 : TE} {me me2 : WE} {p pos : Pos}
theorem de_len (hm : X.mg "len" = none) (ha : DE X W e te me) (hg : Gl X "len" := by rfl) (he : starEach [e] X.env = (false, eval e X.env) :: starEach [] X.env := by rfl) (hpl : (backTo pos (starEach [] X.env)).any (·.1) = false := by rfl) :
    DE X W (.Call (.Name "len" p) [e] [] pos) (tCB (fun xs H Q => ∃ x n, xs = [x] ∧ LenV X.K x H n ∧ Q (.int n) H) (tCons te tNil)) (mCB (oneF lenG) (mCons me mNil)) := de_callB call_len call_lenA hm PySem.boot_len (da_cons ha da_nil he) hg (he := he) (hpl := hpl)
theorem de_all (hm : X.mg "all" = none) (hc : X.calm = true) (ha : DE X W e te me) (hg : Gl X "all" := by rfl) (he : starEach [e] X.env = (false, eval e X.env) :: starEach [] X.env := by rfl) (hpl : (backTo pos (starEach [] X.env)).any (·.1) = false := by rfl) :
    DE X W (.Call (.Name "all" p) [e] [] pos) (tCB (rAll X.K) (tCons te tNil)) (mCB (oneF allG) (mCons me mNil)) := de_callB (cr_all hc) call_allA hm (by decide +kernel) (da_cons ha da_nil he) hg (he := he) (hpl := hpl)
theorem de_any (hm : X.mg "any" = none) (hc : X.calm = true) (ha : DE X W e te me) (hg : Gl X "any" := by rfl) (he : starEach [e] X.env = (false, eval e X.env) :: starEach [] X.env := by rfl) (hpl : (backTo pos (starEach [] X.env)).any (·.1) = false := by rfl) :
    DE X W (.Call (.Name "any" p) [e] [] pos) (tCB (rAny X.K) (tCons te tNil)) (mCB (oneF anyG) (mCons me mNil)) := de_callB (cr_any hc) call_anyA hm (by decide +kernel) (da_cons ha da_nil he) hg (he := he) (hpl := hpl)
theorem de_sum (hm : X.mg "sum" = none) (hc : X.calm = true) (ha : DE X W e te me) (hg : Gl X "sum" := by rfl) (he : starEach [e] X.env = (false, eval e X.env) :: starEach [] X.env := by rfl) (hpl : (backTo pos (starEach [] X.env)).any (·.1) = false := by rfl) :
    DE X W (.Call (.Name "sum" p) [e] [] pos) (tCB (rSum X.K) (tCons te tNil)) (mCB (oneF sumG) (mCons me mNil)) := de_callB (cr_sum hc) call_sumA hm (by decide +kernel) (da_cons ha da_nil he) hg (he := he) (hpl := hpl)
theorem de_tuple (hm : X.mg "tuple" = none) (ha : DE X W e te me) (hg : Gl X "tuple" := by rfl) (he : starEach [e] X.env = (false, eval e X.env) :: starEach [] X.env := by rfl) (hpl : (backTo pos (starEach [] X.env)).any (·.1) = false := by rfl) :
    DE X W (.Call (.Name "tuple" p) [e] [] pos) (tCB (fun xs H Q => ∃ p ys, xs = [.ref p] ∧ ((SqL X.K H p ys ∧ ∀ l, H l = none → Q (.ref l) (upd H l (.tup ys))) ∨ (SqT X.K H p ys ∧ Q (.ref p) H))) (tCons te tNil)) (mCB (oneF tupG) (mCons me mNil)) := de_callTy call_tuple_of call_tupA hm (by decide +kernel) (da_cons ha da_nil he) hg (he := he) (hpl := hpl)
theorem de_list (hm : X.mg "list" = none) (ha : DE X W e te me) (hg : Gl X "list" := by rfl) (he : starEach [e] X.env = (false, eval e X.env) :: starEach [] X.env := by rfl) (hpl : (backTo pos (starEach [] X.env)).any (·.1) = false := by rfl) :
    DE X W (.Call (.Name "list" p) [e] [] pos) (tCB (fun xs H Q => ∃ p ys, xs = [.ref p] ∧ (SqL X.K H p ys ∨ SqT X.K H p ys) ∧ ∀ l, H l = none → Q (.ref l) (upd H l (.lst ys))) (tCons te tNil)) (mCB (oneF listG) (mCons me mNil)) := de_callTy call_list_of call_listA hm (by decide +kernel) (da_cons ha da_nil he) hg (he := he) (hpl := hpl)
theorem de_listR (hm : X.mg "list" = none) (ha : DE X W e te me) (hg : Gl X "list" := by rfl) (he : starEach [e] X.env = (false, eval e X.env) :: starEach [] X.env := by rfl) (hpl : (backTo pos (starEach [] X.env)).any (·.1) = false := by rfl) :
    DE X W (.Call (.Name "list" p) [e] [] pos) (tCB (fun xs H Q => ∃ p ys, xs = [.ref p] ∧ (SqL X.K H p ys ∨ SqT X.K H p ys) ∧ ∀ l, H l = none → Q (.ref l) (upd H l (.lst ys))) (tCons te tNil)) (mCB listF (mCons me mNil)) := de_callTy call_list_of call_listR hm (by decide +kernel) (da_cons ha da_nil he) hg (he := he) (hpl := hpl)
theorem de_intc (hm : X.mg "int" = none) (ha : DE X W e te me) (hg : Gl X "int" := by rfl) (he : starEach [e] X.env = (false, eval e X.env) :: starEach [] X.env := by rfl) (hpl : (backTo pos (starEach [] X.env)).any (·.1) = false := by rfl) :
    DE X W (.Call (.Name "int" p) [e] [] pos) (tCB (fun xs H Q => (∃ i, xs = [.int i] ∧ Q (.int i) H) ∨ ∃ k, xs = [.bl k] ∧ Q (.int (if k then 1 else 0)) H) (tCons te tNil)) (mCB (oneF intG) (mCons me mNil)) := de_callTy call_int1 call_intA hm (by decide +kernel) (da_cons ha da_nil he) hg (he := he) (hpl := hpl)
theorem de_abs (hm : X.mg "abs" = none) (ha : DE X W e te me) (hg : Gl X "abs" := by rfl) (he : starEach [e] X.env = (false, eval e X.env) :: starEach [] X.env := by rfl) (hpl : (backTo pos (starEach [] X.env)).any (·.1) = false := by rfl) :
    DE X W (.Call (.Name "abs" p) [e] [] pos) (tCB (fun xs H Q => ∃ i, xs = [.int i] ∧ Q (.int (if i < 0 then -i else i)) H) (tCons te tNil)) (mCB (oneF absG) (mCons me mNil)) := de_callB call_abs call_absA hm (by decide +kernel) (da_cons ha da_nil he) hg (he := he) (hpl := hpl)
theorem de_strc (hm : X.mg "str" = none) (ha : DE X W e te me) (hg : Gl X "str" := by rfl) (he : starEach [e] X.env = (false, eval e X.env) :: starEach [] X.env := by rfl) (hpl : (backTo pos (starEach [] X.env)).any (·.1) = false := by rfl) :
    DE X W (.Call (.Name "str" p) [e] [] pos) (tCB (fun xs H Q => ∃ i, xs = [.int i] ∧ i.natAbs.log2 < 1920 ∧ Q (.str (toString i)) H) (tCons te tNil)) (mCB (oneF strG) (mCons me mNil)) := de_callTy call_str_int call_strA hm (by decide +kernel) (da_cons ha da_nil he) hg (he := he) (hpl := hpl)
theorem de_max2 (hm : X.mg "max" = none) (hc : X.calm = true) (ha : DE X W e te me) (hb : DE X W e2 te2 me2) (hg : Gl X "max" := by rfl) (he : starEach [e, e2] X.env = (false, eval e X.env) :: starEach [e2] X.env := by rfl) (he2 : starEach [e2] X.env = (false, eval e2 X.env) :: starEach [] X.env := by rfl) (hpl : (backTo pos (starEach [e2] X.env)).any (·.1) = false := by rfl) :
    DE X W (.Call (.Name "max" p) [e, e2] [] pos) (tCB (fun xs H Q => ∃ i j, xs = [.int i, .int j] ∧ Q (.int (if j > i then j else i)) H) (tCons te (tCons te2 tNil))) (mCB (twoF fun i j => .int (if j > i then j else i)) (mCons me (mCons me2 mNil))) :=
  de_callB (call_max2 hc) (twoF.callM (gv := fun i j => .int (if j > i then j else i)) fun _ _ _ _ => rfl) hm (by decide +kernel) (da_cons ha (da_cons hb da_nil he2) he) hg (he := he) (hpl := hpl)
theorem de_min2 (hm : X.mg "min" = none) (hc : X.calm = true) (ha : DE X W e te me) (hb : DE X W e2 te2 me2) (hg : Gl X "min" := by rfl) (he : starEach [e, e2] X.env = (false, eval e X.env) :: starEach [e2] X.env := by rfl) (he2 : starEach [e2] X.env = (false, eval e2 X.env) :: starEach [] X.env := by rfl) (hpl : (backTo pos (starEach [e2] X.env)).any (·.1) = false := by rfl) :
    DE X W (.Call (.Name "min" p) [e, e2] [] pos) (tCB (fun xs H Q => ∃ i j, xs = [.int i, .int j] ∧ Q (.int (if j < i then j else i)) H) (tCons te (tCons te2 tNil))) (mCB (twoF fun i j => .int (if j < i then j else i)) (mCons me (mCons me2 mNil))) :=
  de_callB (call_min2 hc) (twoF.callM (gv := fun i j => .int (if j < i then j else i)) fun _ _ _ _ => rfl) hm (by decide +kernel) (da_cons ha (da_cons hb da_nil he2) he) hg (he := he) (hpl := hpl)
end
/-! ### isinstance -/
inductive Kd where
  | non | bool | int | str | tuple | list | dict | own (c : Str)
def Kd.name : Kd → String
  | .non => "NoneType"
  | .bool => "bool"
  | .int => "int"
  | .str => "str"
  | .tuple => "tuple"
  | .list => "list"
  | .dict => "dict"
  | .own _ => ""
def kd (st : Sto) : D → Option Kd
  | .non => some .non
  | .bl _ => some .bool
  | .int _ => some .int
  | .str _ => some .str
  | .tup _ => some .tuple
  | .vl _ => some .list
  | .sq _ => some .list
  | .vd _ _ => some .dict
  | .vi c _ _ => some (.own c)
  | .ref n => match st[n]? with
    | some (.lst _) => some .list
    | some (.dic _ _) => some .dict
    | some (.ins c _ _) => some (.own c)
    | none => none
/-- what the text says of a class whose instances are asked -/
structure InsK (K : PySem.W.Frag) (C : Addr) : Prop where
  cl : Cls K C
  ha : PySem.W.findIn K (.ref C) "__class__" = some (some (.builtin "object.__class__"))
  hn : PySem.W.specialIn K (.builtin "object.__class__") "__get__" = some (some (.builtin "getset_descriptor.__get__"))
  htk : PySem.W.takesIn K (.builtin "object.__class__") = some true
  hm : PySem.W.mroIn K C (.type "object") = some true
def KdTy (K : PySem.W.Frag) (mg : Str → Option Value) : Kd → Value → Prop
  | .own c, t => ∃ C, mg c = some (.ref C) ∧ t = .ref C ∧ InsK K C
  | k, t => t = .type k.name
section
variable {K : PySem.W.Frag} {mg : Str → Option Value} {ρ : Rh} {st : Sto} {H : Hp}
theorem kd_ok {d : D} {v : V} {k : Kd} (r : Rel K mg ρ st H) (i : IsV K mg ρ H d v) (h : kd st d = some k) (hO : ∀ c, k = .own c → ∀ C, mg c = some (.ref C) → InsK K C) : ∃ t, KdTy K mg k t ∧ TyX K H v t := by
  cases d with
  | non => cases i; cases h; exact ⟨_, rfl, .base .non⟩
  | bl b => cases i; cases h; exact ⟨_, rfl, .base (.bl b)⟩
  | int b => cases i; cases h; exact ⟨_, rfl, .base (.int b)⟩
  | str b => cases i; cases h; exact ⟨_, rfl, .base (.str b)⟩
  | tup l =>
    obtain ⟨a, xs, rfl, h1, _⟩ := i
    cases h
    rcases h1 with (h1 | ⟨o, h1⟩) | ⟨o, its, n, h1, h2, _⟩
    · exact ⟨_, rfl, .base (.tup h1)⟩
    · exact ⟨_, rfl, .fTuple h1⟩
    · exact ⟨_, rfl, .kTuple h1 h2⟩
  | vl l =>
    obtain ⟨a, xs, rfl, h1, _⟩ := i
    cases h
    exact ⟨_, rfl, .base (.lst h1)⟩
  | sq l =>
    obtain ⟨a, xs, rfl, h1, _⟩ := i
    cases h
    rcases h1 with ⟨o, h1⟩ | ⟨o, its, n, h1, h2, _⟩
    · exact ⟨_, rfl, .base (.frz h1)⟩
    · exact ⟨_, rfl, .kList h1 h2⟩
  | vd ks vs =>
    obtain ⟨a, xs, rfl, h1, _⟩ := i
    cases h
    exact ⟨_, rfl, .base (.dK h1)⟩
  | vi c fs vs =>
    obtain ⟨a, C, dx, xs, rfl, h0, h1, _⟩ := i
    cases h
    have q := hO c rfl C h0
    exact ⟨_, ⟨C, h0, rfl, q⟩, .base (.ins h1 q.cl q.ha q.hn q.htk q.hm)⟩
  | ref n =>
    obtain ⟨a, rfl, h1⟩ := i
    simp only [kd] at h
    split at h
    · rename_i l hl
      cases h
      obtain ⟨xs, h2, _⟩ := r.at_ n a _ h1 hl
      exact ⟨_, rfl, .base (.lst h2)⟩
    · rename_i ks vs hl
      cases h
      obtain ⟨xs, h2, _⟩ := r.at_ n a _ h1 hl
      exact ⟨_, rfl, .base (.dK h2)⟩
    · rename_i c fs vs hl
      cases h
      obtain ⟨C, dx, xs, h0, h2, _⟩ := r.at_ n a _ h1 hl
      have q := hO c rfl C h0
      exact ⟨_, ⟨C, h0, rfl, q⟩, .base (.ins h2 q.cl q.ha q.hn q.htk q.hm)⟩
    · cases h
end
/-- the answers of isinstance for one class: ans by kind; u the class's value -/
structure Isi (K : PySem.W.Frag) (mg : Str → Option Value) (ans : Kd → Option Bool) (c : V) (u : Value) : Prop where
  cls : ClsV c u
  own : ∀ k, (ans (.own k)).isSome = true → ∀ C, mg k = some (.ref C) → InsK K C
  kit : ∀ k b t, ans k = some b → KdTy K mg k t → PySem.W.kitOne K t u = some b
def isiM (ans : Kd → Option Bool) (me : WE) : WE := fun l st Q X => me l st (fun x s1 => match kd s1 x with
  | some k => (match ans k with
    | some b => Q (.bl b) s1
    | none => False)
  | none => False) X
section
variable {X : Cx} {W : WX} {e ce : Expr} {te : TE} {me : WE} {p pos : Pos}
theorem de_isi {ans : Kd → Option Bool} {c : V} {u : Value} (hm : X.mg "isinstance" = none) (hI : Isi X.K X.mg ans c u) (hc : PE X ce (tC c)) (ha : DE X W e te me) (hg : Gl X "isinstance" := by rfl)
    (he : starEach [e, ce] X.env = (false, eval e X.env) :: starEach [ce] X.env := by rfl) (he2 : starEach [ce] X.env = (false, eval ce X.env) :: starEach [] X.env := by rfl) (hpl : (backTo pos (starEach [ce] X.env)).any (·.1) = false := by rfl) :
    DE X W (.Call (.Name "isinstance" p) [e, ce] [] pos) (tCB (rIsi X.K) (tCons te (tCons (tC c) tNil))) (isiM ans me) := by
  refine ⟨pe_callB call_isi hg hm (by decide +kernel) (pa_cons ha.pe (pa_cons hc pa_nil he2) he) (he := he) (hpl := hpl), ⟨fun l st Q Q' X X' h hX q => ha.ev.mono _ _ _ _ _ _ (fun x s1 q1 => ?_) hX q, fun ρ st H σ l Q r rl h => ?_⟩⟩
  · split at q1
    · split at q1
      · exact h _ _ q1
      · exact q1.elim
    · exact q1.elim
  · refine ha.ev.bind r rl h (fun _ _ z => z) fun x s1 v ρ1 H1 e1 r1 i1 h1 => ?_
    split at h1
    · rename_i k hk
      split at h1
      · rename_i b hb
        obtain ⟨t, h2, h3⟩ := kd_ok r1 i1 hk fun c ec => hI.own c (by rw [← ec, hb]; rfl)
        exact ⟨v, c, t, u, b, rfl, hI.cls, h3, hI.kit k b t hb h2, h1.now e1 r1 rfl⟩
      · exact h1.elim
    · exact h1.elim
/-- isinstance(x, (A, B)) -/
theorem de_isi2 {ans ans' : Kd → Option Bool} {c c' : V} {u u' : Value} {ce' : Expr} {x1 : Nat} {p2 : Pos} (hm : X.mg "isinstance" = none) (hI : Isi X.K X.mg ans c u) (hI' : Isi X.K X.mg ans' c' u') (hc : PE X ce (tC c)) (hc' : PE X ce' (tC c')) (ha : DE X W e te me) (hg : Gl X "isinstance" := by rfl)
    (he : starEach [e, .Tuple [ce, ce'] x1 p2] X.env = (false, eval e X.env) :: starEach [.Tuple [ce, ce'] x1 p2] X.env := by rfl) (he2 : starEach [.Tuple [ce, ce'] x1 p2] X.env = (false, eval (.Tuple [ce, ce'] x1 p2) X.env) :: starEach [] X.env := by rfl)
    (he3 : starEach [ce, ce'] X.env = (false, eval ce X.env) :: starEach [ce'] X.env := by rfl) (he4 : starEach [ce'] X.env = (false, eval ce' X.env) :: starEach [] X.env := by rfl)
    (hpl : (backTo pos (starEach [.Tuple [ce, ce'] x1 p2] X.env)).any (·.1) = false := by rfl) :
    DE X W (.Call (.Name "isinstance" p) [e, .Tuple [ce, ce'] x1 p2] [] pos) (tCB (rIsiT X.K) (tCons te (tCons (tTup (tCons (tC c) (tCons (tC c') tNil))) tNil))) (isiM (fun k => match ans k, ans' k with
      | some a, some b => some (a || b)
      | _, _ => none) me) := by
  refine ⟨pe_callB call_isiT hg hm (by decide +kernel) (pa_cons ha.pe (pa_cons (pe_tup (pa_cons hc (pa_cons hc' pa_nil he4) he3)) pa_nil he2) he) (he := he) (hpl := hpl), ⟨fun l st Q Q' X X' h hX q => ha.ev.mono _ _ _ _ _ _ (fun x s1 q1 => ?_) hX q, fun ρ st H σ l Q r rl h => ?_⟩⟩
  · split at q1
    · split at q1
      · exact h _ _ q1
      · exact q1.elim
    · exact q1.elim
  · refine ha.ev.bind r rl h (fun _ _ z => z) fun x s1 v ρ1 H1 e1 r1 i1 h1 => ?_
    split at h1
    · rename_i k hk
      split at h1
      · rename_i b hb
        dsimp only at hb
        split at hb
        · rename_i a1 a2 ha1 ha2
          cases hb
          obtain ⟨t, h2, h3⟩ := kd_ok r1 i1 hk fun c ec => hI.own c (by rw [← ec, ha1]; rfl)
          refine ⟨by show 2 ≤ sizeLine; decide, fun p hp => ?_⟩
          refine ⟨v, p, [c, c'], t, [u, u'], a1 || a2, rfl, upd_same, .cons hI.cls (.cons hI'.cls .nil), ?_, ?_, h1.now (e1.trans (.new hp)) (r1.new hp) rfl⟩
          · obtain ⟨t', h2', h3'⟩ := kd_ok (r1.new (o := .tup [c, c']) hp) (IsV.mono (.new hp) _ _ i1) hk fun c ec => hI.own c (by rw [← ec, ha1]; rfl)
            have et : t' = t := by
              cases k with
              | own z =>
                obtain ⟨C, g1, g2, _⟩ := h2
                obtain ⟨C', g1', g2', _⟩ := h2'
                rw [g1] at g1'
                cases g1'
                rw [g2, g2']
              | _ => exact Eq.trans h2' (Eq.symm h2)
            rw [et] at h3'
            exact h3'
          · refine kitAny_cons (hI.kit k a1 t ha1 h2) (fun e0 => ?_) fun e0 => by rw [e0]; rfl
            rw [e0, Bool.false_or]
            refine kitAny_cons (b := a2) (hI'.kit k a2 t ha2 h2) (fun e0 => ?_) id
            rw [e0]
            exact kitAny_nil
        · cases hb
      · exact h1.elim
    · exact h1.elim
end
/-- a built-in class -/
def ansB (T : String) : Kd → Option Bool
  | .own _ => none
  | k => some (k.name == T || (k.name == "bool" && T == "int"))
theorem isi_of {K : PySem.W.Frag} {mg : Str → Option Value} {T : String} (h : ∀ t ∈ ["NoneType", "bool", "int", "str", "tuple", "list", "dict"], kitB t T = some (t == T || (t == "bool" && T == "int"))) : Isi K mg (ansB T) (.ty T) (.type T) where
  cls := .ty T
  own := fun k h => by cases h
  kit := fun k b t h ht => by
    cases k with
    | own c => cases h
    | _ =>
      cases h
      cases ht
      exact kit_ty (h _ (by simp [Kd.name]))
section
variable {K : PySem.W.Frag} {mg : Str → Option Value}
theorem isi_int : Isi K mg (ansB "int") (.ty "int") (.type "int") := isi_of (by decide +kernel)
theorem isi_bool : Isi K mg (ansB "bool") (.ty "bool") (.type "bool") := isi_of (by decide +kernel)
theorem isi_str : Isi K mg (ansB "str") (.ty "str") (.type "str") := isi_of (by decide +kernel)
theorem isi_tuple : Isi K mg (ansB "tuple") (.ty "tuple") (.type "tuple") := isi_of (by decide +kernel)
theorem isi_list : Isi K mg (ansB "list") (.ty "list") (.type "list") := isi_of (by decide +kernel)
theorem isi_dict : Isi K mg (ansB "dict") (.ty "dict") (.type "dict") := isi_of (by decide +kernel)
end
/-! ### own defs -/
def upE (K : PySem.W.Frag) (mg : Str → Option Value) (ρ : Rh) (H : Hp) (E : XK) : QX := fun x st' => ∀ ρ' H' c od, Ext ρ H ρ' H' → Rel K mg ρ' st' H' → IsX K mg ρ' H' c od x → E c od H'
/-- the promise of a def by its mirror F -/
def spM (K : PySem.W.Frag) (mg : Str → Option Value) (n : Nat) (F : List D → WD) : Sp := fun vs H Q E => ∃ ρ st ds, Rel K mg ρ st H ∧ IsL K mg ρ H ds vs ∧ ds.length = n ∧ F ds st (up K mg (rV K mg) ρ H Q) (upE K mg ρ H E)
structure Cal (P : Program) (w : World) (K : PySem.W.Frag) (mg : Str → Option Value) (base : Heap) (x : Str) (k n : Nat) (F : List D → WD) : Prop where
  ok : ∃ f fd ps, mg x = some (.ref f) ∧ PySem.W.keepIn K (.ref f) = true ∧ Binds K fd ps [] ∧ FnOk P w K mg base (L2.CX P w) k f fd ps (spM K mg n F)
  mono : ∀ ds, MonoD (F ds)
def mCall (n : Nat) (F : List D → WD) (m : WA) : WE := fun l st Q X => m l st (fun ds s1 => ds.length = n ∧ F ds s1 Q X) X
section
variable {X : Cx} {W : WX} {e : Expr} {es : List Expr} {ta : TA} {ma : WA} {x : Str} {p pos : Pos} {k j n : Nat} {F : List D → WD}
theorem ev_call {K : PySem.W.Frag} {mg : Str → Option Value} (hF : ∀ ds, MonoD (F ds)) (ha : EvG K mg (rL K mg) W ta ma) : EvG K mg (rV K mg) W (tCallS (spM K mg n F) (L2.WE W) ta) (mCall n F ma) where
  mono := fun l st Q Q' X X' h hX q => ha.mono _ _ _ _ _ _ (fun x s1 q1 => ⟨q1.1, hF _ _ _ _ _ _ h hX q1.2⟩) hX q
  run := fun ρ st H σ l Q r rl h => by
    refine ha.bind r rl h (fun _ _ z => z) fun xs s1 vs ρ1 H1 e1 r1 i1 h1 => ?_
    exact ⟨ρ1, s1, xs, r1, i1, h1.1, hF _ _ _ _ _ _ (fun d s z => z.ext e1) (fun x s z => z.ext e1) h1.2⟩
theorem de_call (C : Cal X.prog X.w X.K X.mg X.base x k n F) (hr : Room j X.A) (tk : Takes X W) (ha : DA X W (e :: es) ta ma) (hkj : k ≤ j := by decide) (hg : Gl X x := by rfl) (hdb : (x == ("__debug__" : Str)) = false := by decide)
    (he : starEach (e :: es) X.env = (false, eval e X.env) :: starEach es X.env := by rfl) (hpl : (backTo pos (starEach es X.env)).any (·.1) = false := by rfl) :
    DE X W (.Call (.Name x p) (e :: es) [] pos) (tCallS (spM X.K X.mg n F) (L2.WE W) ta) (mCall n F ma) := by
  obtain ⟨⟨f, fd, ps, h1, h2, h3, h4⟩, hF⟩ := C
  exact ⟨pe_callS h4 (hr.mono hkj) hg h1 h2 h3 (fun σ => passAt tk σ) ha.pe hdb he hpl, ev_call hF ha.ev⟩
theorem de_call0 (C : Cal X.prog X.w X.K X.mg X.base x k n F) (hr : Room j X.A) (tk : Takes X W) (hkj : k ≤ j := by decide) (hg : Gl X x := by rfl) (hdb : (x == ("__debug__" : Str)) = false := by decide) :
    DE X W (.Call (.Name x p) [] [] pos) (tCallS (spM X.K X.mg n F) (L2.WE W) tNil) (mCall n F mNil) := by
  obtain ⟨⟨f, fd, ps, h1, h2, h3, h4⟩, hF⟩ := C
  refine ⟨⟨fun pins s σ H Q I h => ?_⟩, ev_call hF da_nil.ev⟩
  refine wpAny_Call_Name_kw (ld_glob I hg h1 ?_ hdb)
  exact PySem.W.callWith_K0 I.kIn h2 (run_fnS (us := []) h4 (hr.mono hkj) h3 (passAt tk σ) I .nil h)
end
end Mir

set_option Elab.async false
set_option linter.all false
set_option maxRecDepth 100000
set_option maxHeartbeats 2000000
/-! Mir5: statements, loops, comprehensions, defs. -/
namespace Mir
open PySem PySem.Spec PyProof.Rows L2
/-! ### what is walked -/
/-- an iterator's items told as data, while gd stands of the store -/
def ItR (K : PySem.W.Frag) (mg : Str → Option Value) (J : It) (its : List D) (gd : Sto → Prop) (ρ : Rh) (H : Hp) : Prop :=
  ∃ (G : Hp → Prop) (Y : Nat → Hp → V → Hp → Prop), Walk J its.length G Y ∧ (∀ ρ1 st1 H1, Mov ρ H ρ1 H1 → Rel K mg ρ1 st1 H1 → gd st1 → G H1) ∧
    ∀ i H1 x H2 ρ1 st1, i < its.length → Mov ρ H ρ1 H1 → Rel K mg ρ1 st1 H1 → gd st1 → Y i H1 x H2 → Ext ρ1 H1 ρ1 H2 ∧ (∃ o p, H1 p = none ∧ H2 = upd H1 p o ∨ H2 = H1) ∧ ∃ d, its[i]? = some d ∧ IsV K mg ρ1 H2 d x
abbrev WI := LL → Sto → (List D → (Sto → Prop) → Sto → Prop) → QX → Prop
def MonoI (m : WI) : Prop := ∀ l st (Q Q' : List D → (Sto → Prop) → Sto → Prop) (X X' : QX), (∀ a g s, Q a g s → Q' a g s) → (∀ x s, X x s → X' x s) → m l st Q X → m l st Q' X'
structure DI (X : Cx) (W : WX) (tg iter : Expr) (wi : TI) (m : WI) : Prop where
  pi : PI X tg iter wi
  mono : MonoI m
  run : ∀ ρ st H σ l (R : It → Hp → Prop), Rel X.K X.mg ρ st H → RelL X.K X.mg ρ H σ l →
    m l st (fun its gd s' => ∀ ρ' H' J, Ext ρ H ρ' H' → Rel X.K X.mg ρ' s' H' → gd s' → ItR X.K X.mg J its gd ρ' H' → R J H') (upX X.K X.mg ρ H σ W) → wi σ H R
/-- the signs of a text -/
def signsD (z : Str) : List D := z.cps.toList.map fun c => .str ⟨#[c]⟩
def mSeq (me : WE) : WI := fun l st Q X => me l st (fun x s1 => match x with
  | .str z => Q (signsD z) (fun _ => True) s1
  | .tup its => Q its (fun _ => True) s1
  | x => match lstA s1 x with
    | some its => Q its (fun s => lstA s x = some its) s1
    | none => False) X
section
variable {X : Cx} {W : WX} {tg e : Expr} {te : TE} {me : WE}
theorem walk_fixed {J : It} {K : PySem.W.Frag} {mg : Str → Option Value} {its : List D} {gd : Sto → Prop} {ρ : Rh} {H : Hp} {P : Hp → List V → Prop} (n : Nat) (hn : n = its.length)
    (hP : ∀ ρ1 st1 H1, Mov ρ H ρ1 H1 → Rel K mg ρ1 st1 H1 → gd st1 → ∃ ys, P H1 ys ∧ IsL K mg ρ1 H1 its ys)
    (go : ∀ H ys i, P H ys → i < ys.length → J.go i H) (stop : ∀ H ys i, P H ys → ys.length ≤ i → J.stop i H) (yld : ∀ H ys i x H', P H ys → i < ys.length → J.yld i H x H' → H' = H ∧ ys[i]? = some x) : ItR K mg J its gd ρ H := by
  subst hn
  refine ⟨fun H1 => ∃ ρ1 st1, Mov ρ H ρ1 H1 ∧ Rel K mg ρ1 st1 H1 ∧ gd st1, fun i H1 x H2 => J.yld i H1 x H2, ⟨fun i H1 hi ⟨ρ1, st1, h1, h2, h3⟩ => ?_, fun H1 ⟨ρ1, st1, h1, h2, h3⟩ => ?_, fun i H1 x H2 hi _ y => y⟩, fun ρ1 st1 H1 h1 h2 h3 => ⟨ρ1, st1, h1, h2, h3⟩, fun i H1 x H2 ρ1 st1 hi h1 h2 h3 y => ?_⟩
  · obtain ⟨ys, p, q⟩ := hP ρ1 st1 H1 h1 h2 h3
    exact go H1 ys i p (by rw [← q.len]; exact hi)
  · obtain ⟨ys, p, q⟩ := hP ρ1 st1 H1 h1 h2 h3
    exact stop H1 ys _ p (by rw [q.len]; exact Nat.le_refl _)
  · obtain ⟨ys, p, q⟩ := hP ρ1 st1 H1 h1 h2 h3
    obtain ⟨e1, e2⟩ := yld H1 ys i x H2 p (by rw [← q.len]; exact hi) y
    subst e1
    exact ⟨.refl _ _, ⟨.own 0, 0, .inr rfl⟩, q.get' e2⟩
theorem itr_list {K : PySem.W.Frag} {mg : Str → Option Value} {x : D} {a : Addr} {its : List D} {ρ : Rh} {H : Hp} (i : IsV K mg ρ H x (.ref a)) : ItR K mg (Itl K a) its (fun s => lstA s x = some its) ρ H :=
  walk_fixed (P := fun H ys => SqL K H a ys) _ rfl (fun ρ1 st1 H1 e1 r1 g => by
    obtain ⟨b, ys, e2, h2, h3⟩ := lstA.at_ r1 (IsV.mov e1 _ _ i) g
    cases e2
    exact ⟨ys, h2, h3⟩) (fun H ys i p hlt => ⟨ys, ys[i], p, by simp [hlt]⟩) (fun H ys i p hle => ⟨ys, p, hle⟩) (fun H ys i x H' p hlt y => ⟨y.1, y.2 ys p⟩)
theorem itr_tup {K : PySem.W.Frag} {mg : Str → Option Value} {a : Addr} {xs : List V} {its : List D} {gd : Sto → Prop} {ρ : Rh} {H : Hp} (h : SqT K H a xs) (i : IsL K mg ρ H its xs) : ItR K mg (Itt K a) its gd ρ H :=
  walk_fixed (P := fun H ys => SqT K H a ys) _ rfl (fun ρ1 st1 H1 e1 r1 g => ⟨xs, e1.rdT h, IsL.mov e1 _ _ i⟩) (fun H ys i p hlt => ⟨ys, ys[i], p, by simp [hlt]⟩) (fun H ys i p hle => ⟨ys, p, hle⟩) (fun H ys i x H' p hlt y => ⟨y.1, y.2 ys p⟩)
theorem itr_str {K : PySem.W.Frag} {mg : Str → Option Value} {z : Str} {gd : Sto → Prop} {ρ : Rh} {H : Hp} : ItR K mg (Its z) (signsD z) gd ρ H := by
  refine ⟨fun _ => True, _, (show (signsD z).length = z.cps.size by simp [signsD]) ▸ walk_str, fun _ _ _ _ _ _ => True.intro, fun i H2 x H3 ρ2 st2 hi e2 r2 _ y => ?_⟩
  obtain ⟨e3, c, hc, rfl⟩ := y
  subst e3
  refine ⟨.refl _ _, ⟨.own 0, 0, .inr rfl⟩, .str ⟨#[c]⟩, ?_, rfl⟩
  simp only [signsD, List.getElem?_map, Array.getElem?_toList, hc]
  rfl
theorem di_seq (he : DE X W e te me) : DI X W tg e (iSeq X.K te) (mSeq me) where
  pi := pi_seq he.pe
  mono := fun l st Q Q' X1 X1' h hX q => he.ev.mono _ _ _ _ _ _ (fun x s1 q1 => by
    split at q1
    · exact h _ _ _ q1
    · exact h _ _ _ q1
    · split at q1
      · exact h _ _ _ q1
      · exact q1.elim) hX q
  run := fun ρ st H σ l R r rl h => by
    refine he.ev.bind r rl h (fun _ _ z => z) fun x s1 v ρ1 H1 e1 r1 i1 h1 => ?_
    split at h1
    · rename_i z
      cases i1
      exact .inr ⟨z, rfl, h1 ρ1 H1 _ e1 r1 True.intro itr_str⟩
    · obtain ⟨a, xs, rfl, h2, h3⟩ := i1
      exact .inl ⟨a, xs, rfl, .inr ⟨h2, h1 ρ1 H1 _ e1 r1 True.intro (itr_tup h2 h3)⟩⟩
    · split at h1
      · rename_i its hi
        obtain ⟨a, xs, rfl, h2, h3⟩ := lstA.at_ r1 i1 hi
        exact .inl ⟨a, xs, rfl, .inl ⟨h2, h1 ρ1 H1 _ e1 r1 hi (itr_list i1)⟩⟩
      · exact h1.elim
/-- ranges -/
def rangeD (lo : Int) (n : Nat) : List D := (List.range n).map fun i => .int (lo + (i : Nat))
theorem itr_range {K : PySem.W.Frag} {mg : Str → Option Value} {lo : Int} {n : Nat} {gd : Sto → Prop} {ρ : Rh} {H : Hp} : ItR K mg (Itr lo n) (rangeD lo n) gd ρ H := by
  refine ⟨fun _ => True, YFn fun i => .int (lo + (i : Nat)), by rw [show (rangeD lo n).length = n by simp [rangeD]]; exact walk_range, fun _ _ _ _ _ _ => True.intro, fun i H2 x H3 ρ2 st2 hi e2 r2 _ y => ?_⟩
  obtain ⟨e3, rfl⟩ := y
  subst e3
  have hi' : i < n := by simpa [rangeD] using hi
  exact ⟨.refl _ _, ⟨.own 0, 0, .inr rfl⟩, .int (lo + (i : Nat)), by simp [rangeD, hi'], rfl⟩
def mRange1 (ma : WA) : WI := fun l st Q X => ma l st (fun xs s1 => match xs with
  | [.int j] => -(2 ^ 62) ≤ j ∧ j < 2 ^ 62 ∧ Q (rangeD 0 j.toNat) (fun _ => True) s1
  | _ => False) X
def mRange2 (ma : WA) : WI := fun l st Q X => ma l st (fun xs s1 => match xs with
  | [.int i, .int j] => (-(2 ^ 62) ≤ i ∧ i < 2 ^ 62 ∧ -(2 ^ 62) ≤ j ∧ j < 2 ^ 62) ∧ Q (rangeD i (j - i).toNat) (fun _ => True) s1
  | _ => False) X
theorem di_range1 {a : Expr} {p pos : Pos} (hm : X.mg "range" = none) (ha : DE X W a te me) (hg : Gl X "range" := by rfl) (hs : starEach [a] X.env = [(false, eval a X.env)] := by rfl) (he : starEach [a] X.env = (false, eval a X.env) :: starEach [] X.env := by rfl) :
    DI X W tg (.Call (.Name "range" p) [a] [] pos) (iRng1 (tCons te tNil)) (mRange1 (mCons me mNil)) where
  pi := pi_range1 hg hm (pa_cons ha.pe pa_nil he) hs
  mono := fun l st Q Q' X1 X1' h hX q => (da_cons ha da_nil he).ev.mono _ _ _ _ _ _ (fun xs s1 q1 => by
    split at q1
    · exact ⟨q1.1, q1.2.1, h _ _ _ q1.2.2⟩
    · exact q1.elim) hX q
  run := fun ρ st H σ l R r rl h => by
    refine (da_cons ha da_nil he).ev.bind r rl h (fun _ _ z => z) fun xs s1 vs ρ1 H1 e1 r1 i1 h1 => ?_
    split at h1
    · obtain ⟨v, vs', rfl, i2, i3⟩ := i1
      cases i2; cases i3
      exact ⟨_, rfl, h1.1, h1.2.1, h1.2.2 ρ1 H1 _ e1 r1 True.intro itr_range⟩
    · exact h1.elim
theorem di_range2 {a b : Expr} {tb : TE} {mb : WE} {p pos : Pos} (hm : X.mg "range" = none) (ha : DE X W a te me) (hb : DE X W b tb mb) (hg : Gl X "range" := by rfl) (hs : starEach [a, b] X.env = [(false, eval a X.env), (false, eval b X.env)] := by rfl) (hs2 : starEach [b] X.env = [(false, eval b X.env)] := by rfl)
    (he : starEach [a, b] X.env = (false, eval a X.env) :: starEach [b] X.env := by rfl) (he2 : starEach [b] X.env = (false, eval b X.env) :: starEach [] X.env := by rfl) :
    DI X W tg (.Call (.Name "range" p) [a, b] [] pos) (iRng2 (tCons te (tCons tb tNil))) (mRange2 (mCons me (mCons mb mNil))) where
  pi := pi_range2 hg hm (pa_cons ha.pe (pa_cons hb.pe pa_nil he2) he) hs hs2
  mono := fun l st Q Q' X1 X1' h hX q => (da_cons ha (da_cons hb da_nil he2) he).ev.mono _ _ _ _ _ _ (fun xs s1 q1 => by
    split at q1
    · exact ⟨q1.1, h _ _ _ q1.2⟩
    · exact q1.elim) hX q
  run := fun ρ st H σ l R r rl h => by
    refine (da_cons ha (da_cons hb da_nil he2) he).ev.bind r rl h (fun _ _ z => z) fun xs s1 vs ρ1 H1 e1 r1 i1 h1 => ?_
    split at h1
    · obtain ⟨v, vs', rfl, i2, v2, vs2, rfl, i3, i4⟩ := i1
      cases i2; cases i3; cases i4
      exact ⟨_, _, rfl, h1.1, h1.2 ρ1 H1 _ e1 r1 True.intro itr_range⟩
    · exact h1.elim
/-- enumerate, zip -/
def enumD (n : Nat) : List D → List D
  | [] => []
  | d :: r => .tup [.int (n : Nat), d] :: enumD (n + 1) r
theorem enumD_get : ∀ (l : List D) (n i : Nat) (d : D), l[i]? = some d → (enumD n l)[i]? = some (.tup [.int ((n + i : Nat) : Int), d])
  | [], _, _, _, h => by simp at h
  | d :: r, n, 0, e, h => by cases h; rfl
  | d :: r, n, i + 1, e, h => by
    have := enumD_get r (n + 1) i e (by simpa using h)
    simp only [enumD, List.getElem?_cons_succ, this]
    congr 4
    omega
theorem enumD_len : ∀ (l : List D) (n : Nat), (enumD n l).length = l.length
  | [], _ => rfl
  | d :: r, n => by simp [enumD, enumD_len r]
theorem itr_pair {K : PySem.W.Frag} {mg : Str → Option Value} {J : It} {its : List D} {gd : Sto → Prop} {ρ : Rh} {H : Hp} {f g : Nat → Hp → Option V → Prop} (n : Nat) (hn : n = its.length)
    (go : ∀ i ρ1 st1 H1, i < n → Mov ρ H ρ1 H1 → Rel K mg ρ1 st1 H1 → gd st1 → J.go i H1) (stop : ∀ ρ1 st1 H1, Mov ρ H ρ1 H1 → Rel K mg ρ1 st1 H1 → gd st1 → J.stop n H1)
    (yld : ∀ i ρ1 st1 H1 v H2, i < n → Mov ρ H ρ1 H1 → Rel K mg ρ1 st1 H1 → gd st1 → J.yld i H1 v H2 → ∃ T x y d e, v = .ref T ∧ H1 T = none ∧ H2 = upd H1 T (.tup [x, y]) ∧ its[i]? = some (.tup [d, e]) ∧ IsV K mg ρ1 H1 d x ∧ IsV K mg ρ1 H1 e y) : ItR K mg J its gd ρ H := by
  subst hn
  refine ⟨fun H1 => ∃ ρ1 st1, Mov ρ H ρ1 H1 ∧ Rel K mg ρ1 st1 H1 ∧ gd st1, fun i H1 x H2 => J.yld i H1 x H2, ⟨fun i H1 hi ⟨ρ1, st1, h1, h2, h3⟩ => go i ρ1 st1 H1 hi h1 h2 h3, fun H1 ⟨ρ1, st1, h1, h2, h3⟩ => stop ρ1 st1 H1 h1 h2 h3, fun i H1 x H2 hi _ y => y⟩, fun ρ1 st1 H1 h1 h2 h3 => ⟨ρ1, st1, h1, h2, h3⟩, fun i H1 x H2 ρ1 st1 hi h1 h2 h3 y => ?_⟩
  obtain ⟨T, a, b, d, e, rfl, hT, rfl, hd, ia, ib⟩ := yld i ρ1 st1 H1 x H2 hi h1 h2 h3 y
  exact ⟨.new hT, ⟨_, _, .inl ⟨hT, rfl⟩⟩, _, hd, IsV.newU hT ⟨a, [b], rfl, ia, b, [], rfl, ib, rfl⟩⟩
def mEnum (ma : WA) : WI := fun l st Q X => ma l st (fun xs s1 => match xs with
  | [.tup its] => Q (enumD 0 its) (fun _ => True) s1
  | [x] => (match lstA s1 x with
    | some its => Q (enumD 0 its) (fun s => lstA s x = some its) s1
    | none => False)
  | _ => False) X
theorem di_enum {elts : List Expr} {kk : Nat} {tpos : Pos} {a : Expr} {p pos : Pos} (hm : X.mg "enumerate" = none) (ha : DE X W a te me) (hg : Gl X "enumerate" := by rfl) (hs : starEach [a] X.env = [(false, eval a X.env)] := by rfl) (he : starEach [a] X.env = (false, eval a X.env) :: starEach [] X.env := by rfl) :
    DI X W (.Tuple elts kk tpos) (.Call (.Name "enumerate" p) [a] [] pos) (iEnumA X.K (tCons te tNil)) (mEnum (mCons me mNil)) where
  pi := pi_enumA hg hm (pa_cons ha.pe pa_nil he) hs
  mono := fun l st Q Q' X1 X1' h hX q => (da_cons ha da_nil he).ev.mono _ _ _ _ _ _ (fun xs s1 q1 => by
    split at q1
    · exact h _ _ _ q1
    · split at q1
      · exact h _ _ _ q1
      · exact q1.elim
    · exact q1.elim) hX q
  run := fun ρ st H σ l R r rl h => by
    refine (da_cons ha da_nil he).ev.bind r rl h (fun _ _ z => z) fun xs s1 vs ρ1 H1 e1 r1 i1 h1 => ?_
    split at h1
    · rename_i its
      obtain ⟨v, vs', rfl, ⟨b, ys, rfl, i2, i4⟩, i3⟩ := i1
      cases i3
      refine ⟨b, ys, rfl, .inr ⟨i2, h1 ρ1 H1 _ e1 r1 True.intro ?_⟩⟩
      refine itr_pair its.length (enumD_len its 0).symm (f := fun _ _ _ => True) (g := fun _ _ _ => True) (fun i ρ2 st2 H2 hi e2 r2 _ => ?_) (fun ρ2 st2 H2 e2 r2 _ => ?_) (fun i ρ2 st2 H2 v H3 hi e2 r2 _ y => ?_)
      · exact ⟨ys, ys[i]'(by rw [← i4.len]; exact hi), e2.rdT i2, by simp⟩
      · exact ⟨ys, e2.rdT i2, by rw [i4.len]; exact Nat.le_refl _⟩
      · obtain ⟨T, x, h2, h3, h4, h5⟩ := y
        obtain ⟨d, hd, hx⟩ := (IsL.mov e2 _ _ i4).get' (h5 ys (e2.rdT i2))
        exact ⟨T, _, x, .int (i : Nat), d, h2, h3, h4, by rw [enumD_get its 0 i d hd, Nat.zero_add], rfl, hx⟩
    · rename_i x hne
      obtain ⟨v, vs', rfl, i2, i3⟩ := i1
      cases i3
      split at h1
      · rename_i its hi
        obtain ⟨b, ys, rfl, h2, h3⟩ := lstA.at_ r1 i2 hi
        refine ⟨b, ys, rfl, .inl ⟨h2, h1 ρ1 H1 _ e1 r1 hi ?_⟩⟩
        have at1 : ∀ {ρ2 : Rh} {st2 : Sto} {H2 : Hp}, Mov ρ1 H1 ρ2 H2 → Rel X.K X.mg ρ2 st2 H2 → lstA st2 x = some its → ∃ zs, SqL X.K H2 b zs ∧ IsL X.K X.mg ρ2 H2 its zs := fun e2 r2 g => by
          obtain ⟨b', zs, eb, g1, g2⟩ := lstA.at_ r2 (IsV.mov e2 _ _ i2) g
          cases eb
          exact ⟨zs, g1, g2⟩
        refine itr_pair its.length (enumD_len its 0).symm (f := fun _ _ _ => True) (g := fun _ _ _ => True) (fun i ρ2 st2 H2 hi e2 r2 g => ?_) (fun ρ2 st2 H2 e2 r2 g => ?_) (fun i ρ2 st2 H2 v H3 hi e2 r2 g y => ?_)
        · obtain ⟨zs, g1, g2⟩ := at1 e2 r2 g
          exact ⟨zs, zs[i]'(by rw [← g2.len]; exact hi), g1, by simp⟩
        · obtain ⟨zs, g1, g2⟩ := at1 e2 r2 g
          exact ⟨zs, g1, by rw [g2.len]; exact Nat.le_refl _⟩
        · obtain ⟨zs, g1, g2⟩ := at1 e2 r2 g
          obtain ⟨T, x, h2, h3, h4, h5⟩ := y
          obtain ⟨d, hd, hx⟩ := g2.get' (h5 zs g1)
          exact ⟨T, _, x, .int (i : Nat), d, h2, h3, h4, by rw [enumD_get its 0 i d hd, Nat.zero_add], rfl, hx⟩
      · exact h1.elim
    · exact h1.elim
def zipD : List D → List D → List D
  | a :: r, b :: s => .tup [a, b] :: zipD r s
  | _, _ => []
theorem zipD_get : ∀ (l m : List D) (i : Nat) (d e : D), l[i]? = some d → m[i]? = some e → (zipD l m)[i]? = some (.tup [d, e])
  | [], _, _, _, _, h, _ => by simp at h
  | _ :: _, [], _, _, _, _, h => by simp at h
  | a :: r, b :: s, 0, d, e, h, h' => by cases h; cases h'; rfl
  | a :: r, b :: s, i + 1, d, e, h, h' => by
    simp only [zipD, List.getElem?_cons_succ]
    exact zipD_get r s i d e (by simpa using h) (by simpa using h')
theorem zipD_len : ∀ (l m : List D), (zipD l m).length = min l.length m.length
  | [], _ => by simp [zipD]
  | _ :: _, [] => by simp [zipD]
  | a :: r, b :: s => by simp only [zipD, List.length_cons, zipD_len r s]; omega
def mZip (ma : WA) : WI := fun l st Q X => ma l st (fun xs s1 => match xs with
  | [.tup a, .tup b] => Q (zipD a b) (fun _ => True) s1
  | [x, y] => (match lstA s1 x, lstA s1 y with
    | some a, some b => Q (zipD a b) (fun s => lstA s x = some a ∧ lstA s y = some b) s1
    | _, _ => False)
  | _ => False) X
theorem di_zip {elts : List Expr} {kk : Nat} {tpos : Pos} {a b : Expr} {tb : TE} {mb : WE} {p pos : Pos} (hm : X.mg "zip" = none) (ha : DE X W a te me) (hb : DE X W b tb mb) (hg : Gl X "zip" := by rfl)
    (he : starEach [a, b] X.env = (false, eval a X.env) :: starEach [b] X.env := by rfl) (he2 : starEach [b] X.env = (false, eval b X.env) :: starEach [] X.env := by rfl) (hpl : (backTo pos (starEach [b] X.env)).any (·.1) = false := by rfl) :
    DI X W (.Tuple elts kk tpos) (.Call (.Name "zip" p) [a, b] [] pos) (RZ.iZipA X.K (tCons te (tCons tb tNil))) (mZip (mCons me (mCons mb mNil))) where
  pi := RZ.pi_zipA hg hm (pa_cons ha.pe (pa_cons hb.pe pa_nil he2) he) he hpl
  mono := fun l st Q Q' X1 X1' h hX q => (da_cons ha (da_cons hb da_nil he2) he).ev.mono _ _ _ _ _ _ (fun xs s1 q1 => by
    split at q1
    · exact h _ _ _ q1
    · split at q1
      · exact h _ _ _ q1
      · exact q1.elim
    · exact q1.elim) hX q
  run := fun ρ st H σ l R r rl h => by
    refine (da_cons ha (da_cons hb da_nil he2) he).ev.bind r rl h (fun _ _ z => z) fun xs s1 vs ρ1 H1 e1 r1 i1 h1 => ?_
    split at h1
    · rename_i its jts
      obtain ⟨v, vs', rfl, ⟨a, ys, rfl, i2, i4⟩, v2, vs2, rfl, ⟨b, zs, rfl, i5, i6⟩, i3⟩ := i1
      cases i3
      refine ⟨a, b, ys, zs, rfl, .inr ⟨i2, i5, h1 ρ1 H1 _ e1 r1 True.intro ?_⟩⟩
      refine itr_pair (min its.length jts.length) (zipD_len its jts).symm (f := fun _ _ _ => True) (g := fun _ _ _ => True) (fun i ρ2 st2 H2 hi e2 r2 _ => ?_) (fun ρ2 st2 H2 e2 r2 _ => ?_) (fun i ρ2 st2 H2 v H3 hi e2 r2 _ y => ?_)
      · have hy : i < ys.length := by rw [← i4.len]; omega
        have hz : i < zs.length := by rw [← i6.len]; omega
        exact ⟨ys, zs, ys[i], zs[i], e2.rdT i2, e2.rdT i5, by simp, by simp⟩
      · exact ⟨ys, zs, e2.rdT i2, e2.rdT i5, by rw [← i4.len, ← i6.len]; omega⟩
      · obtain ⟨T, x, z, h2, h3, h4, h5, h6⟩ := y
        obtain ⟨d, hd, hx⟩ := (IsL.mov e2 _ _ i4).get' (h5 ys (e2.rdT i2))
        obtain ⟨d', hd', hx'⟩ := (IsL.mov e2 _ _ i6).get' (h6 zs (e2.rdT i5))
        exact ⟨T, x, z, d, d', h2, h3, h4, zipD_get its jts i d d' hd hd', hx, hx'⟩
    · rename_i x y hne
      obtain ⟨v, vs', rfl, i2, v2, vs2, rfl, i5, i3⟩ := i1
      cases i3
      split at h1
      · rename_i its jts hi hj
        obtain ⟨a, ys, rfl, h2, h3⟩ := lstA.at_ r1 i2 hi
        obtain ⟨b, zs, rfl, h4, h5⟩ := lstA.at_ r1 i5 hj
        refine ⟨a, b, ys, zs, rfl, .inl ⟨h2, h4, h1 ρ1 H1 _ e1 r1 ⟨hi, hj⟩ ?_⟩⟩
        have at1 : ∀ {x : D} {b : Addr} {its : List D}, IsV X.K X.mg ρ1 H1 x (.ref b) → ∀ {ρ2 : Rh} {st2 : Sto} {H2 : Hp}, Mov ρ1 H1 ρ2 H2 → Rel X.K X.mg ρ2 st2 H2 → lstA st2 x = some its → ∃ zs, SqL X.K H2 b zs ∧ IsL X.K X.mg ρ2 H2 its zs := fun i2 ρ2 st2 H2 e2 r2 g => by
          obtain ⟨b', zs, eb, g1, g2⟩ := lstA.at_ r2 (IsV.mov e2 _ _ i2) g
          cases eb
          exact ⟨zs, g1, g2⟩
        refine itr_pair (min its.length jts.length) (zipD_len its jts).symm (f := fun _ _ _ => True) (g := fun _ _ _ => True) (fun i ρ2 st2 H2 hi e2 r2 g => ?_) (fun ρ2 st2 H2 e2 r2 g => ?_) (fun i ρ2 st2 H2 v H3 hi e2 r2 g y => ?_)
        · obtain ⟨ys, g1, g2⟩ := at1 i2 e2 r2 g.1
          obtain ⟨zs, g3, g4⟩ := at1 i5 e2 r2 g.2
          have hy : i < ys.length := by rw [← g2.len]; omega
          have hz : i < zs.length := by rw [← g4.len]; omega
          exact ⟨ys, zs, ys[i], zs[i], g1, g3, by simp, by simp⟩
        · obtain ⟨ys, g1, g2⟩ := at1 i2 e2 r2 g.1
          obtain ⟨zs, g3, g4⟩ := at1 i5 e2 r2 g.2
          exact ⟨ys, zs, g1, g3, by rw [← g2.len, ← g4.len]; omega⟩
        · obtain ⟨ys, g1, g2⟩ := at1 i2 e2 r2 g.1
          obtain ⟨zs, g3, g4⟩ := at1 i5 e2 r2 g.2
          obtain ⟨T, x, z, h2, h3, h4, h5, h6⟩ := y
          obtain ⟨d, hd, hx⟩ := g2.get' (h5 ys g1)
          obtain ⟨d', hd', hx'⟩ := g4.get' (h6 zs g3)
          exact ⟨T, x, z, d, d', h2, h3, h4, zipD_get its jts i d d' hd hd', hx, hx'⟩
      · exact h1.elim
    · exact h1.elim
end
end Mir

set_option Elab.async false
set_option linter.all false
set_option maxRecDepth 100000
set_option maxHeartbeats 2000000
/-! Mir6: targets, statements, loops, comprehensions, defs. -/
namespace Mir
open PySem PySem.Spec PyProof.Rows L2
structure EndM where
  nx : LL → Sto → Prop
  rt : QD
  bk : LL → Sto → Prop
  ct : LL → Sto → Prop
  ex : LL → QX
structure EndM.le (E E' : EndM) : Prop where
  nx : ∀ l s, E.nx l s → E'.nx l s
  rt : ∀ d s, E.rt d s → E'.rt d s
  bk : ∀ l s, E.bk l s → E'.bk l s
  ct : ∀ l s, E.ct l s → E'.ct l s
  ex : ∀ l x s, E.ex l x s → E'.ex l x s
abbrev WS := LL → Sto → EndM → Prop
def MonoS (m : WS) : Prop := ∀ l st (E E' : EndM), E.le E' → m l st E → m l st E'
section
variable (K : PySem.W.Frag) (mg : Str → Option Value)
/-- locals of a later heap -/
def upN (ρ : Rh) (H : Hp) (N : L2.St → Hp → Prop) : LL → Sto → Prop := fun l' st' => ∀ ρ' H' σ', Ext ρ H ρ' H' → Rel K mg ρ' st' H' → RelL K mg ρ' H' σ' l' → N σ' H'
def upS (ρ : Rh) (H : Hp) (W : WX) (D : Ends) : EndM where
  nx := upN K mg ρ H D.nx
  rt := up K mg (rV K mg) ρ H D.rt
  bk := upN K mg ρ H D.bk
  ct := upN K mg ρ H D.ct
  ex := fun l' x st' => ∀ ρ' H' σ' c od, Ext ρ H ρ' H' → Rel K mg ρ' st' H' → RelL K mg ρ' H' σ' l' → IsX K mg ρ' H' c od x → W c od σ' H'
end
section
variable {K : PySem.W.Frag} {mg : Str → Option Value} {ρ ρ1 : Rh} {H H1 : Hp}
theorem upN.ext {N : L2.St → Hp → Prop} {l : LL} {s : Sto} (h : upN K mg ρ H N l s) (e : Ext ρ H ρ1 H1) : upN K mg ρ1 H1 N l s := fun ρ' H' σ' e' r q => h ρ' H' σ' (e.trans e') r q
theorem upS.ext {W : WX} {D : Ends} (e : Ext ρ H ρ1 H1) : (upS K mg ρ H W D).le (upS K mg ρ1 H1 W D) where
  nx := fun _ _ h => h.ext e
  rt := fun _ _ h => up.ext (R := rV K mg) h e
  bk := fun _ _ h => h.ext e
  ct := fun _ _ h => h.ext e
  ex := fun l x s h ρ' H' σ' c od e' r rl i => h ρ' H' σ' c od (e.trans e') r rl i
theorem EndM.le_refl (E : EndM) : E.le E := ⟨fun _ _ h => h, fun _ _ h => h, fun _ _ h => h, fun _ _ h => h, fun _ _ _ h => h⟩
theorem EndM.le_trans {E E' E2 : EndM} (a : E.le E') (b : E'.le E2) : E.le E2 := ⟨fun _ _ h => b.nx _ _ (a.nx _ _ h), fun _ _ h => b.rt _ _ (a.rt _ _ h), fun _ _ h => b.bk _ _ (a.bk _ _ h), fun _ _ h => b.ct _ _ (a.ct _ _ h), fun _ _ _ h => b.ex _ _ _ (a.ex _ _ _ h)⟩
end
structure DS (X : Cx) (W : WX) (s : Stmt) (t : TS) (m : WS) : Prop where
  ps : PS X s t
  mono : MonoS m
  run : ∀ ρ st H σ l D, Rel X.K X.mg ρ st H → RelL X.K X.mg ρ H σ l → m l st (upS X.K X.mg ρ H W D) → t D σ H
structure DSs (X : Cx) (W : WX) (s : List Stmt) (t : TS) (m : WS) : Prop where
  ps : PSs X s t
  mono : MonoS m
  run : ∀ ρ st H σ l D, Rel X.K X.mg ρ st H → RelL X.K X.mg ρ H σ l → m l st (upS X.K X.mg ρ H W D) → t D σ H
def mNext : WS := fun l st E => E.nx l st
def mSeqS (m n : WS) : WS := fun l st E => m l st { E with nx := fun l' s' => n l' s' E }
section
variable {X : Cx} {W : WX} {s : Stmt} {rest : List Stmt} {t u : TS} {m n : WS} {e : Expr} {te : TE} {me : WE} {pos : Pos}
theorem dss_nil : DSs X W [] tNext mNext := ⟨pss_nil, fun _ _ _ _ h q => h.nx _ _ q, fun ρ st H σ l D r rl h => h ρ H σ (.refl _ _) r rl⟩
theorem mSeqS.mono (hm : MonoS m) (hn : MonoS n) : MonoS (mSeqS m n) := fun l st E E' h q => hm _ _ { E with nx := fun l' s' => n l' s' E } { E' with nx := fun l' s' => n l' s' E' } ⟨fun l' s' z => hn _ _ _ _ h z, h.rt, h.bk, h.ct, h.ex⟩ q
theorem dss_cons (h1 : DS X W s t m) (h2 : DSs X W rest u n) : DSs X W (s :: rest) (tSeq t u) (mSeqS m n) where
  ps := pss_cons h1.ps h2.ps
  mono := mSeqS.mono h1.mono h2.mono
  run := fun ρ st H σ l D r rl h => by
    refine h1.run ρ st H σ l { D with nx := u D } r rl (h1.mono _ _ { upS X.K X.mg ρ H W D with nx := fun l' s' => n l' s' (upS X.K X.mg ρ H W D) } _ ⟨fun l' s' z => ?_, fun _ _ z => z, fun _ _ z => z, fun _ _ z => z, fun _ _ _ z => z⟩ h)
    intro ρ1 H1 σ1 e1 r1 rl1
    exact h2.run ρ1 s' H1 σ1 l' D r1 rl1 (h2.mono _ _ _ _ (upS.ext e1) z)
theorem dss_one (h1 : DS X W s t m) : DSs X W [s] t m := ⟨pss_one h1.ps, h1.mono, h1.run⟩
theorem ds_pass : DS X W (.Pass pos) tNext mNext := ⟨ps_pass, fun _ _ _ _ h q => h.nx _ _ q, fun ρ st H σ l D r rl h => h ρ H σ (.refl _ _) r rl⟩
theorem ds_break : DS X W (.Break pos) tBreak (fun l st E => E.bk l st) := ⟨ps_break, fun _ _ _ _ h q => h.bk _ _ q, fun ρ st H σ l D r rl h => h ρ H σ (.refl _ _) r rl⟩
theorem ds_continue : DS X W (.Continue pos) tCont (fun l st E => E.ct l st) := ⟨ps_continue, fun _ _ _ _ h q => h.ct _ _ q, fun ρ st H σ l D r rl h => h ρ H σ (.refl _ _) r rl⟩
/-- an exception of an expression, at these slots -/
theorem exX {K : PySem.W.Frag} {mg : Str → Option Value} {ρ : Rh} {H : Hp} {σ : L2.St} {l : LL} {W : WX} {D : Ends} (rl : RelL K mg ρ H σ l) (x : Ex) (s : Sto) (h : (upS K mg ρ H W D).ex l x s) : upX K mg ρ H σ W x s :=
  fun ρ' H' c od e r i => h ρ' H' σ c od e r (rl.mono e) i
def mExpr (me : WE) : WS := fun l st E => me l st (fun _ s1 => E.nx l s1) (E.ex l)
def mRet (me : WE) : WS := fun l st E => me l st E.rt (E.ex l)
theorem ds_expr (he : DE X W e te me) (hs : swapsWith e none pos.line X.env = pure false := by rfl) : DS X W (.Expr e pos) (tDrop te) (mExpr me) where
  ps := ps_expr he.pe hs
  mono := fun l st E E' h q => he.ev.mono _ _ _ _ _ _ (fun _ _ z => h.nx _ _ z) (fun _ _ z => h.ex _ _ _ z) q
  run := fun ρ st H σ l D r rl h => he.ev.bind r rl h (exX rl) fun d s v ρ1 H1 e1 r1 i1 h1 => h1 ρ1 H1 σ e1 r1 (rl.mono e1)
theorem ds_ret (he : DE X W e te me) : DS X W (.Return (some e) pos) (tRet te) (mRet me) where
  ps := ps_ret he.pe
  mono := fun l st E E' h q => he.ev.mono _ _ _ _ _ _ (fun _ _ z => h.rt _ _ z) (fun _ _ z => h.ex _ _ _ z) q
  run := fun ρ st H σ l D r rl h => he.ev.bind r rl h (exX rl) fun d s v ρ1 H1 e1 r1 i1 h1 => up.now (R := rV X.K X.mg) h1 e1 r1 i1
theorem ds_retN : DS X W (.Return none pos) tRetN (fun l st E => E.rt .non st) where
  ps := ps_retN
  mono := fun l st E E' h q => h.rt _ _ q
  run := fun ρ st H σ l D r rl h => up.now (R := rV X.K X.mg) h (.refl _ _) r rfl
def mIfS (c : WT) (m n : WS) : WS := fun l st E => c l st (fun b s1 => if b = true then m l s1 E else n l s1 E) (E.ex l)
theorem ds_if {c : Expr} {a b : List Stmt} {tc : TT} {mc : WT} (hc : DT X W c tc mc) (ha : DSs X W a t m) (hb : DSs X W b u n) : DS X W (.If c a b pos) (tIfS tc t u) (mIfS mc m n) where
  ps := ps_if hc.pe ha.ps hb.ps
  mono := fun l st E E' h q => hc.ev.mono _ _ _ _ _ _ (fun b s1 z => by
    cases b with
    | true => exact ha.mono _ _ _ _ h z
    | false => exact hb.mono _ _ _ _ h z) (fun _ _ z => h.ex _ _ _ z) q
  run := fun ρ st H σ l D r rl h => by
    refine hc.ev.bind r rl h (exX rl) fun b s v ρ1 H1 e1 r1 i1 h1 => ?_
    cases i1
    cases b with
    | true => exact ha.run ρ1 s H1 σ l D r1 (rl.mono e1) (ha.mono _ _ _ _ (upS.ext e1) h1)
    | false => exact hb.run ρ1 s H1 σ l D r1 (rl.mono e1) (hb.mono _ _ _ _ (upS.ext e1) h1)
/-! ### targets -/
/-- what a target leaves as it is: all slots but is -/
structure Off (is : List Nat) (σ σ' : L2.St) : Prop where
  len : σ'.length = σ.length
  off : ∀ j, j ∉ is → σ'[j]? = σ[j]?
theorem Off.refl (is : List Nat) (σ : L2.St) : Off is σ σ := ⟨rfl, fun _ _ => rfl⟩
abbrev WTg := D → LL → Sto → (LL → Sto → Prop) → Prop
structure DG (X : Cx) (tg : Expr) (is : List Nat) (g : TG) (m : WTg) : Prop where
  pg : PG X tg g
  mono : ∀ d l st (Q Q' : LL → Sto → Prop), (∀ l s, Q l s → Q' l s) → m d l st Q → m d l st Q'
  run : ∀ ρ st H σ l d v (Q : L2.St → Hp → Prop), Rel X.K X.mg ρ st H → RelL X.K X.mg ρ H σ l → IsV X.K X.mg ρ H d v →
    m d l st (fun l' s' => ∀ ρ' H' σ', Ext ρ H ρ' H' → Rel X.K X.mg ρ' s' H' → RelL X.K X.mg ρ' H' σ' l' → Off is σ σ' → Q σ' H') → g v σ H Q
abbrev WTgs := List D → LL → Sto → (LL → Sto → Prop) → Prop
structure DGs (X : Cx) (tg : List Expr) (is : List Nat) (g : TGs) (m : WTgs) : Prop where
  pg : PGs X tg g
  mono : ∀ d l st (Q Q' : LL → Sto → Prop), (∀ l s, Q l s → Q' l s) → m d l st Q → m d l st Q'
  run : ∀ ρ st H σ l ds vs (Q : L2.St → Hp → Prop), Rel X.K X.mg ρ st H → RelL X.K X.mg ρ H σ l → IsL X.K X.mg ρ H ds vs →
    m ds l st (fun l' s' => ∀ ρ' H' σ', Ext ρ H ρ' H' → Rel X.K X.mg ρ' s' H' → RelL X.K X.mg ρ' H' σ' l' → Off is σ σ' → Q σ' H') → g vs σ H Q
def gmName (i : Nat) : WTg := fun d l st Q => Q (l.set i (some d)) st
theorem dg_name {i : Nat} {x : Str} (hN : X.N.Nodup) (hi : X.N[i]? = some x) (hx : Loc X.env.scope x) (hf : X.fn x = true ∨ X.env.scope.names.lookup x = some .local := by first | exact .inl rfl | exact .inr rfl | assumption) : DG X (.Name x pos) [i] (gName i) (gmName i) where
  pg := pg_name hN hi hx hf
  mono := fun _ _ _ _ _ h q => h _ _ q
  run := fun ρ st H σ l d v Q r rl i1 h => h ρ H _ (.refl _ _) r (rl.set i1) ⟨by simp, fun j hj => by rw [List.getElem?_set_ne (fun z => hj (by simp [z]))]⟩
def gmNil : WTgs := fun ds l st Q => ds = [] ∧ Q l st
def gmCons (m : WTg) (ms : WTgs) : WTgs := fun ds l st Q => match ds with
  | d :: r => m d l st (fun l1 s1 => ms r l1 s1 Q)
  | [] => False
theorem dgs_nil : DGs X [] [] gNil gmNil where
  pg := pgs_nil
  mono := fun _ _ _ _ _ h q => ⟨q.1, h _ _ q.2⟩
  run := fun ρ st H σ l ds vs Q r rl i1 h => by
    obtain ⟨rfl, h⟩ := h
    cases i1
    exact ⟨rfl, h ρ H σ (.refl _ _) r rl (.refl _ _)⟩
theorem dgs_cons {es : List Expr} {is js : List Nat} {g : TG} {gs : TGs} {mg1 : WTg} {mgs : WTgs} (h1 : DG X e is g mg1) (h2 : DGs X es js gs mgs)
    (hs : List.map (fun x => x.snd) (assignEach (e :: es) X.env) = assign e X.env :: List.map (fun x => x.snd) (assignEach es X.env) := by rfl) : DGs X (e :: es) (is ++ js) (gCons g gs) (gmCons mg1 mgs) where
  pg := pgs_cons h1.pg h2.pg hs
  mono := fun ds l st Q Q' h q => by
    cases ds with
    | nil => exact q.elim
    | cons d r => exact h1.mono _ _ _ _ _ (fun l1 s1 z => h2.mono _ _ _ _ _ h z) q
  run := fun ρ st H σ l ds vs Q r rl i1 h => by
    cases ds with
    | nil => exact h.elim
    | cons d r' =>
      obtain ⟨v, vs', rfl, i2, i3⟩ := i1
      refine ⟨v, vs', rfl, ?_⟩
      refine h1.run ρ st H σ l d v _ r rl i2 (h1.mono _ _ _ _ _ (fun l1 s1 z => ?_) h)
      intro ρ1 H1 σ1 e1 r1 rl1 o1
      refine h2.run ρ1 s1 H1 σ1 l1 r' vs' Q r1 rl1 (IsL.mono e1 _ _ i3) (h2.mono _ _ _ _ _ (fun l2 s2 z2 => ?_) z)
      intro ρ2 H2 σ2 e2 r2 rl2 o2
      refine z2 ρ2 H2 σ2 (e1.trans e2) r2 rl2 ⟨o2.len.trans o1.len, fun j hj => ?_⟩
      rw [o2.off j (fun q => hj (List.mem_append_right _ q)), o1.off j (fun q => hj (List.mem_append_left _ q))]
/-- a tuple's items to several names -/
def gmTup (n : Nat) (ms : WTgs) : WTg := fun d l st Q => match d with
  | .tup ds => ds.length = n ∧ ms ds l st Q
  | _ => False
theorem dg_tup {es : List Expr} {is : List Nat} {k n : Nat} {gs : TGs} {mgs : WTgs} (hc : X.calm = true) (h : DGs X es is gs mgs) (hn : es.length = n := by rfl) (hp : PG X (.Tuple es k pos) (gTup X.K n gs)) : DG X (.Tuple es k pos) is (gTup X.K n gs) (gmTup n mgs) where
  pg := hp
  mono := fun d l st Q Q' hQ q => by
    unfold gmTup at *
    split at q
    · exact ⟨q.1, h.mono _ _ _ _ _ hQ q.2⟩
    · exact q.elim
  run := fun ρ st H σ l d v Q r rl i1 q => by
    unfold gmTup at q
    split at q
    · obtain ⟨a, xs, rfl, i2, i3⟩ := i1
      exact ⟨a, xs, rfl, i2, by rw [← i3.len]; exact q.1, h.run ρ st H σ l _ xs Q r rl i3 q.2⟩
    · exact q.elim
/-! ### assignments -/
def mAsg (me : WE) (m : WTg) : WS := fun l st E => me l st (fun d s1 => m d l s1 E.nx) (E.ex l)
theorem mAsg.mono {is : List Nat} {tg : Expr} {g : TG} {m : WTg} (he : DE X W e te me) (hg : DG X tg is g m) : MonoS (mAsg me m) := fun l st E E' h q => he.ev.mono _ _ _ _ _ _ (fun d s1 z => hg.mono _ _ _ _ _ (fun _ _ y => h.nx _ _ y) z) (fun _ _ z => h.ex _ _ _ z) q
theorem mAsg.run {is : List Nat} {tg : Expr} {g : TG} {m : WTg} (he : DE X W e te me) (hg : DG X tg is g m) : ∀ ρ st H σ l D, Rel X.K X.mg ρ st H → RelL X.K X.mg ρ H σ l → mAsg me m l st (upS X.K X.mg ρ H W D) → tAsg te g D σ H := fun ρ st H σ l D r rl h => by
  refine he.ev.bind r rl h (exX rl) fun d s v ρ1 H1 e1 r1 i1 h1 => ?_
  exact hg.run ρ1 s H1 σ l d v D.nx r1 (rl.mono e1) i1 (hg.mono _ _ _ _ _ (fun l' s' z => fun ρ' H' σ' e' r' rl' _ => z ρ' H' σ' (e1.trans e') r' rl') h1)
theorem ds_asg {is : List Nat} {tg : Expr} {g : TG} {m : WTg} (he : DE X W e te me) (hg : DG X tg is g m) (hs : swapsWithSole [tg] e pos.line X.env = pure false := by rfl) (hw : swappedStores [tg] e X.env = pure none := by rfl) (h1 : List.map (fun x => x.snd) (assignEach [tg] X.env) = [assign tg X.env] := by rfl) : DS X W (.Assign [tg] e pos) (tAsg te g) (mAsg me m) where
  ps := ps_asg he.pe hg.pg hs hw h1
  mono := mAsg.mono he hg
  run := mAsg.run he hg
theorem ds_set {i : Nat} {x : Str} {pos' : Pos} (hN : X.N.Nodup) (hi : X.N[i]? = some x) (hx : Loc X.env.scope x) (he : DE X W e te me) (hs : swapsWith e (some (.Name x pos')) pos.line X.env = pure false := by rfl) (hf : X.fn x = true ∨ X.env.scope.names.lookup x = some .local := by first | exact .inl rfl | exact .inr rfl | assumption) :
    DS X W (.Assign [.Name x pos'] e pos) (tAsg te (gName i)) (mAsg me (gmName i)) where
  ps := ps_set hN hi hx he.pe hs hf
  mono := mAsg.mono he (dg_name (pos := pos') hN hi hx hf)
  run := mAsg.run he (dg_name (pos := pos') hN hi hx hf)
/-- o[i] = e, a list of the store -/
def setD (o i v : D) : Sto → (Sto → Prop) → Prop := fun st Q => match o, i with
  | .ref n, .int k => (match st[n]? with
    | some (.lst l) => (match ixN l.length k with
      | some j => Q (st.set n (.lst (l.set j v)))
      | none => False)
    | _ => False)
  | _, _ => False
def mSub (me mo mi : WE) : WS := fun l st E => me l st (fun d s1 => mo l s1 (fun o s2 => mi l s2 (fun i s3 => setD o i d s3 (fun s4 => E.nx l s4)) (E.ex l)) (E.ex l)) (E.ex l)
theorem setD.mono {o i v : D} {st : Sto} {Q Q' : Sto → Prop} (h : ∀ s, Q s → Q' s) (q : setD o i v st Q) : setD o i v st Q' := by
  unfold setD at *
  split at q
  · split at q
    · split at q
      · exact h _ q
      · exact q.elim
    · exact q.elim
  · exact q.elim
theorem setD.run {K : PySem.W.Frag} {mg : Str → Option Value} {ρ : Rh} {H : Hp} {o i v : D} {vo vi vv : V} {st : Sto} {Q : Hp → Prop} (r : Rel K mg ρ st H) (io : IsV K mg ρ H o vo) (ii : IsV K mg ρ H i vi) (iv : IsV K mg ρ H v vv)
    (h : setD o i v st (fun s' => ∀ ρ' H', Ext ρ H ρ' H' → Rel K mg ρ' s' H' → Q H')) : rSetL vo vi vv H Q := by
  unfold setD at h
  split at h
  · rename_i n k
    cases ii
    obtain ⟨a, rfl, ha⟩ := io
    split at h
    · rename_i l hl
      obtain ⟨xs, h1, h2⟩ := r.at_ n a _ ha hl
      split at h
      · rename_i j hj
        refine ⟨a, xs, k, j, rfl, rfl, h1, by rw [← h2.len]; exact hj, ?_⟩
        have e1 : Ext ρ H ρ (upd H a (.lst (xs.set j vv))) := .write (List.mem_of_getElem? ha) h1 (fun z => z)
        exact h ρ _ e1 (r.write ha ⟨_, upd_same, (IsL.mono e1 _ _ h2).set j (IsV.mono e1 _ _ iv)⟩)
      · exact h.elim
    · exact h.elim
  · exact h.elim
theorem ds_sub {o i : Expr} {to ti : TE} {mo mi : WE} {pos' : Pos} (he : DE X W e te me) (ho : DE X W o to mo) (hi : DE X W i ti mi) (hs : swapsWithSole [.Subscript o i pos'] e pos.line X.env = pure false := by rfl) (hw : swappedStores [.Subscript o i pos'] e X.env = pure none := by rfl)
    (hp : PG X (.Subscript o i pos') (gSub to ti rSetL)) : DS X W (.Assign [.Subscript o i pos'] e pos) (tAsg te (gSub to ti rSetL)) (mSub me mo mi) where
  ps := ps_asg he.pe hp hs hw
  mono := fun l st E E' h q => he.ev.mono _ _ _ _ _ _ (fun d s1 z => ho.ev.mono _ _ _ _ _ _ (fun o s2 z2 => hi.ev.mono _ _ _ _ _ _ (fun i s3 z3 => setD.mono (fun s4 z4 => h.nx _ _ z4) z3) (fun _ _ z => h.ex _ _ _ z) z2) (fun _ _ z => h.ex _ _ _ z) z) (fun _ _ z => h.ex _ _ _ z) q
  run := fun ρ st H σ l D r rl h => by
    refine he.ev.bind r rl h (exX rl) fun d s v ρ1 H1 e1 r1 i1 h1 => ?_
    refine ho.ev.bind r1 (rl.mono e1) h1 (fun x s z => (exX rl x s z).ext e1) fun o s2 vo ρ2 H2 e2 r2 i2 h2 => ?_
    refine hi.ev.bind r2 (rl.mono (e1.trans e2)) h2 (fun x s z => (exX rl x s z).ext (e1.trans e2)) fun i s3 vi ρ3 H3 e3 r3 i3 h3 => ?_
    refine setD.run r3 (IsV.mono e3 _ _ i2) i3 (IsV.mono (e2.trans e3) _ _ i1) (setD.mono (fun s4 z4 => fun ρ' H' e' r' => ?_) h3)
    exact z4 ρ' H' σ (((e1.trans e2).trans e3).trans e') r' (rl.mono (((e1.trans e2).trans e3).trans e'))
/-- x += e -/
def mAug (i : Nat) (f : D → D → WD) (me : WE) : WS := fun l st E => match l[i]? with
  | some (some x) => me l st (fun y s1 => f x y s1 (fun d s2 => E.nx (l.set i (some d)) s2) (E.ex l)) (E.ex l)
  | _ => False
theorem ds_aug {i : Nat} {x : Str} {op : Operator} {ti : TIp} {f : D → D → WD} {pos' : Pos} (hN : X.N.Nodup) (hi : X.N[i]? = some x) (hx : Loc X.env.scope x) (ho : PIp X op ti) (hO : OpM X.K X.mg ti f) (he : DE X W e te me)
    (hf : X.fn x = true ∨ X.env.scope.names.lookup x = some .local := by first | exact .inl rfl | exact .inr rfl | assumption) : DS X W (.AugAssign (.Name x pos') op e pos) (tAug i te ti) (mAug i f me) where
  ps := ps_aug hN hi hx he.pe ho hf
  mono := fun l st E E' h q => by
    unfold mAug at *
    split at q
    · exact he.ev.mono _ _ _ _ _ _ (fun y s1 z => hO.mono _ _ _ _ _ _ _ (fun _ _ y => h.nx _ _ y) (fun _ _ y => h.ex _ _ _ y) z) (fun _ _ z => h.ex _ _ _ z) q
    · exact q.elim
  run := fun ρ st H σ l D r rl h => by
    unfold mAug at h
    split at h
    · rename_i d hd
      obtain ⟨v, h1, i1⟩ := rl.at_ i d hd
      refine ⟨v, h1, ?_⟩
      refine he.ev.bind r rl h (exX rl) fun y s u ρ1 H1 e1 r1 i2 h2 => ?_
      refine hO.run ρ1 s H1 d y v u _ _ r1 (IsV.mono e1 _ _ i1) i2 (hO.mono _ _ _ _ _ _ _ (fun d2 s2 z => ?_) (fun _ _ z => z) h2)
      intro w ρ2 H2 e2 r2 i3
      exact z ρ2 H2 _ (e1.trans e2) r2 ((rl.mono (e1.trans e2)).set i3)
    · exact h.elim
end
theorem opm_ipadd {K : PySem.W.Frag} {mg : Str → Option Value} : OpM K mg (ipI fun i j => i + j) (intD (fun _ _ => True) fun i j => .int (i + j)) := opm_int0 (gv := fun i j => .int (i + j)) fun _ _ _ _ => rfl
/-! ### for -/
def loopW (tg : WTg) (gd : Sto → Prop) (body : WS) : List D → WS
  | [] => fun l st E => gd st ∧ E.nx l st
  | d :: r => fun l st E => gd st ∧ tg d l st (fun l1 s1 => body l1 s1 { E with nx := fun l2 s2 => loopW tg gd body r l2 s2 E, ct := fun l2 s2 => loopW tg gd body r l2 s2 E, bk := E.nx })
theorem loopW.mono {tg : WTg} {gd : Sto → Prop} {body : WS} (hg : ∀ d l st (Q Q' : LL → Sto → Prop), (∀ l s, Q l s → Q' l s) → tg d l st Q → tg d l st Q') (hb : MonoS body) : ∀ its : List D, MonoS (loopW tg gd body its)
  | [], _, _, _, _, h, q => ⟨q.1, h.nx _ _ q.2⟩
  | d :: r, l, st, E, E', h, q => ⟨q.1, hg _ _ _ _ _ (fun l1 s1 z => hb _ _ { E with nx := fun l2 s2 => loopW tg gd body r l2 s2 E, ct := fun l2 s2 => loopW tg gd body r l2 s2 E, bk := E.nx } { E' with nx := fun l2 s2 => loopW tg gd body r l2 s2 E', ct := fun l2 s2 => loopW tg gd body r l2 s2 E', bk := E'.nx } ⟨fun l2 s2 y => loopW.mono hg hb r _ _ _ _ h y, h.rt, fun l2 s2 y => h.nx _ _ y, fun l2 s2 y => loopW.mono hg hb r _ _ _ _ h y, h.ex⟩ z) q.2⟩
def mFor (mi : WI) (tg : WTg) (body : WS) : WS := fun l st E => mi l st (fun its gd s1 => loopW tg gd body its l s1 E) (E.ex l)
section
variable {X : Cx} {W : WX} {pos : Pos}
theorem ds_for {iter tg : Expr} {body : List Stmt} {wi : TI} {mi : WI} {is : List Nat} {g : TG} {mt : WTg} {tb : TS} {mb : WS} (hp : PassesOwn (model X.prog X.w) X.A X.env X.xe) (hc : X.calm = true) (hi : DI X W tg iter wi mi) (hg : DG X tg is g mt) (hb : DSs X W body tb mb)
    (hs : ∀ x, foldedSetIterable iter X.env x = pure x := by intro _; rfl) : DS X W (.For tg iter body [] pos) (tFor wi g tb) (mFor mi mt mb) where
  ps := ps_for hp hc hi.pi hg.pg hb.ps hs
  mono := fun l st E E' h q => hi.mono _ _ _ _ _ _ (fun its gd s1 z => loopW.mono hg.mono hb.mono its _ _ _ _ h z) (fun _ _ z => h.ex _ _ _ z) q
  run := fun ρ st H σ l D r rl h => by
    refine hi.run ρ st H σ l _ r rl (hi.mono _ _ _ _ _ _ (fun its gd s1 z => ?_) (exX rl) h)
    intro ρ1 H1 J e1 r1 g1 hJ
    obtain ⟨G, Y, w, hG, hY⟩ := hJ
    refine for_it w (fun i σ' H' => ∃ ρ' st' l', Ext ρ1 H1 ρ' H' ∧ Rel X.K X.mg ρ' st' H' ∧ RelL X.K X.mg ρ' H' σ' l' ∧ gd st' ∧ loopW mt gd mb (its.drop i) l' st' (upS X.K X.mg ρ1 H1 W D)) ⟨ρ1, s1, l, .refl _ _, r1, rl.mono e1, g1, loopW.mono hg.mono hb.mono its _ _ _ _ (upS.ext e1) z⟩ (fun i σ' H' _ ⟨ρ', st', l', e2, r2, _, g2, _⟩ => hG ρ' st' H' e2.mov r2 g2) (fun i x σ' H2 H3 hi ⟨ρ', st', l', e2, r2, rl2, g2, q⟩ y => ?_) (fun σ' H' ⟨ρ', st', l', e2, r2, rl2, g2, q⟩ => ?_)
    · obtain ⟨e3, hH, d, hd, id⟩ := hY i H2 x H3 ρ' st' hi e2.mov r2 g2 y
      have r3 : Rel X.K X.mg ρ' st' H3 := by
        obtain ⟨o, p, ⟨hp, rfl⟩ | rfl⟩ := hH
        · exact r2.new hp
        · exact r2
      have hdr : its.drop i = d :: its.drop (i + 1) := by
        obtain ⟨hl, hv⟩ := List.getElem?_eq_some_iff.mp hd
        rw [List.drop_eq_getElem_cons hl, hv]
      rw [hdr] at q
      obtain ⟨_, q⟩ := q
      refine hg.run ρ' st' H3 σ' l' d x _ r3 (rl2.mono e3) id (hg.mono _ _ _ _ _ (fun l1 s1 z1 => ?_) q)
      intro ρ4 H4 σ4 e4 r4 rl4 _
      have eA := (e2.trans e3).trans e4
      refine hb.run ρ4 s1 H4 σ4 l1 _ r4 rl4 (hb.mono _ _ { upS X.K X.mg ρ1 H1 W D with nx := fun l2 s2 => loopW mt gd mb (its.drop (i + 1)) l2 s2 (upS X.K X.mg ρ1 H1 W D), ct := fun l2 s2 => loopW mt gd mb (its.drop (i + 1)) l2 s2 (upS X.K X.mg ρ1 H1 W D), bk := (upS X.K X.mg ρ1 H1 W D).nx } _ ⟨fun l2 s2 z2 => ?_, fun d s2 z2 => (upS.ext (W := W) (D := D) eA).rt _ _ z2, fun l2 s2 z2 => (upS.ext (W := W) (D := D) eA).nx _ _ z2, fun l2 s2 z2 => ?_, fun l2 x s2 z2 => (upS.ext (W := W) (D := D) eA).ex _ _ _ z2⟩ z1)
      · intro ρ5 H5 σ5 e5 r5 rl5
        have hgd : gd s2 := by
          cases hq : its.drop (i + 1) with
          | nil => rw [hq] at z2; exact z2.1
          | cons a b => rw [hq] at z2; exact z2.1
        exact ⟨ρ5, s2, l2, eA.trans e5, r5, rl5, hgd, z2⟩
      · intro ρ5 H5 σ5 e5 r5 rl5
        have hgd : gd s2 := by
          cases hq : its.drop (i + 1) with
          | nil => rw [hq] at z2; exact z2.1
          | cons a b => rw [hq] at z2; exact z2.1
        exact ⟨ρ5, s2, l2, eA.trans e5, r5, rl5, hgd, z2⟩
    · rw [List.drop_length] at q
      exact q.2 ρ' H' σ' e2 r2 rl2
/-! ### comprehensions -/
def wipeL (l : LL) : List Nat → LL
  | [] => l
  | v :: vs => (wipeL l vs).set v none
theorem RelL.wipe {K : PySem.W.Frag} {mg : Str → Option Value} {ρ : Rh} {H : Hp} {σ : L2.St} {l : LL} (h : RelL K mg ρ H σ l) : ∀ vs : List Nat, RelL K mg ρ H (wipe σ vs) (wipeL l vs)
  | [] => h
  | v :: vs => (RelL.wipe h vs).none
theorem wipe_get {σ : L2.St} : ∀ (vs : List Nat) (i : Nat), (wipe σ vs)[i]? = if i ∈ vs ∧ i < σ.length then some none else σ[i]?
  | [], i => by simp [wipe]
  | v :: vs, i => by
    have ih := wipe_get (σ := σ) vs i
    show ((wipe σ vs).set v none)[i]? = _
    by_cases hv : v = i
    · subst hv
      by_cases hl : v < σ.length
      · rw [List.getElem?_set_self (by rw [wipe_length]; exact hl), if_pos ⟨by simp, hl⟩]
      · rw [List.getElem?_eq_none (by rw [List.length_set, wipe_length]; omega), if_neg (fun z => hl z.2), List.getElem?_eq_none (by omega)]
    · rw [List.getElem?_set_ne hv, ih]
      by_cases hm : i ∈ vs ∧ i < σ.length
      · rw [if_pos hm, if_pos ⟨List.mem_cons_of_mem _ hm.1, hm.2⟩]
      · rw [if_neg hm, if_neg (fun z => hm ⟨(List.mem_cons.mp z.1).resolve_left (fun e => hv e.symm), z.2⟩)]
theorem Off.wipe {is vs : List Nat} {σ σ' : L2.St} (h : Off is (wipe σ vs) σ') (hs : ∀ i ∈ is, i ∈ vs) : wipe σ' vs = wipe σ vs := by
  have hl : σ'.length = σ.length := by rw [h.len, wipe_length]
  apply List.ext_getElem?
  intro i
  rw [wipe_get, wipe_get, hl]
  by_cases hm : i ∈ vs ∧ i < σ.length
  · rw [if_pos hm, if_pos hm]
  · rw [if_neg hm, if_neg hm]
    by_cases hv : i ∈ vs
    · have : ¬ i < σ.length := fun z => hm ⟨hv, z⟩
      rw [List.getElem?_eq_none (by omega), List.getElem?_eq_none (by omega)]
    · rw [h.off i (fun z => hv (hs i z)), wipe_get, if_neg (fun z => hv z.1)]
abbrev W0 : WX := fun _ _ _ _ => False
abbrev X0 : QX := fun _ _ => False
/-- the turns of a comprehension -/
def lcW (tg : WTg) (tt : WT) (me : WE) (l : LL) (gd : Sto → Prop) (Q : List D → Sto → Prop) : List D → List D → Sto → Prop
  | [], acc, st => gd st ∧ Q acc st
  | d :: r, acc, st => gd st ∧ tg d l st (fun l1 s1 => tt l1 s1 (fun b s2 => if b = true then me l1 s2 (fun y s3 => acc.length < sizeLine ∧ lcW tg tt me l gd Q r (acc ++ [y]) s3) X0 else lcW tg tt me l gd Q r acc s2) X0)
theorem lcW.gd {tg : WTg} {tt : WT} {me : WE} {l : LL} {gd : Sto → Prop} {Q : List D → Sto → Prop} {its acc : List D} {st : Sto} (h : lcW tg tt me l gd Q its acc st) : gd st := by
  cases its with
  | nil => exact h.1
  | cons d r => exact h.1
theorem lcW.mono {tg : WTg} {tt : WT} {me : WE} {l : LL} {gd : Sto → Prop} {Q Q' : List D → Sto → Prop} (hg : ∀ d l st (Q Q' : LL → Sto → Prop), (∀ l s, Q l s → Q' l s) → tg d l st Q → tg d l st Q') (ht : MonoG tt) (he : MonoG me) (h : ∀ a s, Q a s → Q' a s) :
    ∀ (its acc : List D) (st : Sto), lcW tg tt me l gd Q its acc st → lcW tg tt me l gd Q' its acc st
  | [], _, _, q => ⟨q.1, h _ _ q.2⟩
  | d :: r, acc, st, q => ⟨q.1, hg _ _ _ _ _ (fun l1 s1 z => ht _ _ _ _ _ _ (fun b s2 y => by
      cases b with
      | true => exact he _ _ _ _ _ _ (fun w s3 x => ⟨x.1, lcW.mono hg ht he h r _ _ x.2⟩) (fun _ _ z => z) y
      | false => exact lcW.mono hg ht he h r _ _ y) (fun _ _ z => z) z) q.2⟩
def mLc (mi : WI) (tg : WTg) (tt : WT) (me : WE) (vs : List Nat) : WE := fun l st Q X => mi l st (fun its gd s1 => lcW tg tt me (wipeL l vs) gd (fun acc s2 => Q (.vl acc) s2) its [] s1) X
/-- a clause's tests -/
structure DTs (X : Cx) (W : WX) (ifs : List Expr) (t : TT) (m : WT) : Prop where
  pe : PTs X ifs t
  ev : EvG X.K X.mg rI W t m
def mYes : WT := fun _ st Q _ => Q true st
theorem dts_nil : DTs X W [] tYes mYes := ⟨pts_nil, fun _ _ _ _ _ _ h _ q => h _ _ q, fun ρ st H σ l Q r rl h => up.now (R := rI) h (.refl _ _) r rfl⟩
theorem dts_one {c : Expr} {t : TT} {m : WT} (h : DT X W c t m) : DTs X W [c] t m := ⟨pts_one h.pe, h.ev⟩
/-- the list of a comprehension amid its making -/
theorem made_more {K : PySem.W.Frag} {mg : Str → Option Value} {ρ : Rh} {st : Sto} {H : Hp} {Dd : Addr} {xs : List V} {acc : List D} {y : D} {v : V} (r : Rel K mg ρ st H) (hb : Dd ∈ ρ.bz) (hD : H Dd = some (.lst xs)) (ia : IsL K mg ρ H acc xs) (iy : IsV K mg ρ H y v) :
    Hid ρ H ρ (upd H Dd (.lst (xs ++ [v]))) ∧ Rel K mg ρ st (upd H Dd (.lst (xs ++ [v]))) ∧ IsL K mg ρ (upd H Dd (.lst (xs ++ [v]))) (acc ++ [y]) (xs ++ [v]) := by
  have hh : Hid ρ H ρ (upd H Dd (.lst (xs ++ [v]))) := ⟨rfl, fun _ h => h, fun a o e n => by
    rw [upd_ne (fun z => n (by subst z; exact hb))]; exact e, fun a o e i => by
    rw [upd_ne (fun z => by subst z; rw [hD] at e; cases e; exact i)]; exact e⟩
  refine ⟨hh, r.hid hh fun a ha => ?_, IsL.append (IsL.hid hh _ _ ia) (.one (IsV.hid hh _ _ iy))⟩
  by_cases h : a = Dd
  · subst h; exact ⟨_, upd_same, fun z => z⟩
  · rw [upd_ne h]
    exact (r.bz a ha).1
theorem de_lc {elt tg iter : Expr} {ifs : List Expr} {scope : Scope} {own : List (Str × Nat)} {pos' : Pos} {wi : TI} {mi : WI} {is : List Nat} {g : TG} {mt : WTg} {tt : TT} {mtt : WT} {te : TE} {me : WE} (hc : X.calm = true) (hN : X.N.Nodup) (hi : DI X W tg iter wi mi) (ok : BlkOk X.N X.env.scope scope own)
    (hg : ∀ (s : Shared) (H : Hp) (C : Addr) (cl : List (Str × Addr)) (fp : List Addr), DG (X.blk s H scope (compEnvC scope cl C X.env) fp) tg is g mt) (ht : ∀ (s : Shared) (H : Hp) (C : Addr) (cl : List (Str × Addr)) (fp : List Addr), DTs (X.blk s H scope (compEnvC scope cl C X.env) fp) W0 ifs tt mtt)
    (he : ∀ (s : Shared) (H : Hp) (C : Addr) (cl : List (Str × Addr)) (fp : List Addr), DE (X.blk s H scope (compEnvC scope cl C X.env) fp) W0 elt te me) (hs : ∀ x, foldedSetIterable iter X.env x = pure x := by intro _; rfl) (hv : ∀ i ∈ is, i ∈ own.map (·.2) := by decide) :
    DE X W (.ListComp elt [⟨tg, iter, ifs, 0⟩] scope pos) (tLc wi g tt te (own.map (·.2))) (mLc mi mt mtt me (own.map (·.2))) := by
  have pE := pe_lc (elt := elt) (pos := pos) hc hN hi.pi ok (fun s H C cl fp => (hg s H C cl fp).pg) (fun s H C cl fp => (ht s H C cl fp).pe) (fun s H C cl fp => (he s H C cl fp).pe) hs
  have gG := fun d l st Q Q' => (hg X.s_0 X.H_0 0 [] []).mono d l st Q Q'
  have gR := (hg X.s_0 X.H_0 0 [] []).run
  have tE := (ht X.s_0 X.H_0 0 [] []).ev
  have eE := (he X.s_0 X.H_0 0 [] []).ev
  have gR : ∀ ρ st H σ l d v (Q : L2.St → Hp → Prop), Rel X.K X.mg ρ st H → RelL X.K X.mg ρ H σ l → IsV X.K X.mg ρ H d v →
    mt d l st (fun l' s' => ∀ ρ' H' σ', Ext ρ H ρ' H' → Rel X.K X.mg ρ' s' H' → RelL X.K X.mg ρ' H' σ' l' → Off is σ σ' → Q σ' H') → g v σ H Q := gR
  have tE : EvG X.K X.mg rI W0 tt mtt := tE
  have eE : EvG X.K X.mg (rV X.K X.mg) W0 te me := eE
  generalize own.map (·.2) = vs at *
  refine ⟨pE, ⟨fun l st Q Q' X1 X1' h hX q => hi.mono _ _ _ _ _ _ (fun its gd s1 z => lcW.mono gG tE.mono eE.mono (fun a s y => h _ _ y) _ _ _ z) hX q, fun ρ st H σ l Q r rl h => ?_⟩⟩
  refine hi.run ρ st H σ l _ r rl (hi.mono _ _ _ _ _ _ (fun its gd s1 z => ?_) (fun _ _ z => z) h)
  intro ρ1 H1 J e1 r1 g1 hJ Dd hDd
  obtain ⟨G, Y, w, hG, hY⟩ := hJ
  have nD := r1.fresh hDd
  have fin : ∀ {ρ' : Rh} {H' : Hp}, Ext (ρ1.hide Dd) H1 ρ' H' → Ext ρ1 H1 ⟨ρ'.ids, ρ1.bz⟩ H' ∧ ∀ a ∈ ρ1.bz, a ∈ ρ'.bz := fun {ρ' H'} e =>
    ⟨⟨e.pre, rfl, e.keep, e.imm⟩, fun a ha => by rw [e.bz]; exact List.mem_cons_of_mem _ ha⟩
  refine lc_it w (fun i H' => ∃ ρ' st' acc xs, Ext (ρ1.hide Dd) H1 ρ' H' ∧ Rel X.K X.mg ρ' st' H' ∧ H' Dd = some (.lst xs) ∧ IsL X.K X.mg ρ' H' acc xs ∧ RelL X.K X.mg ρ' H' (wipe σ vs) (wipeL l vs) ∧ Mov ρ1 H1 ρ' H' ∧ lcW mt mtt me (wipeL l vs) gd (fun acc s2 => up X.K X.mg (rV X.K X.mg) ρ H Q (.vl acc) s2) (its.drop i) acc st')
    ⟨ρ1.hide Dd, s1, [], [], Ext.new hDd, r1.hide hDd (fun z => z), upd_same, rfl, ((rl.mono e1).wipe vs).mov (.hide hDd), .hide hDd, z⟩ (fun i H' _ ⟨ρ', st', acc, xs, e2, r2, _, _, _, m2, q⟩ => hG ρ' st' H' m2 r2 q.gd) (fun i x H2 H3 hi ⟨ρ', st', acc, xs, e2, r2, hD2, ia, rl2, m2, q⟩ y => ?_) (fun H' ⟨ρ', st', acc, xs, e2, r2, hD2, ia, rl2, m2, q⟩ => ?_)
  · obtain ⟨e3, hH, d, hd, id⟩ := hY i H2 x H3 ρ' st' hi m2 r2 q.gd y
    have r3 : Rel X.K X.mg ρ' st' H3 := by
      obtain ⟨o, p, ⟨hp, rfl⟩ | rfl⟩ := hH
      · exact r2.new hp
      · exact r2
    have hbD : Dd ∈ ρ'.bz := by rw [e2.bz]; exact List.mem_cons_self
    have hdr : its.drop i = d :: its.drop (i + 1) := by
      obtain ⟨hl, hv⟩ := List.getElem?_eq_some_iff.mp hd
      rw [List.drop_eq_getElem_cons hl, hv]
    rw [hdr] at q
    obtain ⟨_, q⟩ := q
    refine gR ρ' st' H3 _ _ d x _ r3 (rl2.mono e3) id (gG _ _ _ _ _ (fun l1 s4 z1 => ?_) q)
    intro ρ4 H4 σ4 e4 r4 rl4 o4
    refine ⟨o4.wipe hv, ?_⟩
    have rlw : ∀ {ρ5 : Rh} {H5 : Hp}, Ext ρ4 H4 ρ5 H5 → RelL X.K X.mg ρ5 H5 (wipe σ vs) (wipeL l vs) := fun e5 => rl2.mono ((e3.trans e4).trans e5)
    refine tE.bind r4 rl4 z1 (fun _ _ z => z.elim) fun b s5 b' ρ5 H5 e5 r5 i5 z5 => ?_
    cases i5
    have e25 := ((e2.trans e3).trans e4).trans e5
    have hD5 : H5 Dd = some (.lst xs) := ((e3.trans e4).trans e5).keep Dd _ hD2 (r2.bz Dd hbD).2 |>.1
    have ia5 := IsL.mono ((e3.trans e4).trans e5) _ _ ia
    have m5 : Mov ρ1 H1 ρ5 H5 := m2.trans ((e3.trans e4).trans e5).mov
    cases b with
    | false =>
      show if false = true then _ else _
      rw [if_neg Bool.false_ne_true]
      exact ⟨ρ5, s5, acc, xs, e25, r5, hD5, ia5, rlw e5, m5, z5⟩
    | true =>
      show if true = true then _ else _
      rw [if_pos rfl]
      refine eE.bind r5 (rl4.mono e5) z5 (fun _ _ z => z.elim) fun y s6 v ρ6 H6 e6 r6 i6 z6 => ?_
      have hD6 : H6 Dd = some (.lst xs) := (e6.keep Dd _ hD5 (r5.bz Dd (by rw [e25.bz]; exact List.mem_cons_self)).2).1
      have ia6 := IsL.mono e6 _ _ ia5
      have hb6 : Dd ∈ ρ6.bz := by rw [(e25.trans e6).bz]; exact List.mem_cons_self
      obtain ⟨hh, r7, ia7⟩ := made_more r6 hb6 hD6 ia6 i6
      refine ⟨xs, hD6, by rw [← ia6.len]; exact z6.1, ρ6, s6, acc ++ [y], xs ++ [v], ?_, r7, upd_same, ia7, (rlw (e5.trans e6)).mov hh.mov, (m5.trans e6.mov).trans hh.mov, z6.2⟩
      have e26 := e25.trans e6
      refine ⟨e26.pre, e26.bz, fun a o h n => ?_, fun a o h i => ?_⟩
      · rw [upd_ne (ne_of_none h hDd)]
        exact e26.keep a o h n
      · rw [upd_ne (ne_of_none h hDd)]
        exact e26.imm a o h i
  · rw [List.drop_length] at q
    obtain ⟨eF, hb⟩ := fin e2
    have hbD : Dd ∈ ρ'.bz := by rw [e2.bz]; exact List.mem_cons_self
    exact up.now (R := rV X.K X.mg) q.2 (e1.trans eF) (r2.unhide hb) ⟨Dd, xs, rfl, hD2, ⟨(r2.bz Dd hbD).2, nD.2⟩, IsL.mov (.unhide hb) _ _ ia⟩
end
end Mir

set_option Elab.async false
set_option linter.all false
set_option maxRecDepth 100000
set_option maxHeartbeats 2000000
/-! Mir7: a def by its mirror; methods of built-in types. -/
namespace Mir
open PySem PySem.Spec PyProof.Rows L2
/-- the locals at a def's entry -/
def startL (n : Nat) (ds : List D) : LL := ds.map some ++ List.replicate (n - ds.length) none
/-- what is wanted behind a def's body -/
def endF (Q : QD) (X : QX) : EndM := { nx := fun _ s => Q .non s, rt := Q, bk := fun _ _ => False, ct := fun _ _ => False, ex := fun _ => X }
section
variable {P : Program} {w : World} {K : PySem.W.Frag} {mg : Str → Option Value} {base : Heap}
theorem relL_start {ρ : Rh} {H : Hp} {ds : List D} {vs : List V} {N : List Str} (i : IsL K mg ρ H ds vs) : RelL K mg ρ H (L2.start N vs) (startL N.length ds) := by
  refine ⟨by simp [L2.start, startL, i.len], fun j d hj => ?_⟩
  unfold startL at hj
  have hl : j < (ds.map some).length := by
    rcases Nat.lt_or_ge j (ds.map some).length with z | z
    · exact z
    · rw [List.getElem?_append_right z, List.getElem?_replicate] at hj
      split at hj <;> simp at hj
  rw [List.getElem?_append_left hl, List.getElem?_map] at hj
  cases e : ds[j]? with
  | none => rw [e] at hj; cases hj
  | some d' =>
    rw [e] at hj
    have hd : d' = d := by simpa using hj
    subst hd
    obtain ⟨v, h1, h2⟩ := i.get e
    refine ⟨v, ?_, h2⟩
    unfold L2.start
    have hv : j < (vs.map some).length := by rw [List.length_map, ← i.len]; simpa using hl
    rw [List.getElem?_append_left hv, List.getElem?_map, h1]
    rfl
/-- the context of a def's body -/
abbrev CxF (P : Program) (w : World) (K : PySem.W.Frag) (mg : Str → Option Value) (base : Heap) (N : List Str) (qual : Str) (st : Stmt) (f : Addr) (cdv : Value) (A : Around) (outer : List Env) (s : Shared) (H : Hp) (E : XK) : Cx := cxOf (L2.CX P w) P w K mg base N qual (defScope st) f cdv A outer s H E
abbrev WF (E : XK) : WX := fun c d _ H => E c d H
theorem takesF {N : List Str} {qual : Str} {st : Stmt} {f : Addr} {cdv : Value} {A : Around} {outer : List Env} {s : Shared} {H : Hp} {E : XK} : Takes (CxF P w K mg base N qual st f cdv A outer s H E) (WF E) := takes_of rfl rfl rfl rfl
theorem passesF {N : List Str} {qual : Str} {st : Stmt} {f : Addr} {cdv : Value} {A : Around} {outer : List Env} {s : Shared} {H : Hp} {E : XK} : PassesOwn (model P w) (CxF P w K mg base N qual st f cdv A outer s H E).A (CxF P w K mg base N qual st f cdv A outer s H E).env (CxF P w K mg base N qual st f cdv A outer s H E).xe := passes_of (X := CxF P w K mg base N qual st f cdv A outer s H E) rfl
theorem mk_ok {x qual : Str} {st : Stmt} {f : Addr} {fd : FuncData} {N ps : List Str} {k n : Nat} {F : List D → WD} {m : WS} (Fu : Fun K x qual st f fd) (S : FnScope N ps (defScope st)) (hn : ps.length = n)
    (body : ∀ (cdv : Value) (A : Around) (outer : List Env) (s : Shared) (H : Hp) (E : XK), Room k (A.deeper (envOfC qual (defScope st) s.heap.objs.size f cdv)) → ∃ t, DSs (CxF P w K mg base N qual st f cdv A outer s H E) (WF E) (defBody st) t m)
    (hm : ∀ ds s Q X, ds.length = n → F ds s Q X → m (startL N.length ds) s (endF Q X)) : FnOk P w K mg base (L2.CX P w) (k + 1) f fd ps (spM K mg n F) := by
  refine Fu.okX S (fun vs H Q E h => ?_) (fun cdv A outer s H vs Q E hr h => ?_)
  · obtain ⟨ρ, st, ds, _, i, hl, _⟩ := h
    rw [← i.len, hl, hn]
  · obtain ⟨ρ, sto, ds, r, i, hl, h⟩ := h
    obtain ⟨t, hd⟩ := body cdv A outer s H E hr
    refine ⟨t, hd.ps, hd.run ρ sto H _ _ _ r (relL_start i) (hd.mono _ _ _ _ ?_ (hm ds sto _ _ hl h))⟩
    exact ⟨fun l s q ρ' H' σ' e r' _ => up.now (R := rV K mg) q e r' rfl, fun d s q => q, fun _ _ z => z.elim, fun _ _ z => z.elim, fun l x s q ρ' H' σ' c od e r' _ ix => q ρ' H' c od e r' ix⟩
theorem mk_fn {x qual : Str} {st : Stmt} {f : Addr} {fd : FuncData} {N ps : List Str} {k n : Nat} {F : List D → WD} {m : WS} (Fu : Fun K x qual st f fd) (hg : mg x = some (.ref f)) (S : FnScope N ps (defScope st)) (hn : ps.length = n) (b : Binds K fd ps []) (hF : ∀ ds, MonoD (F ds))
    (body : ∀ (cdv : Value) (A : Around) (outer : List Env) (s : Shared) (H : Hp) (E : XK), Room k (A.deeper (envOfC qual (defScope st) s.heap.objs.size f cdv)) → ∃ t, DSs (CxF P w K mg base N qual st f cdv A outer s H E) (WF E) (defBody st) t m)
    (hm : ∀ ds s Q X, ds.length = n → F ds s Q X → m (startL N.length ds) s (endF Q X)) : Cal P w K mg base x (k + 1) n F :=
  ⟨⟨f, fd, ps, hg, Fu.kp, b, mk_ok Fu S hn body hm⟩, hF⟩
end
/-! ### methods of lists -/
structure MtM (K : PySem.W.Frag) (mg : Str → Option Value) (T : String) (r : V → List V → Hp → VK → Prop) (f : D → List D → WD) : Prop where
  mono : ∀ x xs, MonoD (f x xs)
  run : ∀ ρ st H x v xs vs Q X, Rel K mg ρ st H → IsV K mg ρ H x v → IsL K mg ρ H xs vs → f x xs st (up K mg (rV K mg) ρ H Q) X → tyV K T v H ∧ r v vs H Q
/-- what is asked of the object does not go away while the arguments are reckoned -/
def mBM (f : D → List D → WD) (ty : Sto → D → Bool) (mo : WE) (ma : WA) : WE := fun l st Q X => mo l st (fun x s1 => ty s1 x = true ∧ ma l s1 (fun xs s2 => f x xs s2 Q X) X) X
def isLst (st : Sto) (d : D) : Bool := (lstT st d).isSome
theorem isLst.ty {K : PySem.W.Frag} {mg : Str → Option Value} {ρ : Rh} {st : Sto} {H : Hp} {d : D} {v : V} (r : Rel K mg ρ st H) (i : IsV K mg ρ H d v) (h : isLst st d = true) : tyV K "list" v H := by
  unfold isLst at h
  obtain ⟨l, hl⟩ := Option.isSome_iff_exists.mp h
  obtain ⟨a, xs, rfl, h1, _⟩ := lstT.at_ r i hl
  exact .inl ⟨rfl, _, .inl (.inl h1)⟩
section
variable {X : Cx} {W : WX} {o e : Expr} {es : List Expr} {to : TE} {ta : TA} {mo : WE} {ma : WA} {pos apos : Pos}
theorem ev_bm {K : PySem.W.Frag} {mg : Str → Option Value} {T : String} {ty : Sto → D → Bool} {r : V → List V → Hp → VK → Prop} {f : D → List D → WD} (hty : ∀ ρ st H d v, Rel K mg ρ st H → IsV K mg ρ H d v → ty st d = true → tyV K T v H) (hf : ∀ x xs, MonoD (f x xs))
    (run : ∀ ρ st H x v xs vs Q X, Rel K mg ρ st H → IsV K mg ρ H x v → IsL K mg ρ H xs vs → f x xs st (up K mg (rV K mg) ρ H Q) X → r v vs H Q) (ho : EvG K mg (rV K mg) W to mo) (ha : EvG K mg (rL K mg) W ta ma) : EvG K mg (rV K mg) W (tBM K T r to ta) (mBM f ty mo ma) where
  mono := fun l st Q Q' X X' h hX q => ho.mono _ _ _ _ _ _ (fun x s1 q1 => ⟨q1.1, ha.mono _ _ _ _ _ _ (fun xs s2 q2 => hf _ _ _ _ _ _ _ h hX q2) hX q1.2⟩) hX q
  run := fun ρ st H σ l Q r rl h => by
    refine ho.bind r rl h (fun _ _ z => z) fun x s1 v ρ1 H1 e1 r1 i1 h1 => ⟨hty ρ1 s1 H1 x v r1 i1 h1.1, ?_⟩
    refine ha.bind r1 (rl.mono e1) h1.2 (fun _ _ z => z.ext e1) fun xs s2 vs ρ2 H2 e2 r2 i2 h2 => ?_
    exact run ρ2 s2 H2 x v xs vs Q _ r2 (IsV.mono e2 _ _ i1) i2 (hf _ _ _ _ _ _ _ (fun d s z => z.ext (e1.trans e2)) (fun _ _ z => z) h2)
/-- xs.append(y), a list of the store -/
def appendF (x : D) (xs : List D) : WD := fun st Q _ => match x, xs with
  | .ref n, [y] => (match st[n]? with
    | some (.lst l) => l.length < sizeLine ∧ Q .non (st.set n (.lst (l ++ [y])))
    | _ => False)
  | _, _ => False
theorem appendF.mono (x : D) (xs : List D) : MonoD (appendF x xs) := fun st Q Q' X X' h _ q => by
  unfold appendF at *
  split at q
  · split at q
    · exact ⟨q.1, h _ _ q.2⟩
    · exact q.elim
  · exact q.elim
theorem appendF.run {K : PySem.W.Frag} {mg : Str → Option Value} : ∀ ρ st H x v xs vs Q X, Rel K mg ρ st H → IsV K mg ρ H x v → IsL K mg ρ H xs vs → appendF x xs st (up K mg (rV K mg) ρ H Q) X → rAppend v vs H Q := fun ρ st H x v xs vs Q X r i j h => by
  unfold appendF at h
  split at h
  · rename_i n y
    obtain ⟨a, rfl, ha⟩ := i
    obtain ⟨u, us, rfl, j1, j2⟩ := j
    cases j2
    split at h
    · rename_i l hl
      obtain ⟨ys, h1, h2⟩ := r.at_ n a _ ha hl
      have e1 : Ext ρ H ρ (upd H a (.lst (ys ++ [u]))) := .write (List.mem_of_getElem? ha) h1 (fun z => z)
      exact ⟨a, ys, u, rfl, rfl, h1, by rw [← h2.len]; exact h.1, h.2.now e1 (r.write ha ⟨_, upd_same, IsL.mono e1 _ _ (h2.append (.one j1))⟩) rfl⟩
    · exact h.elim
  · exact h.elim
theorem de_bm {T id : String} {name : Str} {ty : Sto → D → Bool} {r : V → List V → Hp → VK → Prop} {f : D → List D → WD} (pa : PlainAttrs T) (slot : Slot T name id) (hty : typeOf (.builtin id) = pure (.type "method_descriptor")) (hm : MtR X id r)
    (ht : ∀ ρ st H d v, Rel X.K X.mg ρ st H → IsV X.K X.mg ρ H d v → ty st d = true → tyV X.K T v H) (hf : ∀ x xs, MonoD (f x xs)) (run : ∀ ρ st H x v xs vs Q Y, Rel X.K X.mg ρ st H → IsV X.K X.mg ρ H x v → IsL X.K X.mg ρ H xs vs → f x xs st (up X.K X.mg (rV X.K X.mg) ρ H Q) Y → r v vs H Q)
    (ho : DE X W o to mo) (ha : DA X W (e :: es) ta ma)
    (hbase : attributeBase o name X.env (eval o X.env) = eval o X.env := by rfl)
    (hfew : ((backTo pos (starEach (e :: es) X.env)).all (fun x => !x.1) && (backToKw pos (keywordEach [] X.env)).all (fun x => x.1.isSome)
      && decide ((e :: es).length + ([] : List Keyword).length + (if ([] : List Keyword).isEmpty then 0 else 1) < 30)) = true := by rfl)
    (hline : (apos.endLine == pos.line) = true := by rfl) (hs : starEach (e :: es) X.env = (false, eval e X.env) :: starEach es X.env := by rfl) (hplain : (backTo pos (starEach es X.env)).any (·.1) = false := by rfl) :
    DE X W (.Call (.Attribute o name apos) (e :: es) [] pos) (tBM X.K T r to ta) (mBM f ty mo ma) :=
  ⟨pe_bm pa slot hty hm ho.pe ha.pe hbase hfew hline hs hplain, ev_bm ht hf run ho.ev ha.ev⟩
/-- xs.extend(ys) -/
def extendF (x : D) (xs : List D) : WD := fun st Q _ => match x, xs with
  | .ref n, [y] => (match st[n]?, lstT st y with
    | some (.lst l), some m => l.length + m.length ≤ sizeLine ∧ Q .non (st.set n (.lst (l ++ m)))
    | _, _ => False)
  | _, _ => False
theorem extendF.mono (x : D) (xs : List D) : MonoD (extendF x xs) := fun st Q Q' X X' h _ q => by
  unfold extendF at *
  split at q
  · split at q
    · exact ⟨q.1, h _ _ q.2⟩
    · exact q.elim
  · exact q.elim
theorem extendF.run {K : PySem.W.Frag} {mg : Str → Option Value} : ∀ ρ st H x v xs vs Q X, Rel K mg ρ st H → IsV K mg ρ H x v → IsL K mg ρ H xs vs → extendF x xs st (up K mg (rV K mg) ρ H Q) X → rExtend v vs H Q := fun ρ st H x v xs vs Q X r i j h => by
  unfold extendF at h
  split at h
  · rename_i n y
    obtain ⟨a, rfl, ha⟩ := i
    obtain ⟨u, us, rfl, j1, j2⟩ := j
    cases j2
    split at h
    · rename_i l m hl hm
      obtain ⟨ys, h1, h2⟩ := r.at_ n a _ ha hl
      obtain ⟨b, zs, rfl, h3, h4⟩ := lstT.at_ r j1 hm
      have e1 : Ext ρ H ρ (upd H a (.lst (ys ++ zs))) := .write (List.mem_of_getElem? ha) h1 (fun z => z)
      exact ⟨a, b, ys, zs, rfl, rfl, h1, h3, by rw [← h2.len, ← h4.len]; exact h.1, h.2.now e1 (r.write ha ⟨_, upd_same, IsL.mono e1 _ _ (h2.append h4)⟩) rfl⟩
    · exact h.elim
  · exact h.elim
def popF (x : D) : WD := fun st Q _ => match x with
  | .ref n => (match st[n]? with
    | some (.lst l) => (match l[l.length - 1]? with
      | some y => Q y (st.set n (.lst l.dropLast))
      | none => False)
    | _ => False)
  | _ => False
theorem IsL.dropLast {K : PySem.W.Frag} {mg : Str → Option Value} {ρ : Rh} {H : Hp} {l : List D} {xs : List V} (h : IsL K mg ρ H l xs) : IsL K mg ρ H l.dropLast xs.dropLast := by
  rw [List.dropLast_eq_take, List.dropLast_eq_take, h.len]
  exact h.take _
section
variable {e : Expr} {te : TE} {me : WE}
theorem de_append (ho : DE X W o to mo) (he : DE X W e te me)
    (hbase : attributeBase o "append" X.env (eval o X.env) = eval o X.env := by rfl) (hs : starEach [e] X.env = (false, eval e X.env) :: starEach [] X.env := by rfl)
    (hfew : ((backTo pos (starEach [e] X.env)).all (fun x => !x.1) && (backToKw pos (keywordEach [] X.env)).all (fun x => x.1.isSome)
      && decide ([e].length + ([] : List Keyword).length + (if ([] : List Keyword).isEmpty then 0 else 1) < 30)) = true := by rfl)
    (hline : (apos.endLine == pos.line) = true := by rfl) (hplain : (backTo pos (starEach [] X.env)).any (·.1) = false := by rfl) :
    DE X W (.Call (.Attribute o "append" apos) [e] [] pos) (tBM X.K "list" rAppend to (tCons te tNil)) (mBM appendF isLst mo (mCons me mNil)) :=
  de_bm PySem.F.plainAttrs_list PySem.F.slot_list_append PySem.F.type_list_append mt_append (fun _ _ _ _ _ => isLst.ty) appendF.mono appendF.run ho (da_cons he da_nil hs) hbase hfew hline hs hplain
theorem de_extend (ho : DE X W o to mo) (he : DE X W e te me)
    (hbase : attributeBase o "extend" X.env (eval o X.env) = eval o X.env := by rfl) (hs : starEach [e] X.env = (false, eval e X.env) :: starEach [] X.env := by rfl)
    (hfew : ((backTo pos (starEach [e] X.env)).all (fun x => !x.1) && (backToKw pos (keywordEach [] X.env)).all (fun x => x.1.isSome)
      && decide ([e].length + ([] : List Keyword).length + (if ([] : List Keyword).isEmpty then 0 else 1) < 30)) = true := by rfl)
    (hline : (apos.endLine == pos.line) = true := by rfl) (hplain : (backTo pos (starEach [] X.env)).any (·.1) = false := by rfl) :
    DE X W (.Call (.Attribute o "extend" apos) [e] [] pos) (tBM X.K "list" rExtend to (tCons te tNil)) (mBM extendF isLst mo (mCons me mNil)) :=
  de_bm PySem.F.plainAttrs_list PySem.F.slot_list_extend PySem.F.type_list_extend mt_extend (fun _ _ _ _ _ => isLst.ty) extendF.mono extendF.run ho (da_cons he da_nil hs) hbase hfew hline hs hplain
theorem de_pop (ho : DE X W o to mo) (hbase : attributeBase o "pop" X.env (eval o X.env) = eval o X.env := by rfl) (hline : (apos.endLine == pos.line) = true := by rfl) :
    DE X W (.Call (.Attribute o "pop" apos) [] [] pos) (tBM0 X.K "list" rPop to) (fun l st Q Y => mo l st (fun x s1 => popF x s1 Q Y) Y) := by
  refine ⟨pe_bm0 PySem.F.plainAttrs_list PySem.F.slot_list_pop PySem.F.type_list_pop mt_pop ho.pe hbase hline, ⟨fun l st Q Q' Y Y' h hX q => ho.ev.mono _ _ _ _ _ _ (fun x s1 q1 => ?_) hX q, fun ρ st H σ l Q r rl h => ?_⟩⟩
  · unfold popF at *
    split at q1
    · split at q1
      · split at q1
        · exact h _ _ q1
        · exact q1.elim
      · exact q1.elim
    · exact q1.elim
  · refine ho.ev.bind r rl h (fun _ _ z => z) fun x s1 v ρ1 H1 e1 r1 i1 h1 => ?_
    unfold popF at h1
    split at h1
    · rename_i n
      split at h1
      · rename_i m hm
        split at h1
        · rename_i y hy
          refine ⟨isLst.ty r1 i1 (by simp only [isLst, lstT, hm]; rfl), ?_⟩
          obtain ⟨a, rfl, ha⟩ := i1
          obtain ⟨ys, h2, h3⟩ := r1.at_ n a _ ha hm
          obtain ⟨u, hu, iu⟩ := h3.get hy
          have e2 : Ext ρ1 H1 ρ1 (upd H1 a (.lst ys.dropLast)) := .write (List.mem_of_getElem? ha) h2 (fun z => z)
          exact ⟨a, ys, u, rfl, rfl, h2, by rw [← h3.len]; exact hu, h1.now (e1.trans e2) (r1.write ha ⟨_, upd_same, IsL.mono e2 _ _ h3.dropLast⟩) (IsV.mono e2 _ _ iu)⟩
        · exact h1.elim
      · exact h1.elim
    · exact h1.elim
/-! ### texts -/
def isStrD (_ : Sto) : D → Bool
  | .str _ => true
  | _ => false
theorem isStrD.ty {K : PySem.W.Frag} {mg : Str → Option Value} {ρ : Rh} {st : Sto} {H : Hp} {d : D} {v : V} (r : Rel K mg ρ st H) (i : IsV K mg ρ H d v) (h : isStrD st d = true) : tyV K "str" v H := by
  cases d <;> first
    | (cases h; done)
    | (cases i; rfl)
/-- sep.join(texts) -/
def joinF (x : D) (xs : List D) : WD := fun st Q _ => match x, xs with
  | .str a, [y] => (match seqA st y with
    | some l => (match strsOf l with
      | some ys => (ys.map (·.length)).sum + ys.length * a.length ≤ 16777216 ∧ Q (.str (Txt.join a ys)) st
      | none => False)
    | none => False)
  | _, _ => False
theorem joinF.mono (x : D) (xs : List D) : MonoD (joinF x xs) := fun st Q Q' X X' h _ q => by
  unfold joinF at *
  split at q
  · split at q
    · split at q
      · exact ⟨q.1, h _ _ q.2⟩
      · exact q.elim
    · exact q.elim
  · exact q.elim
abbrev rJoin (K : PySem.W.Frag) : V → List V → Hp → VK → Prop := fun x xs H Q => ∃ a p, ∃ ys : List Str, x = .str a ∧ xs = [.ref p] ∧ (SqL K H p (ys.map V.str) ∨ SqT K H p (ys.map V.str)) ∧
    (ys.map (·.length)).sum + ys.length * a.length ≤ 16777216 ∧ Q (.str (Txt.join a ys)) H
theorem joinF.run {K : PySem.W.Frag} {mg : Str → Option Value} : ∀ ρ st H x v xs vs Q X, Rel K mg ρ st H → IsV K mg ρ H x v → IsL K mg ρ H xs vs → joinF x xs st (up K mg (rV K mg) ρ H Q) X → rJoin K v vs H Q := fun ρ st H x v xs vs Q X r i j h => by
  unfold joinF at h
  split at h
  · rename_i a y
    cases i
    obtain ⟨u, us, rfl, j1, j2⟩ := j
    cases j2
    split at h
    · rename_i l hl
      split at h
      · rename_i ys hy
        obtain ⟨p, zs, rfl, h1, h2⟩ := seqA.at_ r j1 hl
        have e := strsOf_ok h2 hy
        subst e
        exact ⟨a, p, ys, rfl, rfl, h1, h.1, h.2.now (.refl _ _) r rfl⟩
      · exact h.elim
    · exact h.elim
  · exact h.elim
theorem de_join (ho : DE X W o to mo) (he : DE X W e te me)
    (hbase : attributeBase o "join" X.env (eval o X.env) = eval o X.env := by rfl) (hs : starEach [e] X.env = (false, eval e X.env) :: starEach [] X.env := by rfl)
    (hfew : ((backTo pos (starEach [e] X.env)).all (fun x => !x.1) && (backToKw pos (keywordEach [] X.env)).all (fun x => x.1.isSome)
      && decide ([e].length + ([] : List Keyword).length + (if ([] : List Keyword).isEmpty then 0 else 1) < 30)) = true := by rfl)
    (hline : (apos.endLine == pos.line) = true := by rfl) (hplain : (backTo pos (starEach [] X.env)).any (·.1) = false := by rfl) :
    DE X W (.Call (.Attribute o "join" apos) [e] [] pos) (tBM X.K "str" (rJoin X.K) to (tCons te tNil)) (mBM joinF isStrD mo (mCons me mNil)) :=
  de_bm PySem.F.plainAttrs_str PySem.F.slot_str_join PySem.F.type_str_join mt_join (fun _ _ _ _ _ => isStrD.ty) joinF.mono joinF.run ho (da_cons he da_nil hs) hbase hfew hline hs hplain
end
end
end Mir

set_option Elab.async false
set_option linter.all false
set_option maxRecDepth 100000
set_option maxHeartbeats 2000000
/-! Mir8: comparisons as tests; dicts by written keys. -/
namespace Mir
open PySem PySem.Spec PyProof.Rows L2
/-- a Bool of a datum -/
def mTst (m : WE) : WT := fun l st Q X => m l st (fun x s1 => match x with
  | .bl k => Q k s1
  | _ => False) X
section
variable {X : Cx} {W : WX} {a b c : Expr} {ta tb tc : TE} {ma mb mc : WE} {pos : Pos} {k : Nat}
theorem dt_cm {op : CmpOp} {r : R2} {f : D → D → WD} (ho : OpR X (compareOp op) r) (hf : OpM X.K X.mg r f) (ha : DE X W a ta ma) (hb : DE X W b tb mb) (hm : behindInMarks op b = false := by rfl) :
    DT X W (.Compare a [op] [b] pos) (tTest (tOp r ta tb)) (mTst (mOp f ma mb)) := dt_cmp ho hf ha hb hm
theorem dt_eq (hr : Room k X.A) (ha : DE X W a ta ma) (hb : DE X W b tb mb) : DT X W (.Compare a [.Eq] [b] pos) (tTest (tOp (fun x y H Q => rEq x y H Q ∨ rEqD X.K x y H Q) ta tb)) (mTst (mOp (eqD false) ma mb)) := dt_cm (OpR.or op_eq (op_eqD hr.units)) opm_eq ha hb (nomark _)
theorem dt_ne (hr : Room k X.A) (ha : DE X W a ta ma) (hb : DE X W b tb mb) : DT X W (.Compare a [.NotEq] [b] pos) (tTest (tOp (fun x y H Q => rNe x y H Q ∨ rNeD X.K x y H Q) ta tb)) (mTst (mOp (eqD true) ma mb)) := dt_cm (OpR.or op_ne (op_neD hr.units)) opm_ne ha hb (nomark _)
theorem dt_lt (ha : DE X W a ta ma) (hb : DE X W b tb mb) : DT X W (.Compare a [.Lt] [b] pos) (tTest (tOp (rOrd ltI ltS) ta tb)) (mTst (mOp (ordD ltI ltS) ma mb)) := dt_cm op_ltA opm_ord ha hb (nomark _)
theorem dt_le (ha : DE X W a ta ma) (hb : DE X W b tb mb) : DT X W (.Compare a [.LtE] [b] pos) (tTest (tOp (rOrd leI leS) ta tb)) (mTst (mOp (ordD leI leS) ma mb)) := dt_cm op_leA opm_ord ha hb (nomark _)
theorem dt_gt (ha : DE X W a ta ma) (hb : DE X W b tb mb) : DT X W (.Compare a [.Gt] [b] pos) (tTest (tOp (rOrd (fun i j => ltI j i) (fun i j => ltS j i)) ta tb)) (mTst (mOp (ordD (fun i j => ltI j i) (fun i j => ltS j i)) ma mb)) := dt_cm op_gtA opm_ord ha hb (nomark _)
theorem dt_ge (ha : DE X W a ta ma) (hb : DE X W b tb mb) : DT X W (.Compare a [.GtE] [b] pos) (tTest (tOp (rOrd (fun i j => leI j i) (fun i j => leS j i)) ta tb)) (mTst (mOp (ordD (fun i j => leI j i) (fun i j => leS j i)) ma mb)) := dt_cm op_geA opm_ord ha hb (nomark _)
theorem dt_in (hr : Room k X.A) (ha : DE X W a ta ma) (hb : DE X W b tb mb) (hm : behindInMarks .In b = false := by rfl) : DT X W (.Compare a [.In] [b] pos) (tTest (tOp (rInAny X.K) ta tb)) (mTst (mOp (inD false) ma mb)) :=
  dt_cm (OpR.or op_in_sign (OpR.or op_in_seq (op_inD (Room.u65 hr)))) opm_in ha hb hm
theorem dt_ni (hr : Room k X.A) (ha : DE X W a ta ma) (hb : DE X W b tb mb) (hm : behindInMarks .NotIn b = false := by rfl) : DT X W (.Compare a [.NotIn] [b] pos) (tTest (tOp (rNiAny X.K) ta tb)) (mTst (mOp (inD true) ma mb)) :=
  dt_cm (OpR.or op_notIn_sign (OpR.or op_notIn_seq (op_notInD (Room.u65 hr)))) opm_ni ha hb hm
theorem dt_isN {j pos'} (ha : DE X W a ta ma) : DT X W (.Compare a [.Is] [.Constant .none j pos'] pos) (tB (tIsN ta)) (mTst (mUn (fun d => .bl (isNon d)) ma)) := by
  have ev := (de_isN (j := j) (pos' := pos') (pos := pos) ha).ev
  refine ⟨pt_cmp (pc_isN ha.pe), ⟨fun l st Q Q' X X' h hX q => ev.mono _ _ _ _ _ _ (fun x s1 q1 => ?_) hX q, fun ρ st H σ l Q r rl h => ?_⟩⟩
  · split at q1
    · exact h _ _ q1
    · exact q1.elim
  · refine ev.bind r rl h (fun _ _ z => z) fun x s1 v ρ1 H1 e1 r1 i1 h1 => ?_
    split at h1
    · cases i1
      exact ⟨_, rfl, up.now (R := rI) h1 e1 r1 rfl⟩
    · exact h1.elim
theorem dt_notN {j pos'} (ha : DE X W a ta ma) : DT X W (.Compare a [.IsNot] [.Constant .none j pos'] pos) (tB (tNotN ta)) (mTst (mUn (fun d => .bl (!isNon d)) ma)) := by
  have ev := (de_notN (j := j) (pos' := pos') (pos := pos) ha).ev
  refine ⟨pt_cmp (pc_notN ha.pe), ⟨fun l st Q Q' X X' h hX q => ev.mono _ _ _ _ _ _ (fun x s1 q1 => ?_) hX q, fun ρ st H σ l Q r rl h => ?_⟩⟩
  · split at q1
    · exact h _ _ q1
    · exact q1.elim
  · refine ev.bind r rl h (fun _ _ z => z) fun x s1 v ρ1 H1 e1 r1 i1 h1 => ?_
    split at h1
    · cases i1
      exact ⟨_, rfl, up.now (R := rI) h1 e1 r1 rfl⟩
    · exact h1.elim
/-- x is True, x is not True; x a flag -/
def isBlD (neg : Bool) (x y : D) : WD := fun st Q _ => match x, y with
  | .bl a, .bl b => Q (.bl (if neg then !decide (a = b) else decide (a = b))) st
  | _, _ => False
theorem opm_isBl {K : PySem.W.Frag} {mg : Str → Option Value} : OpM K mg rIsB (isBlD false) where
  mono := fun x y st Q Q' X X' h _ q => by
    unfold isBlD at *
    split at q
    · exact h _ _ q
    · exact q.elim
  run := fun ρ st H x y v u Q X r ix iy h => by
    unfold isBlD at h
    split at h
    · cases ix; cases iy
      exact ⟨_, _, rfl, rfl, h.now (.refl _ _) r rfl⟩
    · exact h.elim
theorem opm_notBl {K : PySem.W.Frag} {mg : Str → Option Value} : OpM K mg rNotB (isBlD true) where
  mono := fun x y st Q Q' X X' h _ q => by
    unfold isBlD at *
    split at q
    · exact h _ _ q
    · exact q.elim
  run := fun ρ st H x y v u Q X r ix iy h => by
    unfold isBlD at h
    split at h
    · cases ix; cases iy
      exact ⟨_, _, rfl, rfl, h.now (.refl _ _) r rfl⟩
    · exact h.elim
theorem de_isBl (ha : DE X W a ta ma) (hb : DE X W b tb mb) : DE X W (.Compare a [.Is] [b] pos) (tOp rIsB ta tb) (mOp (isBlD false) ma mb) := de_cmp op_isBl opm_isBl ha hb (nomark _)
theorem de_notBl (ha : DE X W a ta ma) (hb : DE X W b tb mb) : DE X W (.Compare a [.IsNot] [b] pos) (tOp rNotB ta tb) (mOp (isBlD true) ma mb) := de_cmp op_notBl opm_notBl ha hb (nomark _)
theorem dt_isBl (ha : DE X W a ta ma) (hb : DE X W b tb mb) : DT X W (.Compare a [.Is] [b] pos) (tTest (tOp rIsB ta tb)) (mTst (mOp (isBlD false) ma mb)) := dt_cm op_isBl opm_isBl ha hb (nomark _)
theorem dt_notBl (ha : DE X W a ta ma) (hb : DE X W b tb mb) : DT X W (.Compare a [.IsNot] [b] pos) (tTest (tOp rNotB ta tb)) (mTst (mOp (isBlD true) ma mb)) := dt_cm op_notBl opm_notBl ha hb (nomark _)
theorem dt_chain {op op' : CmpOp} {r r' : R2} {f f' : D → D → WD} (ho : OpR X (compareOp op) r) (ho' : OpR X (compareOp op') r') (hf : OpM X.K X.mg r f) (hf' : OpM X.K X.mg r' f') (ha : DE X W a ta ma) (hb : DE X W b tb mb) (hc : DE X W c tc mc)
    (hn1 : op ≠ .In := by decide) (hn2 : op ≠ .NotIn := by decide) (hn3 : op' ≠ .In := by decide) (hn4 : op' ≠ .NotIn := by decide) : DT X W (.Compare a [op, op'] [b, c] pos) (tTest (tChain r r' ta tb tc)) (mTst (mChain f f' ma mb mc)) := by
  have ev := (de_chain (pos := pos) ho ho' hf hf' ha hb hc hn1 hn2 hn3 hn4).ev
  refine ⟨pt_chain ho ho' ha.pe hb.pe hc.pe (by show behindInMarks op' c = false; exact nomark _ hn3 hn4), ⟨fun l st Q Q' X X' h hX q => ev.mono _ _ _ _ _ _ (fun x s1 q1 => ?_) hX q, fun ρ st H σ l Q r rl h => ?_⟩⟩
  · split at q1
    · exact h _ _ q1
    · exact q1.elim
  · refine ev.bind r rl h (fun _ _ z => z) fun x s1 v ρ1 H1 e1 r1 i1 h1 => ?_
    split at h1
    · cases i1
      exact ⟨_, rfl, up.now (R := rI) h1 e1 r1 rfl⟩
    · exact h1.elim
theorem dt_le_le (ha : DE X W a ta ma) (hb : DE X W b tb mb) (hc : DE X W c tc mc) : DT X W (.Compare a [.LtE, .LtE] [b, c] pos) (tTest (tChain (rOrd leI leS) (rOrd leI leS) ta tb tc)) (mTst (mChain (ordD leI leS) (ordD leI leS) ma mb mc)) := dt_chain op_leA op_leA opm_ord opm_ord ha hb hc
end
end Mir

set_option Elab.async false
set_option linter.all false
set_option maxRecDepth 100000
set_option maxHeartbeats 2000000
/-! Mir9: == and != by an own __eq__. -/
namespace Mir
open PySem PySem.Spec PyProof.Rows L2
section
variable {prog : Program} {w : World} {A : Around} {E : Value → Shared → Prop} {s : Shared} {K : PySem.W.Frag} {x C f : Addr} {ox : Obj} {od : Option Obj} {b tb : Value}
theorem ne_own {Q : Value → Shared → Prop} (hu : A.units + 1 < cLine) (X : K.In s.heap) (I : PySem.W.InstAt s.heap x ox C od) (hb : PySem.W.Looks (model prog w) s.heap (typeOf b) tb) (hn : PySem.W.notFirst K C tb = true)
    (hne : PySem.W.findIn K (.ref C) "__ne__" = some (some (.builtin "object.__ne__"))) (heq : PySem.W.findIn K (.ref C) "__eq__" = some (some (.ref f))) (hf : PySem.W.isFn K (.ref f) = true) (hob : PySem.W.subIn K (.ref C) (.type "object") = some true)
    (h : wpAny (model prog w) A.in1 (call (.ref f) [.ref x, b]) (fun v s' => ∃ k, v = .bool k ∧ Q (.bool (!k)) s') E s) : wpAny (model prog w) A (richCompare .NotEq (.ref x) b) Q E s := by
  have one : wpAny (model prog w) A (tryCompare (.ref x) "__ne__" b) (fun r s' => ∃ v, r = some v ∧ Q v s') E s := by
    have body : wpAny (model prog w) A (call (.builtin "object.__ne__") [.ref x, b]) (fun v s' => ∃ k, v = .bool k ∧ Q v s') E s := by
      refine wpAny_call (codeAny_call_builtin F.cmp_object.ne.plain F.cmpEntry_ne (PySem.W.check_slot F.cmpKind_ne F.cmpSplit_ne (I.type.andThen (PySem.W.looks_subIn X hob)) (F.cmpArgs_ne _ _) ?_))
      have hu' : A.in1.units < cLine := hu
      unfold Builtin.«object.__ne__»
      repeat (first
        | with_reducible refine wpAny_cRoomFor hu' ?_
        | (refine wpAny_bind (m := callSpecialIfBound? (.ref x) (Str.ofString "__eq__") [b])
            (PySem.W.ifBound_K X I heq hf (wpAny_mono h (fun r s' hr => by
              obtain ⟨k, rfl, hq⟩ := hr
              repeat (first | exact ⟨_, rfl, hq⟩ | exact hq | exact wpAny_pure hq | exact wpAny_truthy_bool hq | (refine wpAny_bind (m := truthy (.bool _)) (wpAny_truthy_bool ?_)) | wp_step)) fun _ _ e => e)))
        | wp_step)
    unfold tryCompare
    refine wpAny_bind ?_
    simp only [callSpecialIfBound?, bindSpecialIfBound?]
    refine wpAny_holding (wpAny_bind (wpAny_bind (wpAny_bind (I.type.here ((PySem.W.looks_findIn X hne).here ?_)))))
    simp only [F.cmp_object.ne.bind]
    refine wpAny_bind (wpAny_askSetting (wpAny_ite ?_))
    have fin : ∀ {Q' : Option Value → Shared → Prop}, (∀ v s', (∃ k, v = .bool k ∧ Q v s') → Q' (some v) s') → wpAny (model prog w) A (call (.builtin "object.__ne__") ([.ref x] ++ [b]) >>= fun v => pure (some v)) Q' E s := fun k =>
      wpAny_bind (wpAny_mono body (fun v s' h' => wpAny_pure (k v s' h')) fun _ _ h' => h')
    split
    · refine wpAny_bind (wpAny_pure (wpAny_pure (fin fun v s' ⟨k, e, q⟩ => ?_)))
      subst e
      exact wpAny_pure ⟨_, rfl, q⟩
    · refine wpAny_tryCatch (wpAny_bind (wpAny_pure (wpAny_pure (fin fun v s' ⟨k, e, q⟩ => ?_))))
      subst e
      exact wpAny_pure ⟨_, rfl, q⟩
  unfold richCompare
  simp only [oneThing_ref]
  refine wpAny_holding (wpAny_bind (wpAny_cRoomFor (by omega) ?_))
  refine wpAny_bind (I.type.here (wpAny_bind (hb.here ?_)))
  split
  · rename_i q
    have e : PySem.W.subIn K tb (.ref C) = some false := by
      rcases Bool.or_eq_true_iff.mp hn with e | e
      · rw [beq_iff_eq.mp e] at q; simp at q
      · exact beq_iff_eq.mp e
    refine wpAny_bind ((PySem.W.looks_subIn X e).here ?_)
    simp only [Bool.false_eq_true, if_false]
    refine wpAny_bind (wpAny_mono one (fun r s' z => ?_) fun _ _ e => e)
    obtain ⟨v, rfl, hq⟩ := z
    exact wpAny_pure hq
  · refine wpAny_bind (wpAny_pure ?_)
    simp only [Bool.false_eq_true, if_false]
    refine wpAny_bind (wpAny_mono one (fun r s' z => ?_) fun _ _ e => e)
    obtain ⟨v, rfl, hq⟩ := z
    exact wpAny_pure hq
end
/-! ### == and != of instances -/
abbrev noX : QX := fun _ _ => False
/-- what a class with its own == must have -/
structure EqC (K : PySem.W.Frag) (C f : Addr) : Prop where
  ins : InsK K C
  eq : PySem.W.findIn K (.ref C) "__eq__" = some (some (.ref f))
  fn : PySem.W.isFn K (.ref f) = true
  ne : PySem.W.findIn K (.ref C) "__ne__" = some (some (.builtin "object.__ne__"))
  ob : PySem.W.subIn K (.ref C) (.type "object") = some true
def rEqI (K : PySem.W.Frag) (C : Addr) (sp : Sp) (neg : Bool) : R2 := fun x y H Q => ∃ a dx fs t, x = .ref a ∧ H a = some (.ins C dx fs) ∧ TyX K H y t ∧ PySem.W.notFirst K C t = true ∧
  sp [x, y] H (fun v H' => ∃ b, v = .bl b ∧ Q (.bl (if neg then !b else b)) H') (fun _ _ _ => False)
theorem passesNo {X : Cx} {W : WX} (tk : Takes X W) : Passes (L2.CX X.prog X.w) X (fun _ _ _ => False) := passes_call tk fun _ _ _ _ h => h.elim
section
variable {X : Cx} {W : WX} {C f : Addr} {fd : FuncData} {ps : List Str} {sp : Sp} {k : Nat}
theorem run_eqI {A : Around} {pins : List (Addr × Obj)} {s : Shared} {σ : L2.St} {H : Hp} {x y : V} {a : Addr} {u : Value} {R : Bool → VK} (F : FnOk X.prog X.w X.K X.mg X.base (L2.CX X.prog X.w) k f fd ps sp) (hb : Binds X.K fd ps []) (tk : Takes X W) (hr : Room k A) (hfr : A.frames = X.A.frames)
    (I : Inv X pins σ H s) (ex : x = .ref a) (ry : RelV y u) (h : sp [x, y] H (fun v H' => ∃ b, v = .bl b ∧ R b v H') (fun _ _ _ => False)) :
    wpAny (model X.prog X.w) A (call (.ref f) [.ref a, u]) (fun v s' => ∃ b H', v = .bool b ∧ Inv X pins σ H' s' ∧ R b (.bl b) H') X.xe s := by
  subst ex
  have e0 : Env0 X.prog X.w X.K X.mg X.base A X.stack s H := by
    have e := I.env0
    exact ⟨by rw [hfr]; exact e.frames, e.mod, e.bs, e.bsz, e.funs, e.frf, e.hok, e.bare⟩
  have hl := F.len _ _ _ _ h
  have r2 : Vals [V.ref a, y] [Value.ref a, u] := .cons rfl (.cons ry .nil)
  refine wpAny_call (codeAny_mono (F.run A X.stack s H ⟨[.ref a, u], []⟩ [.ref a, u] [.ref a, y] _ (fun _ _ _ => False) hr e0 (by
    have := hb s [.ref a, u] I.kIn (by simpa using hl)
    simpa using this) r2 h) fun r s' hq => ?_)
  cases r with
  | error e => exact passesNo tk pins σ H s e s' I hq
  | ok fl =>
    cases fl with
    | ret w =>
      obtain ⟨z, H', I', rz, b, ez, q⟩ := I.after hq
      subst ez
      cases rz
      exact ⟨b, H', rfl, I', q⟩
    | next => exact False.elim hq
    | brk => exact False.elim hq
    | cont => exact False.elim hq
theorem op_eqI (Ec : EqC X.K C f) (F : FnOk X.prog X.w X.K X.mg X.base (L2.CX X.prog X.w) k f fd ps sp) (hb : Binds X.K fd ps []) (tk : Takes X W) (hr : Room k X.A) : OpR X (compareOp .Eq) (rEqI X.K C sp false) := by
  intro pins s σ H x y v u Q I rx ry hq
  obtain ⟨a, dx, fs, t, ex, ea, ty, nf, h⟩ := hq
  subst ex
  obtain rfl : v = Value.ref a := rx
  obtain ⟨mA, J, _⟩ := ins_get I.hok ea
  obtain ⟨od, J, _⟩ := J.look
  obtain ⟨m, hF⟩ := I.fr
  obtain ⟨P, Z, p, _⟩ := kit_of I ry ty
  show wpAny (model X.prog X.w) X.A (richCompare .Eq (.ref a) u) (EP X pins σ Q) X.xe s
  refine PySem.W.cmp_K (op := .Eq) (tb := t) hr.units0 hF I.ok.mod.kin J (Z.ty _ _ I.kIn p) nf Ec.eq Ec.fn ?_
  refine wpAny_mono (run_eqI (R := fun b v H' => Q (.bl b) H') F hb tk hr rfl I rfl ry (h)) (fun v s' ⟨b, H', e, I', q⟩ => ?_) fun _ _ x => x
  subst e
  exact ⟨.bl b, H', I', rfl, q⟩
theorem op_neI (Ec : EqC X.K C f) (F : FnOk X.prog X.w X.K X.mg X.base (L2.CX X.prog X.w) k f fd ps sp) (hb : Binds X.K fd ps []) (tk : Takes X W) (hr : Room (k + 1) X.A) : OpR X (compareOp .NotEq) (rEqI X.K C sp true) := by
  intro pins s σ H x y v u Q I rx ry hq
  obtain ⟨a, dx, fs, t, ex, ea, ty, nf, h⟩ := hq
  subst ex
  obtain rfl : v = Value.ref a := rx
  obtain ⟨mA, J, _⟩ := ins_get I.hok ea
  obtain ⟨od, J, _⟩ := J.look
  obtain ⟨P, Z, p, _⟩ := kit_of I ry ty
  show wpAny (model X.prog X.w) X.A (richCompare .NotEq (.ref a) u) (EP X pins σ Q) X.xe s
  refine ne_own (tb := t) (by have := hr.un; omega) I.kIn J (Z.ty _ _ I.kIn p) nf Ec.ne Ec.eq Ec.fn Ec.ob ?_
  refine wpAny_mono (run_eqI (R := fun b v H' => Q (.bl !b) H') F hb tk hr.in1 rfl I rfl ry h) (fun v s' ⟨b, H', e, I', q⟩ => ?_) fun _ _ x => x
  subst e
  exact ⟨b, rfl, .bl !b, H', I', rfl, q⟩
end
/-- x == y by the own __eq__ of x's class c; ok: the other's kind may be asked -/
def eqIM (c : Str) (ok : Kd → Bool) (F : List D → WD) (neg : Bool) (x y : D) : WD := fun st Q _ => kd st x = some (.own c) ∧ (∃ k, kd st y = some k ∧ ok k = true) ∧ F [x, y] st (fun d s => match d with
  | .bl b => Q (.bl (if neg then !b else b)) s
  | _ => False) noX
theorem IsV.own {K : PySem.W.Frag} {mg : Str → Option Value} {ρ : Rh} {st : Sto} {H : Hp} {d : D} {v : V} {c : Str} (r : Rel K mg ρ st H) (i : IsV K mg ρ H d v) (h : kd st d = some (.own c)) : ∃ a C dx fs, v = .ref a ∧ mg c = some (.ref C) ∧ H a = some (.ins C dx fs) := by
  cases d with
  | vi c' fs vs =>
    obtain ⟨a, C, dx, xs, rfl, h0, h1, _⟩ := i
    cases h
    exact ⟨a, C, dx, _, rfl, h0, h1⟩
  | ref n =>
    obtain ⟨a, rfl, h1⟩ := i
    simp only [kd] at h
    split at h
    · cases h
    · cases h
    · rename_i c fs vs hl
      cases h
      obtain ⟨C, dx, xs, h0, h2, _⟩ := r.at_ n a _ h1 hl
      exact ⟨a, C, dx, _, rfl, h0, h2⟩
    · cases h
  | _ => cases h
theorem opm_eqI {K : PySem.W.Frag} {mg : Str → Option Value} {c : Str} {C f : Addr} {ok : Kd → Bool} {F : List D → WD} {neg : Bool} (hC : mg c = some (.ref C)) (hF : ∀ ds, MonoD (F ds)) (hO : ∀ k, ok (.own k) = true → ∀ C, mg k = some (.ref C) → InsK K C) (hn : ∀ k t, ok k = true → KdTy K mg k t → PySem.W.notFirst K C t = true) :
    OpM K mg (rEqI K C (spM K mg 2 F) neg) (eqIM c ok F neg) where
  mono := fun x y st Q Q' X X' h _ q => by
    unfold eqIM at *
    refine ⟨q.1, q.2.1, hF _ _ _ _ _ _ (fun d s q => ?_) (fun _ _ z => z) q.2.2⟩
    split at q
    · exact h _ _ q
    · exact q.elim
  run := fun ρ st H x y v u Q X r ix iy h => by
    obtain ⟨h1, ⟨k, h2, h3⟩, h4⟩ := h
    obtain ⟨a, C', dx, fs, rfl, e1, e2⟩ := ix.own r h1
    rw [hC] at e1
    cases e1
    obtain ⟨t, g1, g2⟩ := kd_ok r iy h2 fun c' e => hO c' (by rw [← e]; exact h3)
    refine ⟨a, dx, fs, t, rfl, e2, g2, hn k t h3 g1, ρ, st, [x, y], r, ⟨_, _, rfl, ix, _, _, rfl, iy, rfl⟩, rfl, ?_⟩
    refine hF _ _ _ _ _ _ (fun d s q => ?_) (fun _ _ z => z.elim) h4
    intro v' ρ' H' e' r' i'
    split at q
    · rename_i b
      cases i'
      exact ⟨b, rfl, up.now (R := rV K mg) q e' r' rfl⟩
    · exact q.elim
end Mir

set_option Elab.async false
set_option linter.all false
set_option maxRecDepth 100000
set_option maxHeartbeats 2000000
/-! Mir10: attributes, making instances, dicts by keys. -/
namespace Mir
open PySem PySem.Spec PyProof.Rows L2
/-! ### attributes -/
/-- an instance of the class c -/
def insD (c : Str) (st : Sto) : D → Option (List Str × List D)
  | .vi c' fs vs => if c' = c then some (fs, vs) else none
  | .ref n => match st[n]? with
    | some (.ins c' fs vs) => if c' = c then some (fs, vs) else none
    | _ => none
  | _ => none
theorem lookup_zip {K : PySem.W.Frag} {mg : Str → Option Value} {ρ : Rh} {H : Hp} {f : Str} {d : D} : ∀ {fs : List Str} {vs : List D} {xs : List V}, fs.length = xs.length → IsL K mg ρ H vs xs → (fs.zip vs).lookup f = some d → ∃ v, (fs.zip xs).lookup f = some v ∧ IsV K mg ρ H d v
  | [], _, _, _, _, h => by cases h
  | g :: fs, [], _, _, i, h => by simp at h
  | g :: fs, e :: vs, _, hl, ⟨x, r, ex, i1, i2⟩, h => by
    subst ex
    simp only [List.zip_cons_cons, List.lookup_cons] at h ⊢
    split at h
    · cases h
      exact ⟨x, rfl, i1⟩
    · exact lookup_zip (by simpa using hl) i2 h
theorem insD.at_ {K : PySem.W.Frag} {mg : Str → Option Value} {ρ : Rh} {st : Sto} {H : Hp} {c : Str} {x : D} {v : V} {fs : List Str} {vs : List D} (r : Rel K mg ρ st H) (i : IsV K mg ρ H x v) (h : insD c st x = some (fs, vs)) :
    ∃ a C dx xs, v = .ref a ∧ mg c = some (.ref C) ∧ H a = some (.ins C dx (fs.zip xs)) ∧ fs.length = xs.length ∧ IsL K mg ρ H vs xs := by
  cases x with
  | vi c' fs' vs' =>
    obtain ⟨a, C, dx, xs, rfl, h0, h1, _, h2, h3⟩ := i
    simp only [insD] at h
    split at h
    · rename_i e
      subst e
      cases h
      exact ⟨a, C, dx, xs, rfl, h0, h1, h2, h3⟩
    · cases h
  | ref n =>
    obtain ⟨a, rfl, h1⟩ := i
    simp only [insD] at h
    split at h
    · rename_i c' fs' vs' hl
      split at h
      · rename_i e
        subst e
        cases h
        obtain ⟨C, dx, xs, h0, h2, h3, h4⟩ := r.at_ n a _ h1 hl
        exact ⟨a, C, dx, xs, rfl, h0, h2, h3, h4⟩
      · cases h
    · cases h
  | _ => cases h
def FldC (K : PySem.W.Frag) (mg : Str → Option Value) (c f : Str) : Prop := ∀ C, mg c = some (.ref C) → Cls K C ∧ NoAttr K C f
def mFld (c f : Str) (me : WE) : WE := fun l st Q X => me l st (fun x s1 => match insD c s1 x with
  | some (fs, vs) => (match (fs.zip vs).lookup f with
    | some d => Q d s1
    | none => False)
  | none => False) X
section
variable {X : Cx} {W : WX} {e o : Expr} {te to : TE} {me mo : WE} {pos pos' : Pos} {c f : Str}
theorem de_fld (hc : FldC X.K X.mg c f) (he : DE X W e te me) (hb : attributeBase e f X.env (eval e X.env) = eval e X.env := by rfl) : DE X W (.Attribute e f pos) (tFld X.K te f) (mFld c f me) := by
  refine ⟨pe_fld he.pe hb, ⟨fun l st Q Q' X X' h hX q => he.ev.mono _ _ _ _ _ _ (fun x s1 q1 => ?_) hX q, fun ρ st H σ l Q r rl h => ?_⟩⟩
  · split at q1
    · split at q1
      · exact h _ _ q1
      · exact q1.elim
    · exact q1.elim
  · refine he.ev.bind r rl h (fun _ _ z => z) fun x s1 v ρ1 H1 e1 r1 i1 h1 => ?_
    split at h1
    · rename_i fs vs hi
      split at h1
      · rename_i d hd
        obtain ⟨a, C, dx, xs, rfl, h0, h2, h3, h4⟩ := insD.at_ r1 i1 hi
        obtain ⟨u, g1, g2⟩ := lookup_zip h3 h4 hd
        exact ⟨a, C, dx, _, u, rfl, h2, (hc C h0).1, (hc C h0).2, g1, h1.now e1 r1 g2⟩
      · exact h1.elim
    · exact h1.elim
/-- putting a field in its place or at the end -/
def putN (f : Str) : List Str → List Str
  | [] => [f]
  | g :: r => if g = f then g :: r else g :: putN f r
def putW {α : Type} (f : Str) (y : α) : List Str → List α → List α
  | [], _ => [y]
  | g :: r, x :: xs => if g = f then y :: xs else x :: putW f y r xs
  | _ :: _, [] => []
theorem putF_zip {f : Str} {y : V} : ∀ {fs : List Str} {xs : List V}, fs.length = xs.length → putF f y (fs.zip xs) = (putN f fs).zip (putW f y fs xs)
  | [], [], _ => rfl
  | [], _ :: _, h => by simp at h
  | _ :: _, [], h => by simp at h
  | g :: fs, x :: xs, h => by
    simp only [List.zip_cons_cons, putF, putN, putW]
    split
    · rfl
    · rw [putF_zip (by simpa using h)]
      rfl
theorem put_len {α : Type} {f : Str} {y : α} : ∀ {fs : List Str} {xs : List α}, fs.length = xs.length → (putN f fs).length = (putW f y fs xs).length
  | [], [], _ => rfl
  | [], _ :: _, h => by simp at h
  | _ :: _, [], h => by simp at h
  | g :: fs, x :: xs, h => by
    simp only [putN, putW]
    split
    · simpa using h
    · simpa using put_len (f := f) (y := y) (by simpa using h)
theorem IsL.put {K : PySem.W.Frag} {mg : Str → Option Value} {ρ : Rh} {H : Hp} {f : Str} {d : D} {v : V} (hd : IsV K mg ρ H d v) : ∀ {fs : List Str} {vs : List D} {xs : List V}, IsL K mg ρ H vs xs → fs.length = xs.length → IsL K mg ρ H (putW f d fs vs) (putW f v fs xs)
  | [], _, _, i, h => ⟨v, [], rfl, hd, rfl⟩
  | g :: fs, [], xs, i, h => by cases i; simp at h
  | g :: fs, e :: vs, _, ⟨x, r, ex, i1, i2⟩, h => by
    subst ex
    simp only [putW]
    split
    · exact ⟨v, r, rfl, hd, i2⟩
    · exact ⟨x, _, rfl, i1, IsL.put hd i2 (by simpa using h)⟩
/-- o.f = e, an object of the store -/
def setFD (c f : Str) (o v : D) : Sto → (Sto → Prop) → Prop := fun st Q => match o with
  | .ref n => (match st[n]? with
    | some (.ins c' fs vs) => c' = c ∧ fs.length < 1000 ∧ Q (st.set n (.ins c (putN f fs) (putW f v fs vs)))
    | _ => False)
  | _ => False
def mSetF (c f : Str) (me mo : WE) : WS := fun l st E => me l st (fun d s1 => mo l s1 (fun o s2 => setFD c f o d s2 (fun s3 => E.nx l s3)) (E.ex l)) (E.ex l)
theorem setFD.mono {o v : D} {st : Sto} {Q Q' : Sto → Prop} (h : ∀ s, Q s → Q' s) (q : setFD c f o v st Q) : setFD c f o v st Q' := by
  unfold setFD at *
  split at q
  · split at q
    · exact ⟨q.1, q.2.1, h _ q.2.2⟩
    · exact q.elim
  · exact q.elim
theorem ds_setF (hc : FldC X.K X.mg c f) (ho : DE X W o to mo) (he : DE X W e te me) (hs : swapsWith e (some (.Attribute o f pos')) pos.line X.env = pure false := by rfl) : DS X W (.Assign [.Attribute o f pos'] e pos) (sFld X.K to te f) (mSetF c f me mo) where
  ps := ps_fld ho.pe he.pe hs
  mono := fun l st E E' h q => he.ev.mono _ _ _ _ _ _ (fun d s1 q1 => ho.ev.mono _ _ _ _ _ _ (fun o s2 q2 => setFD.mono (fun s z => h.nx _ _ z) q2) (fun _ _ z => h.ex _ _ _ z) q1) (fun _ _ z => h.ex _ _ _ z) q
  run := fun ρ st H σ l D r rl h => by
    refine he.ev.bind r rl h (exX rl) fun d s1 v ρ1 H1 e1 r1 i1 h1 => ?_
    refine ho.ev.bind r1 (rl.mono e1) h1 (fun x s z => ((exX rl) x s z).ext e1) fun o s2 w ρ2 H2 e2 r2 i2 h2 => ?_
    unfold setFD at h2
    split at h2
    · rename_i n
      obtain ⟨a, rfl, ha⟩ := i2
      split at h2
      · rename_i c' fs vs hl
        obtain ⟨rfl, hlt, h3⟩ := h2
        obtain ⟨C, dx, xs, h0, h4, h5, h6⟩ := r2.at_ n a _ ha hl
        refine ⟨a, C, dx, fs.zip xs, rfl, h4, (hc C h0).1, (hc C h0).2, by simpa [h5] using hlt, ?_⟩
        rw [putF_zip h5]
        have e3 : Ext ρ2 H2 ρ2 (upd H2 a (.ins C dx ((putN f fs).zip (putW f v fs xs)))) := .write (List.mem_of_getElem? ha) h4 (fun z => z)
        exact h3 ρ2 _ σ ((e1.trans e2).trans e3) (r2.write ha ⟨C, dx, _, h0, upd_same, put_len h5, IsL.mono e3 _ _ (IsL.put (IsV.mono e2 _ _ i1) h6 h5)⟩) (rl.mono ((e1.trans e2).trans e3))
      · exact h2.elim
    · exact h2.elim
end
/-! ### making instances -/
def tMakeS (C : Addr) (sp : Sp) (E : L2.St → XK) (t : TA) : TE := fun σ H Q => t σ H fun vs H1 => ∀ x dx, H1 x = none → H1 dx = none → dx ≠ x →
  sp (.ref x :: vs) (upd (upd H1 dx (.own x)) x (.ins C dx [])) (fun v H2 => v = .non ∧ Q (.ref x) H2) (E σ)
def tMakeA (mg : Str → Option Value) (c : Str) (sp : Sp) (E : L2.St → XK) (t : TA) : TE := fun σ H Q => ∃ C, mg c = some (.ref C) ∧ tMakeS C sp E t σ H Q
/-- a class of the module, with its __init__ -/
structure Mke (P : Program) (w : World) (K : PySem.W.Frag) (mg : Str → Option Value) (base : Heap) (c : Str) (k n : Nat) (F : List D → WD) : Prop where
  ok : ∃ C f fd ps, mg c = some (.ref C) ∧ Mk K C f ∧ Binds K fd ps [] ∧ FnOk P w K mg base (L2.CX P w) k f fd ps (spM K mg (n + 1) F)
  mono : ∀ ds, MonoD (F ds)
def mMake (c : Str) (n : Nat) (F : List D → WD) (m : WA) : WE := fun l st Q X => m l st (fun ds s1 => ds.length = n ∧ F (.ref s1.length :: ds) (s1 ++ [.ins c [] []]) (fun d s2 => isNon d = true ∧ Q (.ref s1.length) s2) X) X
section
variable {X : Cx} {W : WX} {e : Expr} {es : List Expr} {ta : TA} {ma : WA} {c : Str} {p pos : Pos} {k j n : Nat} {F : List D → WD}
theorem de_make (C : Mke X.prog X.w X.K X.mg X.base c k n F) (hr : Room j X.A) (tk : Takes X W) (ha : DA X W (e :: es) ta ma) (hkj : k + 1 ≤ j := by decide) (hg : Gl X c := by rfl) (hdb : (c == ("__debug__" : Str)) = false := by decide)
    (he : starEach (e :: es) X.env = (false, eval e X.env) :: starEach es X.env := by rfl) (hpl : (backTo pos (starEach es X.env)).any (·.1) = false := by rfl) :
    DE X W (.Call (.Name c p) (e :: es) [] pos) (tMakeA X.mg c (spM X.K X.mg (n + 1) F) (L2.WE W) ta) (mMake c n F ma) := by
  obtain ⟨⟨C, f, fd, ps, hm, M, hb, hf⟩, hF⟩ := C
  refine ⟨⟨fun pins s σ H Q I h => ?_⟩, ⟨fun l st Q Q' X X' h hX q => ha.ev.mono _ _ _ _ _ _ (fun x s1 q1 => ⟨q1.1, hF _ _ _ _ _ _ (fun d s q => ⟨q.1, h _ _ q.2⟩) hX q1.2⟩) hX q, fun ρ st H σ l Q r rl h => ?_⟩⟩
  · obtain ⟨C', hm', h⟩ := h
    rw [hm] at hm'
    cases hm'
    refine wpAny_Call_Name_kw (ld_glob I hg hm ?_ hdb)
    refine PySem.W.callWith_K (h₀ := X.base) I.ok.mod.kin M.kp (thn (ha.pe.run pos pins s σ H _ I h) fun us s1 ⟨vs, H1, I1, r, q⟩ => ⟨I1.kIn, ?_⟩) he hpl
    have hq := q (s1.heap.objs.size + 1) s1.heap.objs.size (I1.hok.fresh (Nat.le_succ _)) (I1.hok.fresh (Nat.le_refl _)) (Nat.ne_of_lt (Nat.lt_succ_self _))
    have I2 := Inv.made (C := C) I1
    have r2 : Vals (V.ref (s1.heap.objs.size + 1) :: vs) (Value.ref (s1.heap.objs.size + 1) :: us) := .cons rfl r
    have hl : (Value.ref (s1.heap.objs.size + 1) :: us).length = ps.length := by
      have e := r2.length
      rw [hf.len _ _ _ _ hq] at e
      exact e.symm
    have hr' : Room (k + 1) X.A := hr.mono hkj
    show wpAny (model X.prog X.w) X.A (call (.ref C) us) _ _ _
    refine wpAny_call (make_map (f := f) I1.kIn M.makes M.init (beq_iff_eq.mp M.fn) (codeAny_mono (hf.run _ X.stack _ _ ⟨Value.ref (s1.heap.objs.size + 1) :: us, []⟩ (Value.ref (s1.heap.objs.size + 1) :: us) _ _ (L2.WE W σ) (hr'.make C us [])
      (I2.env0.make C us []) (by
        have := hb _ (Value.ref (s1.heap.objs.size + 1) :: us) I2.kIn (by simpa using hl)
        simpa using this) r2 hq) fun r s' hq' => ?_))
    cases r with
    | error e => exact passAt tk σ pins _ _ e s' I2 hq'
    | ok fl =>
      cases fl with
      | ret u =>
        obtain ⟨v, H', I3, rv, ev, q3⟩ := I2.after hq'
        subst ev
        exact ⟨rv, ⟨V.ref (s1.heap.objs.size + 1), H', I3, rfl, q3⟩⟩
      | next => exact False.elim hq'
      | brk => exact False.elim hq'
      | cont => exact False.elim hq'
  · refine ⟨C, hm, ha.ev.bind r rl h (fun _ _ z => z) fun ds s1 vs ρ1 H1 e1 r1 i1 h1 => ?_⟩
    intro x dx hx hdx hne
    have hx' : (upd H1 dx (.own x)) x = none := by rw [upd_ne (Ne.symm hne)]; exact hx
    have ea : Ext ρ1 H1 ρ1 (upd H1 dx (.own x)) := .new hdx
    have ra := r1.new (o := .own x) hdx
    have eb : Ext ρ1 (upd H1 dx (.own x)) (ρ1.add x) (upd (upd H1 dx (.own x)) x (.ins C dx [])) := .newR hx'
    have rb := ra.newR (o := .ins C dx []) (ob := .ins c [] []) hx' ⟨C, dx, [], hm, upd_same, rfl, rfl⟩
    have hn : (ρ1.add x).ids[s1.length]? = some x := by rw [← r1.len]; simp [Rh.add]
    have eab := ea.trans eb
    refine ⟨ρ1.add x, s1 ++ [.ins c [] []], .ref s1.length :: ds, rb, ⟨_, _, rfl, ⟨x, rfl, hn⟩, IsL.mono eab _ _ i1⟩, by simp [h1.1], ?_⟩
    refine hF _ _ _ _ _ _ (fun d s2 q => ?_) (fun y s2 q => ?_) h1.2
    · intro v ρ' H' e' r' i'
      obtain ⟨q1, q2⟩ := q
      cases d <;> first
        | (cases q1; done)
        | skip
      cases i'
      exact ⟨rfl, q2.now ((e1.trans eab).trans e') r' ⟨x, rfl, e'.get hn⟩⟩
    · exact fun ρ' H' c' od e' r' i' => q ρ' H' c' od ((e1.trans eab).trans e') r' i'
end
end Mir

set_option Elab.async false
set_option linter.all false
set_option maxRecDepth 100000
set_option maxHeartbeats 2000000
/-! Mir11: dicts: displays with written keys, get. -/
namespace Mir
open PySem PySem.Spec PyProof.Rows L2
/-! ### displays -/
/-- the pairs of a display: the keys are written -/
structure DP (X : Cx) (W : WX) (pos : Pos) (ks : List Key) (keys : List (Option Expr)) (values : List Expr) (trs : List (TE × TE)) (m : WA) : Prop where
  pe : PPs X pos keys values trs
  mono : MonoG m
  run : ∀ ρ st H σ l (QP : List (V × V) → Hp → Prop), Rel X.K X.mg ρ st H → RelL X.K X.mg ρ H σ l →
    m l st (fun ds s1 => ∀ xs ρ' H', Ext ρ H ρ' H' → Rel X.K X.mg ρ' s1 H' → IsL X.K X.mg ρ' H' ds xs → ks.length = xs.length → QP ((ks.map kV).zip xs) H') (upX X.K X.mg ρ H σ W) → tPairs trs σ H QP
theorem valV_zip {K : PySem.W.Frag} {mg : Str → Option Value} {ρ : Rh} {H : Hp} {k : Key} : ∀ {ks : List Key} {vs : List D} {xs : List V}, ks.length = xs.length → IsL K mg ρ H vs xs →
    (((ks.zip vs).find? fun kv => decide (kv.1 = k)) = none ∧ valV (ks.zip xs) k = none) ∨ ∃ d v, ((ks.zip vs).find? fun kv => decide (kv.1 = k)).map (·.2) = some d ∧ valV (ks.zip xs) k = some v ∧ IsV K mg ρ H d v
  | [], _, _, _, _ => .inl ⟨rfl, rfl⟩
  | g :: ks, [], xs, h, i => by cases i; simp at h
  | g :: ks, e :: vs, _, h, ⟨x, r, ex, i1, i2⟩ => by
    subst ex
    simp only [List.zip_cons_cons, List.find?_cons]
    by_cases hg : g = k
    · rw [valV_pos (p := (g, x)) hg]
      simp only [hg, decide_true]
      exact .inr ⟨e, x, rfl, rfl, i1⟩
    · rw [valV_neg (p := (g, x)) hg]
      simp only [hg, decide_false]
      exact valV_zip (by simpa using h) i2
/-- the value at a key -/
def lookK (ks : List Key) (vs : List D) (k : Key) : Option D := ((ks.zip vs).find? fun kv => decide (kv.1 = k)).map (·.2)
def dicA (st : Sto) : D → Option (List Key × List D)
  | .vd ks vs => some (ks, vs)
  | .ref n => match st[n]? with
    | some (.dic ks vs) => some (ks, vs)
    | _ => none
  | _ => none
def keyD : D → Option Key
  | .int i => some (.inl i)
  | .str s => some (.inr s)
  | _ => none
theorem keyD_ok {K : PySem.W.Frag} {mg : Str → Option Value} {ρ : Rh} {H : Hp} {d : D} {v : V} {k : Key} (i : IsV K mg ρ H d v) (h : keyD d = some k) : v = kV k := by
  cases d <;> first
    | (cases h; done)
    | (cases h; cases i; rfl)
theorem dicA.at_ {K : PySem.W.Frag} {mg : Str → Option Value} {ρ : Rh} {st : Sto} {H : Hp} {x : D} {v : V} {ks : List Key} {vs : List D} (r : Rel K mg ρ st H) (i : IsV K mg ρ H x v) (h : dicA st x = some (ks, vs)) :
    ∃ a xs, v = .ref a ∧ H a = some (.dK (ks.zip xs)) ∧ ks.length = xs.length ∧ IsL K mg ρ H vs xs := by
  cases x with
  | vd ks' vs' =>
    obtain ⟨a, xs, rfl, h1, _, h2, h3⟩ := i
    cases h
    exact ⟨a, xs, rfl, h1, h2, h3⟩
  | ref n =>
    obtain ⟨a, rfl, h1⟩ := i
    simp only [dicA] at h
    split at h
    · rename_i ks' vs' hl
      cases h
      obtain ⟨xs, h2, h3, h4⟩ := r.at_ n a _ h1 hl
      exact ⟨a, xs, rfl, h2, h3, h4⟩
    · cases h
  | _ => cases h
theorem IsX.mov {K : PySem.W.Frag} {mg : Str → Option Value} {ρ ρ' : Rh} {H H' : Hp} {c : Value} {od : Option Addr} {x : Ex} (e : Mov ρ H ρ' H') (i : IsX K mg ρ H c od x) : IsX K mg ρ' H' c od x := by
  obtain ⟨C, h1, h2, h3⟩ := i
  refine ⟨C, h1, h2, h3.imp id ?_⟩
  rintro ⟨d, xs, g1, g2, g3, g4⟩
  exact ⟨d, xs, g1, e.imm _ _ g2 True.intro, g3, IsL.mov e _ _ g4⟩
theorem putK_new {kvs : List (Key × V)} {k : Key} {v : V} (h : k ∉ kvs.map (·.1)) : putK kvs k v = kvs ++ [(k, v)] := by
  unfold putK
  rw [if_neg]
  intro z
  obtain ⟨p, hp, e⟩ := List.any_eq_true.mp z
  exact h (List.mem_map.mpr ⟨p, hp, by simpa using e⟩)
theorem mergeK_nodup : ∀ {more kvs : List (Key × V)}, ((kvs ++ more).map (·.1)).Nodup → mergeK kvs more = kvs ++ more
  | [], kvs, _ => by rw [List.append_nil]; rfl
  | (k, v) :: r, kvs, h => by
    show mergeK (putK kvs k v) r = _
    have hk : k ∉ kvs.map (·.1) := by
      rw [List.map_append, List.nodup_append] at h
      intro z
      exact h.2.2 k z k (by simp) rfl
    rw [putK_new hk, mergeK_nodup (by simpa using h)]
    simp
theorem zip_keys {ks : List Key} {xs : List V} (h : ks.length = xs.length) : (ks.zip xs).map (·.1) = ks := by
  rw [← List.unzip_fst, List.unzip_zip h]
theorem zip_kV {ks : List Key} {xs : List V} : (ks.map kV).zip xs = (ks.zip xs).map fun kv => (kV kv.1, kv.2) := by
  rw [List.zip_map_left]
  rfl
/-- a display with written keys: a dict that nobody changes -/
def mDisp (ks : List Key) (m : WA) : WE := fun l st Q X => m l st (fun ds s1 => Q (.vd ks ds) s1) X
section
variable {X : Cx} {W : WX} {pos : Pos} {ks : List Key} {keys : List (Option Expr)} {values : List Expr} {trs : List (TE × TE)} {m : WA} {v : Expr} {tv : TE} {mv : WE}
theorem dp_nil : DP X W pos [] [] [] [] mNil := ⟨pps_nil, fun _ _ _ _ _ _ h _ q => h _ _ q, fun ρ st H σ l QP r rl h => h [] ρ H (.refl _ _) r rfl rfl⟩
theorem dp_str {x : Str} {j p} (hv : DE X W v tv mv) (hr : DP X W pos ks keys values trs m) : DP X W pos (.inr x :: ks) (some (.Constant (.str x) j p) :: keys) (v :: values) ((tC (.str x), tv) :: trs) (mCons mv m) where
  pe := pps_cons pe_str hv.pe hr.pe
  mono := fun l st Q Q' X X' h hX q => hv.ev.mono _ _ _ _ _ _ (fun x s1 q1 => hr.mono _ _ _ _ _ _ (fun xs s2 q2 => h _ _ q2) hX q1) hX q
  run := fun ρ st H σ l QP r rl h => by
    show tv σ H fun y H2 => tPairs trs σ H2 fun ps H3 => QP ((V.str x, y) :: ps) H3
    refine hv.ev.bind r rl h (fun _ _ z => z) fun d s1 u ρ1 H1 e1 r1 i1 h1 => ?_
    refine hr.run ρ1 s1 H1 σ l _ r1 (rl.mono e1) (hr.mono _ _ _ _ _ _ (fun ds s2 z => ?_) (fun _ _ z => z.ext e1) h1)
    intro xs ρ2 H2 e2 r2 i2 hl
    exact z (u :: xs) ρ2 H2 (e1.trans e2) r2 ⟨u, xs, rfl, IsV.mono e2 _ _ i1, i2⟩ (by simpa using hl)
theorem dp_int {x : Int} {j p} (hv : DE X W v tv mv) (hr : DP X W pos ks keys values trs m) : DP X W pos (.inl x :: ks) (some (.Constant (.int x) j p) :: keys) (v :: values) ((tC (.int x), tv) :: trs) (mCons mv m) where
  pe := pps_cons pe_int hv.pe hr.pe
  mono := fun l st Q Q' X X' h hX q => hv.ev.mono _ _ _ _ _ _ (fun x s1 q1 => hr.mono _ _ _ _ _ _ (fun xs s2 q2 => h _ _ q2) hX q1) hX q
  run := fun ρ st H σ l QP r rl h => by
    show tv σ H fun y H2 => tPairs trs σ H2 fun ps H3 => QP ((V.int x, y) :: ps) H3
    refine hv.ev.bind r rl h (fun _ _ z => z) fun d s1 u ρ1 H1 e1 r1 i1 h1 => ?_
    refine hr.run ρ1 s1 H1 σ l _ r1 (rl.mono e1) (hr.mono _ _ _ _ _ _ (fun ds s2 z => ?_) (fun _ _ z => z.ext e1) h1)
    intro xs ρ2 H2 e2 r2 i2 hl
    exact z (u :: xs) ρ2 H2 (e1.trans e2) r2 ⟨u, xs, rfl, IsV.mono e2 _ _ i1, i2⟩ (by simpa using hl)
theorem unhideX {K : PySem.W.Frag} {mg : Str → Option Value} {ρ ρ3 : Rh} {H H3 : Hp} {p : Addr} {o : HO} (hp : H p = none) (e : Ext (ρ.hide p) (upd H p o) ρ3 H3) : Ext ρ H ⟨ρ3.ids, ρ.bz⟩ H3 where
  pre := e.pre
  bz := rfl
  keep := fun a u h n => e.keep a u (by rw [upd_ne (ne_of_none h hp)]; exact h) n
  imm := fun a u h i => e.imm a u (by rw [upd_ne (ne_of_none h hp)]; exact h) i
theorem de_disp (h : DP X W pos ks keys values trs m) (hall : keys.all (·.isSome) = true := by rfl) (hl : keys.length = values.length := by rfl) (h0 : keys ≠ [] := by simp) (h15 : keys.length ≤ 15 := by decide) (hk : ks.length ≤ 15 := by decide) (hnd : ks.Nodup := by decide +kernel) :
    DE X W (.Dict keys values pos) (tDisp trs) (mDisp ks m) := by
  refine ⟨pe_disp h.pe hall hl h0 h15, ⟨fun l st Q Q' X X' k hX q => h.mono _ _ _ _ _ _ (fun xs s1 q1 => k _ _ q1) hX q, fun ρ st H σ l Q r rl q => ?_⟩⟩
  intro p hp
  have ni : ¬ Imm (.dK []) := fun z => z
  refine h.run (ρ.hide p) st _ σ l _ (r.hide hp ni) (rl.mov (.hide hp)) (h.mono _ _ _ _ _ _ (fun ds s1 z => ?_) (fun x s1 z => ?_) q)
  · intro xs ρ3 H3 e3 r3 i3 hlen
    have hpn : p ∉ (ρ.hide p).ids := (r.fresh hp).1
    obtain ⟨k1, k2⟩ := e3.keep p (.dK []) upd_same hpn
    have hm : mergeK [] (ks.zip xs) = ks.zip xs := mergeK_nodup (kvs := []) (by simpa [zip_keys hlen] using hnd)
    refine ⟨k1, ks.zip xs, zip_kV, by rw [List.length_zip, ← hlen]; omega, ?_⟩
    rw [hm]
    have eH : Ext ρ H ⟨ρ3.ids, ρ.bz⟩ (upd H3 p (.dK (ks.zip xs))) := by
      have e0 := unhideX (K := X.K) (mg := X.mg) hp e3
      refine ⟨e0.pre, e0.bz, fun a u ha n => ?_, fun a u ha im => ?_⟩
      · obtain ⟨g1, g2⟩ := e0.keep a u ha n
        exact ⟨by rw [upd_ne (ne_of_none ha hp)]; exact g1, g2⟩
      · rw [upd_ne (ne_of_none ha hp)]
        exact e0.imm a u ha im
    have hb3 : ρ3.bz = p :: ρ.bz := e3.bz
    have hid : Hid ρ3 H3 ⟨ρ3.ids, ρ.bz⟩ (upd H3 p (.dK (ks.zip xs))) := by
      refine ⟨rfl, fun a ha => by rw [hb3]; exact List.mem_cons_of_mem _ ha, fun a u ha n => ?_, fun a u ha im => ?_⟩
      · have hne : a ≠ p := fun z => n (by rw [hb3, z]; exact List.mem_cons_self)
        rw [upd_ne hne]
        exact ha
      · have hne : a ≠ p := fun z => by
          subst z
          rw [k1] at ha
          cases ha
          exact ni im
        rw [upd_ne hne]
        exact ha
    have r4 : Rel X.K X.mg ⟨ρ3.ids, ρ.bz⟩ s1 (upd H3 p (.dK (ks.zip xs))) := r3.hid hid fun a ha => by
      obtain ⟨⟨u, g1, g2⟩, g3⟩ := r.bz a ha
      refine ⟨u, ?_, g2⟩
      rw [upd_ne (ne_of_none g1 hp)]
      exact (e3.keep a u (by rw [upd_ne (ne_of_none g1 hp)]; exact g1) g3).1
    exact z.now eH r4 ⟨p, xs, rfl, upd_same, ⟨k2, (r.fresh hp).2⟩, hlen, IsL.hid hid _ _ i3⟩
  · intro ρ3 H3 c od e3 r3 i3
    have hb3 : ρ3.bz = p :: ρ.bz := e3.bz
    have hs : ∀ a ∈ ρ.bz, a ∈ ρ3.bz := fun a ha => by rw [hb3]; exact List.mem_cons_of_mem _ ha
    exact z ⟨ρ3.ids, ρ.bz⟩ H3 c od (unhideX (K := X.K) (mg := X.mg) hp e3) (r3.unhide hs) (i3.mov (.unhide hs))
/-- {} that nobody changes; {} that will be changed -/
theorem de_dnew : DE X W (.Dict [] [] pos) tDNewK (mC (.vd [] [])) := ⟨pe_dnewK, ⟨fun _ _ _ _ _ _ h _ q => h _ _ q, fun ρ st H σ l Q r rl h p hp => up.now (R := rV X.K X.mg) h (.new hp) (r.new hp) ⟨p, [], rfl, upd_same, r.fresh hp, rfl, rfl⟩⟩⟩
/-! ### get -/
theorem lookK_ok {K : PySem.W.Frag} {mg : Str → Option Value} {ρ : Rh} {H : Hp} {ks : List Key} {vs : List D} {xs : List V} {k : Key} {d : D} {u : V} (hl : ks.length = xs.length) (i : IsL K mg ρ H vs xs) (j : IsV K mg ρ H d u) : IsV K mg ρ H ((lookK ks vs k).getD d) ((valV (ks.zip xs) k).getD u) := by
  unfold lookK
  rcases valV_zip (k := k) hl i with ⟨h1, h2⟩ | ⟨e, v, h1, h2, h3⟩
  · rw [h1, h2]
    exact j
  · rw [h1, h2]
    exact h3
def mGet1 (mo me : WE) : WE := fun l st Q X => mo l st (fun x s1 => (dicA s1 x).isSome = true ∧ me l s1 (fun y s2 => match dicA s2 x, keyD y with
  | some (ks, vs), some k => Q ((lookK ks vs k).getD .non) s2
  | _, _ => False) X) X
def mGet2 (mo me mf : WE) : WE := fun l st Q X => mo l st (fun x s1 => (dicA s1 x).isSome = true ∧ me l s1 (fun y s2 => mf l s2 (fun z s3 => match dicA s3 x, keyD y with
  | some (ks, vs), some k => Q ((lookK ks vs k).getD z) s3
  | _, _ => False) X) X) X
variable {o e f : Expr} {to te tf : TE} {mo me mf : WE} {apos cpos : Pos} {j : Nat}
theorem de_get1 (hr : Room j X.A) (ho : DE X W o to mo) (he : DE X W e te me) (m : M1 X o "get" apos e cpos := by exact ⟨rfl, rfl, rfl, rfl⟩) : DE X W (.Call (.Attribute o "get" apos) [e] [] cpos) (tDGet1 to te) (mGet1 mo me) := by
  refine ⟨pe_dget1 (by have := hr.un; omega) ho.pe he.pe m, ⟨fun l st Q Q' X X' h hX q => ho.ev.mono _ _ _ _ _ _ (fun x s1 q1 => ⟨q1.1, he.ev.mono _ _ _ _ _ _ (fun y s2 q2 => ?_) hX q1.2⟩) hX q, fun ρ st H σ l Q r rl h => ?_⟩⟩
  · split at q2
    · exact h _ _ q2
    · exact q2.elim
  · refine ho.ev.bind r rl h (fun _ _ z => z) fun x s1 v ρ1 H1 e1 r1 i1 h1 => ?_
    obtain ⟨hd, h1⟩ := h1
    obtain ⟨⟨ks0, vs0⟩, hd⟩ := Option.isSome_iff_exists.mp hd
    obtain ⟨a, xs, rfl, g1, g2, g3⟩ := dicA.at_ r1 i1 hd
    refine ⟨a, rfl, .inl ⟨_, .of g1⟩, he.ev.bind r1 (rl.mono e1) h1 (fun _ _ z => z.ext e1) fun y s2 u ρ2 H2 e2 r2 i2 h2 => ?_⟩
    split at h2
    · rename_i ks vs k hk hy
      obtain ⟨b, ys, eb, g4, g5, g6⟩ := dicA.at_ r2 (IsV.mono e2 _ _ i1) hk
      cases eb
      exact ⟨_, .inl ⟨_, k, .of g4, keyD_ok i2 hy, rfl⟩, h2.now (e1.trans e2) r2 (lookK_ok g5 g6 rfl)⟩
    · exact h2.elim
theorem de_get2 (hr : Room j X.A) (ho : DE X W o to mo) (he : DE X W e te me) (hf : DE X W f tf mf) (m : M2 X o "get" apos e f cpos := by exact ⟨rfl, rfl, rfl, rfl⟩) : DE X W (.Call (.Attribute o "get" apos) [e, f] [] cpos) (tDGet2 to te tf) (mGet2 mo me mf) := by
  refine ⟨pe_dget2 (by have := hr.un; omega) ho.pe he.pe hf.pe m, ⟨fun l st Q Q' X X' h hX q => ho.ev.mono _ _ _ _ _ _ (fun x s1 q1 => ⟨q1.1, he.ev.mono _ _ _ _ _ _ (fun y s2 q2 => hf.ev.mono _ _ _ _ _ _ (fun z s3 q3 => ?_) hX q2) hX q1.2⟩) hX q, fun ρ st H σ l Q r rl h => ?_⟩⟩
  · split at q3
    · exact h _ _ q3
    · exact q3.elim
  · refine ho.ev.bind r rl h (fun _ _ z => z) fun x s1 v ρ1 H1 e1 r1 i1 h1 => ?_
    obtain ⟨hd, h1⟩ := h1
    obtain ⟨⟨ks0, vs0⟩, hd⟩ := Option.isSome_iff_exists.mp hd
    obtain ⟨a, xs, rfl, g1, g2, g3⟩ := dicA.at_ r1 i1 hd
    refine ⟨a, rfl, .inl ⟨_, .of g1⟩, he.ev.bind r1 (rl.mono e1) h1 (fun _ _ z => z.ext e1) fun y s2 u ρ2 H2 e2 r2 i2 h2 => ?_⟩
    refine hf.ev.bind r2 (rl.mono (e1.trans e2)) h2 (fun _ _ z => z.ext (e1.trans e2)) fun z s3 u3 ρ3 H3 e3 r3 i3 h3 => ?_
    split at h3
    · rename_i ks vs k hk hy
      obtain ⟨b, ys, eb, g4, g5, g6⟩ := dicA.at_ r3 (IsV.mono (e2.trans e3) _ _ i1) hk
      cases eb
      exact ⟨_, .inl ⟨_, k, .of g4, keyD_ok (IsV.mono e3 _ _ i2) hy, rfl⟩, h3.now ((e1.trans e2).trans e3) r3 (lookK_ok g5 g6 i3)⟩
    · exact h3.elim
end
end Mir

set_option Elab.async false
set_option linter.all false
set_option maxRecDepth 100000
set_option maxHeartbeats 2000000
/-! Mir12: own exceptions: raise, try. -/
namespace Mir
open PySem PySem.Spec PyProof.Rows L2
/-- the promise of an exception's __init__ that sets the one field f -/
def spX1 (C : Addr) (f : Str) : Sp := fun vs H Q _ => ∃ a v, vs = [.ref a, v] ∧ H a = some (exo a C none) ∧ ∀ d, H d = none → d ≠ a → Q .non (upd (upd H d (exd d [(f, v)])) a (exo a C (some d)))
structure XC (P : Program) (w : World) (K : PySem.W.Frag) (mg : Str → Option Value) (base : Heap) (c f : Str) (k : Nat) : Prop where
  ok : ∃ C fI fd ps, mg c = some (.ref C) ∧ OexC K C ∧ PySem.W.findIn K (.ref C) "__init__" = some (some (.ref fI)) ∧ PySem.W.typeIn K (.ref fI) = some (.type "function") ∧ Binds K fd ps [] ∧ FnOk P w K mg base (L2.CX P w) k fI fd ps (spX1 C f)
theorem ost_run {K : PySem.W.Frag} {C : Addr} {f : Str} {N : List Str} {vs : List V} {H : Hp} {Q : VK} {E : XK} (T : OexC K C) (hno : PySem.W.findIn K (.ref C) f = some none) (h : spX1 C f vs H Q E) : tOst K f (tVar 0) (tVar 1) { nx := fun _ H' => Q .non H', rt := Q } (L2.start N vs) H := by
  obtain ⟨a, v, rfl, h1, h2⟩ := h
  refine ⟨v, by simp [L2.start], ⟨.ref a, by simp [L2.start], a, C, rfl, T, hno, .inl ⟨h1, h2⟩⟩⟩
def mRaise1 (c f : Str) (me : WE) : WS := fun l st E => me l st (fun d s1 => E.ex l ⟨c, [f], [d]⟩ s1) (E.ex l)
section
variable {X : Cx} {W : WX} {e : Expr} {te : TE} {me : WE} {c f : Str} {p pos pos' : Pos} {j k : Nat}
theorem ds_raise1 (C : XC X.prog X.w X.K X.mg X.base c f k) (hr : Room j X.A) (hc : X.calm = true) (tk : Takes X W) (he : DE X W e te me) (hkj : k + 1 ≤ j := by decide) (hg : Gl X c := by rfl) (hdb : (c == ("__debug__" : Str)) = false := by decide)
    (hs : starEach [e] X.env = (false, eval e X.env) :: starEach [] X.env := by rfl) (hpl : (backTo pos (starEach [] X.env)).any (·.1) = false := by rfl) :
    DS X W (.Raise (some (.Call (.Name c p) [e] [] pos)) none pos') (fun _ σ H => ∃ C, X.mg c = some (.ref C) ∧ tMkO C (spX1 C f) [] (tCons te tNil) σ H fun cls d H' => W cls d σ H') (mRaise1 c f me) := by
  obtain ⟨C, fI, fd, ps, hm, T, iC, tI, hb, hf⟩ := C
  have pm : PMk X (.Call (.Name c p) [e] [] pos) (fun σ H Q => ∃ C, X.mg c = some (.ref C) ∧ tMkO C (spX1 C f) [] (tCons te tNil) σ H Q) := by
    intro pins s σ H Q I h
    obtain ⟨C', hm', h⟩ := h
    rw [hm] at hm'
    cases hm'
    exact pmk_oex T iC tI hf (hr.mono hkj) hb .nil (passesNo tk) hg hm (pa_cons he.pe pa_nil hs) hdb hs hpl pins s σ H Q I h
  refine ⟨ps_raise hc tk pm, fun l st E E' h q => he.ev.mono _ _ _ _ _ _ (fun d s1 q1 => h.ex _ _ _ q1) (fun _ _ z => h.ex _ _ _ z) q, fun ρ st H σ l D r rl h => ?_⟩
  refine ⟨C, hm, ?_⟩
  show te σ H fun x H1 => _
  refine he.ev.bind r rl h (exX rl) fun d s1 v ρ1 H1 e1 r1 i1 h1 => ?_
  refine ⟨by simp, fun a ha => ?_⟩
  refine ⟨a, v, rfl, upd_same, fun d' hd hne => ⟨rfl, d', [(f, v)], upd_same, ?_, ?_, ?_⟩⟩
  · rw [upd_ne hne, upd_same]
  · rw [upd_ne hne] at hd
    exact hd
  · have hd1 : H1 d' = none := by
      rw [upd_ne hne] at hd
      exact hd
    have eq : upd (del (upd (upd (upd H1 a (exo a C none)) d' (exd d' [(f, v)])) a (exo a C (some d'))) a) d' (.xd [(f, v)]) = upd H1 d' (.xd [(f, v)]) := by
      funext b
      by_cases hb' : b = d'
      · subst hb'
        rw [upd_same, upd_same]
      · rw [upd_ne hb', upd_ne hb']
        by_cases hba : b = a
        · subst hba
          rw [del_same, ha]
        · rw [del_ne hba, upd_ne hba, upd_ne hb', upd_ne hba]
    rw [eq]
    exact h1 ρ1 _ σ (.ref C) (some d') (e1.trans (.new hd1)) (r1.new hd1) ((rl.mono e1).mono (.new hd1)) ⟨C, hm, rfl, .inr ⟨d', [v], rfl, upd_same, rfl, v, [], rfl, IsV.mono (.new hd1) _ _ i1, rfl⟩⟩
end
/-! ### in an except suite -/
abbrev Cx.sui (X : Cx) (a : Addr) (oe : Obj) (pn : List (Addr × Obj)) : Cx := X.suite a ((a, oe) :: pn)
/-- an expression of a suite: i the slot of the caught exception -/
structure EX (X : Cx) (i : Nat) (e : Expr) (te : Addr → Value → Option Addr → TE) (m : Ex → WE) : Prop where
  pe : ∀ a oe cls d pn, Zc cls d oe → (∃ vs, oe.data = .fields vs) → PE (X.suite a ((a, oe) :: pn)) e (te a cls d)
  mono : ∀ x, MonoG (m x)
  run : ∀ ρ st H σ l a cls d x Q, Rel X.K X.mg ρ st H → RelL X.K X.mg ρ H σ l → σ[i]? = some (some (.ref a)) → IsX X.K X.mg ρ H cls d x → m x l st (up X.K X.mg (rV X.K X.mg) ρ H Q) noX → te a cls d σ H Q
structure EXA (X : Cx) (i : Nat) (es : List Expr) (ta : Addr → Value → Option Addr → TA) (m : Ex → WA) : Prop where
  pe : ∀ a oe cls d pn, Zc cls d oe → (∃ vs, oe.data = .fields vs) → PA (X.suite a ((a, oe) :: pn)) es (ta a cls d)
  mono : ∀ x, MonoG (m x)
  run : ∀ ρ st H σ l a cls d x Q, Rel X.K X.mg ρ st H → RelL X.K X.mg ρ H σ l → σ[i]? = some (some (.ref a)) → IsX X.K X.mg ρ H cls d x → m x l st (up X.K X.mg (rL X.K X.mg) ρ H Q) noX → ta a cls d σ H Q
structure EXT (X : Cx) (i : Nat) (e : Expr) (te : Addr → Value → Option Addr → TT) (m : Ex → WT) : Prop where
  pe : ∀ a oe cls d pn, Zc cls d oe → (∃ vs, oe.data = .fields vs) → PT (X.suite a ((a, oe) :: pn)) e (te a cls d)
  mono : ∀ x, MonoG (m x)
  run : ∀ ρ st H σ l a cls d x Q, Rel X.K X.mg ρ st H → RelL X.K X.mg ρ H σ l → σ[i]? = some (some (.ref a)) → IsX X.K X.mg ρ H cls d x → m x l st (up X.K X.mg rI ρ H Q) noX → te a cls d σ H Q
/-- what a suite never lets out -/
abbrev WNo : WX := fun _ _ _ _ => False
section
variable {X : Cx} {i : Nat} {e : Expr} {es : List Expr} {te : Addr → Value → Option Addr → TE} {ta : Addr → Value → Option Addr → TA} {m : Ex → WE} {ma : Ex → WA} {pos : Pos}
theorem EX.bind (h : EX X i e te m) {ρ : Rh} {st : Sto} {H : Hp} {σ : L2.St} {l : LL} {a : Addr} {cls : Value} {d : Option Addr} {x : Ex} {P : D → Sto → Prop} {Q : VK} (r : Rel X.K X.mg ρ st H) (rl : RelL X.K X.mg ρ H σ l) (hi : σ[i]? = some (some (.ref a)))
    (ix : IsX X.K X.mg ρ H cls d x) (hm : m x l st P noX) (k : ∀ d' s v ρ' H', Ext ρ H ρ' H' → Rel X.K X.mg ρ' s H' → IsV X.K X.mg ρ' H' d' v → P d' s → Q v H') : te a cls d σ H Q :=
  h.run ρ st H σ l a cls d x Q r rl hi ix (h.mono x _ _ _ _ _ _ (fun d' s p v ρ' H' e r' i' => k d' s v ρ' H' e r' i' p) (fun _ _ z => z) hm)
theorem EXA.bind (h : EXA X i es ta ma) {ρ : Rh} {st : Sto} {H : Hp} {σ : L2.St} {l : LL} {a : Addr} {cls : Value} {d : Option Addr} {x : Ex} {P : List D → Sto → Prop} {Q : List V → Hp → Prop} (r : Rel X.K X.mg ρ st H) (rl : RelL X.K X.mg ρ H σ l) (hi : σ[i]? = some (some (.ref a)))
    (ix : IsX X.K X.mg ρ H cls d x) (hm : ma x l st P noX) (k : ∀ d' s v ρ' H', Ext ρ H ρ' H' → Rel X.K X.mg ρ' s H' → IsL X.K X.mg ρ' H' d' v → P d' s → Q v H') : ta a cls d σ H Q :=
  h.run ρ st H σ l a cls d x Q r rl hi ix (h.mono x _ _ _ _ _ _ (fun d' s p v ρ' H' e r' i' => k d' s v ρ' H' e r' i' p) (fun _ _ z => z) hm)
/-- what says nothing of the exception -/
theorem ex_of {te : TE} {m : WE} (h : ∀ a oe pn, DE (X.suite a ((a, oe) :: pn)) WNo e te m) : EX X i e (fun _ _ _ => te) (fun _ => m) where
  pe := fun a oe _ _ pn _ _ => (h a oe pn).pe
  mono := fun _ => (h 0 { cls := .none, data := .fields #[] } []).ev.mono
  run := fun ρ st H σ l a cls d x Q r rl hi ix q => (h 0 { cls := .none, data := .fields #[] } []).ev.bind r rl q (fun _ _ z => z.elim) fun d' s v ρ' H' e r' i' p => up.now (R := rV X.K X.mg) p e r' i'
theorem exa_nil : EXA X i [] (fun _ _ _ => tNil) (fun _ => mNil) := ⟨fun _ _ _ _ _ _ _ => pa_nil, fun _ _ _ _ _ _ _ h _ q => h _ _ q, fun ρ st H σ l a cls d x Q r rl hi ix q => up.now (R := rL X.K X.mg) q (.refl _ _) r rfl⟩
theorem exa_cons (he : EX X i e te m) (hr : EXA X i es ta ma) (hs : ∀ a oe pn, starEach (e :: es) (X.suite a ((a, oe) :: pn)).env = (false, eval e (X.suite a ((a, oe) :: pn)).env) :: starEach es (X.suite a ((a, oe) :: pn)).env := by exact fun _ _ _ => rfl) :
    EXA X i (e :: es) (fun a cls d => tCons (te a cls d) (ta a cls d)) (fun x => mCons (m x) (ma x)) where
  pe := fun a oe cls d pn hz hf => pa_cons (he.pe a oe cls d pn hz hf) (hr.pe a oe cls d pn hz hf) (hs a oe pn)
  mono := fun x l st Q Q' X X' h hX q => he.mono x _ _ _ _ _ _ (fun y s1 q1 => hr.mono x _ _ _ _ _ _ (fun xs s2 q2 => h _ _ q2) hX q1) hX q
  run := fun ρ st H σ l a cls d x Q r rl hi ix h => by
    refine he.bind r rl hi ix h fun y s1 v ρ1 H1 e1 r1 i1 h1 => ?_
    refine hr.bind r1 (rl.mono e1) hi (ix.mov e1.mov) h1 fun xs s2 vs ρ2 H2 e2 r2 i2 h2 => ?_
    exact up.now (R := rL X.K X.mg) h2 (e1.trans e2) r2 ⟨v, vs, rfl, IsV.mono e2 _ _ i1, i2⟩
theorem ex_tup {x1} (h : EXA X i es ta ma) : EX X i (.Tuple es x1 pos) (fun a cls d => tTup (ta a cls d)) (fun x => mTup (ma x)) where
  pe := fun a oe cls d pn hz hf => pe_tup (h.pe a oe cls d pn hz hf)
  mono := fun x l st Q Q' X X' k hX q => h.mono x _ _ _ _ _ _ (fun y s1 q1 => ⟨q1.1, k _ _ q1.2⟩) hX q
  run := fun ρ st H σ l a cls d x Q r rl hi ix q => by
    refine h.bind r rl hi ix q fun xs s1 vs ρ1 H1 e1 r1 i1 h1 => ⟨by rw [← i1.len]; exact h1.1, fun p hp => ?_⟩
    exact h1.2.now (e1.trans (.new hp)) (r1.new hp) (IsV.newU hp i1)
/-- e.f -/
structure XfF (K : PySem.W.Frag) (mg : Str → Option Value) (c f : Str) : Prop where
  ok : ∀ C, mg c = some (.ref C) → XfC K C ∧ PySem.W.findIn K (.ref C) f = some none
def mXf (c f : Str) (x : Ex) : WE := fun _ st Q _ => x.c = c ∧ match (x.fs.zip x.vs).lookup f with
  | some d => Q d st
  | none => False
theorem ex_fld {n c f : Str} {np : Pos} (hc : XfF X.K X.mg c f) (hex : ∃ C, X.mg c = some (.ref C)) (hv : ∀ a oe pn, PE (X.suite a ((a, oe) :: pn)) (.Name n np) (tVar i)) (hb : ∀ a oe pn, attributeBase (.Name n np) f (X.suite a ((a, oe) :: pn)).env (eval (.Name n np) (X.suite a ((a, oe) :: pn)).env) = eval (.Name n np) (X.suite a ((a, oe) :: pn)).env := by exact fun _ _ _ => rfl) :
    EX X i (.Attribute (.Name n np) f pos) (fun a cls d => fun σ H Q => ∃ C, X.mg c = some (.ref C) ∧ tXf a cls d C f (tVar i) σ H Q) (mXf c f) where
  pe := fun a oe cls d pn hz hf => ⟨fun pins s σ H Q I h => by
    obtain ⟨C, hm, h⟩ := h
    exact (pe_xf (hc.ok C hm).1 (hc.ok C hm).2 hz hf (hv a oe pn) (hb a oe pn)).run pins s σ H Q I h⟩
  mono := fun x l st Q Q' X X' k hX q => by
    unfold mXf at *
    refine ⟨q.1, ?_⟩
    have q2 := q.2
    split at q2
    · exact k _ _ q2
    · exact q2.elim
  run := fun ρ st H σ l a cls d x Q r rl hi ix q => by
    obtain ⟨rfl, q⟩ := q
    split at q
    · rename_i d' hd
      obtain ⟨C, h1, h2, h3⟩ := ix
      refine ⟨C, h1, ⟨.ref a, hi, rfl, h2, ?_⟩⟩
      rcases h3 with ⟨g1, g2, _⟩ | ⟨dd, xs, g1, g2, g3, g4⟩
      · rw [g1] at hd
        cases hd
      · obtain ⟨u, g5, g6⟩ := lookup_zip g3 g4 hd
        exact ⟨dd, _, u, g1, g2, g5, q.now (.refl _ _) r g6⟩
    · exact q.elim
/-- isinstance(e, c) -/
def rIsX (K : PySem.W.Frag) (a : Addr) (cls : Value) (d : Option Addr) : List V → Hp → VK → Prop := fun xs H Q => ∃ (D : Addr) (c : V) (cv : Value) (b : Bool), cls = .ref D ∧ ExcC K D ∧ xs = [.ref a, c] ∧ ClsV c cv ∧ PySem.W.kitOne K (.ref D) cv = some b ∧ (d = none ∨ ∃ dd fs, d = some dd ∧ H dd = some (.xd fs)) ∧ Q (.bl b) H
theorem call_isX {a : Addr} {oe : Obj} {cls : Value} {d : Option Addr} {pn : List (Addr × Obj)} (hz : Zc cls d oe) (hf : ∃ vs, oe.data = .fields vs) : CallR (X.suite a ((a, oe) :: pn)) (.builtin "isinstance") (rIsX X.K a cls d) := by
  intro pins s σ H xs us Q I r h
  obtain ⟨D, c, cv, b, rfl, C, rfl, hcv, e, hd, q⟩ := h
  cases r with
  | cons rx rr =>
    cases rr with
    | cons rt rr =>
      cases rr
      cases rx
      have ec := hcv.eq rt
      subst ec
      obtain ⟨hget, _⟩ := I.pin (a, oe) (List.mem_append.mpr (.inl List.mem_cons_self))
      obtain ⟨vs, hv⟩ := hf
      have hcl : (PySem.W.clsIn X.K D).isSome = true := by
        obtain ⟨cd, hc, _⟩ := PySem.W.any_some C.hd
        rw [hc]
        rfl
      have J : ∃ od, PySem.W.InstAt s.heap a oe D od := by
        rcases hd with hd | ⟨dd, fs, hd, ea⟩
        · subst hd
          obtain ⟨oc, od, oda, osl⟩ := oe
          obtain ⟨h1, h2⟩ := hz
          dsimp only at h1 h2 hv
          subst h1 h2 hv
          exact ⟨none, hget, rfl, rfl, trivial⟩
        · subst hd
          have hx : ObjOk X.prog X.w H s.heap dd (.xd fs) := I.hok dd _ ea
          obtain ⟨mA, hns, hr⟩ := hx
          obtain ⟨od, ho, hl⟩ := lookIn_ns hns
          exact ⟨some od, hget, hz.1, by unfold PySem.W.notCls; rw [hv] <;> rfl, by rw [hz.2]; exact ho⟩
      obtain ⟨od, J⟩ := J
      exact PySem.W.kia_one (PySem.W.kitx_exc hcl C.hg C.hk C.hs C.ha C.hn C.ht C.hm) I.kIn J e (fun z => nomatch z) fun tk => ⟨.bl b, H, I.kept (t' := tk) fun _ _ z => z, rfl, q⟩
/-- the answers for the classes that may come -/
structure XIs (K : PySem.W.Frag) (mg : Str → Option Value) (ans : Str → Option Bool) (c : V) (u : Value) : Prop where
  cls : ClsV c u
  kit : ∀ k b, ans k = some b → ∀ C, mg k = some (.ref C) → ExcC K C ∧ PySem.W.kitOne K (.ref C) u = some b
def mXis (ans : Str → Option Bool) (x : Ex) : WE := fun _ st Q _ => match ans x.c with
  | some b => Q (.bl b) st
  | none => False
theorem ex_isi {n : Str} {np p : Pos} {ce : Expr} {ans : Str → Option Bool} {c : V} {u : Value} (hm : X.mg "isinstance" = none) (hI : XIs X.K X.mg ans c u) (hv : ∀ a oe pn, PE (X.suite a ((a, oe) :: pn)) (.Name n np) (tVar i)) (hc : ∀ a oe pn, PE (X.suite a ((a, oe) :: pn)) ce (tC c))
    (hg : Gl X "isinstance" := by rfl)
    (he : ∀ a oe pn, starEach [.Name n np, ce] (X.suite a ((a, oe) :: pn)).env = (false, eval (.Name n np) (X.suite a ((a, oe) :: pn)).env) :: starEach [ce] (X.suite a ((a, oe) :: pn)).env := by exact fun _ _ _ => rfl)
    (he2 : ∀ a oe pn, starEach [ce] (X.suite a ((a, oe) :: pn)).env = (false, eval ce (X.suite a ((a, oe) :: pn)).env) :: starEach [] (X.suite a ((a, oe) :: pn)).env := by exact fun _ _ _ => rfl)
    (hpl : ∀ a oe pn, (backTo pos (starEach [ce] (X.suite a ((a, oe) :: pn)).env)).any (·.1) = false := by exact fun _ _ _ => rfl) :
    EX X i (.Call (.Name "isinstance" p) [.Name n np, ce] [] pos) (fun a cls d => tCB (rIsX X.K a cls d) (tCons (tVar i) (tCons (tC c) tNil))) (mXis ans) where
  pe := fun a oe cls d pn hz hf => pe_callB (call_isX hz hf) hg hm (by decide +kernel) (pa_cons (hv a oe pn) (pa_cons (hc a oe pn) pa_nil (he2 a oe pn)) (he a oe pn)) (he := he a oe pn) (hpl := hpl a oe pn)
  mono := fun x l st Q Q' X X' k hX q => by
    unfold mXis at *
    split at q
    · exact k _ _ q
    · exact q.elim
  run := fun ρ st H σ l a cls d x Q r rl hi ix q => by
    unfold mXis at q
    split at q
    · rename_i b hb
      obtain ⟨C, h1, h2, h3⟩ := ix
      obtain ⟨g1, g2⟩ := hI.kit x.c b hb C h1
      refine ⟨.ref a, hi, C, c, u, b, h2, g1, rfl, hI.cls, g2, ?_, up.now (R := rV X.K X.mg) q (.refl _ _) r rfl⟩
      exact h3.imp (fun z => z.2.2) fun ⟨dd, xs, z1, z2, _⟩ => ⟨dd, _, z1, z2⟩
    · exact q.elim
/-! ### statements of a suite; try -/
structure DX (X : Cx) (i : Nat) (s : List Stmt) (ts : Addr → Value → Option Addr → TS) (m : Ex → WS) : Prop where
  ps : ∀ a oe cls d pn, Zc cls d oe → (∃ vs, oe.data = .fields vs) → PSs (X.suite a ((a, oe) :: pn)) s (ts a cls d)
  mono : ∀ x, MonoS (m x)
  run : ∀ ρ st H σ l D a cls d x, Rel X.K X.mg ρ st H → RelL X.K X.mg ρ H σ l → σ[i]? = some (some (.ref a)) → IsX X.K X.mg ρ H cls d x → m x l st (upS X.K X.mg ρ H WNo D) → ts a cls d D σ H
theorem dx_set {y : Str} {pos' : Pos} {j : Nat} (hN : X.N.Nodup) (hj : X.N[j]? = some y) (hy : Loc X.env.scope y) (he : EX X i e te m) (hs : ∀ a oe pn, swapsWith e (some (.Name y pos')) pos.line (X.suite a ((a, oe) :: pn)).env = pure false := by exact fun _ _ _ => rfl) (hf : X.fn y = true ∨ X.env.scope.names.lookup y = some .local := by first | exact .inl rfl | exact .inr rfl | assumption) :
    DX X i [.Assign [.Name y pos'] e pos] (fun a cls d => tAsg (te a cls d) (gName j)) (fun x l st E => m x l st (fun d s1 => E.nx (l.set j (some d)) s1) noX) where
  ps := fun a oe cls d pn hz hf' => pss_one (ps_set (X := X.suite a ((a, oe) :: pn)) hN hj hy (he.pe a oe cls d pn hz hf') (hs a oe pn) hf)
  mono := fun x l st E E' h q => he.mono x _ _ _ _ _ _ (fun d s z => h.nx _ _ z) (fun _ _ z => z) q
  run := fun ρ st H σ l D a cls d x r rl hi ix q =>
    he.bind (P := fun d s1 => upN X.K X.mg ρ H D.nx (l.set j (some d)) s1) r rl hi ix q fun d' s v ρ1 H1 e1 r1 i1 h1 => h1 ρ1 H1 _ e1 r1 ((rl.mono e1).set i1)
/-- which classes an except clause catches -/
def XExm (K : PySem.W.Frag) (mg : Str → Option Value) (cv : Value) (exm : Str → Option Bool) : Prop := ∀ k b C, exm k = some b → mg k = some (.ref C) → PySem.W.exmOne K (.ref C) cv = some b
def suiE (i : Nat) (E : EndM) : EndM := { nx := fun l2 s2 => E.nx (l2.set i none) s2, rt := E.rt, bk := fun l2 s2 => E.bk (l2.set i none) s2, ct := fun l2 s2 => E.ct (l2.set i none) s2, ex := fun _ => noX }
theorem suiE.le {i : Nat} {E E' : EndM} (h : E.le E') : (suiE i E).le (suiE i E') := ⟨fun _ _ y => h.nx _ _ y, h.rt, fun _ _ y => h.bk _ _ y, fun _ _ y => h.ct _ _ y, fun _ _ _ y => y⟩
def tryE (i : Nat) (exm : Str → Option Bool) (ms : Ex → WS) (E : EndM) : EndM := { E with ex := fun l' x s' => match exm x.c with
  | some true => i < l'.length ∧ ms x (l'.set i none) s' (suiE i E)
  | some false => E.ex l' x s'
  | none => False }
def mTry (i : Nat) (exm : Str → Option Bool) (mb : WS) (ms : Ex → WS) : WS := fun l st E => mb l st (tryE i exm ms E)
theorem ds_try1 {W : WX} {c n : Str} {cv : Value} {exm : Str → Option Bool} {body suite : List Stmt} {b₀ : Stmt} {np pos pos' : Pos} {tb : WX → TS} {ts : Addr → Value → Option Addr → TS} {mb : WS} {ms : Ex → WS} (hs : X.stack = X.env :: X.outer) (hf : X.env.frame = some X.env.locals) (hN : X.N.Nodup) (hi : X.N[i]? = some n) (hln : X.env.kindOf n = some .local) (hc : Names X c cv) (tk : Takes X W)
    (hx : XExm X.K X.mg cv exm) (hb : ∀ (W : WX) (pn : List (Addr × Obj)) (xe : Value → Shared → Prop), Takes (X.tr pn xe) W → DSs (X.tr pn xe) W body (tb W) mb) (hsu : DX X i (b₀ :: suite) ts ms) :
    DS X W (.Try body [.ExceptHandler (some (.Name c np)) (some n) (b₀ :: suite) pos'] [] [] pos) (fun D σ H => tb (wAs X.K cv i ts W D) D σ H) (mTry i exm mb ms) where
  ps := ps_try_as hs hf hN hi hln hc tk (fun W pn xe t _ => (hb W pn xe t).ps) hsu.ps
  mono := fun l st E E' h q => (hb WNo [] (fun _ _ => True) fun _ _ _ => trivial).mono _ _ (tryE i exm ms E) (tryE i exm ms E') ⟨h.nx, h.rt, h.bk, h.ct, fun l' x s' z => by
    simp only [tryE] at z ⊢
    split at z
    · exact ⟨z.1, hsu.mono x _ _ _ _ (suiE.le h) z.2⟩
    · exact h.ex _ _ _ z
    · exact z.elim⟩ q
  run := fun ρ st H σ l D r rl q => by
    have B := hb (wAs X.K cv i ts W D) [] (fun _ _ => True) fun _ _ _ => trivial
    refine B.run ρ st H σ l D r rl (B.mono _ _ (tryE i exm ms (upS X.K X.mg ρ H W D)) _ ⟨fun _ _ z => z, fun _ _ z => z, fun _ _ z => z, fun _ _ z => z, fun l' x s' z => ?_⟩ q)
    intro ρ' H' σ' c' od e' r' rl' ix
    obtain ⟨C, g1, g2, g3⟩ := id ix
    simp only [tryE] at z
    split at z
    · rename_i hex
      refine ⟨true, by rw [g2]; exact hx _ _ C hex g1, fun _ a ha => ?_, fun z => by cases z⟩
      have hlen : i < σ'.length := by rw [rl'.len]; exact z.1
      refine hsu.run ρ' s' H' _ (l'.set i none) _ a c' od x r' rl'.none (by rw [List.getElem?_set_self hlen]) ix (hsu.mono x _ _ (suiE i (upS X.K X.mg ρ H W D)) _ ⟨fun l2 s2 y => ?_, fun d2 s2 y => ?_, fun l2 s2 y => ?_, fun l2 s2 y => ?_, fun _ _ _ y => False.elim y⟩ z.2)
      · exact fun ρ2 H2 σ2 e2 r2 rl2 => y ρ2 H2 _ (e'.trans e2) r2 rl2.none
      · exact up.ext (R := rV X.K X.mg) y e'
      · exact fun ρ2 H2 σ2 e2 r2 rl2 => y ρ2 H2 _ (e'.trans e2) r2 rl2.none
      · exact fun ρ2 H2 σ2 e2 r2 rl2 => y ρ2 H2 _ (e'.trans e2) r2 rl2.none
    · rename_i hex
      exact ⟨false, by rw [g2]; exact hx _ _ C hex g1, (fun z => by cases z), fun _ => z ρ' H' σ' c' od e' r' rl' ix⟩
    · exact z.elim
end
end Mir

set_option Elab.async false
set_option linter.all false
set_option maxRecDepth 100000
set_option maxHeartbeats 2000000
/-! Mir13: small rules, repr, a law's entry, the head's hook. -/
namespace Mir
open PySem PySem.Spec PyProof.Rows L2
section
variable {X : Cx} {W : WX} {a : Expr} {ta : TE} {ma : WE} {pos : Pos}
/-- xs[::-1], a list that will be changed -/
def mRevR (ma : WE) : WE := fun l st Q X => ma l st (fun x s1 => match lstA s1 x with
  | some l => Q (.ref s1.length) (s1 ++ [.lst l.reverse])
  | none => False) X
theorem de_revR {k : Nat} {p1 p2 p3 : Pos} (ha : DE X W a ta ma) : DE X W (.Subscript a (.Slice none none (some (.UnaryOp .USub (.Constant (.int 1) k p1) p2)) p3) pos) (tRevL X.K ta) (mRevR ma) := by
  refine ⟨pe_revL ha.pe, ⟨fun l st Q Q' X X' h hX q => ha.ev.mono _ _ _ _ _ _ (fun x s1 q1 => ?_) hX q, fun ρ st H σ l Q r rl h => ?_⟩⟩
  · split at q1
    · exact h _ _ q1
    · exact q1.elim
  · refine ha.ev.bind r rl h (fun _ _ z => z) fun x s1 v ρ1 H1 e1 r1 i1 h1 => ?_
    split at h1
    · rename_i m hm
      obtain ⟨b, xs, rfl, h2, h3⟩ := lstA.at_ r1 i1 hm
      exact ⟨b, xs, rfl, h2, fun p hp => h1.now (e1.trans (.newR hp)) (r1.newR hp ⟨_, upd_same, IsL.mono (.newR hp) _ _ h3.reverse⟩) ⟨p, rfl, by rw [← r1.len]; simp [Rh.add]⟩⟩
    · exact h1.elim
/-- a built-in class as a value -/
theorem pe_tyv {T : String} {x : Str} (hm : X.mg x = none) (hv : bootBuiltins x = some (.type T)) (hg : Gl X x := by rfl) (hn : x ≠ "__name__" := by decide) (hd : (x == ("__debug__" : Str)) = false := by decide) : PE X (.Name x pos) (tC (.ty T)) := pe_bltn hg hm hv rfl hn hd
theorem pe_clv {C : Addr} {x : Str} (hm : X.mg x = some (.ref C)) (hg : Gl X x := by rfl) (hd : (x == ("__debug__" : Str)) = false := by decide) : PE X (.Name x pos) (tC (.ref C)) := pe_glob hg hm rfl hd
/-- repr of data -/
def reprG (st : Sto) (d : D) : Option D := match pyA st d with
  | some p => if p.showable && (!p.hasDict && (decide (p.depth ≤ 60) && decide (p.shown.length ≤ sizeLine))) then some (.str p.shown) else none
  | none => none
theorem isRef_of {K : PySem.W.Frag} {H : Hp} {a : Addr} {p : PyData} (h : Dp K H (.ref a) p) : True := trivial
def rRepr (K : PySem.W.Frag) : List V → Hp → VK → Prop := fun xs H Q => ∃ (a : Addr) (p : PyData), xs = [.ref a] ∧ Dp K H (.ref a) p ∧ p.showable = true ∧ p.hasDict = false ∧ p.depth ≤ 60 ∧ p.shown.length ≤ sizeLine ∧ Q (.str p.shown) H
theorem call_reprD (hg : X.A.guards = some []) (hu : X.A.units + 64 < cLine) : CallR X (.builtin "repr") (rRepr X.K) := by
  intro pins s σ H xs us Q I r h
  obtain ⟨a, p, rfl, hp, h1, h2, h3, h4, q⟩ := h
  obtain ⟨u, rfl, ru⟩ := vals1 r
  cases ru
  obtain ⟨as, rd⟩ := Dp.reads I p _ _ hp rfl
  exact repr_of_reads' rd h1 (PyData.noDict_hsm h2) hg (by omega) (fun _ _ z => z) (fun h' u tk k => ⟨.str p.shown, H, I.kept (t' := tk) k, ⟨u, rfl⟩, q⟩) h4
/-- what is told by reference -/
def refD : D → Bool
  | .tup _ => true
  | .vl _ => true
  | .sq _ => true
  | .ref _ => true
  | _ => false
def reprF (xs : List D) : WD := fun st Q _ => match xs with
  | [d] => refD d = true ∧ (match reprG st d with
    | some y => Q y st
    | none => False)
  | _ => False
theorem call_reprM {K : PySem.W.Frag} {mg : Str → Option Value} : CallM K mg (rRepr K) reprF where
  mono := fun xs st Q Q' X X' h _ q => by
    unfold reprF at *
    split at q
    · refine ⟨q.1, ?_⟩
      have q2 := q.2
      split at q2
      · exact h _ _ q2
      · exact q2.elim
    · exact q.elim
  run := fun ρ st H xs vs Q X r i h => by
    unfold reprF at h
    split at h
    · rename_i d
      obtain ⟨hd, h⟩ := h
      obtain ⟨v, vs', rfl, i1, i2⟩ := i
      cases i2
      split at h
      · rename_i y hy
        unfold reprG at hy
        split at hy
        · rename_i p hp
          split at hy
          · rename_i hc
            simp only [Bool.and_eq_true, Bool.not_eq_true', decide_eq_true_eq] at hc
            obtain ⟨c1, c2, c3, c4⟩ := hc
            cases hy
            have hv : ∃ a, v = .ref a := by
              cases d with
              | tup l => obtain ⟨a, _, e, _⟩ := i1; exact ⟨a, e⟩
              | vl l => obtain ⟨a, _, e, _⟩ := i1; exact ⟨a, e⟩
              | sq l => obtain ⟨a, _, e, _⟩ := i1; exact ⟨a, e⟩
              | ref n => obtain ⟨a, e, _⟩ := i1; exact ⟨a, e⟩
              | _ => cases hd
            obtain ⟨a, rfl⟩ := hv
            exact ⟨a, p, rfl, pyA_ok r i1 hp, c1, c2, c3, c4, h.now (.refl _ _) r rfl⟩
          · cases hy
        · cases hy
      · exact h.elim
    · exact h.elim
theorem de_repr {p : Pos} {k : Nat} (hr : Room k X.A) (hgd : X.A.guards = some []) (hm : X.mg "repr" = none) (ha : DE X W a ta ma) (hg : Gl X "repr" := by rfl) (he : starEach [a] X.env = (false, eval a X.env) :: starEach [] X.env := by rfl) (hpl : (backTo pos (starEach [] X.env)).any (·.1) = false := by rfl) :
    DE X W (.Call (.Name "repr" p) [a] [] pos) (tCB (rRepr X.K) (tCons ta tNil)) (mCB reprF (mCons ma mNil)) := de_callB (call_reprD hgd hr.units) call_reprM hm (by decide +kernel) (da_cons ha da_nil he) hg (he := he) (hpl := hpl)
end
/-! ### defs as the text has them -/
def DefF (K : PySem.W.Frag) (mg : Str → Option Value) (x : Str) (st : Stmt) : Prop := ∃ f fd, mg x = some (.ref f) ∧ Fun K x x st f fd
section
variable {P : Program} {w : World} {K : PySem.W.Frag} {mg : Str → Option Value} {base : Heap}
/-- nothing is promised -/
theorem cal_none {x : Str} {st : Stmt} {k n : Nat} {ps : List Str} {F : List D → WD} (h : DefF K mg x st) (hF : ∀ ds st Q X, ¬ F ds st Q X) (hb : ∀ f fd, Fun K x x st f fd → Binds K fd ps []) : Cal P w K mg base x k n F := by
  obtain ⟨f, fd, hg, Fu⟩ := h
  exact ⟨⟨f, fd, ps, hg, Fu.kp, hb f fd Fu, ⟨fun vs H Q E ⟨ρ, st, ds, _, _, _, z⟩ => (hF _ _ _ _ z).elim, fun A outer s H args us vs Q E _ _ _ _ ⟨ρ, st, ds, _, _, _, z⟩ => (hF _ _ _ _ z).elim⟩⟩, fun ds st Q Q' X X' _ _ z => (hF _ _ _ _ z).elim⟩
theorem Cal.mono_k {x : Str} {j k n : Nat} {F : List D → WD} (C : Cal P w K mg base x j n F) (h : j ≤ k) : Cal P w K mg base x k n F := by
  obtain ⟨⟨f, fd, ps, h1, h2, h3, h4⟩, hF⟩ := C
  exact ⟨⟨f, fd, ps, h1, h2, h3, h4.mono h⟩, hF⟩
end
/-! ### the law, called by the claim's caller -/
/-- the promise of a def at the caller's own place -/
def AtCaller (P : Program) (w : World) (K : PySem.W.Frag) (mg : Str → Option Value) (base : Heap) (fa : Addr) (fd : FuncData) (x : Str) (sp : Sp) : Prop :=
  ∀ (s : Shared) (H : Hp) (u : Value) (v : V) (Q : VK) (E : XK), Env0 P w K mg base callerA [] s H → BindsTo s fd ⟨[u], []⟩ [(x, u)] → RelV v u → sp [v] H Q E → codeAny (model P w) callerA (.call (.ref fa) ⟨[u], []⟩) (CR (L2.CX P w) [] P w H s Q E) s
theorem at_caller {P : Program} {w : World} {K : PySem.W.Frag} {mg : Str → Option Value} {base : Heap} {x qual y : Str} {st : Stmt} {f : Addr} {fd : FuncData} {N : List Str} {k : Nat} {F : List D → WD} {m : WS} (Fu : Fun K x qual st f fd) (S : FnScope N [y] (defScope st)) (hr : Room (k + 1) callerA)
    (body : ∀ (cdv : Value) (s : Shared) (H : Hp) (E : XK), Room k (callerA.deeper (envOfC qual (defScope st) s.heap.objs.size f cdv)) → ∃ t, DSs (CxF P w K mg base N qual st f cdv callerA [] s H E) (WF E) (defBody st) t m)
    (hm : ∀ ds s Q X, ds.length = 1 → F ds s Q X → m (startL N.length ds) s (endF Q X)) : AtCaller P w K mg base f fd y (spM K mg 1 F) := by
  obtain ⟨oc, od, kV, doc, pm, an, cdv, ct, osl, rfl, lk, hcd⟩ := Fu.ex
  intro s H u v Q E e0 hb rv hsp
  have KX : K.In s.heap := e0.mod.kin.keeps fun b o e => (e0.bs b o e).1
  have lim : s.heap.NoLimit := e0.mod.nolimit.keeps fun b o e => (e0.bs b o e).1
  have hkind : ∀ z ∈ ([(y, u)] : List (Str × Value)), (defScope st).names.lookup z.1 = some .local ∨ ((defScope st).names.lookup z.1 = some .cell ∧ ((cellsFrom (s.heap.objs.size + 1) (defScope st).names []).lookup z.1).isSome = true) := fun z hz => by
    have ez : z = (y, u) := by simpa using hz
    subst ez
    rcases S.par y (by simp) with q | q
    · exact .inl q
    · exact .inr ⟨q, PySem.W.cellsFrom_some _ _ _ (.inl q)⟩
  refine codeAny_call_function hr.depth (KX _ _ lk) rfl S.co S.gen rfl (PySem.W.codeRec_of KX hcd) (hb _ _ _ _ ?_)
  refine wpAny_newFunctionEnv_cells S.kind hkind fun env he s1 x => ?_
  subst he
  refine ⟨lim.keeps x.toInCall.keep, codeAny_func ?_⟩
  obtain ⟨ρ, sto, ds, r, i, hl, h⟩ := hsp
  obtain ⟨t, hd⟩ := body cdv s H E (hr.deeper _)
  have hq : t { nx := fun _ H' => Q .non H', rt := Q } (L2.start N [v]) H := by
    refine hd.run ρ sto H _ _ { nx := fun _ H' => Q .non H', rt := Q } r (relL_start i) (hd.mono _ _ _ _ ?_ (hm ds sto _ _ hl h))
    exact ⟨fun l s q ρ' H' σ' e r' _ => up.now (R := rV K mg) q e r' rfl, fun d s q => q, fun _ _ z => z.elim, fun _ _ z => z.elim, fun l x s q ρ' H' σ' c od e r' _ ix => q ρ' H' c od e r' ix⟩
  have I : Inv (cxOf (L2.CX P w) P w K mg base N qual (defScope st) f cdv callerA [] s H E) [] (L2.start N [v]) H s1 := inv_start (us := [u]) S hr.hd e0 rfl (.cons rv .nil) x
  refine wpAny_mono (hd.ps.run [] s1 (L2.start N [v]) H _ I hq) (fun fl s' hs => ?_) fun e s' hs => hs
  have fin : ∀ {σ' : L2.St} {H' : Hp} {z : V} {u' : Value}, Inv (cxOf (L2.CX P w) P w K mg base N qual (defScope st) f cdv callerA [] s H E) [] σ' H' s' → RelV z u' → Q z H' → CE [] P w H s Q u' s' :=
    fun {σ' H' z u'} J rz q => ⟨z, H', J.os, J.bare, J.base, J.hok, rz, q⟩
  cases fl with
  | ret u' =>
    obtain ⟨z, σ', H', J, rz, q⟩ := hs
    exact fin J rz q
  | next =>
    obtain ⟨σ', H', J, q⟩ := hs
    exact fin (z := V.non) (u' := Value.none) J rfl q
  | brk =>
    obtain ⟨_, _, _, q⟩ := hs
    exact q.elim
  | cont =>
    obtain ⟨_, _, _, q⟩ := hs
    exact q.elim
end Mir

set_option Elab.async false
set_option linter.all false
set_option maxRecDepth 100000
set_option maxHeartbeats 2000000
/-! Mir14: from a law's promise at the caller's place to the walk that the head asks for; a hook with facts of one's own. -/
namespace Mir
open PySem PySem.Spec PyProof.Rows L2
/-- what the caller's state leaves once the script alone is tracked -/
theorem base_mod {K : PySem.W.Frag} {mg mb : Str → Option Value} {h : Heap} {H : Hp} {a : Addr} {vs : Array Value} {n : Nat} (KX : K.In h) (hns : h.Ns mainGlobals mg) (hb : h.Ns builtinsNs mb) (hbb : ∀ x : Str, x ≠ "__name__" → mb x = bootBuiltins x) (hlim : h.NoLimit)
    (ha : h.get? a = some { cls := .type "list", data := .seq vs n }) (only : ∀ b, H b ≠ none → b = a) (hK : H a ≠ none → K.lookup a = none) : Mod K mg (hidT h H) := by
  have un : ∀ {b : Addr} {o : Obj}, h.get? b = some o → (b = a → H b = none) → (hidT h H).get? b = some o := fun {b o} e q => hidT_get e (by
    by_cases hba : b = a
    · exact q hba
    · cases z : H b with
      | none => rfl
      | some u => exact absurd (only b (by rw [z]; simp)) hba)
  have ns : ∀ {b : Addr} {m : Str → Option Value}, h.Ns b m → (hidT h H).Ns b m := fun {b m} ⟨o, es, ep, e, d, r⟩ => by
    refine ⟨o, es, ep, un e fun hba => ?_, d, r⟩
    subst hba
    rw [ha] at e
    cases e
    have d' : Data.seq vs n = Data.dict es ep := d
    cases d'
  obtain ⟨ml, l1, l2⟩ := hlim
  refine ⟨fun b o e => un (KX b o e) fun hba => ?_, ns hns, ⟨mb, ns hb, hbb⟩, ⟨ml, ns l1, l2⟩⟩
  subst hba
  cases z : H b with
  | none => rfl
  | some u =>
    rw [hK (by rw [z]; simp)] at e
    cases e
theorem law_at {P : Program} {w : World} {K : PySem.W.Frag} {mg mb : Str → Option Value} {fa a : Addr} {fd : FuncData} {x : Str} {sp : Sp} {s₁ : Shared} {vs : List Value} {ns : List Int}
    (KX : K.In s₁.heap) (hns : s₁.heap.Ns mainGlobals mg) (hb : s₁.heap.Ns builtinsNs mb) (hbb : ∀ x : Str, x ≠ "__name__" → mb x = bootBuiltins x) (hlim : s₁.heap.NoLimit) (hg : s₁.gens = #[])
    (ha : s₁.heap.get? a = some { cls := .type "list", data := .seq vs.toArray }) (hi : IntsAre vs ns) (hl : ns.length ≤ sizeLine) (F : ∀ base : Heap, Mod K mg base → AtCaller P w K mg base fa fd x sp) (hbind : ∀ (s : Shared) (u : Value), BindsTo s fd ⟨[u], []⟩ [(x, u)])
    (hsp : ∀ H : Hp, (∀ b, H b = none ∨ ∃ o xs, H b = some (.frz o (.lst xs))) → SqF K H a (ns.map V.int) → sp [.ref a] H (fun v _ => v = .bl true) fun _ _ _ => False) :
    codeAny (model P w) callerA (.call (.ref fa) ⟨[.ref a], []⟩) (fun r s' => r = .ok (.ret (.bool true)) ∧ OldK s₁.heap s'.heap ∧ s'.os = s₁.os ∧ AllBare s'.gens) s₁ := by
  have core : ∀ H : Hp, (∀ b, H b = none ∨ ∃ o xs, H b = some (.frz o (.lst xs))) → SqF K H a (ns.map V.int) → HOk P w H s₁.heap → (∀ b, H b ≠ none → b = a) → (H a ≠ none → K.lookup a = none) →
      codeAny (model P w) callerA (.call (.ref fa) ⟨[.ref a], []⟩) (fun r s' => r = .ok (.ret (.bool true)) ∧ OldK s₁.heap s'.heap ∧ s'.os = s₁.os ∧ AllBare s'.gens) s₁ := by
    intro H hO hS hok hA hK
    have hM := base_mod KX hns hb hbb hlim ha hA hK
    have e0 : Env0 P w K mg (hidT s₁.heap H) callerA [] s₁ H := ⟨rfl, hM, fun b o e => of_hidT e, Nat.le_of_eq (hidT_size _ _), trivial, fun b hb => absurd (show b ∈ ([] : List Addr) from hb) (by simp), hok, .of_eq hg⟩
    refine codeAny_mono (F _ hM s₁ H (.ref a) (.ref a) _ _ e0 (hbind s₁ _) rfl (hsp H hO hS)) fun r s' h => ?_
    cases r with
    | error e =>
      obtain ⟨_, _, _, _, _, _, _, _, _, _, _, _, z⟩ := h
      exact z.elim
    | ok fl =>
      cases fl with
      | ret u =>
        obtain ⟨v, H', os, bare, un, hok', r', q⟩ := h
        have q' : v = .bl true := q
        subst q'
        obtain rfl : u = Value.bool true := r'
        refine ⟨rfl, OldK.of_keep fun b o e => ?_, os, bare⟩
        rcases hO b with z | ⟨ob, xs, z⟩
        · exact un.keep b o e z (by intro y; exact absurd (show b ∈ ([] : List Addr) from y) (by simp)) (by simp)
        · obtain ⟨e1, _⟩ := hok b _ z
          obtain ⟨e2, _⟩ := hok' b _ (un.frzs b ob _ z)
          rw [e] at e1
          cases e1
          exact e2
      | next => exact False.elim h
      | brk => exact False.elim h
      | cont => exact False.elim h
  have rv := vals_ints hi
  have hln : vs.toArray.size ≤ sizeLine := by rw [List.size_toArray, ← hi.length.symm]; exact hl
  cases hk : K.lookup a with
  | some o =>
    have e := KX a o hk
    rw [ha] at e
    cases e
    exact core (fun _ => none) (fun _ => .inl rfl) (.inr ⟨_, vs.toArray, _, hk, rfl, rfl, rfl, hln, by simpa using rv⟩) (fun b u z => nomatch z) (fun b z => absurd rfl z) fun z => absurd rfl z
  | none =>
    refine core (upd (fun _ => none) a (.frz { cls := .type "list", data := .seq vs.toArray } (.lst (ns.map V.int)))) (fun b => ?_) (.inl ⟨_, upd_same⟩) (fun b u z => ?_) (fun b z => ?_) fun _ => hk
    · by_cases hba : b = a
      · subst hba
        exact .inr ⟨_, _, upd_same⟩
      · exact .inl (upd_ne hba)
    · by_cases hba : b = a
      · subst hba
        rw [upd_same] at z
        cases z
        exact ⟨ha, by rw [List.length_map]; exact hl, vs, _, rv, ha⟩
      · rw [upd_ne hba] at z
        cases z
    · by_cases hba : b = a
      · exact hba
      · exact absurd (upd_ne hba) z
/-- the goal that the head leaves -/
theorem walk_at {l : PySem.W.OpenLaw} {n : Nat} {q : Program} {loose : List Str} {XP : (Str → Option Value) → Heap → Prop} {YP : World → Heap → Prop} {d : DefRec} {x : Str} (hn : l.most = some n) (hn2 : n ≤ sizeLine) (hdf : d.params.defaults = [])
    (F : ∀ (w : World) (mg : Str → Option Value) (fa : Addr) (h : Heap), YP w h → h.Ns mainGlobals mg → mg d.name = some (.ref fa) →
      ∃ (K : PySem.W.Frag) (fd : FuncData) (sp : Sp), K.In h ∧ (∀ (s : Shared) (u : Value), BindsTo s fd ⟨[u], []⟩ [(x, u)]) ∧
        (∀ (H : Hp) (a : Addr) (ns : List Int), ns.length ≤ n → (∀ b, H b = none ∨ ∃ o xs, H b = some (.frz o (.lst xs))) → SqF K H a (ns.map V.int) → sp [.ref a] H (fun v _ => v = .bl true) fun _ _ _ => False) ∧
        ∀ base : Heap, Mod K mg base → AtCaller l.prog w K mg base fa fd x sp) :
    PySem.W.WalkO q loose XP YP l.row.toRowW d [] (fun f vs => PySem.call f vs) := by
  refine Att.attach_call hn hdf fun w s₀ s₁ mg mb fa o pm cd doc a vs ns G Y ho hd hcd hmg hobj hints hlen hg => ?_
  obtain ⟨K, fd, sp, KX, hb, hsp, hF⟩ := F w mg fa _ Y G.T.g hmg
  exact law_at KX G.T.g G.T.b G.T.builtins G.T.nolimit hg hobj hints (Nat.le_trans hlen hn2) hF hb fun H hO hS => hsp H a ns hlen hO hS
/-! ### the hook -/
abbrev AlM : Type := Bool × List He.FnW
/-- chk: what is asked of the part of the heap that the module's names reach -/
def obsM (chk : PySem.W.Frag → Bool) (fn : List He.DefD) (K : PySem.W.Frag) : AlM := (chk K && fn.all fun d => d.ok K, fn.map fun d => He.fnW K d.at_)
def valM (fn : List He.DefD) : AlM := (true, fn.map He.DefD.val)
def SaysM (chk : PySem.W.Frag → Bool) (fn : List He.DefD) (K : PySem.W.Frag) : Prop := obsM chk fn K = valM fn
def obsMG (n : Nat) (chk : PySem.W.Frag → Bool) (fn : List He.DefD) (g : Addr → Option Obj) : AlM := obsM chk fn (He.frG g (He.asD g n))
def hookM (n : Nat) (chk : PySem.W.Frag → Bool) (fn : List He.DefD) : PySem.W.Hook where
  α := AlM
  obs := fun s => obsMG n chk fn s.heap.get?
  val := fun _ => valM fn
  says := fun _ h => ∃ K : PySem.W.Frag, K.In h ∧ SaysM chk fn K
  of := fun _ _ e => ⟨_, He.frG_in, e⟩
  keeps := fun _ _ _ ⟨K, hK, c⟩ k => ⟨K, PySem.W.Frag.In.keeps hK k, c⟩
theorem obsMG_eq {n : Nat} {chk : PySem.W.Frag → Bool} {fn : List He.DefD} {g : Addr → Option Obj} {s : Shared} (h : ∀ a, g a = s.heap.get? a) : obsMG n chk fn g = (hookM n chk fn).obs s := by
  have e : g = s.heap.get? := funext h
  rw [e] <;> rfl
section
variable {ck : PySem.W.Frag → Bool} {fn : List He.DefD} {K : PySem.W.Frag}
theorem SaysM.facts (c : SaysM ck fn K) : ck K = true := (He.ba (show (ck K && fn.all fun d => d.ok K) = true from congrArg (fun z : AlM => z.1) c)).1
theorem SaysM.def_ (c : SaysM ck fn K) (i : Nat) {d : He.DefD} (h : fn[i]? = some d := by rfl) : ∃ fd, FunD K d.name d.qual d.params d.body d.scope (d.dvs K) (d.kws K) (He.fAd K d.at_) fd := by
  have c2 := (He.ba (show (ck K && fn.all fun d => d.ok K) = true from congrArg (fun z : AlM => z.1) c)).2
  have e : fn.map (fun d => He.fnW K d.at_) = fn.map He.DefD.val := congrArg (fun z : AlM => z.2) c
  have e2 : (fn.map fun d => He.fnW K d.at_)[i]? = (fn.map He.DefD.val)[i]? := by rw [e]
  rw [List.getElem?_map, List.getElem?_map, h] at e2
  exact He.DefD.funD (Option.some.inj e2) (List.all_eq_true.mp c2 d (List.mem_of_getElem? h))
end
theorem fun_of {K : PySem.W.Frag} {x qual : Str} {st : Stmt} {f : Addr} {fd : FuncData} (F : FunD K x qual (defArgs st) (defBody st) (defScope st) [] [] f fd) : Fun K x qual st f fd := by
  obtain ⟨⟨oc, od, dV, kV, doc, pm, an, cdv, ct, osl, e, lk, hc, hd, _⟩, kp⟩ := F
  rcases hd with ⟨_, hd⟩ | ⟨hd, _⟩
  · subst hd
    exact ⟨⟨oc, od, kV, doc, pm, an, cdv, ct, osl, e, lk, hc⟩, kp⟩
  · exact absurd rfl hd
end Mir

set_option Elab.async false
set_option linter.all false
set_option maxRecDepth 100000
set_option maxHeartbeats 2000000
/-! Mir15: rules in short, for printed derivations. -/
namespace Mir
open PySem PySem.Spec PyProof.Rows L2
section
variable {X : Cx} {W : WX} {pos : Pos} {e : Expr} {te : TE} {me : WE}
theorem dgt {es : List Expr} {is : List Nat} {k n : Nat} {gs : TGs} {mgs : WTgs} (hc : X.calm = true) (h : DGs X es is gs mgs) (hl : es.length = n := by rfl)
    (hn : (assignEach es X.env).length = n := by rfl) (hst : (assignEach es X.env).findIdx? (·.1) = none := by rfl) : DG X (.Tuple es k pos) is (gTup X.K n gs) (gmTup n mgs) := dg_tup hc h hl (pg_tup hc h.pg hn hst)
theorem dsub {o i : Expr} {to ti : TE} {mo mi : WE} {pos' : Pos} (he : DE X W e te me) (ho : DE X W o to mo) (hi : DE X W i ti mi) (hs : swapsWithSole [.Subscript o i pos'] e pos.line X.env = pure false := by rfl) (hw : swappedStores [.Subscript o i pos'] e X.env = pure none := by rfl)
    (ha : ∀ v, assign (.Subscript o i pos') X.env v = (do
      let ov ← holding [v] (eval o X.env)
      let iv ← holding [v, ov] (eval i X.env)
      standAt pos'
      holding [v, ov, iv] (setItem ov iv v)
      release [v, ov, iv] []) := by intro _; rfl) : DS X W (.Assign [.Subscript o i pos'] e pos) (tAsg te (gSub to ti rSetL)) (mSub me mo mi) := ds_sub he ho hi hs hw (pg_sub ho.pe hi.pe set_list ha)
end
end Mir

set_option Elab.async false
set_option linter.all false
set_option maxRecDepth 100000
set_option maxHeartbeats 2000000
/-! Mir16: mirrors by name. -/
namespace Mir
open PySem PySem.Spec PyProof.Rows L2
def mNeg (ma : WE) : WE := fun l st Q X => ma l st (fun x s1 => match x with
  | .int i => Q (.int (-i)) s1
  | _ => False) X
def mPop (mo : WE) : WE := fun l st Q Y => mo l st (fun x s1 => popF x s1 Q Y) Y
def mRetN : WS := fun l st E => E.rt .non st
def mBreak : WS := fun l st E => E.bk l st
def mCont : WS := fun l st E => E.ct l st
abbrev iSub : D → D → WD := intD (fun _ _ => True) fun i j => .int (i - j)
abbrev iMul : D → D → WD := intD CMul fun i j => .int (i * j)
abbrev iMod : D → D → WD := intD (fun _ j => 0 < j) fun i j => .int (i % j)
abbrev iDiv : D → D → WD := intD CDiv fun i j => .int (i / j)
abbrev iPow : D → D → WD := intD CPow fun i j => .int (i ^ j.toNat)
abbrev iAdd : D → D → WD := intD (fun _ _ => True) fun i j => .int (i + j)
abbrev oLt : D → D → WD := ordD ltI ltS
abbrev oLe : D → D → WD := ordD leI leS
abbrev oGt : D → D → WD := ordD (fun i j => ltI j i) (fun i j => ltS j i)
abbrev oGe : D → D → WD := ordD (fun i j => leI j i) (fun i j => leS j i)
abbrev maxF : List D → WD := twoF fun i j => .int (if j > i then j else i)
abbrev minF : List D → WD := twoF fun i j => .int (if j < i then j else i)
abbrev uNon (neg : Bool) : D → D := fun d => .bl (if neg then !isNon d else isNon d)
def ans2 (a b : Kd → Option Bool) : Kd → Option Bool := fun k => match a k, b k with
  | some x, some y => some (x || y)
  | _, _ => none
section
variable {X : Cx} {W : WX} {a : Expr} {ta : TE} {ma : WE} {pos : Pos}
theorem de_neg' (ha : DE X W a ta ma) : DE X W (.UnaryOp .USub a pos) (tUn (rU fun i => .int (-i)) ta) (mNeg ma) := de_neg ha
theorem de_pop' {o : Expr} {to : TE} {mo : WE} {apos : Pos} (ho : DE X W o to mo) (hbase : attributeBase o "pop" X.env (eval o X.env) = eval o X.env := by rfl) (hline : (apos.endLine == pos.line) = true := by rfl) :
    DE X W (.Call (.Attribute o "pop" apos) [] [] pos) (tBM0 X.K "list" rPop to) (mPop mo) := de_pop ho hbase hline
theorem ds_retN' : DS X W (.Return none pos) tRetN mRetN := ds_retN
theorem ds_break' : DS X W (.Break pos) tBreak mBreak := ds_break
theorem ds_continue' : DS X W (.Continue pos) tCont mCont := ds_continue
end
end Mir

set_option Elab.async false
set_option linter.all false
set_option maxRecDepth 100000
set_option maxHeartbeats 2000000
/-! Mir17: what is asked of the module's names, by checks. -/
namespace Mir
open PySem PySem.Spec PyProof.Rows L2
/-! ### constants -/
mutual
def gdB (K : PySem.W.Frag) : D → Value → Bool
  | .non, u => (match u with
    | .none => true
    | _ => false)
  | .bl b, u => (match u with
    | .bool c => decide (b = c)
    | _ => false)
  | .int i, u => (match u with
    | .int j _ => decide (i = j)
    | _ => false)
  | .str x, u => (match u with
    | .str y _ => decide (x = y)
    | _ => false)
  | .tup l, u => (match u with
    | .ref a => (match K.lookup a with
      | some ⟨.type c, _, .seq its _, _⟩ => decide (c = "tuple") && (decide (its.size ≤ sizeLine) && gdL K l its.toList)
      | _ => false)
    | _ => false)
  | .sq l, u => (match u with
    | .ref a => (match K.lookup a with
      | some ⟨.type c, none, .seq its _, _⟩ => decide (c = "list") && (decide (its.size ≤ sizeLine) && gdL K l its.toList)
      | _ => false)
    | _ => false)
  | .vl _, _ => false
  | .vd _ _, _ => false
  | .vi _ _ _, _ => false
  | .ref _, _ => false
def gdL (K : PySem.W.Frag) : List D → List Value → Bool
  | [], us => us.isEmpty
  | d :: l, us => (match us with
    | u :: r => gdB K d u && gdL K l r
    | [] => false)
end
section
variable {K : PySem.W.Frag} {mg : Str → Option Value}
mutual
theorem gdB_ok : ∀ (d : D) (u : Value), gdB K d u = true → ∃ v, RelV v u ∧ ∀ ρ H, IsV K mg ρ H d v
  | .non, u, h => by
    cases u with
    | none => exact ⟨.non, rfl, fun _ _ => rfl⟩
    | _ => cases h
  | .bl b, u, h => by
    cases u with
    | bool c =>
      have e : b = c := of_decide_eq_true h
      subst e
      exact ⟨.bl b, rfl, fun _ _ => rfl⟩
    | _ => cases h
  | .int i, u, h => by
    cases u with
    | int j t =>
      have e : i = j := of_decide_eq_true h
      subst e
      exact ⟨.int i, ⟨t, rfl⟩, fun _ _ => rfl⟩
    | _ => cases h
  | .str x, u, h => by
    cases u with
    | str y t =>
      have e : x = y := of_decide_eq_true h
      subst e
      exact ⟨.str x, ⟨t, rfl⟩, fun _ _ => rfl⟩
    | _ => cases h
  | .tup l, u, h => by
    cases u with
    | ref a =>
      have h : (match K.lookup a with
        | some ⟨.type c, _, .seq its _, _⟩ => decide (c = "tuple") && (decide (its.size ≤ sizeLine) && gdL K l its.toList)
        | _ => false) = true := h
      split at h
      · rename_i c od its n sl q
        obtain ⟨h1, h2⟩ := He.ba h
        obtain ⟨h3, h4⟩ := He.ba h2
        obtain ⟨xs, h5, h6⟩ := gdL_ok l its.toList h4
        exact ⟨.ref a, rfl, fun ρ H => ⟨a, xs, rfl, .inr ⟨_, its, n, q, congrArg Value.type (of_decide_eq_true h1), rfl, of_decide_eq_true h3, h5⟩, h6 ρ H⟩⟩
      · cases h
    | _ => cases h
  | .sq l, u, h => by
    cases u with
    | ref a =>
      have h : (match K.lookup a with
        | some ⟨.type c, none, .seq its _, _⟩ => decide (c = "list") && (decide (its.size ≤ sizeLine) && gdL K l its.toList)
        | _ => false) = true := h
      split at h
      · rename_i c its n sl q
        obtain ⟨h1, h2⟩ := He.ba h
        obtain ⟨h3, h4⟩ := He.ba h2
        obtain ⟨xs, h5, h6⟩ := gdL_ok l its.toList h4
        exact ⟨.ref a, rfl, fun ρ H => ⟨a, xs, rfl, .inr ⟨_, its, n, q, congrArg Value.type (of_decide_eq_true h1), rfl, rfl, of_decide_eq_true h3, h5⟩, h6 ρ H⟩⟩
      · cases h
    | _ => cases h
  | .vl _, _, h => by cases h
  | .vd _ _, _, h => by cases h
  | .vi _ _ _, _, h => by cases h
  | .ref _, _, h => by cases h
theorem gdL_ok : ∀ (l : List D) (us : List Value), gdL K l us = true → ∃ xs, Vals xs us ∧ ∀ ρ H, IsL K mg ρ H l xs
  | [], us, h => by
    cases us with
    | nil => exact ⟨[], .nil, fun _ _ => rfl⟩
    | cons u r => cases h
  | d :: l, us, h => by
    cases us with
    | nil => cases h
    | cons u r =>
      obtain ⟨h1, h2⟩ := He.ba (show (gdB K d u && gdL K l r) = true from h)
      obtain ⟨v, a1, a2⟩ := gdB_ok d u h1
      obtain ⟨xs, b1, b2⟩ := gdL_ok l r h2
      exact ⟨v :: xs, .cons a1 b1, fun ρ H => ⟨v, xs, rfl, a2 ρ H, b2 ρ H⟩⟩
end
def conB (K : PySem.W.Frag) (x : Str) (d : D) : Bool := match PySem.W.nsIn K mainGlobals x with
  | some (some u) => gdB K d u
  | _ => false
theorem con_ok {h : Heap} {x : Str} {d : D} (X : K.In h) (G : h.Ns mainGlobals mg) (c : conB K x d = true) : ∃ v u, mg x = some u ∧ RelV v u ∧ ∀ ρ H, IsV K mg ρ H d v := by
  unfold conB at c
  split at c
  · rename_i u q
    obtain ⟨v, h1, h2⟩ := gdB_ok (mg := mg) d u c
    exact ⟨v, u, PySem.W.mg_of X G q, h1, h2⟩
  · cases c
/-! ### classes -/
def clsKB (K : PySem.W.Frag) (x : Str) : Bool := (He.Fa.glo x).ok K && ((He.Fa.cls x).ok K && (He.eqO (PySem.W.findIn K (.ref (He.ga K x)) "__class__") (some (some (.builtin "object.__class__"))) &&
  (decide (PySem.W.specialIn K (.builtin "object.__class__") "__get__" = some (some (.builtin "getset_descriptor.__get__"))) && (decide (PySem.W.takesIn K (.builtin "object.__class__") = some true) && decide (PySem.W.mroIn K (He.ga K x) (.type "object") = some true)))))
theorem clsKB_ok {x : Str} (h : clsKB K x = true) : InsK K (He.ga K x) := by
  obtain ⟨_, h⟩ := He.ba h
  obtain ⟨h1, h⟩ := He.ba h
  obtain ⟨h2, h⟩ := He.ba h
  obtain ⟨h3, h⟩ := He.ba h
  obtain ⟨h4, h5⟩ := He.ba h
  exact ⟨He.cls_ok h1, He.eqO_ok h2, of_decide_eq_true h3, of_decide_eq_true h4, of_decide_eq_true h5⟩
theorem clsKB_glo {h : Heap} {x : Str} (X : K.In h) (G : h.Ns mainGlobals mg) (c : clsKB K x = true) : mg x = some (.ref (He.ga K x)) := He.glo_ok X G (He.ba c).1
theorem fld_ok {h : Heap} {c f : Str} (X : K.In h) (G : h.Ns mainGlobals mg) (h1 : clsKB K c = true) (h2 : (He.Fa.noat c f).ok K = true) : FldC K mg c f := fun C hC => by
  rw [clsKB_glo X G h1] at hC
  cases hC
  exact ⟨(clsKB_ok h1).cl, He.noat_ok h2⟩
/-- the kinds that are asked for -/
def kds (cs : List Str) : List Kd := [.non, .bool, .int, .str, .tuple, .list, .dict] ++ cs.map .own
def kdV (K : PySem.W.Frag) : Kd → Value
  | .own c => .ref (He.ga K c)
  | k => .type k.name
theorem kd_in {cs : List Str} {k : Kd} (h : ∀ c, k = .own c → c ∈ cs) : k ∈ kds cs := by
  unfold kds
  cases k with
  | own c => exact List.mem_append.mpr (.inr (List.mem_map.mpr ⟨c, h c rfl, rfl⟩))
  | _ => exact List.mem_append.mpr (.inl (by simp))
theorem kdV_eq {h : Heap} {cs : List Str} {k : Kd} {t : Value} (X : K.In h) (G : h.Ns mainGlobals mg) (hk : ∀ c, k = .own c → c ∈ cs) (hc : cs.all (clsKB K) = true) (q : KdTy K mg k t) : t = kdV K k := by
  cases k with
  | own c =>
    obtain ⟨C, g1, g2, _⟩ := q
    rw [clsKB_glo X G (List.all_eq_true.mp hc c (hk c rfl))] at g1
    cases g1
    exact g2
  | _ => exact q
/-- isinstance(x, c) -/
def isiB (K : PySem.W.Frag) (c : Str) (ans : Kd → Option Bool) (cs : List Str) : Bool := (kds cs).all fun k => match ans k with
  | some b => decide (PySem.W.kitOne K (kdV K k) (.ref (He.ga K c)) = some b)
  | none => true
theorem isi_ok {h : Heap} {c : Str} {ans : Kd → Option Bool} {cs : List Str} (X : K.In h) (G : h.Ns mainGlobals mg) (hc : cs.all (clsKB K) = true) (g : (He.Fa.glo c).ok K = true) (ha : ∀ k, (ans (.own k)).isSome = true → k ∈ cs) (q : isiB K c ans cs = true) :
    ∃ C, mg c = some (.ref C) ∧ Isi K mg ans (.ref C) (.ref C) := by
  refine ⟨_, He.glo_ok X G g, .own _, fun k hk C hC => ?_, fun k b t e ht => ?_⟩
  · have := List.all_eq_true.mp hc k (ha k hk)
    rw [clsKB_glo X G this] at hC
    cases hC
    exact clsKB_ok this
  · have hin : ∀ c, k = .own c → c ∈ cs := fun c e2 => ha c (by rw [← e2, e]; rfl)
    have z := List.all_eq_true.mp q k (kd_in hin)
    rw [e] at z
    rw [kdV_eq X G hin hc ht]
    exact of_decide_eq_true z
/-! ### own == -/
structure EqM (P : Program) (w : World) (K : PySem.W.Frag) (mg : Str → Option Value) (base : Heap) (c : Str) (k : Nat) (ok : Kd → Bool) (F : List D → WD) : Prop where
  fn : ∃ C f fd ps, mg c = some (.ref C) ∧ EqC K C f ∧ Binds K fd ps [] ∧ FnOk P w K mg base (L2.CX P w) k f fd ps (spM K mg 2 F)
  mono : ∀ ds, MonoD (F ds)
  own : ∀ k, ok (.own k) = true → ∀ C, mg k = some (.ref C) → InsK K C
  nf : ∀ C, mg c = some (.ref C) → ∀ k t, ok k = true → KdTy K mg k t → PySem.W.notFirst K C t = true
def eqcB (K : PySem.W.Frag) (c : Str) (ok : Kd → Bool) (cs : List Str) : Bool := clsKB K c && (He.eqO (PySem.W.findIn K (.ref (He.ga K c)) "__eq__") (some (some (.ref (He.ma K (He.ga K c) "__eq__")))) && (PySem.W.isFn K (.ref (He.ma K (He.ga K c) "__eq__")) &&
  (He.eqO (PySem.W.findIn K (.ref (He.ga K c)) "__ne__") (some (some (.builtin "object.__ne__"))) && (decide (PySem.W.subIn K (.ref (He.ga K c)) (.type "object") = some true) && ((kds cs).all fun k => !ok k || PySem.W.notFirst K (He.ga K c) (kdV K k))))))
theorem eqc_ok {P : Program} {w : World} {base h : Heap} {c : Str} {ok : Kd → Bool} {cs : List Str} {k : Nat} {fd : FuncData} {ps : List Str} {F : List D → WD} (X : K.In h) (G : h.Ns mainGlobals mg) (hc : cs.all (clsKB K) = true) (ha : ∀ k, ok (.own k) = true → k ∈ cs) (q : eqcB K c ok cs = true)
    (b : Binds K fd ps []) (f : FnOk P w K mg base (L2.CX P w) k (He.ma K (He.ga K c) "__eq__") fd ps (spM K mg 2 F)) (hF : ∀ ds, MonoD (F ds)) : EqM P w K mg base c k ok F := by
  obtain ⟨h1, q⟩ := He.ba q
  obtain ⟨h2, q⟩ := He.ba q
  obtain ⟨h3, q⟩ := He.ba q
  obtain ⟨h4, q⟩ := He.ba q
  obtain ⟨h5, h6⟩ := He.ba q
  refine ⟨⟨_, _, fd, ps, clsKB_glo X G h1, ⟨clsKB_ok h1, He.eqO_ok h2, h3, He.eqO_ok h4, of_decide_eq_true h5⟩, b, f⟩, hF, fun k hk C hC => ?_, fun C hC k t hk ht => ?_⟩
  · have := List.all_eq_true.mp hc k (ha k hk)
    rw [clsKB_glo X G this] at hC
    cases hC
    exact clsKB_ok this
  · rw [clsKB_glo X G h1] at hC
    cases hC
    have hin : ∀ c, k = .own c → c ∈ cs := fun c e2 => ha c (by rw [← e2]; exact hk)
    have z := List.all_eq_true.mp h6 k (kd_in hin)
    rw [hk] at z
    rw [kdV_eq X G hin hc ht]
    simpa using z
end
section
variable {X : Cx} {W : WX} {a b : Expr} {ta tb : TE} {ma mb : WE} {pos : Pos} {c : Str} {k j : Nat} {ok : Kd → Bool} {F : List D → WD}
abbrev rEqM (K : PySem.W.Frag) (mg : Str → Option Value) (c : Str) (F : List D → WD) (neg : Bool) : R2 := fun x y H Q => ∃ C, mg c = some (.ref C) ∧ rEqI K C (spM K mg 2 F) neg x y H Q
theorem opm_eqM {P : Program} {w : World} {K : PySem.W.Frag} {mg : Str → Option Value} {base : Heap} {neg : Bool} (e : EqM P w K mg base c k ok F) : OpM K mg (rEqM K mg c F neg) (eqIM c ok F neg) := by
  obtain ⟨⟨C, f, fd, ps, hC, Ec, hb, hf⟩, hF, hO, hn⟩ := e
  have o : OpM K mg (rEqI K C (spM K mg 2 F) neg) (eqIM c ok F neg) := opm_eqI (f := f) hC hF hO (hn C hC)
  exact ⟨o.mono, fun ρ st H x y v u Q X r ix iy h => ⟨C, hC, o.run ρ st H x y v u Q X r ix iy h⟩⟩
theorem opr_eqM (e : EqM X.prog X.w X.K X.mg X.base c k ok F) (tk : Takes X W) (hr : Room k X.A) : OpR X (compareOp .Eq) (rEqM X.K X.mg c F false) := by
  obtain ⟨⟨C, f, fd, ps, hC, Ec, hb, hf⟩, hF, hO, hn⟩ := e
  intro pins s σ H x y v u Q I rx ry ⟨C', hC', hq⟩
  rw [hC] at hC'
  cases hC'
  exact op_eqI Ec hf hb tk hr pins s σ H x y v u Q I rx ry hq
theorem opr_neM (e : EqM X.prog X.w X.K X.mg X.base c k ok F) (tk : Takes X W) (hr : Room (k + 1) X.A) : OpR X (compareOp .NotEq) (rEqM X.K X.mg c F true) := by
  obtain ⟨⟨C, f, fd, ps, hC, Ec, hb, hf⟩, hF, hO, hn⟩ := e
  intro pins s σ H x y v u Q I rx ry ⟨C', hC', hq⟩
  rw [hC] at hC'
  cases hC'
  exact op_neI Ec hf hb tk hr pins s σ H x y v u Q I rx ry hq
theorem de_eqI (e : EqM X.prog X.w X.K X.mg X.base c k ok F) (hr : Room j X.A) (tk : Takes X W) (ha : DE X W a ta ma) (hb : DE X W b tb mb) (hkj : k + 1 ≤ j := by decide) : DE X W (.Compare a [.Eq] [b] pos) (tOp (rEqM X.K X.mg c F false) ta tb) (mOp (eqIM c ok F false) ma mb) :=
  de_cmp (opr_eqM e tk (hr.mono (by omega))) (opm_eqM e) ha hb (nomark _)
theorem de_neI (e : EqM X.prog X.w X.K X.mg X.base c k ok F) (hr : Room j X.A) (tk : Takes X W) (ha : DE X W a ta ma) (hb : DE X W b tb mb) (hkj : k + 1 ≤ j := by decide) : DE X W (.Compare a [.NotEq] [b] pos) (tOp (rEqM X.K X.mg c F true) ta tb) (mOp (eqIM c ok F true) ma mb) :=
  de_cmp (opr_neM e tk (hr.mono hkj)) (opm_eqM e) ha hb (nomark _)
theorem dt_eqI (e : EqM X.prog X.w X.K X.mg X.base c k ok F) (hr : Room j X.A) (tk : Takes X W) (ha : DE X W a ta ma) (hb : DE X W b tb mb) (hkj : k + 1 ≤ j := by decide) : DT X W (.Compare a [.Eq] [b] pos) (tTest (tOp (rEqM X.K X.mg c F false) ta tb)) (mTst (mOp (eqIM c ok F false) ma mb)) :=
  dt_cm (opr_eqM e tk (hr.mono (by omega))) (opm_eqM e) ha hb (nomark _)
theorem dt_neI (e : EqM X.prog X.w X.K X.mg X.base c k ok F) (hr : Room j X.A) (tk : Takes X W) (ha : DE X W a ta ma) (hb : DE X W b tb mb) (hkj : k + 1 ≤ j := by decide) : DT X W (.Compare a [.NotEq] [b] pos) (tTest (tOp (rEqM X.K X.mg c F true) ta tb)) (mTst (mOp (eqIM c ok F true) ma mb)) :=
  dt_cm (opr_neM e tk (hr.mono hkj)) (opm_eqM e) ha hb (nomark _)
end
/-! ### own exceptions -/
section
variable {K : PySem.W.Frag} {mg : Str → Option Value}
def oexB (K : PySem.W.Frag) (C : Addr) : Bool := (match K.lookup C with
    | some ⟨.type t, _, .cls cd, sl⟩ => (match cd.mro, sl.toList with
      | .ref C' :: bm, [_, _, _, _, some (.builtin n), _] => decide (t = "type") && (decide (C' = C) && (decide (n = "ValueError.__new__") && (!cd.hasDel && (cd.hasDict && PySem.HandSPX.refsVE bm))))
      | _, _ => false)
    | _ => false) && (He.eqO (PySem.W.findIn K (.ref C) "__setattr__") (some (some (.builtin "object.__setattr__"))) && (decide (PySem.W.subIn K (.ref C) (.type "BaseException") = some true) && (decide (PySem.W.typeIn K (.ref C) = some (.type "type")) && PySem.W.keepIn K (.ref C))))
theorem oexB_ok {C : Addr} (h : oexB K C = true) : OexC K C := by
  obtain ⟨q, h⟩ := He.ba h
  obtain ⟨h2, h⟩ := He.ba h
  obtain ⟨h3, h⟩ := He.ba h
  obtain ⟨h4, h5⟩ := He.ba h
  refine ⟨?_, He.eqO_ok h2, of_decide_eq_true h3, of_decide_eq_true h4, h5⟩
  split at q
  · rename_i t dd cd sl ho
    split at q
    · rename_i C' bm k0 k1 k2 k3 n k5 hm hs
      obtain ⟨q1, q⟩ := He.ba q
      obtain ⟨q2, q⟩ := He.ba q
      obtain ⟨q3, q⟩ := He.ba q
      obtain ⟨q4, q⟩ := He.ba q
      obtain ⟨q5, q6⟩ := He.ba q
      have e1 : t = "type" := of_decide_eq_true q1
      have e2 : C' = C := of_decide_eq_true q2
      have e3 : n = "ValueError.__new__" := of_decide_eq_true q3
      subst e1 e2 e3
      obtain ⟨nm, bs, mro, ns, qn, hd, sn, sub, ab, col, del⟩ := cd
      dsimp only at hm q4 q5
      have e4 : del = false := by simpa using q4
      subst hm q5 e4
      have hsl : sl = #[k0, k1, k2, k3, some (.builtin "ValueError.__new__"), k5] := by
        obtain ⟨l⟩ := sl
        simp only at hs
        rw [hs]
      subst hsl
      exact ⟨nm, qn, ns, bs, bm, sn, sub, ab, col, dd, k0, k1, k2, k3, k5, ho, q6⟩
    · cases q
  · cases q
def excKB (K : PySem.W.Frag) (C : Addr) : Bool := xfB K C && (He.eqO (PySem.W.findIn K (.ref C) "__class__") (some (some (.builtin "object.__class__"))) && (decide (PySem.W.specialIn K (.builtin "object.__class__") "__get__" = some (some (.builtin "getset_descriptor.__get__"))) &&
  (decide (PySem.W.takesIn K (.builtin "object.__class__") = some true) && decide (PySem.W.mroIn K C (.type "object") = some true))))
theorem excKB_ok {C : Addr} (h : excKB K C = true) : XfC K C ∧ ExcC K C := by
  obtain ⟨h1, h⟩ := He.ba h
  obtain ⟨h2, h⟩ := He.ba h
  obtain ⟨h3, h⟩ := He.ba h
  obtain ⟨h4, h5⟩ := He.ba h
  have x := xfB_ok h1
  exact ⟨x, x.ga, x.gg, x.exC, x.hdC, He.eqO_ok h2, of_decide_eq_true h3, of_decide_eq_true h4, of_decide_eq_true h5⟩
/-- an exception class of the module with one field, its __init__ -/
def xcB (K : PySem.W.Frag) (c f : Str) : Bool := (He.Fa.glo c).ok K && (oexB K (He.ga K c) && (excKB K (He.ga K c) && ((He.Fa.noat c f).ok K && ((He.eqO (PySem.W.findIn K (.ref (He.ga K c)) "__init__") (some (some (.ref (He.ma K (He.ga K c) "__init__"))))) &&
  decide (PySem.W.typeIn K (.ref (He.ma K (He.ga K c) "__init__")) = some (.type "function"))))))
theorem xc_ok {P : Program} {w : World} {base h : Heap} {c f self : Str} {st : Stmt} {fd : FuncData} {qual : Str} {po p' p1 p2 : Pos} (X : K.In h) (G : h.Ns mainGlobals mg) (q : xcB K c f = true) (Fu : Fun K "__init__" qual st (He.ma K (He.ga K c) "__init__") fd) (b : Binds K fd [self, f] [])
    (S : FnScope [self, f] [self, f] (defScope st)) (hb : defBody st = [.Assign [.Attribute (.Name self p1) f p'] (.Name f p2) po])
    (ob : ∀ (cdv : Value) (A : Around) (outer : List Env) (s : Shared) (H : Hp) (E : XK), PS (CxF P w K mg base [self, f] qual st (He.ma K (He.ga K c) "__init__") cdv A outer s H E) (.Assign [.Attribute (.Name self p1) f p'] (.Name f p2) po) (tOst K f (tVar 0) (tVar 1))) : XC P w K mg base c f 1 := by
  obtain ⟨h1, q⟩ := He.ba q
  obtain ⟨h2, q⟩ := He.ba q
  obtain ⟨h3, q⟩ := He.ba q
  obtain ⟨h4, q⟩ := He.ba q
  obtain ⟨h5, h6⟩ := He.ba q
  refine ⟨_, _, fd, [self, f], He.glo_ok X G h1, oexB_ok h2, He.eqO_ok h5, of_decide_eq_true h6, b, ?_⟩
  refine Fu.okX S (fun vs H Q E h => ?_) (fun cdv A outer s H vs Q E hr h => ?_)
  · obtain ⟨a, v, rfl, _⟩ := h
    rfl
  · refine ⟨tOst K f (tVar 0) (tVar 1), ?_, ost_run (oexB_ok h2) (He.noat_ok h4) h⟩
    rw [hb]
    exact pss_one (ob cdv A outer s H E)
theorem xf_ok {h : Heap} {c f : Str} (X : K.In h) (G : h.Ns mainGlobals mg) (q : xcB K c f = true) : XfF K mg c f := by
  obtain ⟨h1, q⟩ := He.ba q
  obtain ⟨h2, q⟩ := He.ba q
  obtain ⟨h3, q⟩ := He.ba q
  obtain ⟨h4, q⟩ := He.ba q
  refine ⟨fun C hC => ?_⟩
  rw [He.glo_ok X G h1] at hC
  cases hC
  exact ⟨(excKB_ok h3).1, He.noat_ok h4⟩
end
theorem names_of {X : Cx} {x : Str} {c : Value} (hm : X.mg x = some c) (hg : Gl X x := by rfl) (hd : (x == ("__debug__" : Str)) = false := by decide) : Names X x c := ⟨hg, hd, .inl hm⟩
section
variable {K : PySem.W.Frag} {mg : Str → Option Value}
def xisB (K : PySem.W.Frag) (c : Str) (ans : Str → Option Bool) (cs : List Str) : Bool := cs.all fun k => (He.Fa.glo k).ok K && (excKB K (He.ga K k) && (match ans k with
  | some b => decide (PySem.W.kitOne K (.ref (He.ga K k)) (.ref (He.ga K c)) = some b)
  | none => true))
theorem xis_ok {h : Heap} {c : Str} {ans : Str → Option Bool} {cs : List Str} (X : K.In h) (G : h.Ns mainGlobals mg) (ha : ∀ k, (ans k).isSome = true → k ∈ cs) (q : xisB K c ans cs = true) : XIs K mg ans (.ref (He.ga K c)) (.ref (He.ga K c)) := by
  refine ⟨.own _, fun k b e C hC => ?_⟩
  obtain ⟨h1, h2⟩ := He.ba (List.all_eq_true.mp q k (ha k (by rw [e]; rfl)))
  obtain ⟨h3, h4⟩ := He.ba h2
  rw [He.glo_ok X G h1] at hC
  cases hC
  rw [e] at h4
  exact ⟨(excKB_ok h3).2, of_decide_eq_true h4⟩
def xexB (K : PySem.W.Frag) (c : Str) (ans : Str → Option Bool) (cs : List Str) : Bool := cs.all fun k => (He.Fa.glo k).ok K && (match ans k with
  | some b => decide (PySem.W.exmOne K (.ref (He.ga K k)) (.ref (He.ga K c)) = some b)
  | none => true)
theorem xex_ok {h : Heap} {c : Str} {ans : Str → Option Bool} {cs : List Str} (X : K.In h) (G : h.Ns mainGlobals mg) (ha : ∀ k, (ans k).isSome = true → k ∈ cs) (q : xexB K c ans cs = true) : XExm K mg (.ref (He.ga K c)) ans := fun k b C e hC => by
  obtain ⟨h1, h2⟩ := He.ba (List.all_eq_true.mp q k (ha k (by rw [e]; rfl)))
  rw [He.glo_ok X G h1] at hC
  cases hC
  rw [e] at h2
  exact of_decide_eq_true h2
theorem mke_ok {P : Program} {w : World} {base h : Heap} {c : Str} {k n : Nat} {fd : FuncData} {ps : List Str} {F : List D → WD} (X : K.In h) (G : h.Ns mainGlobals mg) (g : (He.Fa.glo c).ok K = true) (q : (He.Fa.mkr c).ok K = true)
    (b : Binds K fd ps []) (f : FnOk P w K mg base (L2.CX P w) k (He.ma K (He.ga K c) "__init__") fd ps (spM K mg (n + 1) F)) (hF : ∀ ds, MonoD (F ds)) : Mke P w K mg base c k n F := ⟨⟨_, _, fd, ps, He.glo_ok X G g, He.mkr_ok q, b, f⟩, hF⟩
end
/-! ### the facts of a text -/
structure TxG (chks : PySem.W.Frag → List Bool) (fn : List He.DefD) (K : PySem.W.Frag) (mg : Str → Option Value) : Prop where
  ex : ∃ h : Heap, K.In h ∧ h.Ns mainGlobals mg
  ck : (chks K).all id = true
  fd : ∀ (i : Nat) (d : He.DefD), fn[i]? = some d → ∃ fd, FunD K d.name d.qual d.params d.body d.scope (d.dvs K) (d.kws K) (He.fAd K d.at_) fd
abbrev dd (x : Str) (st : Stmt) : He.DefD := ⟨(x, none), x, x, defArgs st, defBody st, defScope st, [], []⟩
abbrev dm (c x q : Str) (st : Stmt) : He.DefD := ⟨(c, some x), x, q, defArgs st, defBody st, defScope st, [], []⟩
section
variable {chks : PySem.W.Frag → List Bool} {fn : List He.DefD} {K : PySem.W.Frag} {mg : Str → Option Value}
theorem TxG.nth (Z : TxG chks fn K mg) (i : Nat) {b : Bool} (h : (chks K)[i]? = some b := by rfl) : b = true := List.all_eq_true.mp Z.ck b (List.mem_of_getElem? h)
theorem TxG.free (Z : TxG chks fn K mg) (i : Nat) {x : Str} (h : (chks K)[i]? = some ((He.Fa.free x).ok K) := by rfl) : mg x = none := by
  obtain ⟨hp, X, G⟩ := Z.ex
  exact He.free_ok X G (Z.nth i h)
theorem TxG.glo (Z : TxG chks fn K mg) (i : Nat) {x : Str} (h : (chks K)[i]? = some ((He.Fa.glo x).ok K) := by rfl) : mg x = some (.ref (He.ga K x)) := by
  obtain ⟨hp, X, G⟩ := Z.ex
  exact He.glo_ok X G (Z.nth i h)
theorem TxG.con (Z : TxG chks fn K mg) (i : Nat) {x : Str} {d : D} (h : (chks K)[i]? = some (conB K x d) := by rfl) : ∃ v u, mg x = some u ∧ RelV v u ∧ ∀ ρ H, IsV K mg ρ H d v := by
  obtain ⟨hp, X, G⟩ := Z.ex
  exact con_ok X G (Z.nth i h)
theorem TxG.defF (Z : TxG chks fn K mg) {x : Str} {st : Stmt} (i j : Nat) (hi : (chks K)[i]? = some ((He.Fa.glo x).ok K) := by rfl) (hj : fn[j]? = some (dd x st) := by rfl) : DefF K mg x st := by
  obtain ⟨fd, F⟩ := Z.fd j _ hj
  exact ⟨_, fd, Z.glo i hi, fun_of F⟩
theorem TxG.meth (Z : TxG chks fn K mg) {c x q : Str} {st : Stmt} (j : Nat) (hj : fn[j]? = some (dm c x q st) := by rfl) : ∃ fd, Fun K x q st (He.ma K (He.ga K c) x) fd := by
  obtain ⟨fd, F⟩ := Z.fd j _ hj
  exact ⟨fd, fun_of F⟩
theorem TxG.of {h : Heap} (X : K.In h) (G : h.Ns mainGlobals mg) (c : SaysM (fun K => (chks K).all id) fn K) : TxG chks fn K mg := ⟨⟨h, X, G⟩, c.facts, fun i d hd => c.def_ i hd⟩
end
/-! ### comprehensions, handlers: readings that name their context -/
section
variable {X : Cx} {W : WX} {pos : Pos}
theorem de_lcF {elt tg iter : Expr} {ifs : List Expr} {scope : Scope} {own : List (Str × Nat)} {wi : TI} {mi : WI} {is : List Nat} {g : Shared → Hp → Addr → List (Str × Addr) → List Addr → TG} {mt : WTg} {tt : Shared → Hp → Addr → List (Str × Addr) → List Addr → TT} {mtt : WT} {te : Shared → Hp → Addr → List (Str × Addr) → List Addr → TE} {me : WE}
    (hc : X.calm = true) (hN : X.N.Nodup) (hi : DI X W tg iter wi mi) (ok : BlkOk X.N X.env.scope scope own)
    (hg : ∀ (s : Shared) (H : Hp) (C : Addr) (cl : List (Str × Addr)) (fp : List Addr), DG (X.blk s H scope (compEnvC scope cl C X.env) fp) tg is (g s H C cl fp) mt) (ht : ∀ (s : Shared) (H : Hp) (C : Addr) (cl : List (Str × Addr)) (fp : List Addr), DTs (X.blk s H scope (compEnvC scope cl C X.env) fp) W0 ifs (tt s H C cl fp) mtt)
    (he : ∀ (s : Shared) (H : Hp) (C : Addr) (cl : List (Str × Addr)) (fp : List Addr), DE (X.blk s H scope (compEnvC scope cl C X.env) fp) W0 elt (te s H C cl fp) me)
    (gc : ∀ s H C cl fp, g s H C cl fp = g X.s_0 X.H_0 0 [] [] := by intros; rfl) (tc : ∀ s H C cl fp, tt s H C cl fp = tt X.s_0 X.H_0 0 [] [] := by intros; rfl) (ec : ∀ s H C cl fp, te s H C cl fp = te X.s_0 X.H_0 0 [] [] := by intros; rfl)
    (hs : ∀ x, foldedSetIterable iter X.env x = pure x := by intro _; rfl) (hv : ∀ i ∈ is, i ∈ own.map (·.2) := by decide) :
    DE X W (.ListComp elt [⟨tg, iter, ifs, 0⟩] scope pos) (tLc wi (g X.s_0 X.H_0 0 [] []) (tt X.s_0 X.H_0 0 [] []) (te X.s_0 X.H_0 0 [] []) (own.map (·.2))) (mLc mi mt mtt me (own.map (·.2))) :=
  de_lc (pos' := pos) hc hN hi ok (fun s H C cl fp => gc s H C cl fp ▸ hg s H C cl fp) (fun s H C cl fp => tc s H C cl fp ▸ ht s H C cl fp) (fun s H C cl fp => ec s H C cl fp ▸ he s H C cl fp) hs hv
theorem ds_tryF {c n : Str} {cv : Value} {i : Nat} {exm : Str → Option Bool} {body suite : List Stmt} {b₀ : Stmt} {np pos' : Pos} {tb : WX → List (Addr × Obj) → (Value → Shared → Prop) → TS} {ts : Addr → Value → Option Addr → TS} {mb : WS} {ms : Ex → WS} (hs : X.stack = X.env :: X.outer) (hf : X.env.frame = some X.env.locals) (hN : X.N.Nodup) (hi : X.N[i]? = some n) (hln : X.env.kindOf n = some .local) (hc : Names X c cv) (tk : Takes X W)
    (hx : XExm X.K X.mg cv exm) (hb : ∀ (W : WX) (pn : List (Addr × Obj)) (xe : Value → Shared → Prop), Takes (X.tr pn xe) W → DSs (X.tr pn xe) W body (tb W pn xe) mb) (hsu : DX X i (b₀ :: suite) ts ms)
    (tc : ∀ W pn xe, tb W pn xe = tb W [] (fun _ _ => True) := by intros; rfl) :
    DS X W (.Try body [.ExceptHandler (some (.Name c np)) (some n) (b₀ :: suite) pos'] [] [] pos) (fun D σ H => tb (wAs X.K cv i ts W D) [] (fun _ _ => True) D σ H) (mTry i exm mb ms) :=
  ds_try1 (tb := fun W => tb W [] fun _ _ => True) hs hf hN hi hln hc tk hx (fun W pn xe t => tc W pn xe ▸ hb W pn xe t) hsu
theorem gm_two {i j : Nat} {xs : List D} {l : LL} {s : Sto} {Q : LL → Sto → Prop} : gmTup 2 (gmCons (gmName i) (gmCons (gmName j) gmNil)) (.tup xs) l s Q ↔ ∃ d e, xs = [d, e] ∧ Q ((l.set i (some d)).set j (some e)) s := by
  match xs with
  | [] => exact ⟨(fun h => by cases h.1), (fun ⟨d, e, h, _⟩ => by cases h)⟩
  | [x] => exact ⟨(fun h => by cases h.1), (fun ⟨d, e, h, _⟩ => by cases h)⟩
  | [x, y] => exact ⟨(fun h => ⟨x, y, rfl, h.2.2⟩), fun ⟨d, e, h, q⟩ => by cases h; exact ⟨rfl, rfl, q⟩⟩
  | x :: y :: z :: r => exact ⟨(fun h => by have := h.1; simp at this), (fun ⟨d, e, h, _⟩ => by cases h)⟩
/-- a, b = x, y -/
theorem ds_par {i j : Nat} {x y : Str} {a b : Expr} {ta : TA} {ma : WA} {px py pt pt2 : Pos} {kt k2 : Nat} (hc : X.calm = true) (hN : X.N.Nodup) (hi : X.N[i]? = some x) (hj : X.N[j]? = some y) (hij : i ≠ j)
    (hx : X.env.scope.names.lookup x = some .local) (hy : X.env.scope.names.lookup y = some .local) (ha : DA X W [a, b] ta ma)
    (hw : swappedStores [.Tuple [.Name x px, .Name y py] kt pt] (.Tuple [a, b] k2 pt2) X.env = pure (some [x, y]) := by rfl)
    (hs : swapsWithSole [.Tuple [.Name x px, .Name y py] kt pt] (.Tuple [a, b] k2 pt2) pos.line X.env = pure false := by rfl) :
    DS X W (.Assign [.Tuple [.Name x px, .Name y py] kt pt] (.Tuple [a, b] k2 pt2) pos) (tPar i j ta) (mAsg (mTup ma) (gmTup 2 (gmCons (gmName i) (gmCons (gmName j) gmNil)))) where
  ps := ps_par hc hN hi hj hij hx hy ha.pe hw hs
  mono := fun l st E E' h q => ha.ev.mono _ _ _ _ _ _ (fun xs s1 z => ⟨z.1, by
    obtain ⟨d, e, e1, z2⟩ := gm_two.mp z.2
    exact gm_two.mpr ⟨d, e, e1, h.nx _ _ z2⟩⟩) (fun _ _ z => h.ex _ _ _ z) q
  run := fun ρ st H σ l D r rl h => by
    refine ha.ev.bind r rl h (exX rl) fun xs s1 vs ρ1 H1 e1 r1 i1 h1 => ?_
    obtain ⟨d, e, rfl, z⟩ := gm_two.mp h1.2
    obtain ⟨v, vr, rfl, iv, i2⟩ := i1
    obtain ⟨w, wr, rfl, iw, i3⟩ := i2
    cases i3
    exact ⟨v, w, rfl, z ρ1 H1 _ e1 r1 (((rl.mono e1).set iv).set iw)⟩
end
/-- name = [..], the name a plain local -/
theorem ds_setLc {X : Cx} {W : WX} {pos spos py : Pos} {i : Nat} {y : Str} {elt tg iter : Expr} {ifs : List Expr} {scope : Scope} {own : List (Str × Nat)} {wi : TI} {mi : WI} {is : List Nat} {g : Shared → Hp → Addr → List (Str × Addr) → List Addr → TG} {mt : WTg} {tt : Shared → Hp → Addr → List (Str × Addr) → List Addr → TT} {mtt : WT} {te : Shared → Hp → Addr → List (Str × Addr) → List Addr → TE} {me : WE}
    (hy : X.N[i]? = some y) (hyl : X.env.scope.names.lookup y = some .local) (hc : X.calm = true) (hN : X.N.Nodup) (hi : DI X W tg iter wi mi) (ok : BlkOk X.N X.env.scope scope own)
    (hg : ∀ (s : Shared) (H : Hp) (C : Addr) (cl : List (Str × Addr)) (fp : List Addr), DG (X.blk s H scope (compEnvC scope cl C X.env) fp) tg is (g s H C cl fp) mt) (ht : ∀ (s : Shared) (H : Hp) (C : Addr) (cl : List (Str × Addr)) (fp : List Addr), DTs (X.blk s H scope (compEnvC scope cl C X.env) fp) W0 ifs (tt s H C cl fp) mtt)
    (he : ∀ (s : Shared) (H : Hp) (C : Addr) (cl : List (Str × Addr)) (fp : List Addr), DE (X.blk s H scope (compEnvC scope cl C X.env) fp) W0 elt (te s H C cl fp) me)
    (gc : ∀ s H C cl fp, g s H C cl fp = g X.s_0 X.H_0 0 [] [] := by intros; rfl) (tc : ∀ s H C cl fp, tt s H C cl fp = tt X.s_0 X.H_0 0 [] [] := by intros; rfl) (ec : ∀ s H C cl fp, te s H C cl fp = te X.s_0 X.H_0 0 [] [] := by intros; rfl)
    (hs : ∀ x, foldedSetIterable iter X.env x = pure x := by intro _; rfl) (hv : ∀ i ∈ is, i ∈ own.map (·.2) := by decide) (hk : X.env.scope.kind = .function := by rfl) (hl : (py.line == pos.line) = true := by rfl) (ha : (scope.names.any fun (n, k) => n == y && (k == .local || k == .cell)) = false := by rfl) :
    DS X W (.Assign [.Name y py] (.ListComp elt [⟨tg, iter, ifs, 0⟩] scope pos) spos) (tAsg (tLc wi (g X.s_0 X.H_0 0 [] []) (tt X.s_0 X.H_0 0 [] []) (te X.s_0 X.H_0 0 [] []) (own.map (·.2))) (gName i)) (mAsg (mLc mi mt mtt me (own.map (·.2))) (gmName i)) := by
  have d := de_lcF (pos := pos) hc hN hi ok hg ht he gc tc ec hs hv
  exact ⟨ps_setLc hc hN hy hyl (sw_true hk hyl hl ha) hi.pi ok (fun s H C cl fp => gc s H C cl fp ▸ (hg s H C cl fp).pg) (fun s H C cl fp => tc s H C cl fp ▸ (ht s H C cl fp).pe) (fun s H C cl fp => ec s H C cl fp ▸ (he s H C cl fp).pe) hs,
    mAsg.mono d (dg_name (pos := py) hN hy (.inl hyl) (.inr hyl)), mAsg.run d (dg_name (pos := py) hN hy (.inl hyl) (.inr hyl))⟩
end Mir

set_option Elab.async false
set_option linter.all false
set_option maxRecDepth 100000
set_option maxHeartbeats 2000000
/-! PlA: how mirrors are reckoned. -/
namespace Mir
open PySem PySem.Spec PyProof.Rows L2
/-! ### loops -/
theorem loopW_inv {tg : WTg} {gd : Sto → Prop} {body : WS} {E : EndM} (I : List D → LL → Sto → Prop) (hg : ∀ its l s, I its l s → gd s) (hend : ∀ l s, I [] l s → E.nx l s)
    (hstep : ∀ d r l s, I (d :: r) l s → ∀ N : LL → Sto → Prop, (∀ l2 s2, I r l2 s2 → N l2 s2) → tg d l s (fun l1 s1 => body l1 s1 { E with nx := N, ct := N, bk := E.nx })) : ∀ its l s, I its l s → loopW tg gd body its l s E
  | [], l, s, h => ⟨hg _ _ _ h, hend _ _ h⟩
  | d :: r, l, s, h => ⟨hg _ _ _ h, hstep d r l s h _ (fun l2 s2 h2 => loopW_inv I hg hend hstep r l2 s2 h2)⟩
/-- a comprehension whose items do not change the store -/
theorem lcW_fm {tg : WTg} {tt : WT} {me : WE} {l : LL} {gd : Sto → Prop} {Q : List D → Sto → Prop} {st : Sto} (f : D → Option D) (hg : gd st) :
    ∀ (its acc : List D), acc.length + its.length ≤ sizeLine → (∀ d ∈ its, ∀ (R : D → Sto → Prop) (S : Sto → Prop), (match f d with
      | some y => R y st
      | none => S st) → tg d l st (fun l1 s1 => tt l1 s1 (fun b s2 => if b = true then me l1 s2 R X0 else S s2) X0)) → Q (acc ++ its.filterMap f) st → lcW tg tt me l gd Q its acc st
  | [], acc, _, _, q => ⟨hg, by simpa using q⟩
  | d :: r, acc, hl, hs, q => ⟨hg, hs d (by simp) (fun y s3 => acc.length < sizeLine ∧ lcW tg tt me l gd Q r (acc ++ [y]) s3) (fun s2 => lcW tg tt me l gd Q r acc s2) (by
      rw [List.length_cons] at hl
      cases e : f d with
      | none =>
        refine lcW_fm f hg r acc (by omega) (fun d' hd => hs d' (by simp [hd])) ?_
        simpa [e] using q
      | some y =>
        refine ⟨by omega, lcW_fm f hg r (acc ++ [y]) (by simp; omega) (fun d' hd => hs d' (by simp [hd])) ?_⟩
        simpa [e] using q)⟩
theorem lcW_map {tg : WTg} {tt : WT} {me : WE} {l : LL} {gd : Sto → Prop} {Q : List D → Sto → Prop} {st : Sto} (f : D → D) (hg : gd st) (its : List D) (hl : its.length ≤ sizeLine) (hs : ∀ d ∈ its, ∀ (R : D → Sto → Prop) (S : Sto → Prop), R (f d) st → tg d l st (fun l1 s1 => tt l1 s1 (fun b s2 => if b = true then me l1 s2 R X0 else S s2) X0)) (q : Q (its.map f) st) :
    lcW tg tt me l gd Q its [] st := lcW_fm (fun d => some (f d)) hg its [] (by simpa using hl) (fun d hd R S h => hs d hd R S h) (by simpa [List.filterMap_eq_map'] using q)
theorem boolsOf_map {α : Type} (f : α → Bool) : ∀ l : List α, boolsOf (l.map fun x => .bl (f x)) = some (l.map f)
  | [] => rfl
  | x :: r => by simp [boolsOf, boolsOf_map f r]
theorem intsOf_map {α : Type} (f : α → Int) : ∀ l : List α, intsOf (l.map fun x => .int (f x)) = some (l.map f)
  | [] => rfl
  | x :: r => by simp [intsOf, intsOf_map f r]
theorem strsOf_map {α : Type} (f : α → Str) : ∀ l : List α, strsOf (l.map fun x => .str (f x)) = some (l.map f)
  | [] => rfl
  | x :: r => by simp [strsOf, strsOf_map f r]
theorem atI_nat {α : Type} {l : List α} {j : Nat} {d : α} (h : l[j]? = some d) : atI l (j : Int) = some d := by
  obtain ⟨hl, _⟩ := List.getElem?_eq_some_iff.mp h
  unfold atI ixN
  rw [if_pos (by omega), if_pos (by omega)]
  simpa using h
theorem atI_int {α : Type} {l : List α} {i : Int} {d : α} (h0 : 0 ≤ i) (h : l[i.toNat]? = some d) : atI l i = some d := by
  have := atI_nat h
  rwa [Int.toNat_of_nonneg h0] at this
theorem atI_in {α : Type} {l : List α} {i : Int} (h0 : 0 ≤ i) (h1 : i < l.length) : ∃ d, atI l i = some d ∧ d ∈ l := by
  have hlt : i.toNat < l.length := by omega
  exact ⟨l[i.toNat], atI_int h0 (by simp [hlt]), by simp⟩
theorem atI_zero {α : Type} {x : α} {l : List α} : atI (x :: l) 0 = some x := atI_nat (j := 0) rfl
theorem atI_one {α : Type} {x y : α} {l : List α} : atI (x :: y :: l) 1 = some y := atI_nat (j := 1) rfl
theorem atI_two {α : Type} {x y z : α} {l : List α} : atI (x :: y :: z :: l) 2 = some z := atI_nat (j := 2) rfl
theorem atI_three {α : Type} {x y z u : α} {l : List α} : atI (x :: y :: z :: u :: l) 3 = some u := atI_nat (j := 3) rfl
theorem atI_four {α : Type} {x y z u v : α} {l : List α} : atI (x :: y :: z :: u :: v :: l) 4 = some v := atI_nat (j := 4) rfl
theorem ixN_ok {n : Nat} {i : Int} (h0 : 0 ≤ i) (h1 : i < n) : ixN n i = some i.toNat := by
  unfold ixN
  rw [if_pos h0, if_pos h1]
theorem cutD_from (l : List D) (k : Nat) : cutD l (some (k : Int)) none = l.drop k := by
  unfold cutD
  rw [HT.sIx_nat]
  show (l.drop (min k l.length)).take (l.length - min k l.length) = l.drop k
  rw [List.take_of_length_le (by rw [List.length_drop]; omega)]
  rcases Nat.le_total k l.length with h | h
  · rw [Nat.min_eq_left h]
  · rw [Nat.min_eq_right h, List.drop_of_length_le (Nat.le_refl _), List.drop_of_length_le h]
theorem cutD_to (l : List D) (k : Nat) : cutD l none (some (k : Int)) = l.take k := by
  unfold cutD
  rw [HT.sIx_nat]
  show (l.drop 0).take (min k l.length - 0) = l.take k
  rw [List.drop_zero, Nat.sub_zero]
  rcases Nat.le_total k l.length with h | h
  · rw [Nat.min_eq_left h]
  · rw [Nat.min_eq_right h, List.take_of_length_le (Nat.le_refl _), List.take_of_length_le h]
theorem cutD_but (l : List D) : cutD l none (some (-1)) = l.dropLast := by
  have e : HT.sIx l.length l.length (some (-1)) = l.length - 1 := by
    show (if (-1 : Int) < 0 then ((-1 : Int) + (l.length : Int)).toNat else min ((-1 : Int)).toNat l.length) = _
    rw [if_pos (by omega)]
    omega
  unfold cutD
  rw [e, List.dropLast_eq_take]
  show (l.drop 0).take (l.length - 1 - 0) = _
  rw [List.drop_zero, Nat.sub_zero]
theorem seqA_tup {st : Sto} {l : List D} : seqA st (.tup l) = some l := rfl
theorem seqA_vl {st : Sto} {l : List D} : seqA st (.vl l) = some l := rfl
theorem lstA_vl {st : Sto} {l : List D} : lstA st (.vl l) = some l := rfl
theorem lstT_vl {st : Sto} {l : List D} : lstT st (.vl l) = some l := rfl
theorem lstA_sq {st : Sto} {l : List D} : lstA st (.sq l) = some l := rfl
end Mir

set_option Elab.async false
set_option linter.all false
set_option maxRecDepth 100000
set_option maxHeartbeats 2000000
/-! PlB: mirrors by what their parts tell. -/
namespace Mir
open PySem PySem.Spec PyProof.Rows L2
def tbl (x : D) (f : Bool → Prop) : Prop := match x with
  | .bl b => f b
  | _ => False
def tint (x : D) (f : Int → Prop) : Prop := match x with
  | .int b => f b
  | _ => False
def tO {α : Type} (o : Option α) (f : α → Prop) : Prop := match o with
  | some a => f a
  | none => False
theorem tbl_bl {b : Bool} {f : Bool → Prop} : tbl (.bl b) f = f b := rfl
theorem tint_int {b : Int} {f : Int → Prop} : tint (.int b) f = f b := rfl
theorem tO_some {α : Type} {a : α} {f : α → Prop} : tO (some a) f = f a := rfl
theorem tO_none {α : Type} {f : α → Prop} : tO (none : Option α) f = False := rfl
theorem mVar_eq {i : Nat} {l : LL} {st : Sto} {Q : QD} {X : QX} : mVar i l st Q X = tO l[i]? (fun o => tO o (fun d => Q d st)) := by
  unfold mVar tO
  cases l[i]? with
  | none => rfl
  | some o => cases o <;> rfl
theorem mAndV_eq {a b : WE} {l : LL} {st : Sto} {Q : QD} {X : QX} : mAndV a b l st Q X = a l st (fun x s1 => tbl x (fun c => if c = true then b l s1 Q X else Q (.bl false) s1)) X := by
  unfold mAndV
  congr
  funext x s1
  cases x with
  | bl c => cases c <;> rfl
  | _ => rfl
theorem mOrV_eq {a b : WE} {l : LL} {st : Sto} {Q : QD} {X : QX} : mOrV a b l st Q X = a l st (fun x s1 => tbl x (fun c => if c = true then Q (.bl true) s1 else b l s1 Q X)) X := by
  unfold mOrV
  congr
  funext x s1
  cases x with
  | bl c => cases c <;> rfl
  | _ => rfl
theorem mNotV_eq {a : WE} {l : LL} {st : Sto} {Q : QD} {X : QX} : mNotV a l st Q X = a l st (fun x s1 => tbl x (fun c => Q (.bl !c) s1)) X := by
  unfold mNotV
  congr
theorem mTst_eq {a : WE} {l : LL} {st : Sto} {Q : Bool → Sto → Prop} {X : QX} : mTst a l st Q X = a l st (fun x s1 => tbl x (fun c => Q c s1)) X := by
  unfold mTst
  congr
theorem mTru_eq {a : WE} {l : LL} {st : Sto} {Q : Bool → Sto → Prop} {X : QX} : mTru a l st Q X = a l st (fun x s1 => tO (truD s1 x) (fun c => Q c s1)) X := by
  unfold mTru
  congr
  funext x s1
  unfold tO
  cases truD s1 x <;> rfl
theorem mNeg_eq {a : WE} {l : LL} {st : Sto} {Q : QD} {X : QX} : mNeg a l st Q X = a l st (fun x s1 => tint x (fun i => Q (.int (-i)) s1)) X := by
  unfold mNeg
  congr
theorem mPart_eq {a : WE} {l : LL} {st : Sto} {Q : Option Int → Sto → Prop} {X : QX} : mPart a l st Q X = a l st (fun x s1 => tint x (fun i => Q (some i) s1)) X := by
  unfold mPart
  congr
theorem isiM_eq {ans : Kd → Option Bool} {a : WE} {l : LL} {st : Sto} {Q : QD} {X : QX} : isiM ans a l st Q X = a l st (fun x s1 => tO (kd s1 x) (fun k => tO (ans k) (fun b => Q (.bl b) s1))) X := by
  unfold isiM
  congr
  funext x s1
  cases kd s1 x with
  | none => rfl
  | some k =>
    show (match ans k with | some b => Q (.bl b) s1 | none => False) = tO (ans k) _
    cases ans k <;> rfl
theorem mFld_eq {c f : Str} {a : WE} {l : LL} {st : Sto} {Q : QD} {X : QX} : mFld c f a l st Q X = a l st (fun x s1 => tO (insD c s1 x) (fun p => tO ((p.1.zip p.2).lookup f) (fun d => Q d s1))) X := by
  unfold mFld
  congr
  funext x s1
  cases insD c s1 x with
  | none => rfl
  | some p =>
    obtain ⟨p1, p2⟩ := p
    show (match (p1.zip p2).lookup f with | some d => Q d s1 | none => False) = tO ((p1.zip p2).lookup f) (fun d => Q d s1)
    cases (p1.zip p2).lookup f <;> rfl
theorem oneF_eq {g : Sto → D → Option D} {d : D} {st : Sto} {Q : QD} {X : QX} : oneF g [d] st Q X = tO (g st d) (fun y => Q y st) := by
  show (match g st d with | some y => Q y st | none => False) = tO (g st d) (fun y => Q y st)
  cases g st d <;> rfl
theorem intD_eq {C : Int → Int → Prop} {g : Int → Int → D} {i j : Int} {st : Sto} {Q : QD} {X : QX} : Mir.intD C g (.int i) (.int j) st Q X = (C i j ∧ Q (g i j) st) := rfl
theorem ordD_int {p : Int → Int → Bool} {q : List Nat → List Nat → Bool} {i j : Int} {st : Sto} {Q : QD} {X : QX} : ordD p q (.int i) (.int j) st Q X = Q (.bl (p i j)) st := rfl
theorem ordD_str {p : Int → Int → Bool} {q : List Nat → List Nat → Bool} {i j : Str} {st : Sto} {Q : QD} {X : QX} : ordD p q (.str i) (.str j) st Q X = Q (.bl (q i.cps.toList j.cps.toList)) st := rfl
theorem addD_int {i j : Int} {st : Sto} {Q : QD} {X : QX} : addD (.int i) (.int j) st Q X = Q (.int (i + j)) st := rfl
theorem addD_str {i j : Str} {st : Sto} {Q : QD} {X : QX} : addD (.str i) (.str j) st Q X = (i.length + j.length ≤ sizeLine ∧ Q (.str (i ++ j)) st) := rfl
theorem addD_tup {i j : List D} {st : Sto} {Q : QD} {X : QX} : addD (.tup i) (.tup j) st Q X = (i.length + j.length ≤ sizeLine ∧ Q (.tup (i ++ j)) st) := rfl
theorem addD_vl {i j : List D} {st : Sto} {Q : QD} {X : QX} : addD (.vl i) (.vl j) st Q X = (i.length + j.length ≤ sizeLine ∧ Q (.vl (i ++ j)) st) := rfl
theorem eqD_int {n : Bool} {i j : Int} {st : Sto} {Q : QD} {X : QX} : eqD n (.int i) (.int j) st Q X = Q (.bl (if n = true then !decide (i = j) else decide (i = j))) st := rfl
theorem eqD_str {n : Bool} {i j : Str} {st : Sto} {Q : QD} {X : QX} : eqD n (.str i) (.str j) st Q X = Q (.bl (if n = true then !decide (i = j) else decide (i = j))) st := rfl
theorem eqD_nonInt {n : Bool} {j : Int} {st : Sto} {Q : QD} {X : QX} : eqD n .non (.int j) st Q X = Q (.bl (if n = true then !false else false)) st := rfl
theorem eqD_tup {n : Bool} {i j : List D} {st : Sto} {Q : QD} {X : QX} : eqD n (.tup i) (.tup j) st Q X = tO (pyD (.tup i)) (fun p => tO (pyD (.tup j)) (fun q => SeqAt.shaped p = true ∧ SeqAt.shaped q = true ∧ Q (.bl (if n = true then !PyData.eqv p q else PyData.eqv p q)) st)) := by
  show (match pyA st (.tup i), pyA st (.tup j) with
    | some p, some q => SeqAt.shaped p = true ∧ SeqAt.shaped q = true ∧ Q (.bl (if n = true then !PyData.eqv p q else PyData.eqv p q)) st
    | _, _ => False) = _
  show (match pyD (.tup i), pyD (.tup j) with
    | some p, some q => SeqAt.shaped p = true ∧ SeqAt.shaped q = true ∧ Q (.bl (if n = true then !PyData.eqv p q else PyData.eqv p q)) st
    | _, _ => False) = _
  cases pyD (.tup i) with
  | none => rfl
  | some p => cases pyD (.tup j) <;> rfl
theorem ixD_tup {l : List D} {i : Int} {st : Sto} {Q : QD} {X : QX} : ixD (.tup l) (.int i) st Q X = tO (atI l i) (fun d => Q d st) := by
  show (match atI l i with | some d => Q d st | none => False) = _
  cases atI l i <;> rfl
theorem ixD_vl {l : List D} {i : Int} {st : Sto} {Q : QD} {X : QX} : ixD (.vl l) (.int i) st Q X = tO (atI l i) (fun d => Q d st) := by
  show (match atI l i with | some d => Q d st | none => False) = _
  cases atI l i <;> rfl
theorem ixD_ref {n : Nat} {i : Int} {st : Sto} {Q : QD} {X : QX} : ixD (.ref n) (.int i) st Q X = tO (seqA st (.ref n)) (fun l => tO (atI l i) (fun d => Q d st)) := by
  show (match seqA st (.ref n) with | some l => (match atI l i with | some d => Q d st | none => False) | none => False) = _
  cases seqA st (.ref n) with
  | none => rfl
  | some l =>
    show (match atI l i with | some d => Q d st | none => False) = tO (atI l i) _
    cases atI l i <;> rfl
theorem ixD_str {z : Str} {i : Int} {st : Sto} {Q : QD} {X : QX} : ixD (.str z) (.int i) st Q X = (z.length ≤ sizeLine ∧ tO (atI z.cps.toList i) (fun c => Q (.str ⟨#[c]⟩) st)) := by
  show (z.length ≤ sizeLine ∧ match atI z.cps.toList i with | some c => Q (.str ⟨#[c]⟩) st | none => False) = _
  cases atI z.cps.toList i <;> rfl
theorem slD_tup {l : List D} {lo hi : Option Int} {st : Sto} {Q : QD} {X : QX} : slD (.tup l) lo hi st Q X = Q (.tup (cutD l lo hi)) st := rfl
theorem slD_vl {l : List D} {lo hi : Option Int} {st : Sto} {Q : QD} {X : QX} : slD (.vl l) lo hi st Q X = Q (.vl (cutD l lo hi)) st := rfl
theorem slD_sq {l : List D} {lo hi : Option Int} {st : Sto} {Q : QD} {X : QX} : slD (.sq l) lo hi st Q X = Q (.vl (cutD l lo hi)) st := rfl
theorem slD_str {z : Str} {lo hi : Option Int} {st : Sto} {Q : QD} {X : QX} : slD (.str z) lo hi st Q X = (z.length ≤ sizeLine ∧ Q (.str (cutS z lo hi)) st) := rfl
theorem inD_sign {n : Bool} {c : Nat} {z : Str} {st : Sto} {Q : QD} {X : QX} (h : Q (.bl (if n = true then !decide (c ∈ z.cps.toList) else decide (c ∈ z.cps.toList))) st) : inD n (.str ⟨#[c]⟩) (.str z) st Q X := ⟨c, rfl, h⟩
theorem feq_str {a b : Str} : feq (.str a) (.str b) = (a == b) := rfl
theorem any_str {s : Str} : ∀ {l : List Str}, ((l.map D.str).any fun e => feq e (.str s)) = l.contains s
  | [] => rfl
  | a :: l => by
    rw [List.map_cons, List.any_cons, any_str, List.contains_cons, feq_str]
    congr 1
    by_cases h : a = s
    · subst h
      rfl
    · rw [beq_eq_false_iff_ne.mpr h, beq_eq_false_iff_ne.mpr (Ne.symm h)]
theorem all_flat : ∀ {l : List Str}, (l.map D.str).all flatD = true
  | [] => rfl
  | a :: l => by rw [List.map_cons, List.all_cons, all_flat]; rfl
theorem inD_strs {n : Bool} {s : Str} {l : List Str} {st : Sto} {Q : QD} {X : QX} : inD n (.str s) (.tup (l.map .str)) st Q X = Q (.bl (if n = true then !l.contains s else l.contains s)) st := by
  show (if flatD (.str s) && (l.map D.str).all flatD then Q (.bl (if n = true then !((l.map D.str).any fun e => feq e (.str s)) else (l.map D.str).any fun e => feq e (.str s))) st else _) = _
  rw [all_flat, any_str]
  rfl
theorem inD_strsL {n : Bool} {s : Str} {l : List Str} {st : Sto} {Q : QD} {X : QX} : inD n (.str s) (.vl (l.map .str)) st Q X = Q (.bl (if n = true then !l.contains s else l.contains s)) st := by
  show (if flatD (.str s) && (l.map D.str).all flatD then Q (.bl (if n = true then !((l.map D.str).any fun e => feq e (.str s)) else (l.map D.str).any fun e => feq e (.str s))) st else _) = _
  rw [all_flat, any_str]
  rfl
theorem mSeq_tup {st : Sto} {its : List D} {l : LL} {Q : List D → (Sto → Prop) → Sto → Prop} {X : QX} {a : WE} (h : a l st (fun x s1 => x = .tup its ∧ Q its (fun _ => True) s1) X) (hm : MonoG a) : mSeq a l st Q X := by
  refine hm _ _ _ _ _ _ (fun x s1 q => ?_) (fun _ _ z => z) h
  obtain ⟨rfl, q⟩ := q
  exact q
def tSeq1 (st : Sto) (x : D) (Q : List D → (Sto → Prop) → Sto → Prop) : Prop := match x with
  | .str z => Q (signsD z) (fun _ => True) st
  | .tup its => Q its (fun _ => True) st
  | x => match lstA st x with
    | some its => Q its (fun s => lstA s x = some its) st
    | none => False
theorem mSeq_eq {a : WE} {l : LL} {st : Sto} {Q : List D → (Sto → Prop) → Sto → Prop} {X : QX} : mSeq a l st Q X = a l st (fun x s1 => tSeq1 s1 x Q) X := by
  unfold mSeq
  congr
theorem tSeq1_str {st : Sto} {z : Str} {Q : List D → (Sto → Prop) → Sto → Prop} : tSeq1 st (.str z) Q = Q (signsD z) (fun _ => True) st := rfl
theorem tSeq1_tup {st : Sto} {z : List D} {Q : List D → (Sto → Prop) → Sto → Prop} : tSeq1 st (.tup z) Q = Q z (fun _ => True) st := rfl
theorem tSeq1_vl {st : Sto} {z : List D} {Q : List D → (Sto → Prop) → Sto → Prop} : tSeq1 st (.vl z) Q = Q z (fun s => some z = some z) st := rfl
theorem tSeq1_sq {st : Sto} {z : List D} {Q : List D → (Sto → Prop) → Sto → Prop} : tSeq1 st (.sq z) Q = Q z (fun s => some z = some z) st := rfl
theorem gmTup_tup {n : Nat} {ms : WTgs} {ds : List D} {l : LL} {st : Sto} {Q : LL → Sto → Prop} : gmTup n ms (.tup ds) l st Q = (ds.length = n ∧ ms ds l st Q) := rfl
theorem gmCons_cons {m : WTg} {ms : WTgs} {d : D} {r : List D} {l : LL} {st : Sto} {Q : LL → Sto → Prop} : gmCons m ms (d :: r) l st Q = m d l st (fun l1 s1 => ms r l1 s1 Q) := rfl
theorem lenG_tup {st : Sto} {l : List D} : lenG st (.tup l) = some (.int l.length) := rfl
theorem lenG_vl {st : Sto} {l : List D} : lenG st (.vl l) = some (.int l.length) := rfl
theorem lenG_str {st : Sto} {z : Str} (h : z.length ≤ sizeLine) : lenG st (.str z) = some (.int z.length) := if_pos h
theorem allG_map {st : Sto} {α : Type} {f : α → Bool} {l : List α} : allG st (.vl (l.map fun x => .bl (f x))) = some (.bl (l.all f)) := by
  show (boolsOf (l.map fun x => D.bl (f x))).map _ = _
  rw [boolsOf_map]
  simp [List.all_map]
theorem anyG_map {st : Sto} {α : Type} {f : α → Bool} {l : List α} : anyG st (.vl (l.map fun x => .bl (f x))) = some (.bl (l.any f)) := by
  show (boolsOf (l.map fun x => D.bl (f x))).map _ = _
  rw [boolsOf_map]
  simp [List.any_map]
theorem isBlD_eq {n : Bool} {a b : Bool} {st : Sto} {Q : QD} {X : QX} : isBlD n (.bl a) (.bl b) st Q X = Q (.bl (if n = true then !decide (a = b) else decide (a = b))) st := rfl
theorem mAug_eq {i : Nat} {f : D → D → WD} {me : WE} {l : LL} {st : Sto} {E : EndM} : mAug i f me l st E = tO l[i]? (fun o => tO o (fun x => me l st (fun y s1 => f x y s1 (fun d s2 => E.nx (l.set i (some d)) s2) (E.ex l)) (E.ex l))) := by
  unfold mAug tO
  cases l[i]? with
  | none => rfl
  | some o => cases o <;> rfl
theorem mChain_eq {f f' : D → D → WD} {a b c : WE} {l : LL} {st : Sto} {Q : QD} {X : QX} : mChain f f' a b c l st Q X = a l st (fun x s1 => b l s1 (fun y s2 => f x y s2 (fun z s3 => tbl z (fun k => if k = true then c l s3 (fun w s4 => f' y w s4 Q X) X else Q (.bl false) s3)) X) X) X := by
  unfold mChain
  congr
  funext x s1
  congr
  funext y s2
  congr
  funext z s3
  cases z with
  | bl k => cases k <;> rfl
  | _ => rfl
def tRng1 (st : Sto) (xs : List D) (Q : List D → (Sto → Prop) → Sto → Prop) : Prop := match xs with
  | [.int j] => -(2 ^ 62) ≤ j ∧ j < 2 ^ 62 ∧ Q (rangeD 0 j.toNat) (fun _ => True) st
  | _ => False
theorem mRange1_eq {m : WA} {l : LL} {st : Sto} {Q : List D → (Sto → Prop) → Sto → Prop} {X : QX} : mRange1 m l st Q X = m l st (fun xs s1 => tRng1 s1 xs Q) X := by
  unfold mRange1
  congr
theorem tRng1_int {st : Sto} {j : Int} {Q : List D → (Sto → Prop) → Sto → Prop} : tRng1 st [.int j] Q = (-(2 ^ 62) ≤ j ∧ j < 2 ^ 62 ∧ Q (rangeD 0 j.toNat) (fun _ => True) st) := rfl
def tEnum (st : Sto) (xs : List D) (Q : List D → (Sto → Prop) → Sto → Prop) : Prop := match xs with
  | [.tup its] => Q (enumD 0 its) (fun _ => True) st
  | [x] => (match lstA st x with
    | some its => Q (enumD 0 its) (fun s => lstA s x = some its) st
    | none => False)
  | _ => False
theorem mEnum_eq {m : WA} {l : LL} {st : Sto} {Q : List D → (Sto → Prop) → Sto → Prop} {X : QX} : mEnum m l st Q X = m l st (fun xs s1 => tEnum s1 xs Q) X := by
  unfold mEnum
  congr
theorem tEnum_tup {st : Sto} {its : List D} {Q : List D → (Sto → Prop) → Sto → Prop} : tEnum st [.tup its] Q = Q (enumD 0 its) (fun _ => True) st := rfl
theorem truD_bl {st : Sto} {b : Bool} : truD st (.bl b) = some b := rfl
theorem iteBt {P R : Prop} {b : Bool} (h1 : b = true → P) (h2 : b = false → R) : if b = true then P else R := by
  cases b with
  | true => exact (if_pos rfl).mpr (h1 rfl)
  | false => exact (if_neg Bool.false_ne_true).mpr (h2 rfl)
end Mir

set_option Elab.async false
set_option linter.all false
set_option maxRecDepth 100000
set_option maxHeartbeats 2000000
/-! PlC: statements one by one. -/
namespace Mir
open PySem PySem.Spec PyProof.Rows L2
def EvT (c : WT) (l : LL) (st : Sto) (b : Bool) : Prop := ∀ (Q : Bool → Sto → Prop) (X : QX), Q b st → c l st Q X
def EvE (m : WE) (l : LL) (st : Sto) (d : D) : Prop := ∀ (Q : QD) (X : QX), Q d st → m l st Q X
section
variable {c : WT} {m n k : WS} {l : LL} {st : Sto} {E : EndM} {b : Bool} {me : WE} {d : D} {i : Nat}
theorem if_b (h : EvT c l st b) (ht : b = true → m l st E) (hf : b = false → n l st E) : mIfS c m n l st E := h _ _ (iteBt ht hf)
theorem sq_if (h : EvT c l st b) (ht : b = true → m l st { E with nx := fun l' s' => k l' s' E }) (hf : b = false → n l st { E with nx := fun l' s' => k l' s' E }) : mSeqS (mIfS c m n) k l st E := h _ _ (iteBt ht hf)
/-- if c: return .. -/
theorem sq_g {r : WE} (h : EvT c l st b) (ht : b = true → r l st E.rt (E.ex l)) (hf : b = false → k l st E) : mSeqS (mIfS c (mRet r) mNext) k l st E := h _ _ (iteBt ht hf)
theorem sq_i (h : EvT c l st b) (ht : b = true → m l st { E with nx := fun l' s' => k l' s' E }) (hf : b = false → k l st E) : mSeqS (mIfS c m mNext) k l st E := h _ _ (iteBt ht hf)
theorem sq_set (h : EvE me l st d) (hk : k (l.set i (some d)) st E) : mSeqS (mAsg me (gmName i)) k l st E := h _ _ hk
theorem sq_do (h : me l st (fun d s1 => k (l.set i (some d)) s1 E) (E.ex l)) : mSeqS (mAsg me (gmName i)) k l st E := h
theorem ret_v (h : EvE me l st d) (q : E.rt d st) : mRet me l st E := h _ _ q
theorem ret_do (h : me l st E.rt (E.ex l)) : mRet me l st E := h
theorem sq_for {mi : WI} {tg : WTg} {body : WS} (h : mi l st (fun its gd s1 => loopW tg gd body its l s1 { E with nx := fun l' s' => k l' s' E }) (E.ex l)) : mSeqS (mFor mi tg body) k l st E := h
def EvI (mi : WI) (l : LL) (st : Sto) (its : List D) (gd : Sto → Prop) : Prop := ∀ (Q : List D → (Sto → Prop) → Sto → Prop) (X : QX), Q its gd st → mi l st Q X
theorem sq_forI {mi : WI} {tg : WTg} {body : WS} {its : List D} {gd : Sto → Prop} (h : EvI mi l st its gd) (hk : loopW tg gd body its l st { E with nx := fun l' s' => k l' s' E }) : mSeqS (mFor mi tg body) k l st E := h _ _ hk
theorem sq_expr (h : me l st (fun _ s1 => k l s1 E) (E.ex l)) : mSeqS (mExpr me) k l st E := h
end
theorem sc_is {x y : Str} : (if decide (x = y) = true then True else False) ↔ x = y := by simp
end Mir

set_option Elab.async false
set_option linter.all false
set_option maxRecDepth 100000
set_option maxHeartbeats 2000000
/-! PlD: statements one by one, what is reckoned may change the store. -/
namespace Mir
open PySem PySem.Spec PyProof.Rows L2
section
variable {c : WT} {m n k : WS} {l : LL} {st : Sto} {E : EndM} {me : WE} {i : Nat}
theorem sq_setA (A : D → Sto → Prop) (h : ∀ (R : QD) (Y : QX), (∀ d s1, A d s1 → R d s1) → me l st R Y) (hk : ∀ d s1, A d s1 → k (l.set i (some d)) s1 E) : mSeqS (mAsg me (gmName i)) k l st E := h _ _ hk
theorem setA (A : D → Sto → Prop) (h : ∀ (R : QD) (Y : QX), (∀ d s1, A d s1 → R d s1) → me l st R Y) (hk : ∀ d s1, A d s1 → E.nx (l.set i (some d)) s1) : mAsg me (gmName i) l st E := h _ _ hk
theorem sq_ifA (A : Bool → Sto → Prop) (h : ∀ (R : Bool → Sto → Prop) (Y : QX), (∀ b s1, A b s1 → R b s1) → c l st R Y) (ht : ∀ s1, A true s1 → m l s1 { E with nx := fun l' s' => k l' s' E }) (hf : ∀ s1, A false s1 → n l s1 { E with nx := fun l' s' => k l' s' E }) : mSeqS (mIfS c m n) k l st E :=
  h _ _ fun b s1 a => iteBt (fun e => ht s1 (e ▸ a)) fun e => hf s1 (e ▸ a)
theorem sq_gA {r : WE} (A : Bool → Sto → Prop) (h : ∀ (R : Bool → Sto → Prop) (Y : QX), (∀ b s1, A b s1 → R b s1) → c l st R Y) (ht : ∀ s1, A true s1 → r l s1 E.rt (E.ex l)) (hf : ∀ s1, A false s1 → k l s1 E) : mSeqS (mIfS c (mRet r) mNext) k l st E :=
  h _ _ fun b s1 a => iteBt (fun e => ht s1 (e ▸ a)) fun e => hf s1 (e ▸ a)
theorem sq_iA (A : Bool → Sto → Prop) (h : ∀ (R : Bool → Sto → Prop) (Y : QX), (∀ b s1, A b s1 → R b s1) → c l st R Y) (ht : ∀ s1, A true s1 → m l s1 { E with nx := fun l' s' => k l' s' E }) (hf : ∀ s1, A false s1 → k l s1 E) : mSeqS (mIfS c m mNext) k l st E :=
  h _ _ fun b s1 a => iteBt (fun e => ht s1 (e ▸ a)) fun e => hf s1 (e ▸ a)
theorem sq_rangeA {tg : WTg} {body : WS} (A : Int → Sto → Prop) (h : ∀ (R : QD) (Y : QX), (∀ j s1, A j s1 → R (.int j) s1) → me l st R Y) (hk : ∀ j s1, A j s1 → -(2 ^ 62) ≤ j ∧ j < 2 ^ 62 ∧ loopW tg (fun _ => True) body (rangeD 0 j.toNat) l s1 { E with nx := fun l' s' => k l' s' E }) :
    mSeqS (mFor (mRange1 (mCons me mNil)) tg body) k l st E := by
  refine sq_for ?_
  rw [mRange1_eq]
  exact h _ _ fun j s1 a => hk j s1 a
theorem sq_exprA (A : Sto → Prop) (h : ∀ (R : QD) (Y : QX), (∀ d s1, A s1 → R d s1) → me l st R Y) (hk : ∀ s1, A s1 → k l s1 E) : mSeqS (mExpr me) k l st E := h _ _ fun _ s1 a => hk s1 a
theorem exprA (A : Sto → Prop) (h : ∀ (R : QD) (Y : QX), (∀ d s1, A s1 → R d s1) → me l st R Y) (hk : ∀ s1, A s1 → E.nx l s1) : mExpr me l st E := h _ _ fun _ s1 a => hk s1 a
theorem sq_subA {me mo mi : WE} (A : Sto → Prop) (h : ∀ (R : Sto → Prop) (Y : QX), (∀ s1, A s1 → R s1) → me l st (fun d s1 => mo l s1 (fun o s2 => mi l s2 (fun i s3 => setD o i d s3 R) Y) Y) Y) (hk : ∀ s1, A s1 → k l s1 E) : mSeqS (mSub me mo mi) k l st E := h _ _ hk
end
theorem loop_inv {tg : WTg} {gd : Sto → Prop} {body : WS} {E : EndM} (I : List D → LL → Sto → Prop) {its : List D} {l : LL} {s : Sto} (h0 : I its l s) (hg : ∀ its l s, I its l s → gd s) (hend : ∀ l s, I [] l s → E.nx l s)
    (hstep : ∀ d r l s, I (d :: r) l s → ∀ N : LL → Sto → Prop, (∀ l2 s2, I r l2 s2 → N l2 s2) → tg d l s (fun l1 s1 => body l1 s1 { E with nx := N, ct := N, bk := E.nx })) : loopW tg gd body its l s E := loopW_inv I hg hend hstep its l s h0
end Mir

set_option Elab.async false
set_option linter.all false
set_option maxRecDepth 100000
set_option maxHeartbeats 2000000
/-! K87A: the data of k87, what the small checks answer. -/
namespace K87
open PySem PySem.Spec PyProof.Rows L2 Mir
def Sc : D → Prop
  | .non => True
  | .bl _ => True
  | .int _ => True
  | .str s => s.length ≤ 1000 ∧ PyData.strOk s = true
  | _ => False
/-- bounded data -/
def Gd : Nat → D → Prop
  | 0, x => Sc x
  | n + 1, x => match x with
    | .tup l => l.length ≤ 1000 ∧ ∀ x ∈ l, Gd n x
    | .vl l => l.length ≤ 1000 ∧ ∀ x ∈ l, Gd n x
    | .vd ks vs => ks = [] ∧ vs = []
    | x => Sc x
theorem Gd.mono : ∀ {n m : Nat} {x : D}, n ≤ m → Gd n x → Gd m x
  | 0, 0, x, _, h => h
  | 0, m + 1, x, _, h => by
    cases x <;> first
      | exact h
      | exact h.elim
  | n + 1, 0, x, h, _ => by omega
  | n + 1, m + 1, x, hn, h => by
    cases x with
    | tup l => exact ⟨h.1, fun x hx => Gd.mono (by omega) (h.2 x hx)⟩
    | vl l => exact ⟨h.1, fun x hx => Gd.mono (by omega) (h.2 x hx)⟩
    | _ => exact h
theorem Gd.sc {n : Nat} {x : D} (h : Sc x) : Gd n x := Gd.mono (Nat.zero_le n) (show Gd 0 x from h)
theorem Gd.tupI {n : Nat} {l : List D} (h : Gd n (.tup l)) : l.length ≤ 1000 ∧ ∀ x ∈ l, Gd (n - 1) x := by
  cases n with
  | zero => exact h.elim
  | succ n => exact h
theorem Gd.at_ {n : Nat} {l : List D} {x : D} (h : Gd n (.tup l)) (hx : x ∈ l) : Gd n x := Gd.mono (Nat.sub_le _ _) (h.tupI.2 x hx)
theorem Gd.str {n : Nat} {s : Str} (h : Gd n (.str s)) : s.length ≤ 1000 ∧ PyData.strOk s = true := by
  cases n <;> exact h
def kdG : D → Kd
  | .non => .non
  | .bl _ => .bool
  | .int _ => .int
  | .str _ => .str
  | .tup _ => .tuple
  | .vl _ => .list
  | .sq _ => .list
  | .vd _ _ => .dict
  | .vi c _ _ => .own c
  | .ref _ => .non
def isI : D → Bool
  | .int _ => true
  | _ => false
def isB : D → Bool
  | .bl _ => true
  | _ => false
def isS : D → Bool
  | .str _ => true
  | _ => false
def isT : D → Bool
  | .tup _ => true
  | _ => false
section
variable {n : Nat} {x : D} {st : Sto}
theorem Gd.kd (h : Gd n x) : kd st x = some (kdG x) := by
  cases n <;> cases x <;> first
    | rfl
    | exact h.elim
theorem Gd.ansT (h : Gd n x) : ansB "tuple" (kdG x) = some (isT x) := by
  cases n <;> cases x <;> first
    | rfl
    | exact h.elim
theorem Gd.ansS (h : Gd n x) : ansB "str" (kdG x) = some (isS x) := by
  cases n <;> cases x <;> first
    | rfl
    | exact h.elim
theorem Gd.ansB (h : Gd n x) : Mir.ansB "bool" (kdG x) = some (isB x) := by
  cases n <;> cases x <;> first
    | rfl
    | exact h.elim
theorem Gd.ansI (h : Gd n x) : Mir.ansB "int" (kdG x) = some (isI x || isB x) := by
  cases n <;> cases x <;> first
    | rfl
    | exact h.elim
end
abbrev Fn := List D → WD
/-! ### small checks -/
def letters : Str := "abcdefghijklmnopqrstuvwxyz"
def wordL : List Str := ["let", "get", "put", "drop", "for", "in", "to", "do", "if", "else", "while", "most", "end", "say", "fail", "mod", "and", "or", "not"]
def signL : List Str := ["+", "-", "*", "/", "mod", "<", "=", "and", "or"]
def gd_LETTERS : D := .str letters
def gd_MOST_LETTERS : D := .int 12
def gd_MOST_WORTH : D := .int 1000000000000000000
def gd_WORDS : D := .tup (wordL.map .str)
def gd_SIGNS : D := .tup (signL.map .str)
def gd_MOST_NAME : D := .int 8
def gd_MOST_DEEP : D := .int 8
def gd_MOST_PARTS : D := .int 40
def gd_MOST_BLOCKS : D := .int 5
def gd_MOST_STATEMENTS : D := .int 80
def gd_MOST_ROUNDS : D := .int 100
def isW (a b : Int) : D → Bool
  | .int i => decide (a ≤ i) && decide (i ≤ b)
  | _ => false
def letB (s : Str) : Bool := s.cps.toList.all fun c => decide (c ∈ letters.cps.toList)
def isLet (m : Int) : D → Bool
  | .str s => (decide (1 ≤ (s.length : Int)) && decide ((s.length : Int) ≤ m)) && letB s
  | _ => false
def isNm : D → Bool
  | .str s => ((decide (1 ≤ (s.length : Int)) && decide ((s.length : Int) ≤ 8)) && !wordL.contains s) && letB s
  | _ => false
def optI : Option Nat → D
  | none => .non
  | some n => .int n
def sumO : List (Option Nat) → Nat → Option Nat
  | [], a => some a
  | none :: _, _ => none
  | some k :: r, a => sumO r (a + k)
def stm : D → Option (Str × List D)
  | .tup (.str w :: r) => some (w, r)
  | _ => none
def tupL : D → List D
  | .tup l => l
  | _ => []
def hd (r : List D) : D := r.headD .non
/-- how many parts an expression has, deep levels deep at most -/
def parts : Nat → D → Option Nat
  | 0, _ => none
  | d + 1, x => match stm x with
    | none => none
    | some (w, r) =>
      if r.length = 0 then none
      else if r.length = 1 ∧ w = "num" then (if isW (-1000000000000000000) 1000000000000000000 (hd r) = true then some 1 else none)
      else if r.length = 1 ∧ w = "key" then (if isLet 12 (hd r) = true then some 1 else none)
      else if r.length = 1 ∧ w = "name" then (if isNm (hd r) = true then some 1 else none)
      else if (w ≠ "not" ∧ signL.contains w = false) ∨ r.length ≠ (if w = "not" then 1 else 2) then none
      else sumO (r.map (parts d)) 1
def isExpr (x : D) : Bool := match parts 8 x with
  | some k => decide ((k : Int) ≤ 40)
  | none => false
def isPlain (w : Str) (r : List D) : Bool :=
  if w = "let" ∨ w = "get" then (match r with
    | [a, b] => isNm a && isExpr b
    | _ => false)
  else if w = "put" then (match r with
    | [a, b] => isExpr a && isExpr b
    | _ => false)
  else if w = "drop" ∨ w = "say" then (match r with
    | [a] => isExpr a
    | _ => false)
  else decide (w = "fail") && decide (r.length = 0)
def ownParts (w : Str) (r : List D) : Bool :=
  if w = "for" then (match r with
    | [a, b, c, d, _] => (isNm a && isNm b) && (isExpr c && isExpr d)
    | _ => false)
  else if w = "if" then (match r with
    | [a, _, _] => isExpr a
    | _ => false)
  else if w = "while" then (match r with
    | [a, b, _] => isExpr a && isW 1 100 b
    | _ => false)
  else false
def blocksOf (w : Str) (r : List D) : List D := if w = "for" then r.drop 4 else if w = "if" then r.drop 1 else if w = "while" then r.drop 2 else []
def firstI {α : Type} (f : Nat → α → Option (List Int)) : Nat → List α → Option (List Int)
  | _, [] => none
  | i, x :: r => match f i x with
    | some p => some p
    | none => firstI f (i + 1) r
/-- the place of the first bad statement; m levels may follow -/
def fb : Nat → List D → Option (List Int)
  | 0, l => firstI (fun k x => match stm x with
    | none => some [(k : Int)]
    | some (w, r) => if isPlain w r = true then none else some [(k : Int)]) 0 l
  | m + 1, l => firstI (fun k x => match stm x with
    | none => some [(k : Int)]
    | some (w, r) => if isPlain w r = true then none else if ownParts w r = false then some [(k : Int)] else if (blocksOf w r).all isT = false then some [(k : Int)]
      else firstI (fun side one => (fb m (tupL one)).map fun p => (k : Int) :: (side : Int) :: p) 0 (blocksOf w r)) 0 l
def cnt : Nat → List D → Nat
  | 0, l => l.length
  | m + 1, l => l.length + (l.map fun x => match stm x with
    | none => 0
    | some (w, r) => ((blocksOf w r).map fun b => cnt m (tupL b)).sum).sum
/-! ### what the checks promise -/
def F_is_integer : Fn := fun ds st Q _ => ∃ x n, ds = [x] ∧ Gd n x ∧ Q (.bl (isI x)) st
def F_is_within : Fn := fun ds st Q _ => ∃ x n a b, ds = [x, .int a, .int b] ∧ Gd n x ∧ Q (.bl (isW a b x)) st
def F_is_key : Fn := fun ds st Q _ => ∃ x n, ds = [x] ∧ Gd n x ∧ Q (.bl (isLet 12 x)) st
def F_is_name : Fn := fun ds st Q _ => ∃ x n, ds = [x] ∧ Gd n x ∧ Q (.bl (isNm x)) st
/-- d levels at most -/
def Fd_parts (d : Nat) : Fn := fun ds st Q _ => ∃ x n, ds = [x, .int d] ∧ Gd n x ∧ Q (optI (parts d x)) st
def F_parts_in : Fn := Fd_parts 8
def F_is_expression : Fn := fun ds st Q _ => ∃ x n, ds = [x] ∧ Gd n x ∧ Q (.bl (isExpr x)) st
def F_is_plain_statement : Fn := fun ds st Q _ => ∃ w r n, ds = [.tup (.str w :: r)] ∧ Gd n (.tup (.str w :: r)) ∧ Q (.bl (isPlain w r)) st
def F_has_own_parts : Fn := fun ds st Q _ => ∃ w r n, ds = [.tup (.str w :: r)] ∧ Gd n (.tup (.str w :: r)) ∧ Q (.bl (ownParts w r)) st
def F_blocks_of : Fn := fun ds st Q _ => ∃ w r n, ds = [.tup (.str w :: r)] ∧ Gd n (.tup (.str w :: r)) ∧ Q (.tup (blocksOf w r)) st
def optP : Option (List Int) → D
  | none => .non
  | some p => .tup (p.map .int)
def Fd_first_bad (m : Nat) : Fn := fun ds st Q _ => ∃ l n, ds = [.tup l, .int (5 - (m : Int))] ∧ m ≤ 4 ∧ Gd n (.tup l) ∧ Q (optP (fb m l)) st
def F_first_bad : Fn := Fd_first_bad 4
def Fd_statements_in (m : Nat) : Fn := fun ds st Q _ => ∃ l n, ds = [.tup l] ∧ m ≤ 4 ∧ Gd n (.tup l) ∧ fb m l = none ∧ Q (.int (cnt m l)) st
def F_statements_in : Fn := Fd_statements_in 4
end K87

set_option Elab.async false
set_option linter.all false
set_option maxRecDepth 100000
set_option maxHeartbeats 2000000
/-! K87B: the small checks, by their mirrors. -/
namespace K87
open PySem PySem.Spec PyProof.Rows L2 Mir
local macro_rules | `(tactic| walk_at "mir") => `(tactic| try simp only [mIfS, mSeqS, mRet, mAsg, gmName, gmTup_tup, gmCons_cons, gmNil, mVar_eq, mC, mOp, mCons, mNil, mTup, mLst, mLstR, mCall, mCB, oneF_eq, mTst_eq, mNotT, mAndT, mOrT, mTru_eq, truD_bl, mUn, mIf, mAndV_eq, mOrV_eq, mNotV_eq, mNeg_eq, mSl, mNoPart, mPart_eq, intD_eq, addD_int, addD_str, addD_tup, addD_vl, ordD_int, ordD_str, mChain_eq, isiM_eq, mNext, mFor, mSeq_eq, tSeq1_str, tSeq1_tup, tSeq1_vl, tSeq1_sq, mRange1_eq, tRng1_int, mEnum_eq, tEnum_tup, mAug_eq, mLc, mYes, startL, endF, tbl_bl, tint_int, tO_some, eqD_int, eqD_str, ixD_tup, ixD_vl, slD_tup, slD_vl, slD_sq, slD_str, lenG_tup, lenG_vl, isBlD_eq, List.length_cons, List.length_nil, List.map_cons, List.map_nil, List.replicate, Nat.reduceAdd, Nat.reduceSub, List.cons_append, List.nil_append, List.append_nil, List.getElem?_cons_succ, List.getElem?_cons_zero, List.set_cons_succ, List.set_cons_zero, true_and, and_true, Bool.not_true, Bool.not_false, Bool.false_eq_true, if_true, if_false, ite_true, ite_false, not_true, not_false_iff, Bool.true_eq_false, reduceCtorEq, wipeL])

/-- is_integer(thing); 0 thing -/
def m_is_integer : WS := (mRet (mAndV (isiM (ansB "int") (mVar 0)) (mNotV (isiM (ansB "bool") (mVar 0)))))
/-- is_within(thing, least, most); 0 thing, 1 least, 2 most -/
def m_is_within : WS := (mRet (mAndV (mCall 1 F_is_integer (mCons (mVar 0) mNil)) (mChain oLe oLe (mVar 1) (mVar 0) (mVar 2))))
/-- is_key(thing); 0 thing, 1 sign -/
def m_is_key : WS := (mSeqS (mIfS (mOrT (mNotT (mTru (isiM (ansB "str") (mVar 0)))) (mNotT (mTst (mChain oLe oLe (mC (.int 1)) (mCB (oneF lenG) (mCons (mVar 0) mNil)) (mC gd_MOST_LETTERS)))))
    (mRet (mC (.bl false)))
    mNext)
    (mRet (mCB (oneF allG) (mCons (mLc (mSeq (mVar 0)) (gmName 1) mYes (mOp (inD false) (mVar 1) (mC gd_LETTERS)) [1]) mNil))))
/-- is_name(thing); 0 thing, 1 sign -/
def m_is_name : WS := (mSeqS (mIfS (mOrT (mNotT (mTru (isiM (ansB "str") (mVar 0)))) (mOrT (mNotT (mTst (mChain oLe oLe (mC (.int 1)) (mCB (oneF lenG) (mCons (mVar 0) mNil)) (mC gd_MOST_NAME)))) (mTst (mOp (inD false) (mVar 0) (mC gd_WORDS)))))
    (mRet (mC (.bl false)))
    mNext)
    (mRet (mCB (oneF allG) (mCons (mLc (mSeq (mVar 0)) (gmName 1) mYes (mOp (inD false) (mVar 1) (mC gd_LETTERS)) [1]) mNil))))
theorem p_is_integer (ds : List D) (s : Sto) (Q : QD) (X : QX) (h : F_is_integer ds s Q X) : m_is_integer (startL 1 ds) s (endF Q X) := by
  obtain ⟨x, n, rfl, g, q⟩ := h
  unfold m_is_integer
  walk_at "mir"
  rw [g.kd]
  walk_at "mir"
  rw [g.ansI, g.ansB]
  cases x <;> exact q
theorem p_is_within (ds : List D) (s : Sto) (Q : QD) (X : QX) (h : F_is_within ds s Q X) : m_is_within (startL 3 ds) s (endF Q X) := by
  obtain ⟨x, n, a, b, rfl, g, q⟩ := h
  unfold m_is_within
  walk_at "mir"
  refine ⟨x, n, rfl, g, ?_⟩
  cases x <;> first
    | exact q
    | skip
  rename_i i
  walk_at "mir"
  refine (if_pos rfl).mpr ?_
  refine iteBt (fun e => ?_) (fun e => ?_)
  · rw [show isW a b (.int i) = (decide (a ≤ i) && decide (i ≤ b)) from rfl, show decide (a ≤ i) = true from e] at q
    exact q
  · rw [show isW a b (.int i) = (decide (a ≤ i) && decide (i ≤ b)) from rfl, show decide (a ≤ i) = false from e] at q
    exact q
/-- all([sign in LETTERS for sign in thing]) -/
theorem p_letters {s : Str} {l : LL} {j : Nat} {st : Sto} {Q : QD} {mz : WE} {gd : Sto → Prop} (hg : gd st) (hm : ∀ l st (Q : QD) X, mz l st Q X = Q (.str letters) st) (hs : s.length ≤ sizeLine) (hj : j < l.length) (q : Q (.bl (letB s)) st) :
    lcW (gmName j) mYes (mOp (inD false) (mVar j) mz) l gd (fun acc s2 => tO (allG s2 (D.vl acc)) fun y => Q y s2) (signsD s) [] st := by
  refine lcW_map (fun d => match d with
    | .str z => .bl (decide (z.cps.toList.headD 0 ∈ letters.cps.toList))
    | _ => .non) hg _ (by unfold signsD; rw [List.length_map]; exact hs) (fun d hd R S h => ?_) ?_
  · unfold signsD at hd
    obtain ⟨c, hc, rfl⟩ := List.mem_map.mp hd
    show (mOp (inD false) (mVar j) mz) (l.set j (some (.str ⟨#[c]⟩))) st R X0
    have e : (l.set j (some (.str ⟨#[c]⟩)))[j]? = some (some (.str ⟨#[c]⟩)) := by
      rw [List.getElem?_set_self hj]
    simp only [mOp, mVar_eq, e, tO_some, hm]
    exact inD_sign h
  · have e : (signsD s).map (fun d => match d with
      | .str z => D.bl (decide (z.cps.toList.headD 0 ∈ letters.cps.toList))
      | _ => .non) = s.cps.toList.map fun c => .bl (decide (c ∈ letters.cps.toList)) := by
      unfold signsD
      rw [List.map_map]
      rfl
    rw [e, allG_map]
    exact q
theorem le_size {z : Str} (h : z.length ≤ 1000) : z.length ≤ sizeLine := by
  unfold sizeLine
  omega
theorem le_sizeL {α : Type} {l : List α} (h : l.length ≤ 1000) : l.length ≤ sizeLine := by
  unfold sizeLine
  omega
theorem p_is_key (ds : List D) (s : Sto) (Q : QD) (X : QX) (h : F_is_key ds s Q X) : m_is_key (startL 2 ds) s (endF Q X) := by
  obtain ⟨x, n, rfl, g, q⟩ := h
  unfold m_is_key
  simp only [mSeqS, mIfS, mOrT, mNotT, mTru_eq, isiM_eq, mVar_eq, startL, List.map_cons, List.map_nil, List.length_cons, List.length_nil, Nat.reduceAdd, Nat.reduceSub, List.replicate, List.cons_append, List.nil_append, List.getElem?_cons_zero, tO_some, g.kd, g.ansS, truD_bl]
  cases x <;> first
    | exact q
    | skip
  rename_i z
  have hz := le_size g.str.1
  refine iteBt (fun e => (by cases e)) fun _ => ?_
  walk_at "mir"
  rw [lenG_str hz]
  walk_at "mir"
  simp only [gd_MOST_LETTERS, ordD_int, tbl_bl]
  refine iteBt (fun e => iteBt (fun e2 => ?_) fun e2 => ?_) fun e => ?_
  · simp only [Bool.not_eq_true'] at e2
    simpa [isLet, e2] using q
  · simp only [Bool.not_eq_false'] at e2
    refine p_letters trivial (fun _ _ _ _ => rfl) hz (by simp) ?_
    simpa [isLet, show decide (1 ≤ (z.length : Int)) = true from e, show decide ((z.length : Int) ≤ 12) = true from e2] using q
  · simpa [isLet, show decide (1 ≤ (z.length : Int)) = false from e] using q
theorem p_is_name (ds : List D) (s : Sto) (Q : QD) (X : QX) (h : F_is_name ds s Q X) : m_is_name (startL 2 ds) s (endF Q X) := by
  obtain ⟨x, n, rfl, g, q⟩ := h
  unfold m_is_name
  simp only [mSeqS, mIfS, mOrT, mNotT, mTru_eq, isiM_eq, mVar_eq, startL, List.map_cons, List.map_nil, List.length_cons, List.length_nil, Nat.reduceAdd, Nat.reduceSub, List.replicate, List.cons_append, List.nil_append, List.getElem?_cons_zero, tO_some, g.kd, g.ansS, truD_bl]
  cases x <;> first
    | exact q
    | skip
  rename_i z
  have hz := le_size g.str.1
  refine iteBt (fun e => (by cases e)) fun _ => ?_
  walk_at "mir"
  rw [lenG_str hz]
  walk_at "mir"
  simp only [gd_MOST_NAME, gd_WORDS, inD_strs, ordD_int, tbl_bl]
  refine iteBt (fun e => iteBt (fun e2 => ?_) fun e2 => ?_) fun e => ?_
  · simp only [Bool.not_eq_true'] at e2
    simpa [isNm, e2] using q
  · simp only [Bool.not_eq_false'] at e2
    refine iteBt (fun e3 => ?_) fun e3 => ?_
    · simp at e3
      simpa [isNm, e3] using q
    · refine p_letters trivial (fun _ _ _ _ => rfl) hz (by simp) ?_
      simp at e3
      simpa [isNm, e3, show decide (1 ≤ (z.length : Int)) = true from e, show decide ((z.length : Int) ≤ 8) = true from e2] using q
  · simpa [isNm, show decide (1 ≤ (z.length : Int)) = false from e] using q
end K87

set_option Elab.async false
set_option linter.all false
set_option maxRecDepth 100000
set_option maxHeartbeats 400000
/-! K87C: parts_in and what asks it. -/
namespace K87
open PySem PySem.Spec PyProof.Rows L2 Mir
local macro_rules | `(tactic| walk_at "mir") => `(tactic| try simp only [mIfS, mSeqS, mRet, mAsg, gmName, gmTup_tup, gmCons_cons, gmNil, mVar_eq, mC, mOp, mCons, mNil, mTup, mLst, mLstR, mCall, mCB, oneF_eq, mTst_eq, mNotT, mAndT, mOrT, mTru_eq, truD_bl, mUn, mIf, mAndV_eq, mOrV_eq, mNotV_eq, mNeg_eq, mSl, mNoPart, mPart_eq, intD_eq, addD_int, addD_str, addD_tup, addD_vl, ordD_int, ordD_str, mChain_eq, isiM_eq, mNext, mFor, mSeq_eq, tSeq1_str, tSeq1_tup, tSeq1_vl, tSeq1_sq, mRange1_eq, tRng1_int, mEnum_eq, tEnum_tup, mAug_eq, mLc, mYes, startL, endF, tbl_bl, tint_int, tO_some, eqD_int, eqD_str, ixD_tup, ixD_vl, slD_tup, slD_vl, slD_sq, slD_str, lenG_tup, lenG_vl, isBlD_eq, List.length_cons, List.length_nil, List.map_cons, List.map_nil, List.replicate, Nat.reduceAdd, Nat.reduceSub, List.cons_append, List.nil_append, List.append_nil, List.getElem?_cons_succ, List.getElem?_cons_zero, List.set_cons_succ, List.set_cons_zero, true_and, and_true, Bool.not_true, Bool.not_false, Bool.false_eq_true, if_true, if_false, ite_true, ite_false, not_true, not_false_iff, Bool.true_eq_false, reduceCtorEq, wipeL])

/-- parts_in(thing, deep); 0 thing, 1 deep, 2 found, 3 part, 4 many -/
def m_parts_in (Fr : List D → WD) : WS := (mSeqS (mIfS (mOrT (mNotT (mTru (isiM (ansB "tuple") (mVar 0)))) (mOrT (mTst (mOp oLt (mCB (oneF lenG) (mCons (mVar 0) mNil)) (mC (.int 2)))) (mOrT (mNotT (mTru (isiM (ansB "str") (mOp ixD (mVar 0) (mC (.int 0)))))) (mTst (mOp (eqD false) (mVar 1) (mC (.int 0)))))))
    (mRet (mC .non))
    mNext)
    (mSeqS (mIfS (mAndT (mTst (mOp (eqD false) (mCB (oneF lenG) (mCons (mVar 0) mNil)) (mC (.int 2)))) (mTst (mOp (eqD false) (mOp ixD (mVar 0) (mC (.int 0))) (mC (.str "num")))))
    (mRet (mIf (mTru (mCall 3 F_is_within (mCons (mOp ixD (mVar 0) (mC (.int 1))) (mCons (mNeg (mC gd_MOST_WORTH)) (mCons (mC gd_MOST_WORTH) mNil))))) (mC (.int 1)) (mC .non)))
    mNext)
    (mSeqS (mIfS (mAndT (mTst (mOp (eqD false) (mCB (oneF lenG) (mCons (mVar 0) mNil)) (mC (.int 2)))) (mTst (mOp (eqD false) (mOp ixD (mVar 0) (mC (.int 0))) (mC (.str "key")))))
    (mRet (mIf (mTru (mCall 1 F_is_key (mCons (mOp ixD (mVar 0) (mC (.int 1))) mNil))) (mC (.int 1)) (mC .non)))
    mNext)
    (mSeqS (mIfS (mAndT (mTst (mOp (eqD false) (mCB (oneF lenG) (mCons (mVar 0) mNil)) (mC (.int 2)))) (mTst (mOp (eqD false) (mOp ixD (mVar 0) (mC (.int 0))) (mC (.str "name")))))
    (mRet (mIf (mTru (mCall 1 F_is_name (mCons (mOp ixD (mVar 0) (mC (.int 1))) mNil))) (mC (.int 1)) (mC .non)))
    mNext)
    (mSeqS (mIfS (mOrT (mAndT (mTst (mOp (eqD true) (mOp ixD (mVar 0) (mC (.int 0))) (mC (.str "not")))) (mTst (mOp (inD true) (mOp ixD (mVar 0) (mC (.int 0))) (mC gd_SIGNS)))) (mTst (mOp (eqD true) (mCB (oneF lenG) (mCons (mVar 0) mNil)) (mIf (mTst (mOp (eqD false) (mOp ixD (mVar 0) (mC (.int 0))) (mC (.str "not")))) (mC (.int 2)) (mC (.int 3))))))
    (mRet (mC .non))
    mNext)
    (mSeqS (mAsg (mC (.int 1)) (gmName 2))
    (mSeqS (mFor (mSeq (mSl (mVar 0) (mPart (mC (.int 1))) mNoPart)) (gmName 3)
    (mSeqS (mAsg (mCall 2 Fr (mCons (mVar 3) (mCons (mOp iSub (mVar 1) (mC (.int 1))) mNil))) (gmName 4))
    (mSeqS (mIfS (mTst (mUn (fun d => .bl (isNon d)) (mVar 4)))
    (mRet (mC .non))
    mNext)
    (mAug 2 iAdd (mVar 4)))))
    (mRet (mVar 2)))))))))
theorem p_parts_head {d : Nat} {Fr : Fn} {x : D} {n : Nat} {s : Sto} {Q : QD} {X : QX} (g : Gd n x) (q : Q (optI (parts d x)) s)
    (k : ∀ w z r, x = .tup (.str w :: z :: r) → 0 < d → m_parts_in Fr (startL 5 [x, .int d]) s (endF Q X)) : m_parts_in Fr (startL 5 [x, .int d]) s (endF Q X) := by
  by_cases hx : ∃ w z r, x = .tup (.str w :: z :: r) ∧ 0 < d
  · obtain ⟨w, z, r, e, hd⟩ := hx
    exact k w z r e hd
  have hp : parts d x = none := by
    cases d with
    | zero => rfl
    | succ d =>
      unfold parts
      cases x with
      | tup l =>
        cases l with
        | nil => rfl
        | cons y l =>
          cases y with
          | str w =>
            cases l with
            | nil => rfl
            | cons z r => exact absurd ⟨w, z, r, rfl, Nat.succ_pos d⟩ hx
          | _ => rfl
      | _ => rfl
  rw [hp] at q
  unfold m_parts_in
  refine sq_g (b := true) (fun R Y t => ?_) (fun _ => q) fun e => by cases e
  simp only [mOrT, mNotT, mTru_eq, isiM_eq, mVar_eq, startL, List.map_cons, List.map_nil, List.length_cons, List.length_nil, Nat.reduceAdd, Nat.reduceSub, List.replicate, List.cons_append, List.nil_append, List.getElem?_cons_zero, tO_some, g.kd, g.ansT, truD_bl]
  cases x with
  | tup l =>
    refine iteBt (fun e => by cases e) fun _ => ?_
    walk_at "mir"
    refine iteBt (fun e => t) fun e => ?_
    have e : ¬ ((l.length : Int) < 2) := of_decide_eq_false e
    cases l with
    | nil => exact absurd (by decide) e
    | cons y l =>
      cases l with
      | nil => exact absurd (show (1 : Int) < 2 by decide) e
      | cons z r =>
        rw [atI_zero]
        have gy : Gd n y := g.at_ (by simp)
        simp only [tO_some, gy.kd, gy.ansS, truD_bl]
        cases y with
        | str w =>
          refine iteBt (fun e => by cases e) fun _ => ?_
          have hd : d = 0 := by
            rcases Nat.eq_zero_or_pos d with h | h
            · exact h
            · exact absurd ⟨w, z, r, rfl, h⟩ hx
          subst hd
          exact t
        | _ => exact t
  | _ => exact t
theorem sumO_none {l : List (Option Nat)} {a : Nat} (h : none ∈ l) : sumO l a = none := by
  induction l generalizing a with
  | nil => cases h
  | cons o r ih =>
    cases o with
    | none => rfl
    | some k => exact ih (by simpa using h)
theorem p_parts_loop {d : Nat} {n : Nat} {v0 v1 : Option D} {s : Sto} {Q : QD} {E : EndM} {ks : WS} (hrt : E.rt = Q) (hv : v1 = some (.int ((d + 1 : Nat) : Int))) :
    ∀ (its : List D) (a : Nat) (v3 v4 : Option D), (∀ x ∈ its, Gd n x) → Q (optI (sumO (its.map (parts d)) a)) s → (∀ a' v3' v4', sumO (its.map (parts d)) a = some a' → ks [v0, v1, some (.int a'), v3', v4'] s E) →
    loopW (gmName 3) (fun _ => True) (mSeqS (mAsg (mCall 2 (Fd_parts d) (mCons (mVar 3) (mCons (mOp iSub (mVar 1) (mC (.int 1))) mNil))) (gmName 4)) (mSeqS (mIfS (mTst (mUn (fun d => .bl (isNon d)) (mVar 4))) (mRet (mC .non)) mNext) (mAug 2 iAdd (mVar 4))))
      its [v0, v1, some (.int a), v3, v4] s { E with nx := fun l' s' => ks l' s' E }
  | [], a, v3, v4, _, q, hk => ⟨trivial, hk a v3 v4 rfl⟩
  | x :: r, a, v3, v4, g, q, hk => by
    refine ⟨trivial, ?_⟩
    subst hv
    refine sq_do ?_
    walk_at "mir"
    refine ⟨x, n, by rw [show ((d + 1 : Nat) : Int) - 1 = (d : Int) by omega], g x (by simp), ?_⟩
    cases e : parts d x with
    | none =>
      refine (if_pos (show isNon (optI none) = true from rfl)).mpr ?_
      rw [hrt]
      have := q
      rw [List.map_cons, e] at this
      exact this
    | some k =>
      rw [if_neg (show ¬ isNon (optI (some k)) = true from fun z => nomatch z)]
      rw [List.map_cons, e] at q
      have ih := p_parts_loop (v0 := v0) (E := E) (ks := ks) hrt rfl r (a + k) (some x) (some (optI (some k))) (fun y hy => g y (by simp [hy])) q (fun a' v3' v4' h => hk a' v3' v4' (by rw [List.map_cons, e]; exact h))
      refine ⟨trivial, ?_⟩
      have ea : ((a : Int) + (k : Int)) = ((a + k : Nat) : Int) := by omega
      show loopW _ _ _ r [v0, _, some (.int ((a : Int) + (k : Int))), some x, some (optI (some k))] s _
      rw [ea]
      exact ih
theorem p_leaf {F : WD} {b : Bool} {ma : WE} {l : LL} {s : Sto} {Q : QD} {X : QX} (hF : ∀ R Y, R (.bl b) s → F s R Y) (hm : ∀ (R : QD) (Y : QX), F s R Y → ma l s R Y) (q : Q (optI (if b = true then some 1 else none)) s) : mIf (mTru ma) (mC (.int 1)) (mC .non) l s Q X := by
  unfold mIf
  rw [mTru_eq]
  refine hm _ _ (hF _ _ ?_)
  show (if b = true then Q (.int 1) s else Q .non s)
  cases b <;> exact q
theorem p_two {w z : _} {r : List D} {k : Str} {v1 v2 v3 v4 : Option D} {s : Sto} {R : Bool → Sto → Prop} {Y : QX} (t : R (decide (r.length + 1 = 1 ∧ w = k)) s) :
    mAndT (mTst (mOp (eqD false) (mCB (oneF lenG) (mCons (mVar 0) mNil)) (mC (.int 2)))) (mTst (mOp (eqD false) (mOp ixD (mVar 0) (mC (.int 0))) (mC (.str k)))) [some (.tup (.str w :: z :: r)), v1, v2, v3, v4] s R Y := by
  walk_at "mir"
  rw [atI_zero]
  walk_at "mir"
  by_cases h1 : r.length = 0
  · rw [h1] at t ⊢
    refine (if_pos (by decide)).mpr ?_
    simpa using t
  · rw [if_neg (by simp; omega)]
    simpa [h1] using t
theorem p_parts (d : Nat) (Fr : Fn) (hFr : ∀ d', d = d' + 1 → Fr = Fd_parts d') (ds : List D) (s : Sto) (Q : QD) (X : QX) (h : Fd_parts d ds s Q X) : m_parts_in Fr (startL 5 ds) s (endF Q X) := by
  obtain ⟨x, n, rfl, g, q⟩ := h
  refine p_parts_head g q fun w z r ex hd => ?_
  subst ex
  obtain ⟨d, rfl⟩ : ∃ d', d = d' + 1 := ⟨d - 1, by omega⟩
  have := hFr d rfl
  subst this
  have hl : (r.length + 1 + 1 : Nat) ≤ 1000 := g.tupI.1
  have gz : Gd n z := g.at_ (by simp)
  have gw : Gd n (.str w) := g.at_ (by simp)
  have hp : parts (d + 1) (.tup (.str w :: z :: r)) = (if (r.length + 1) = 1 ∧ w = "num" then (if isW (-1000000000000000000) 1000000000000000000 z = true then some 1 else none)
      else if (r.length + 1) = 1 ∧ w = "key" then (if isLet 12 z = true then some 1 else none)
      else if (r.length + 1) = 1 ∧ w = "name" then (if isNm z = true then some 1 else none)
      else if (w ≠ "not" ∧ signL.contains w = false) ∨ (r.length + 1) ≠ (if w = "not" then 1 else 2) then none
      else sumO ((z :: r).map (parts d)) 1) := rfl
  rw [hp] at q
  unfold m_parts_in
  refine sq_g (b := false) (fun R Y t => ?_) (fun e => by cases e) fun _ => ?_
  · walk_at "mir"
    rw [g.kd]
    simp only [tO_some, g.ansT, truD_bl]
    refine iteBt (fun e => by cases e) fun _ => iteBt (fun e => ?_) fun _ => ?_
    · have e : (((r.length + 1 + 1 : Nat)) : Int) < 2 := of_decide_eq_true e
      omega
    · rw [atI_zero]
      simp only [tO_some, gw.kd, gw.ansS, truD_bl]
      refine iteBt (fun e => by cases e) fun _ => ?_
      have e : decide (((d + 1 : Nat) : Int) = 0) = false := decide_eq_false (by omega)
      rw [e]
      exact t
  refine sq_g (b := decide (r.length + 1 = 1 ∧ w = "num")) (fun R Y t => ?_) (fun e => ?_) fun e => ?_
  · exact p_two t
  · rw [if_pos (of_decide_eq_true e)] at q
    refine p_leaf (F := F_is_within [z, .int (-1000000000000000000), .int 1000000000000000000]) (b := isW (-1000000000000000000) 1000000000000000000 z) (fun R Y t => ⟨z, n, _, _, rfl, gz, t⟩) (fun R Y t => ?_) q
    walk_at "mir"
    rw [atI_one]
    exact t
  rw [if_neg (of_decide_eq_false e)] at q
  clear e
  refine sq_g (b := decide (r.length + 1 = 1 ∧ w = "key")) (fun R Y t => ?_) (fun e => ?_) fun e => ?_
  · exact p_two t
  · rw [if_pos (of_decide_eq_true e)] at q
    refine p_leaf (F := F_is_key [z]) (b := isLet 12 z) (fun R Y t => ⟨z, n, rfl, gz, t⟩) (fun R Y t => ?_) q
    walk_at "mir"
    rw [atI_one]
    exact t
  rw [if_neg (of_decide_eq_false e)] at q
  clear e
  refine sq_g (b := decide (r.length + 1 = 1 ∧ w = "name")) (fun R Y t => ?_) (fun e => ?_) fun e => ?_
  · exact p_two t
  · rw [if_pos (of_decide_eq_true e)] at q
    refine p_leaf (F := F_is_name [z]) (b := isNm z) (fun R Y t => ⟨z, n, rfl, gz, t⟩) (fun R Y t => ?_) q
    walk_at "mir"
    rw [atI_one]
    exact t
  rw [if_neg (of_decide_eq_false e)] at q
  clear e
  refine sq_g (b := decide ((w ≠ "not" ∧ signL.contains w = false) ∨ (r.length + 1) ≠ (if w = "not" then 1 else 2))) (fun R Y t => ?_) (fun e => ?_) fun e => ?_
  · walk_at "mir"
    rw [atI_zero]
    walk_at "mir"
    simp only [gd_SIGNS, inD_strs, tbl_bl, if_true]
    by_cases h1 : w = "not"
    · subst h1
      by_cases h3 : r.length = 0
      · simp [h3] at t ⊢
        exact t
      · simp [h3] at t ⊢
        rw [decide_eq_false (by omega)]
        exact t
    · by_cases h2 : w ∈ signL
      · by_cases h3 : r.length = 1
        · simp [h1, h2, h3] at t ⊢
          exact t
        · simp [h1, h2, h3] at t ⊢
          rw [decide_eq_false (by omega)]
          exact t
      · simp [h1, h2] at t ⊢
        exact t
  · rw [if_pos (of_decide_eq_true e)] at q
    exact q
  rw [if_neg (of_decide_eq_false e)] at q
  refine sq_set (d := .int 1) (fun R Y t => t) ?_
  refine sq_forI (its := z :: r) (gd := fun _ => True) (fun R Y t => ?_) ?_
  · walk_at "mir"
    rw [show ((1 : Int)) = ((1 : Nat) : Int) from rfl, cutD_from]
    exact t
  refine p_parts_loop (E := endF Q X) (ks := mRet (mVar 2)) (Q := Q) rfl rfl (z :: r) 1 none none (fun x hx => g.at_ (by simp only [List.mem_cons] at hx ⊢; exact .inr hx)) q (fun a' v3 v4 h => ?_)
  rw [h] at q
  exact q
end K87

set_option Elab.async false
set_option linter.all false
set_option maxRecDepth 100000
set_option maxHeartbeats 400000
/-! K87D: statements one by one: is_expression, is_plain_statement, has_own_parts, blocks_of. -/
namespace K87
open PySem PySem.Spec PyProof.Rows L2 Mir
local macro_rules | `(tactic| walk_at "mir") => `(tactic| try simp only [mIfS, mSeqS, mRet, mAsg, gmName, gmTup_tup, gmCons_cons, gmNil, mVar_eq, mC, mOp, mCons, mNil, mTup, mLst, mLstR, mCall, mCB, oneF_eq, mTst_eq, mNotT, mAndT, mOrT, mTru_eq, truD_bl, mUn, mIf, mAndV_eq, mOrV_eq, mNotV_eq, mNeg_eq, mSl, mNoPart, mPart_eq, intD_eq, addD_int, addD_str, addD_tup, addD_vl, ordD_int, ordD_str, mChain_eq, isiM_eq, mNext, mFor, mSeq_eq, tSeq1_str, tSeq1_tup, tSeq1_vl, tSeq1_sq, mRange1_eq, tRng1_int, mEnum_eq, tEnum_tup, mAug_eq, mLc, mYes, startL, endF, tbl_bl, tint_int, tO_some, eqD_int, eqD_str, ixD_tup, ixD_vl, slD_tup, slD_vl, slD_sq, slD_str, lenG_tup, lenG_vl, isBlD_eq, List.length_cons, List.length_nil, List.map_cons, List.map_nil, List.replicate, Nat.reduceAdd, Nat.reduceSub, List.cons_append, List.nil_append, List.append_nil, List.getElem?_cons_succ, List.getElem?_cons_zero, List.set_cons_succ, List.set_cons_zero, true_and, and_true, Bool.not_true, Bool.not_false, Bool.false_eq_true, if_true, if_false, ite_true, ite_false, not_true, not_false_iff, Bool.true_eq_false, reduceCtorEq, wipeL])

/-- is_expression(thing); 0 thing, 1 many -/
def m_is_expression : WS := (mSeqS (mAsg (mCall 2 F_parts_in (mCons (mVar 0) (mCons (mC gd_MOST_DEEP) mNil))) (gmName 1))
    (mRet (mAndV (mUn (fun d => .bl (!isNon d)) (mVar 1)) (mOp oLe (mVar 1) (mC gd_MOST_PARTS)))))
/-- is_plain_statement(thing); 0 thing, 1 word -/
def m_is_plain_statement : WS := (mSeqS (mAsg (mOp ixD (mVar 0) (mC (.int 0))) (gmName 1))
    (mSeqS (mIfS (mOrT (mTst (mOp (eqD false) (mVar 1) (mC (.str "let")))) (mTst (mOp (eqD false) (mVar 1) (mC (.str "get")))))
    (mRet (mAndV (mOp (eqD false) (mCB (oneF lenG) (mCons (mVar 0) mNil)) (mC (.int 3))) (mAndV (mCall 1 F_is_name (mCons (mOp ixD (mVar 0) (mC (.int 1))) mNil)) (mCall 1 F_is_expression (mCons (mOp ixD (mVar 0) (mC (.int 2))) mNil)))))
    mNext)
    (mSeqS (mIfS (mTst (mOp (eqD false) (mVar 1) (mC (.str "put"))))
    (mRet (mAndV (mOp (eqD false) (mCB (oneF lenG) (mCons (mVar 0) mNil)) (mC (.int 3))) (mAndV (mCall 1 F_is_expression (mCons (mOp ixD (mVar 0) (mC (.int 1))) mNil)) (mCall 1 F_is_expression (mCons (mOp ixD (mVar 0) (mC (.int 2))) mNil)))))
    mNext)
    (mSeqS (mIfS (mOrT (mTst (mOp (eqD false) (mVar 1) (mC (.str "drop")))) (mTst (mOp (eqD false) (mVar 1) (mC (.str "say")))))
    (mRet (mAndV (mOp (eqD false) (mCB (oneF lenG) (mCons (mVar 0) mNil)) (mC (.int 2))) (mCall 1 F_is_expression (mCons (mOp ixD (mVar 0) (mC (.int 1))) mNil))))
    mNext)
    (mRet (mAndV (mOp (eqD false) (mVar 1) (mC (.str "fail"))) (mOp (eqD false) (mCB (oneF lenG) (mCons (mVar 0) mNil)) (mC (.int 1)))))))))
/-- has_own_parts(thing); 0 thing, 1 word -/
def m_has_own_parts : WS := (mSeqS (mAsg (mOp ixD (mVar 0) (mC (.int 0))) (gmName 1))
    (mSeqS (mIfS (mTst (mOp (eqD false) (mVar 1) (mC (.str "for"))))
    (mSeqS (mIfS (mOrT (mTst (mOp (eqD true) (mCB (oneF lenG) (mCons (mVar 0) mNil)) (mC (.int 6)))) (mOrT (mNotT (mTru (mCall 1 F_is_name (mCons (mOp ixD (mVar 0) (mC (.int 1))) mNil)))) (mNotT (mTru (mCall 1 F_is_name (mCons (mOp ixD (mVar 0) (mC (.int 2))) mNil))))))
    (mRet (mC (.bl false)))
    mNext)
    (mRet (mAndV (mCall 1 F_is_expression (mCons (mOp ixD (mVar 0) (mC (.int 3))) mNil)) (mCall 1 F_is_expression (mCons (mOp ixD (mVar 0) (mC (.int 4))) mNil)))))
    mNext)
    (mSeqS (mIfS (mTst (mOp (eqD false) (mVar 1) (mC (.str "if"))))
    (mRet (mAndV (mOp (eqD false) (mCB (oneF lenG) (mCons (mVar 0) mNil)) (mC (.int 4))) (mCall 1 F_is_expression (mCons (mOp ixD (mVar 0) (mC (.int 1))) mNil))))
    mNext)
    (mRet (mAndV (mOp (eqD false) (mVar 1) (mC (.str "while"))) (mAndV (mOp (eqD false) (mCB (oneF lenG) (mCons (mVar 0) mNil)) (mC (.int 4))) (mAndV (mCall 1 F_is_expression (mCons (mOp ixD (mVar 0) (mC (.int 1))) mNil)) (mCall 3 F_is_within (mCons (mOp ixD (mVar 0) (mC (.int 2))) (mCons (mC (.int 1)) (mCons (mC gd_MOST_ROUNDS) mNil)))))))))))
/-- blocks_of(statement); 0 statement -/
def m_blocks_of : WS := (mSeqS (mIfS (mTst (mOp (eqD false) (mOp ixD (mVar 0) (mC (.int 0))) (mC (.str "for"))))
    (mRet (mSl (mVar 0) (mPart (mC (.int 5))) mNoPart))
    mNext)
    (mSeqS (mIfS (mTst (mOp (eqD false) (mOp ixD (mVar 0) (mC (.int 0))) (mC (.str "if"))))
    (mRet (mSl (mVar 0) (mPart (mC (.int 2))) mNoPart))
    mNext)
    (mRet (mIf (mTst (mOp (eqD false) (mOp ixD (mVar 0) (mC (.int 0))) (mC (.str "while")))) (mSl (mVar 0) (mPart (mC (.int 3))) mNoPart) (mTup mNil)))))
theorem p_is_expression (ds : List D) (s : Sto) (Q : QD) (X : QX) (h : F_is_expression ds s Q X) : m_is_expression (startL 2 ds) s (endF Q X) := by
  obtain ⟨x, n, rfl, g, q⟩ := h
  unfold m_is_expression
  refine sq_do ?_
  walk_at "mir"
  refine ⟨x, n, rfl, g, ?_⟩
  unfold isExpr at q
  cases e : parts 8 x with
  | none =>
    rw [e] at q
    exact q
  | some k =>
    rw [e] at q
    exact q
/-- the length of a statement, its first word -/
theorem w_zero {w : Str} {r : List D} : atI (D.str w :: r) 0 = some (.str w) := atI_zero
section
variable {w : Str} {r : List D} {n : Nat} {s : Sto} {Q : QD} {X : QX}
theorem e_word {r : List D} {v : Option D} : EvE (mOp ixD (mVar 0) (mC (.int 0))) [some (.tup (.str w :: r)), v] s (.str w) := fun R Y t => by
  walk_at "mir"
  rw [w_zero]
  exact t
theorem e_len {r : List D} {v : Option D} (k : Nat) : EvE (mOp (eqD false) (mCB (oneF lenG) (mCons (mVar 0) mNil)) (mC (.int ((k : Nat) : Int)))) [some (.tup (.str w :: r)), v] s (.bl (decide (r.length + 1 = k))) := fun R Y t => by
  walk_at "mir"
  have e : decide (((r.length + 1 : Nat) : Int) = (k : Int)) = decide (r.length + 1 = k) := by
    by_cases h : r.length + 1 = k
    · rw [decide_eq_true h, decide_eq_true (by omega)]
    · rw [decide_eq_false h, decide_eq_false (by omega)]
  show R (.bl (decide (((r.length + 1 : Nat) : Int) = (k : Int)))) s
  rw [e]
  exact t
theorem e_is {k : Str} {x : D} : EvT (mTst (mOp (eqD false) (mVar 1) (mC (.str k)))) [some x, some (.str w)] s (decide (w = k)) := fun R Y t => by
  walk_at "mir"
  exact t
theorem e_or {k k' : Str} {x : D} : EvT (mOrT (mTst (mOp (eqD false) (mVar 1) (mC (.str k)))) (mTst (mOp (eqD false) (mVar 1) (mC (.str k'))))) [some x, some (.str w)] s (decide (w = k ∨ w = k')) := fun R Y t => by
  walk_at "mir"
  by_cases h : w = k
  · simpa [h] using t
  · simpa [h] using t
/-- the i-th entry asked -/
theorem e_at {F : Fn} {y : D} {i : Int} {b : Bool} {v : Option D} (hF : ∀ R Y, R (.bl b) s → F [y] s R Y) (hi : atI (D.str w :: r) i = some y) : EvE (mCall 1 F (mCons (mOp ixD (mVar 0) (mC (.int i))) mNil)) [some (.tup (.str w :: r)), v] s (.bl b) := fun R Y t => by
  walk_at "mir"
  rw [hi]
  exact hF R Y t
theorem e_and {a b : WE} {l : LL} {c d : Bool} (ha : EvE a l s (.bl c)) (hb : c = true → EvE b l s (.bl d)) : EvE (mAndV a b) l s (.bl (c && d)) := fun R Y t => by
  rw [mAndV_eq]
  refine ha _ _ ?_
  cases c with
  | true =>
    rw [tbl_bl, if_pos rfl]
    exact hb rfl R Y t
  | false => exact t
theorem EvE.eq {m : WE} {l : LL} {d d' : D} (h : EvE m l s d) (e : d = d') : EvE m l s d' := e ▸ h
end
theorem p_is_plain_statement (ds : List D) (s : Sto) (Q : QD) (X : QX) (h : F_is_plain_statement ds s Q X) : m_is_plain_statement (startL 2 ds) s (endF Q X) := by
  obtain ⟨w, r, n, rfl, g, q⟩ := h
  have gr : ∀ x ∈ r, Gd n x := fun x hx => g.at_ (by simp [hx])
  have hE : ∀ x ∈ r, ∀ R Y, R (.bl (isExpr x)) s → F_is_expression [x] s R Y := fun x hx R Y t => ⟨x, n, rfl, gr x hx, t⟩
  have hN : ∀ x ∈ r, ∀ R Y, R (.bl (isNm x)) s → F_is_name [x] s R Y := fun x hx R Y t => ⟨x, n, rfl, gr x hx, t⟩
  unfold isPlain at q
  unfold m_is_plain_statement
  refine sq_set e_word ?_
  refine sq_g e_or (fun e => ?_) fun e => ?_
  · rw [if_pos (of_decide_eq_true e)] at q
    match r, hE, hN, q with
    | [a, b], hE, hN, q =>
      exact (e_and (e_len 3) fun _ => e_and (e_at (hN a (by simp)) atI_one) fun _ => e_at (hE b (by simp)) atI_two) _ _ q
    | [], _, _, q => exact (e_and (d := false) (e_len 3) fun z => by cases z) _ _ q
    | [a], _, _, q => exact (e_and (d := false) (e_len 3) fun z => by cases z) _ _ q
    | a :: b :: c :: r, _, _, q =>
      refine (e_and (d := false) (e_len 3) fun z => ?_) _ _ ?_
      · simp at z
      · show Q _ s
        simpa using q
  rw [if_neg (of_decide_eq_false e)] at q
  clear e
  refine sq_g e_is (fun e => ?_) fun e => ?_
  · rw [if_pos (of_decide_eq_true e)] at q
    match r, hE, q with
    | [a, b], hE, q =>
      exact (e_and (e_len 3) fun _ => e_and (e_at (hE a (by simp)) atI_one) fun _ => e_at (hE b (by simp)) atI_two) _ _ q
    | [], _, q => exact (e_and (d := false) (e_len 3) fun z => by cases z) _ _ q
    | [a], _, q => exact (e_and (d := false) (e_len 3) fun z => by cases z) _ _ q
    | a :: b :: c :: r, _, q =>
      refine (e_and (d := false) (e_len 3) fun z => ?_) _ _ ?_
      · simp at z
      · show Q _ s
        simpa using q
  rw [if_neg (of_decide_eq_false e)] at q
  clear e
  refine sq_g e_or (fun e => ?_) fun e => ?_
  · rw [if_pos (of_decide_eq_true e)] at q
    match r, hE, q with
    | [a], hE, q => exact (e_and (e_len 2) fun _ => e_at (hE a (by simp)) atI_one) _ _ q
    | [], _, q => exact (e_and (d := false) (e_len 2) fun z => by cases z) _ _ q
    | a :: b :: r, _, q =>
      refine (e_and (d := false) (e_len 2) fun z => ?_) _ _ ?_
      · simp at z
      · show Q _ s
        simpa using q
  rw [if_neg (of_decide_eq_false e)] at q
  refine (e_and (c := decide (w = "fail")) (d := decide (r.length + 1 = 1)) (fun R Y t => ?_) fun _ => e_len 1) _ _ ?_
  · walk_at "mir"
    exact t
  · show Q _ s
    simpa using q
theorem p_has_own_parts (ds : List D) (s : Sto) (Q : QD) (X : QX) (h : F_has_own_parts ds s Q X) : m_has_own_parts (startL 2 ds) s (endF Q X) := by
  obtain ⟨w, r, n, rfl, g, q⟩ := h
  have gr : ∀ x ∈ r, Gd n x := fun x hx => g.at_ (by simp [hx])
  have hE : ∀ x ∈ r, ∀ R Y, R (.bl (isExpr x)) s → F_is_expression [x] s R Y := fun x hx R Y t => ⟨x, n, rfl, gr x hx, t⟩
  have hN : ∀ x ∈ r, ∀ R Y, R (.bl (isNm x)) s → F_is_name [x] s R Y := fun x hx R Y t => ⟨x, n, rfl, gr x hx, t⟩
  unfold ownParts at q
  unfold m_has_own_parts
  refine sq_set e_word ?_
  refine sq_i e_is (fun e => ?_) fun e => ?_
  · rw [if_pos (of_decide_eq_true e)] at q
    match r, hE, hN, q with
    | [a, b, c, d, x], hE, hN, q =>
      refine sq_g (b := !(isNm a && isNm b)) (fun R Y t => ?_) (fun e => ?_) fun e => ?_
      · walk_at "mir"
        rw [atI_one, atI_two, decide_eq_true (by simp)]
        walk_at "mir"
        refine hN a (by simp) _ _ ?_
        rw [truD_bl, tO_some]
        refine iteBt (fun z => ?_) fun z => hN b (by simp) _ _ ?_
        · simp only [Bool.not_eq_true'] at z
          simpa [z] using t
        · simp only [Bool.not_eq_false'] at z
          rw [truD_bl, tO_some]
          simpa [z] using t
      · simp only [Bool.not_eq_true'] at e
        show Q (.bl false) s
        simpa [e] using q
      · simp only [Bool.not_eq_false'] at e
        refine (e_and (e_at (hE c (by simp)) atI_three) fun _ => e_at (hE d (by simp)) atI_four) _ _ ?_
        show Q _ s
        simpa [e] using q
    | [], _, _, q => exact sq_g (b := true) (fun R Y t => t) (fun _ => q) fun z => by cases z
    | [a], _, _, q => exact sq_g (b := true) (fun R Y t => t) (fun _ => q) fun z => by cases z
    | [a, b], _, _, q => exact sq_g (b := true) (fun R Y t => t) (fun _ => q) fun z => by cases z
    | [a, b, c], _, _, q => exact sq_g (b := true) (fun R Y t => t) (fun _ => q) fun z => by cases z
    | [a, b, c, d], _, _, q => exact sq_g (b := true) (fun R Y t => t) (fun _ => q) fun z => by cases z
    | a :: b :: c :: d :: x :: y :: r, _, _, q =>
      refine sq_g (b := true) (fun R Y t => ?_) (fun _ => ?_) fun z => by cases z
      · walk_at "mir"
        rw [decide_eq_false (by omega)]
        exact t
      · exact q
  rw [if_neg (of_decide_eq_false e)] at q
  clear e
  refine sq_g e_is (fun e => ?_) fun e => ?_
  · rw [if_pos (of_decide_eq_true e)] at q
    match r, hE, q with
    | [a, b, c], hE, q => exact (e_and (e_len 4) fun _ => e_at (hE a (by simp)) atI_one) _ _ q
    | [], _, q => exact (e_and (d := false) (e_len 4) fun z => by cases z) _ _ q
    | [a], _, q => exact (e_and (d := false) (e_len 4) fun z => by cases z) _ _ q
    | [a, b], _, q => exact (e_and (d := false) (e_len 4) fun z => by cases z) _ _ q
    | a :: b :: c :: d :: r, _, q =>
      refine (e_and (d := false) (e_len 4) fun z => ?_) _ _ ?_
      · simp at z
      · show Q _ s
        simpa using q
  rw [if_neg (of_decide_eq_false e)] at q
  clear e
  refine (e_and (c := decide (w = "while")) (d := (match r with
    | [a, b, _] => isExpr a && isW 1 100 b
    | _ => false)) (fun R Y t => by walk_at "mir"; exact t) fun _ => ?_) _ _ ?_
  · have hW : ∀ x ∈ r, ∀ R Y, R (.bl (isW 1 100 x)) s → F_is_within [x, .int 1, .int 100] s R Y := fun x hx R Y t => ⟨x, n, 1, 100, rfl, gr x hx, t⟩
    match r, hE, hW with
    | [a, b, c], hE, hW =>
      refine EvE.eq (d := .bl (decide (([a, b, c] : List D).length + 1 = 4) && (isExpr a && isW 1 100 b))) (e_and (e_len 4) fun _ => e_and (d := isW 1 100 b) (e_at (hE a (by simp)) atI_one) fun _ => fun R Y t => ?_) (by simp)
      walk_at "mir"
      rw [atI_two]
      exact hW b (by simp) R Y t
    | [], _, _ => exact e_and (d := false) (e_len 4) fun z => by cases z
    | [a], _, _ => exact e_and (d := false) (e_len 4) fun z => by cases z
    | [a, b], _, _ => exact e_and (d := false) (e_len 4) fun z => by cases z
    | a :: b :: c :: d :: r, _, _ =>
      refine EvE.eq (d := .bl (decide ((a :: b :: c :: d :: r : List D).length + 1 = 4) && false)) (e_and (d := false) (e_len 4) fun z => ?_) (by simp)
      simp at z
  · show Q _ s
    by_cases e : w = "while"
    · rw [if_pos e] at q
      rw [decide_eq_true e]
      exact q
    · rw [if_neg e] at q
      rw [decide_eq_false e]
      exact q
theorem p_blocks_of (ds : List D) (s : Sto) (Q : QD) (X : QX) (h : F_blocks_of ds s Q X) : m_blocks_of (startL 1 ds) s (endF Q X) := by
  obtain ⟨w, r, n, rfl, g, q⟩ := h
  have c5 : cutD (D.str w :: r) (some 5) none = r.drop 4 := cutD_from (D.str w :: r) 5
  have c2 : cutD (D.str w :: r) (some 2) none = r.drop 1 := cutD_from (D.str w :: r) 2
  have c3 : cutD (D.str w :: r) (some 3) none = r.drop 2 := cutD_from (D.str w :: r) 3
  unfold blocksOf at q
  unfold m_blocks_of
  refine sq_g (b := decide (w = "for")) (fun R Y t => ?_) (fun e => ?_) fun e => ?_
  · walk_at "mir"
    rw [w_zero]
    walk_at "mir"
    exact t
  · rw [if_pos (of_decide_eq_true e)] at q
    walk_at "mir"
    rw [c5]
    exact q
  rw [if_neg (of_decide_eq_false e)] at q
  clear e
  refine sq_g (b := decide (w = "if")) (fun R Y t => ?_) (fun e => ?_) fun e => ?_
  · walk_at "mir"
    rw [w_zero]
    walk_at "mir"
    exact t
  · rw [if_pos (of_decide_eq_true e)] at q
    walk_at "mir"
    rw [c2]
    exact q
  rw [if_neg (of_decide_eq_false e)] at q
  clear e
  walk_at "mir"
  rw [w_zero]
  walk_at "mir"
  rw [c3]
  by_cases e : w = "while"
  · rw [if_pos e] at q
    rw [decide_eq_true e]
    exact q
  · rw [if_neg e] at q
    rw [decide_eq_false e]
    exact ⟨by decide, q⟩
end K87

set_option Elab.async false
set_option linter.all false
set_option maxRecDepth 100000
set_option maxHeartbeats 400000
/-! K87E: first_bad, statements_in. -/
namespace K87
open PySem PySem.Spec PyProof.Rows L2 Mir
local macro_rules | `(tactic| walk_at "mir") => `(tactic| try simp only [mIfS, mSeqS, mRet, mAsg, gmName, gmTup_tup, gmCons_cons, gmNil, mVar_eq, mC, mOp, mCons, mNil, mTup, mLst, mLstR, mCall, mCB, oneF_eq, mTst_eq, mNotT, mAndT, mOrT, mTru_eq, truD_bl, mUn, mIf, mAndV_eq, mOrV_eq, mNotV_eq, mNeg_eq, mSl, mNoPart, mPart_eq, intD_eq, addD_int, addD_str, addD_tup, addD_vl, ordD_int, ordD_str, mChain_eq, isiM_eq, mNext, mFor, mSeq_eq, tSeq1_str, tSeq1_tup, tSeq1_vl, tSeq1_sq, mRange1_eq, tRng1_int, mEnum_eq, tEnum_tup, mAug_eq, mLc, mYes, startL, endF, tbl_bl, tint_int, tO_some, eqD_int, eqD_str, ixD_tup, ixD_vl, slD_tup, slD_vl, slD_sq, slD_str, lenG_tup, lenG_vl, isBlD_eq, List.length_cons, List.length_nil, List.map_cons, List.map_nil, List.replicate, Nat.reduceAdd, Nat.reduceSub, List.cons_append, List.nil_append, List.append_nil, List.getElem?_cons_succ, List.getElem?_cons_zero, List.set_cons_succ, List.set_cons_zero, true_and, and_true, Bool.not_true, Bool.not_false, Bool.false_eq_true, if_true, if_false, ite_true, ite_false, not_true, not_false_iff, Bool.true_eq_false, reduceCtorEq, wipeL])

/-- first_bad(block, deep); 0 block, 1 deep, 2 number, 3 thing, 4 one, 5 side, 6 found -/
def m_first_bad (Fr : List D → WD) : WS := (mSeqS (mFor (mEnum (mCons (mVar 0) mNil)) (gmTup 2 (gmCons (gmName 2) (gmCons (gmName 3) gmNil)))
    (mSeqS (mIfS (mOrT (mNotT (mTru (isiM (ansB "tuple") (mVar 3)))) (mOrT (mTst (mOp (eqD false) (mCB (oneF lenG) (mCons (mVar 3) mNil)) (mC (.int 0)))) (mNotT (mTru (isiM (ansB "str") (mOp ixD (mVar 3) (mC (.int 0))))))))
    (mRet (mTup (mCons (mVar 2) mNil)))
    mNext)
    (mIfS (mNotT (mTru (mCall 1 F_is_plain_statement (mCons (mVar 3) mNil))))
    (mSeqS (mIfS (mOrT (mNotT (mTru (mCall 1 F_has_own_parts (mCons (mVar 3) mNil)))) (mTst (mOp (eqD false) (mVar 1) (mC gd_MOST_BLOCKS))))
    (mRet (mTup (mCons (mVar 2) mNil)))
    mNext)
    (mSeqS (mIfS (mNotT (mTru (mCB (oneF allG) (mCons (mLc (mSeq (mCall 1 F_blocks_of (mCons (mVar 3) mNil))) (gmName 4) mYes (isiM (ansB "tuple") (mVar 4)) [4]) mNil))))
    (mRet (mTup (mCons (mVar 2) mNil)))
    mNext)
    (mFor (mEnum (mCons (mCall 1 F_blocks_of (mCons (mVar 3) mNil)) mNil)) (gmTup 2 (gmCons (gmName 5) (gmCons (gmName 4) gmNil)))
    (mSeqS (mAsg (mCall 2 Fr (mCons (mVar 4) (mCons (mOp addD (mVar 1) (mC (.int 1))) mNil))) (gmName 6))
    (mIfS (mTst (mUn (fun d => .bl (!isNon d)) (mVar 6)))
    (mRet (mOp addD (mTup (mCons (mVar 2) (mCons (mVar 5) mNil))) (mVar 6)))
    mNext)))))
    mNext)))
    (mRet (mC .non)))
/-- statements_in(block); 0 block, 1 found, 2 statement, 3 one -/
def m_statements_in (Fr : List D → WD) : WS := (mSeqS (mAsg (mCB (oneF lenG) (mCons (mVar 0) mNil)) (gmName 1))
    (mSeqS (mFor (mSeq (mVar 0)) (gmName 2)
    (mAug 1 iAdd (mCB (oneF sumG) (mCons (mLc (mSeq (mCall 1 F_blocks_of (mCons (mVar 2) mNil))) (gmName 3) mYes (mCall 1 Fr (mCons (mVar 3) mNil)) [3]) mNil))))
    (mRet (mVar 1))))
theorem firstI_none {α : Type} {f : Nat → α → Option (List Int)} {i : Nat} {x : α} {r : List α} (h : f i x = none) : firstI f i (x :: r) = firstI f (i + 1) r := by
  show (match f i x with
    | some p => some p
    | none => firstI f (i + 1) r) = _
  rw [h]
theorem firstI_some {α : Type} {f : Nat → α → Option (List Int)} {i : Nat} {x : α} {r : List α} {p : List Int} (h : f i x = some p) : firstI f i (x :: r) = some p := by
  show (match f i x with
    | some p => some p
    | none => firstI f (i + 1) r) = _
  rw [h]
theorem stm_some {x : D} {w : Str} {r : List D} (h : stm x = some (w, r)) : x = .tup (.str w :: r) := by
  unfold stm at h
  split at h
  · cases h
    rfl
  · cases h
/-- not isinstance(x, tuple) or len(x) == 0 or not isinstance(x[0], str) -/
theorem e_stm {n : Nat} {x : D} {v0 v1 v2 v4 v5 v6 : Option D} {s : Sto} (g : Gd n x) :
    EvT (mOrT (mNotT (mTru (isiM (ansB "tuple") (mVar 3)))) (mOrT (mTst (mOp (eqD false) (mCB (oneF lenG) (mCons (mVar 3) mNil)) (mC (.int 0)))) (mNotT (mTru (isiM (ansB "str") (mOp ixD (mVar 3) (mC (.int 0)))))))) [v0, v1, v2, some x, v4, v5, v6] s (!(stm x).isSome) := fun R Y t => by
  simp only [mOrT, mNotT, mTru_eq, isiM_eq, mVar_eq, List.getElem?_cons_succ, List.getElem?_cons_zero, tO_some, g.kd, g.ansT, truD_bl]
  cases x with
  | tup l =>
    refine iteBt (fun e => by cases e) fun _ => ?_
    walk_at "mir"
    cases l with
    | nil => exact t
    | cons y l =>
      refine iteBt (fun e => ?_) fun _ => ?_
      · have e : (((l.length + 1 : Nat)) : Int) = 0 := of_decide_eq_true e
        omega
      · rw [atI_zero]
        have gy : Gd n y := g.at_ (by simp)
        simp only [tO_some, gy.kd, gy.ansS, truD_bl]
        cases y <;> exact t
  | _ => exact t
/-- what first_bad does with one statement -/
def badA (m : Nat) (k : Nat) (x : D) : Option (List Int) := match m with
  | 0 => (match stm x with
    | none => some [(k : Int)]
    | some (w, r) => if isPlain w r = true then none else some [(k : Int)])
  | m + 1 => (match stm x with
    | none => some [(k : Int)]
    | some (w, r) => if isPlain w r = true then none else if ownParts w r = false then some [(k : Int)] else if (blocksOf w r).all isT = false then some [(k : Int)]
      else firstI (fun side one => (fb m (tupL one)).map fun p => (k : Int) :: (side : Int) :: p) 0 (blocksOf w r))
theorem fb_eq (m : Nat) (l : List D) : fb m l = firstI (badA m) 0 l := by
  cases m <;> rfl
theorem badA_none {m k : Nat} {x : D} (h : stm x = none) : badA m k x = some [(k : Int)] := by
  cases m <;> simp [badA, h]
theorem badA_plain {m k : Nat} {x : D} {w : Str} {r : List D} (h : stm x = some (w, r)) (hp : isPlain w r = true) : badA m k x = none := by
  cases m <;> simp [badA, h, hp]
theorem badA_zero {k : Nat} {x : D} {w : Str} {r : List D} (h : stm x = some (w, r)) (hp : isPlain w r = false) : badA 0 k x = some [(k : Int)] := by
  simp [badA, h, hp]
theorem badA_own {m k : Nat} {x : D} {w : Str} {r : List D} (h : stm x = some (w, r)) (hp : isPlain w r = false) (ho : ownParts w r = false) : badA m k x = some [(k : Int)] := by
  cases m <;> simp [badA, h, hp, ho]
theorem badA_tup {m k : Nat} {x : D} {w : Str} {r : List D} (h : stm x = some (w, r)) (hp : isPlain w r = false) (hb : (blocksOf w r).all isT = false) : badA m k x = some [(k : Int)] := by
  cases m with
  | zero => exact badA_zero h hp
  | succ m =>
    unfold badA
    simp only [h, hp, hb]
    by_cases ho : ownParts w r = false <;> simp [ho]
theorem badA_in {m k : Nat} {x : D} {w : Str} {r : List D} (h : stm x = some (w, r)) (hp : isPlain w r = false) (ho : ownParts w r = true) (hb : (blocksOf w r).all isT = true) :
    badA (m + 1) k x = firstI (fun side one => (fb m (tupL one)).map fun p => (k : Int) :: (side : Int) :: p) 0 (blocksOf w r) := by
  simp [badA, h, hp, ho, hb]
abbrev innerB (Fr : Fn) : WS := (mSeqS (mAsg (mCall 2 Fr (mCons (mVar 4) (mCons (mOp addD (mVar 1) (mC (.int 1))) mNil))) (gmName 6))
    (mIfS (mTst (mUn (fun d => .bl (!isNon d)) (mVar 6)))
    (mRet (mOp addD (mTup (mCons (mVar 2) (mCons (mVar 5) mNil))) (mVar 6)))
    mNext))
theorem optP_non {o : Option (List Int)} : isNon (optP o) = !o.isSome := by cases o <;> rfl
theorem fb_short : ∀ (m : Nat) (l : List D) (p : List Int), fb m l = some p → p.length ≤ 2 * m + 1 := by
  intro m
  induction m with
  | zero =>
    intro l p h
    rw [fb_eq] at h
    have : ∀ (l : List D) (k : Nat), firstI (badA 0) k l = some p → p.length ≤ 1 := by
      intro l
      induction l with
      | nil => intro k h; cases h
      | cons x r ih =>
        intro k h
        unfold firstI at h
        cases e : badA 0 k x with
        | none => rw [e] at h; exact ih _ h
        | some z =>
          rw [e] at h
          cases h
          unfold badA at e
          simp only at e
          split at e
          · cases e; simp
          · split at e
            · cases e
            · cases e; simp
    exact this l 0 h
  | succ m ihm =>
    intro l p h
    rw [fb_eq] at h
    have : ∀ (l : List D) (k : Nat), firstI (badA (m + 1)) k l = some p → p.length ≤ 2 * (m + 1) + 1 := by
      intro l
      induction l with
      | nil => intro k h; cases h
      | cons x r ih =>
        intro k h
        unfold firstI at h
        cases e : badA (m + 1) k x with
        | none => rw [e] at h; exact ih _ h
        | some z =>
          rw [e] at h
          cases h
          unfold badA at e
          simp only at e
          split at e
          · cases e; simp
          · split at e
            · cases e
            · split at e
              · cases e; simp
              · split at e
                · cases e; simp
                · rename_i w r' _ _ _ _
                  have : ∀ (bs : List D) (j : Nat), firstI (fun side one => (fb m (tupL one)).map fun p => (k : Int) :: (side : Int) :: p) j bs = some p → p.length ≤ 2 * (m + 1) + 1 := by
                    intro bs
                    induction bs with
                    | nil => intro j h; cases h
                    | cons b bs ihb =>
                      intro j h
                      unfold firstI at h
                      cases e2 : fb m (tupL b) with
                      | none => rw [e2] at h; exact ihb _ h
                      | some z2 =>
                        rw [e2] at h
                        cases h
                        have := ihm _ _ e2
                        simp only [List.length_cons]
                        omega
                  exact this _ _ e
    exact this l 0 h
theorem p_inner {m : Nat} {n : Nat} {k : Nat} {x : D} {blk : D} {s : Sto} {Q : QD} {E : EndM} (hm : m ≤ 3) (hrt : E.rt = Q) (hex : True) :
    ∀ (bs : List D) (j : Nat) (v4 v5 v6 : Option D), (∀ b ∈ bs, Gd n b ∧ isT b = true) → (∀ p, firstI (fun side one => (fb m (tupL one)).map fun p => (k : Int) :: (side : Int) :: p) j bs = some p → Q (.tup (p.map .int)) s) →
    (firstI (fun side one => (fb m (tupL one)).map fun p => (k : Int) :: (side : Int) :: p) j bs = none → ∀ v4 v5 v6, E.nx [some blk, some (.int (5 - ((m + 1 : Nat) : Int))), some (.int k), some x, v4, v5, v6] s) →
    loopW (gmTup 2 (gmCons (gmName 5) (gmCons (gmName 4) gmNil))) (fun _ => True) (innerB (Fd_first_bad m)) (enumD j bs) [some blk, some (.int (5 - ((m + 1 : Nat) : Int))), some (.int k), some x, v4, v5, v6] s E
  | [], j, v4, v5, v6, _, _, hn => ⟨trivial, hn rfl _ _ _⟩
  | b :: bs, j, v4, v5, v6, g, hs, hn => by
    refine ⟨trivial, ?_⟩
    obtain ⟨gb, tb⟩ := g b (by simp)
    obtain ⟨lb, rfl⟩ : ∃ lb, b = .tup lb := by
      cases b <;> first
        | (cases tb; done)
        | exact ⟨_, rfl⟩
    walk_at "mir"
    have ed : (5 - ((m + 1 : Nat) : Int)) + 1 = 5 - (m : Int) := by omega
    refine ⟨lb, n, by rw [ed], by omega, gb, ?_⟩
    have hsz : ∀ p : List Int, fb m lb = some p → 0 + 1 + 1 + (p.map D.int).length ≤ sizeLine := fun p hp => by
      have := fb_short m lb p hp
      rw [List.length_map]
      unfold sizeLine
      omega
    cases e : fb m lb with
    | none =>
      show (if (!isNon (optP none)) = true then _ else _)
      rw [if_neg (show ¬ (!isNon (optP none)) = true from fun z => nomatch z)]
      have e2 : firstI (fun side one => (fb m (tupL one)).map fun p => (k : Int) :: (side : Int) :: p) j (.tup lb :: bs) = firstI (fun side one => (fb m (tupL one)).map fun p => (k : Int) :: (side : Int) :: p) (j + 1) bs := firstI_none (by
        show (fb m lb).map _ = none
        rw [e]
        rfl)
      rw [e2] at hs hn
      exact p_inner hm hrt hex bs (j + 1) _ _ _ (fun y hy => g y (by simp [hy])) hs hn
    | some p =>
      show (if (!isNon (optP (some p))) = true then _ else _)
      rw [if_pos (show (!isNon (optP (some p))) = true from rfl)]
      have := hsz p e
      refine ⟨by decide, ?_⟩
      show ([D.int k, D.int j].length + (p.map D.int).length ≤ sizeLine ∧ E.rt (.tup ([D.int k, D.int j] ++ p.map D.int)) s)
      refine ⟨this, ?_⟩
      rw [hrt]
      refine hs ((k : Int) :: (j : Int) :: p) ?_
      refine firstI_some ?_
      show (fb m lb).map _ = _
      rw [e]
      rfl
theorem blocksOf_mem {w : Str} {r : List D} {b : D} (h : b ∈ blocksOf w r) : b ∈ r := by
  unfold blocksOf at h
  split at h
  · exact List.mem_of_mem_drop h
  · split at h
    · exact List.mem_of_mem_drop h
    · split at h
      · exact List.mem_of_mem_drop h
      · cases h
theorem blocksOf_len {w : Str} {r : List D} : (blocksOf w r).length ≤ r.length := by
  unfold blocksOf
  split
  · simp
  · split
    · simp
    · split <;> simp
/-- all([isinstance(one, tuple) for one in bs]) -/
theorem p_allT {n : Nat} {l : LL} {j : Nat} {s : Sto} {Q : QD} {bs : List D} {gd : Sto → Prop} (hg : gd s) (hl : bs.length ≤ 1000) (hb : ∀ b ∈ bs, Gd n b) (hj : j < l.length) (q : Q (.bl (bs.all isT)) s) :
    lcW (gmName j) mYes (isiM (ansB "tuple") (mVar j)) l gd (fun acc s2 => tO (allG s2 (D.vl acc)) fun y => Q y s2) bs [] s := by
  refine lcW_map (fun d => .bl (isT d)) hg _ (le_sizeL hl) (fun d hd R S h => ?_) ?_
  · show isiM (ansB "tuple") (mVar j) (l.set j (some d)) s R X0
    have e : (l.set j (some d))[j]? = some (some d) := by rw [List.getElem?_set_self hj]
    have g := hb d hd
    simp only [isiM_eq, mVar_eq, e, tO_some, g.kd, g.ansT]
    exact h
  · rw [allG_map]
    exact q
theorem p_fb_loop {m : Nat} {n : Nat} {Fr : Fn} {blk : D} {s : Sto} {Q : QD} {E : EndM} (hm : m ≤ 4) (hFr : ∀ m', m = m' + 1 → Fr = Fd_first_bad m') (hrt : E.rt = Q) :
    ∀ (l : List D) (k : Nat) (v2 v3 v4 v5 v6 : Option D), (∀ x ∈ l, Gd n x) → (∀ p, firstI (badA m) k l = some p → Q (.tup (p.map .int)) s) → (firstI (badA m) k l = none → ∀ ll, E.nx ll s) →
    loopW (gmTup 2 (gmCons (gmName 2) (gmCons (gmName 3) gmNil))) (fun _ => True) (mSeqS (mIfS (mOrT (mNotT (mTru (isiM (ansB "tuple") (mVar 3)))) (mOrT (mTst (mOp (eqD false) (mCB (oneF lenG) (mCons (mVar 3) mNil)) (mC (.int 0)))) (mNotT (mTru (isiM (ansB "str") (mOp ixD (mVar 3) (mC (.int 0))))))))
    (mRet (mTup (mCons (mVar 2) mNil)))
    mNext)
    (mIfS (mNotT (mTru (mCall 1 F_is_plain_statement (mCons (mVar 3) mNil))))
    (mSeqS (mIfS (mOrT (mNotT (mTru (mCall 1 F_has_own_parts (mCons (mVar 3) mNil)))) (mTst (mOp (eqD false) (mVar 1) (mC gd_MOST_BLOCKS))))
    (mRet (mTup (mCons (mVar 2) mNil)))
    mNext)
    (mSeqS (mIfS (mNotT (mTru (mCB (oneF allG) (mCons (mLc (mSeq (mCall 1 F_blocks_of (mCons (mVar 3) mNil))) (gmName 4) mYes (isiM (ansB "tuple") (mVar 4)) [4]) mNil))))
    (mRet (mTup (mCons (mVar 2) mNil)))
    mNext)
    (mFor (mEnum (mCons (mCall 1 F_blocks_of (mCons (mVar 3) mNil)) mNil)) (gmTup 2 (gmCons (gmName 5) (gmCons (gmName 4) gmNil)))
    (innerB Fr))))
    mNext)) (enumD k l) [some blk, some (.int (5 - (m : Int))), v2, v3, v4, v5, v6] s E
  | [], k, _, _, _, _, _, _, _, hn => ⟨trivial, hn rfl _⟩
  | x :: l, k, v2, v3, v4, v5, v6, g, hs, hn => by
    have gx := g x (by simp)
    have ret : ∀ {v4 v5 v6 : Option D}, Q (.tup [.int k]) s → (mTup (mCons (mVar 2) mNil)) [some blk, some (.int (5 - (m : Int))), some (.int k), some x, v4, v5, v6] s E.rt (E.ex [some blk, some (.int (5 - (m : Int))), some (.int k), some x, v4, v5, v6]) := fun q => by
      walk_at "mir"
      refine ⟨by decide, ?_⟩
      rw [hrt]
      exact q
    have bad : badA m k x = some [(k : Int)] → Q (.tup [.int k]) s := fun h => by
      exact hs [(k : Int)] (firstI_some h)
    have next : badA m k x = none → ∀ v2 v3 v4 v5 v6 : Option D, _ := fun h v2 v3 v4 v5 v6 => p_fb_loop (n := n) (blk := blk) hm hFr hrt l (k + 1) v2 v3 v4 v5 v6 (fun y hy => g y (by simp [hy])) (fun p hp => hs p ((firstI_none h).trans hp)) (fun hp => hn ((firstI_none h).trans hp))
    refine ⟨trivial, ?_⟩
    show (gmTup 2 (gmCons (gmName 2) (gmCons (gmName 3) gmNil))) (.tup [.int k, x]) _ s _
    simp only [gmTup_tup, gmCons_cons, gmNil, gmName, List.set_cons_succ, List.set_cons_zero, List.length_cons, List.length_nil, Nat.reduceAdd, true_and]
    refine sq_g (e_stm gx) (fun e => ret (bad (badA_none (by simpa using e)))) fun e => ?_
    obtain ⟨⟨w, r⟩, hw⟩ := Option.isSome_iff_exists.mp (by simpa using e)
    have hx := stm_some hw
    subst hx
    clear e
    have gr : ∀ y ∈ r, Gd n y := fun y hy => gx.at_ (by simp [hy])
    have lr : r.length ≤ 1000 := by
      have := gx.tupI.1
      simp only [List.length_cons] at this
      omega
    refine if_b (b := !isPlain w r) (fun R Y t => ?_) (fun e => ?_) fun e => next (badA_plain hw (by simpa using e)) _ _ _ _ _
    · walk_at "mir"
      exact ⟨w, r, n, rfl, gx, t⟩
    simp only [Bool.not_eq_true'] at e
    refine sq_g (b := !ownParts w r || decide (m = 0)) (fun R Y t => ?_) (fun e2 => ret (bad ?_)) fun e2 => ?_
    · walk_at "mir"
      refine ⟨w, r, n, rfl, gx, ?_⟩
      dsimp only
      rw [truD_bl, tO_some]
      have em : decide ((5 : Int) - (m : Int) = 5) = decide (m = 0) := by
        by_cases h : m = 0
        · rw [decide_eq_true h, decide_eq_true (by omega)]
        · rw [decide_eq_false h, decide_eq_false (by omega)]
      refine iteBt (fun z => ?_) fun z => ?_
      · simp only [Bool.not_eq_true'] at z
        simpa [z] using t
      · simp only [Bool.not_eq_false'] at z
        show R (decide ((5 : Int) - (m : Int) = 5)) s
        rw [em]
        simpa [z] using t
    · rcases Bool.or_eq_true_iff.mp e2 with h | h
      · exact badA_own hw e (by simpa using h)
      · have h := of_decide_eq_true h
        subst h
        exact badA_zero hw e
    simp only [Bool.or_eq_false_iff, Bool.not_eq_false', decide_eq_false_iff_not] at e2
    obtain ⟨m, rfl⟩ : ∃ m', m = m' + 1 := ⟨m - 1, by omega⟩
    have hf := hFr m rfl
    subst hf
    have gb : ∀ b ∈ blocksOf w r, Gd n b := fun b hb => gr b (blocksOf_mem hb)
    refine sq_g (b := !(blocksOf w r).all isT) (fun R Y t => ?_) (fun e3 => ret (bad (badA_tup hw e (by simpa using e3)))) fun e3 => ?_
    · walk_at "mir"
      refine ⟨w, r, n, rfl, gx, ?_⟩
      refine p_allT (Q := fun x s1 => tO (truD s1 x) fun c => R (!c) s1) trivial (Nat.le_trans blocksOf_len lr) gb (by simp) ?_
      rw [truD_bl]
      exact t
    simp only [Bool.not_eq_false'] at e3
    have hin := badA_in (m := m) (k := k) hw e e2.1 e3
    show mEnum _ _ s _ _
    rw [mEnum_eq]
    walk_at "mir"
    refine ⟨w, r, n, rfl, gx, ?_⟩
    dsimp only
    rw [tEnum_tup]
    refine p_inner (n := n) (by omega) (by exact hrt) trivial (blocksOf w r) 0 _ _ _ (fun b hb => ⟨gb b hb, List.all_eq_true.mp e3 b hb⟩) (fun p hp => hs p (firstI_some (hin.trans hp))) fun hp v4 v5 v6 => next (hin.trans hp) _ _ _ _ _
theorem p_first_bad (m : Nat) (Fr : Fn) (hFr : ∀ m', m = m' + 1 → Fr = Fd_first_bad m') (ds : List D) (s : Sto) (Q : QD) (X : QX) (h : Fd_first_bad m ds s Q X) : m_first_bad Fr (startL 7 ds) s (endF Q X) := by
  obtain ⟨l, n, rfl, hm, g, q⟩ := h
  unfold m_first_bad
  refine sq_forI (its := enumD 0 l) (gd := fun _ => True) (fun R Y t => ?_) ?_
  · rw [mEnum_eq]
    walk_at "mir"
    exact t
  rw [fb_eq] at q
  refine p_fb_loop (n := n) (blk := .tup l) hm hFr rfl l 0 _ _ _ _ _ (fun x hx => g.at_ hx) (fun p hp => ?_) fun hp ll => ?_
  · rw [hp] at q
    exact q
  · rw [hp] at q
    exact q
end K87

set_option Elab.async false
set_option linter.all false
set_option maxRecDepth 100000
set_option maxHeartbeats 400000
/-! K87F: statements_in, the class Program. -/
namespace K87
open PySem PySem.Spec PyProof.Rows L2 Mir
local macro_rules | `(tactic| walk_at "mir") => `(tactic| try simp only [mIfS, mSeqS, mRet, mAsg, gmName, gmTup_tup, gmCons_cons, gmNil, mVar_eq, mC, mOp, mCons, mNil, mTup, mLst, mLstR, mCall, mCB, oneF_eq, mTst_eq, mNotT, mAndT, mOrT, mTru_eq, truD_bl, mUn, mIf, mAndV_eq, mOrV_eq, mNotV_eq, mNeg_eq, mSl, mNoPart, mPart_eq, intD_eq, addD_int, addD_str, addD_tup, addD_vl, ordD_int, ordD_str, mChain_eq, isiM_eq, mNext, mFor, mSeq_eq, tSeq1_str, tSeq1_tup, tSeq1_vl, tSeq1_sq, mRange1_eq, tRng1_int, mEnum_eq, tEnum_tup, mAug_eq, mLc, mYes, startL, endF, tbl_bl, tint_int, tO_some, eqD_int, eqD_str, ixD_tup, ixD_vl, slD_tup, slD_vl, slD_sq, slD_str, lenG_tup, lenG_vl, isBlD_eq, List.length_cons, List.length_nil, List.map_cons, List.map_nil, List.replicate, Nat.reduceAdd, Nat.reduceSub, List.cons_append, List.nil_append, List.append_nil, List.getElem?_cons_succ, List.getElem?_cons_zero, List.set_cons_succ, List.set_cons_zero, true_and, and_true, Bool.not_true, Bool.not_false, Bool.false_eq_true, if_true, if_false, ite_true, ite_false, not_true, not_false_iff, Bool.true_eq_false, reduceCtorEq, wipeL])

theorem firstI_all {α : Type} {f : Nat → α → Option (List Int)} : ∀ {l : List α} {i : Nat}, firstI f i l = none → ∀ x ∈ l, ∃ j, f j x = none
  | [], _, _, x, hx => by cases hx
  | y :: r, i, h, x, hx => by
    have h0 : f i y = none := by
      cases e : f i y with
      | none => rfl
      | some p => rw [firstI_some e] at h; cases h
    rcases List.mem_cons.mp hx with e | e
    · subst e
      exact ⟨i, h0⟩
    · rw [firstI_none h0] at h
      exact firstI_all h x e
theorem plain_not {k : Str} {r : List D} (h1 : ¬ (k = "let" ∨ k = "get")) (h2 : ¬ k = "put") (h3 : ¬ (k = "drop" ∨ k = "say")) (h4 : ¬ k = "fail") : isPlain k r = false := by
  unfold isPlain
  rw [if_neg h1, if_neg h2, if_neg h3, decide_eq_false h4]
  rfl
theorem plain_for {r : List D} : isPlain "for" r = false := plain_not (by decide +kernel) (by decide +kernel) (by decide +kernel) (by decide +kernel)
theorem plain_ifw {r : List D} : isPlain "if" r = false := plain_not (by decide +kernel) (by decide +kernel) (by decide +kernel) (by decide +kernel)
theorem plain_while {r : List D} : isPlain "while" r = false := plain_not (by decide +kernel) (by decide +kernel) (by decide +kernel) (by decide +kernel)
theorem plain_blocks {w : Str} {r : List D} (h : isPlain w r = true) : blocksOf w r = [] := by
  unfold blocksOf
  by_cases h1 : w = "for"
  · subst h1
    rw [plain_for] at h
    cases h
  · rw [if_neg h1]
    by_cases h2 : w = "if"
    · subst h2
      rw [plain_ifw] at h
      cases h
    · rw [if_neg h2]
      by_cases h3 : w = "while"
      · subst h3
        rw [plain_while] at h
        cases h
      · rw [if_neg h3]
/-- what a good statement is -/
theorem badA_good {m k : Nat} {x : D} (h : badA m k x = none) : ∃ w r, stm x = some (w, r) ∧ (∀ b ∈ blocksOf w r, ∃ m', m = m' + 1 ∧ isT b = true ∧ fb m' (tupL b) = none) := by
  cases e : stm x with
  | none => rw [badA_none e] at h; cases h
  | some p =>
    obtain ⟨w, r⟩ := p
    refine ⟨w, r, rfl, ?_⟩
    cases hp : isPlain w r with
    | true =>
      rw [plain_blocks hp]
      intro b hb
      cases hb
    | false =>
      cases m with
      | zero => rw [badA_zero e hp] at h; cases h
      | succ m =>
        cases ho : ownParts w r with
        | false => rw [badA_own e hp ho] at h; cases h
        | true =>
          cases hb : (blocksOf w r).all isT with
          | false => rw [badA_tup e hp hb] at h; cases h
          | true =>
            rw [badA_in e hp ho hb] at h
            intro b hbm
            obtain ⟨j, hj⟩ := firstI_all h b hbm
            refine ⟨m, rfl, List.all_eq_true.mp hb b hbm, ?_⟩
            simpa using hj
/-- statements inside one -/
def cntI (m : Nat) (x : D) : Nat := match stm x with
  | none => 0
  | some (w, r) => match m with
    | 0 => 0
    | m' + 1 => ((blocksOf w r).map fun b => cnt m' (tupL b)).sum
theorem cnt_eq (m : Nat) (l : List D) : cnt m l = l.length + (l.map (cntI m)).sum := by
  cases m with
  | zero =>
    have : (l.map (cntI 0)).sum = 0 := by
      induction l with
      | nil => rfl
      | cons x r ih =>
        rw [List.map_cons, List.sum_cons, ih]
        unfold cntI
        split <;> rfl
    rw [this]
    rfl
  | succ m => rfl
theorem sum_cast {α : Type} (f : α → Nat) : ∀ l : List α, (l.map fun x => ((f x : Nat) : Int)).sum = (((l.map f).sum : Nat) : Int)
  | [] => rfl
  | x :: r => by
    rw [List.map_cons, List.map_cons, List.sum_cons, List.sum_cons, sum_cast f r]
    omega
theorem sumG_map {α : Type} {st : Sto} {f : α → Nat} {l : List α} : sumG st (.vl (l.map fun x => .int ((f x : Nat) : Int))) = some (.int (((l.map f).sum : Nat) : Int)) := by
  show (intsOf (l.map fun x => D.int ((f x : Nat) : Int))).map _ = _
  rw [intsOf_map (fun x => ((f x : Nat) : Int))]
  show some (D.int _) = _
  rw [sum_cast]
/-- sum([statements_in(one) for one in blocks_of(statement)]) -/
theorem p_si_item {m n : Nat} {Fr : Fn} {x : D} {v0 v1 v3 : Option D} {s : Sto} (hm : m ≤ 4) (hFr : ∀ m', m = m' + 1 → Fr = Fd_statements_in m') (g : Gd n x) {k : Nat} (h : badA m k x = none) :
    EvE (mCB (oneF sumG) (mCons (mLc (mSeq (mCall 1 F_blocks_of (mCons (mVar 2) mNil))) (gmName 3) mYes (mCall 1 Fr (mCons (mVar 3) mNil)) [3]) mNil)) [v0, v1, some x, v3] s (.int (cntI m x : Nat)) := fun R Y t => by
  obtain ⟨w, r, hw, hb⟩ := badA_good h
  have hx := stm_some hw
  subst hx
  walk_at "mir"
  refine ⟨w, r, n, rfl, g, ?_⟩
  dsimp only
  rw [tSeq1_tup]
  have lr : (blocksOf w r).length ≤ 1000 := Nat.le_trans blocksOf_len (by
    have := g.tupI.1
    simp only [List.length_cons] at this
    omega)
  cases m with
  | zero =>
    have : blocksOf w r = [] := by
      cases e : blocksOf w r with
      | nil => rfl
      | cons b bs =>
        obtain ⟨m', h', _⟩ := hb b (by rw [e]; simp)
        omega
    rw [this]
    exact ⟨trivial, t⟩
  | succ m =>
    have hf := hFr m rfl
    subst hf
    refine lcW_map (fun b => .int ((cnt m (tupL b) : Nat) : Int)) trivial _ (le_sizeL lr) (fun d hd R' S h' => ?_) ?_
    · obtain ⟨m', hm', ht, hfb⟩ := hb d hd
      have : m' = m := by omega
      subst this
      obtain ⟨ld, rfl⟩ : ∃ ld, d = .tup ld := by
        cases d <;> first
          | (cases ht; done)
          | exact ⟨_, rfl⟩
      walk_at "mir"
      exact ⟨ld, n, rfl, by omega, g.at_ (by simp [blocksOf_mem hd]), hfb, h'⟩
    · rw [sumG_map]
      exact t
theorem p_si_loop {m n : Nat} {Fr : Fn} {v0 : Option D} {s : Sto} {E : EndM} (hm : m ≤ 4) (hFr : ∀ m', m = m' + 1 → Fr = Fd_statements_in m') :
    ∀ (l : List D) (a : Nat) (v2 v3 : Option D), (∀ x ∈ l, Gd n x ∧ ∃ k, badA m k x = none) → (∀ v2 v3, E.nx [v0, some (.int ((a + (l.map (cntI m)).sum : Nat) : Int)), v2, v3] s) →
    loopW (gmName 2) (fun _ => True) (mAug 1 iAdd (mCB (oneF sumG) (mCons (mLc (mSeq (mCall 1 F_blocks_of (mCons (mVar 2) mNil))) (gmName 3) mYes (mCall 1 Fr (mCons (mVar 3) mNil)) [3]) mNil))) l [v0, some (.int (a : Int)), v2, v3] s E
  | [], a, v2, v3, _, h => ⟨trivial, by simpa using h v2 v3⟩
  | x :: r, a, v2, v3, g, h => by
    obtain ⟨gx, k, hk⟩ := g x (by simp)
    refine ⟨trivial, ?_⟩
    simp only [gmName, List.set_cons_succ, List.set_cons_zero]
    rw [mAug_eq]
    simp only [List.getElem?_cons_succ, List.getElem?_cons_zero, tO_some]
    refine p_si_item hm hFr gx hk _ _ ?_
    refine ⟨trivial, ?_⟩
    show loopW _ _ _ r [v0, some (.int ((a : Int) + ((cntI m x : Nat) : Int))), some x, v3] s E
    rw [show ((a : Int) + ((cntI m x : Nat) : Int)) = ((a + cntI m x : Nat) : Int) by omega]
    refine p_si_loop hm hFr r (a + cntI m x) _ _ (fun y hy => g y (by simp [hy])) fun v2 v3 => ?_
    have := h v2 v3
    rw [List.map_cons, List.sum_cons] at this
    rw [show a + cntI m x + (r.map (cntI m)).sum = a + (cntI m x + (r.map (cntI m)).sum) by omega]
    exact this
theorem p_statements_in (m : Nat) (Fr : Fn) (hFr : ∀ m', m = m' + 1 → Fr = Fd_statements_in m') (ds : List D) (s : Sto) (Q : QD) (X : QX) (h : Fd_statements_in m ds s Q X) : m_statements_in Fr (startL 4 ds) s (endF Q X) := by
  obtain ⟨l, n, rfl, hm, g, hfb, q⟩ := h
  unfold m_statements_in
  refine sq_set (d := .int (l.length : Nat)) (fun R Y t => by walk_at "mir"; exact t) ?_
  refine sq_forI (its := l) (gd := fun _ => True) (fun R Y t => by walk_at "mir"; exact t) ?_
  rw [fb_eq] at hfb
  refine p_si_loop (n := n) hm hFr l l.length _ _ (fun x hx => ⟨g.at_ hx, firstI_all hfb x hx⟩) fun v2 v3 => ?_
  rw [← cnt_eq]
  exact q
/-! ### the class -/
def ans_Program : Kd → Option Bool
  | .own c => if c = "Program" then some true else none
  | .tuple => some false
  | .non => some false
  | .str => some false
  | _ => none
/-- Program.__init__(self, block); 0 self, 1 block, 2 found -/
def m_Program___init__ : WS := (mSeqS (mIfS (mNotT (mTru (isiM (ansB "tuple") (mVar 1))))
    (mRaise1 "BadProgram" "place" (mTup mNil))
    mNext)
    (mSeqS (mAsg (mCall 2 F_first_bad (mCons (mVar 1) (mCons (mC (.int 1)) mNil))) (gmName 2))
    (mSeqS (mIfS (mTst (mUn (fun d => .bl (!isNon d)) (mVar 2)))
    (mRaise1 "BadProgram" "place" (mVar 2))
    mNext)
    (mSeqS (mIfS (mTst (mOp oGt (mCall 1 F_statements_in (mCons (mVar 1) mNil)) (mC gd_MOST_STATEMENTS)))
    (mRaise1 "BadProgram" "place" (mTup mNil))
    mNext)
    (mSetF "Program" "block" (mVar 1) (mVar 0))))))
/-- Program.__eq__(self, other); 0 self, 1 other -/
def m_Program___eq__ : WS := (mRet (mAndV (isiM ans_Program (mVar 1)) (mOp (eqD false) (mFld "Program" "block" (mVar 0)) (mFld "Program" "block" (mVar 1)))))
/-- what Program(x) does -/
def F_Program___init__ : Fn := fun ds st Q X => ∃ i x n, ds = [.ref i, x] ∧ st[i]? = some (.ins "Program" [] []) ∧ Gd n x ∧
  (isT x = false → X ⟨"BadProgram", ["place"], [.tup []]⟩ st) ∧
  ∀ l, x = .tup l → (∀ p, fb 4 l = some p → X ⟨"BadProgram", ["place"], [.tup (p.map .int)]⟩ st) ∧ (fb 4 l = none → 80 < cnt 4 l → X ⟨"BadProgram", ["place"], [.tup []]⟩ st) ∧
    (fb 4 l = none → cnt 4 l ≤ 80 → Q .non (st.set i (.ins "Program" ["block"] [.tup l])))
def F_Program___eq__ : Fn := fun ds st Q _ => ∃ x y l p, ds = [x, y] ∧ insD "Program" st x = some ([("block" : Str)], [D.tup l]) ∧ pyD (.tup l) = some p ∧ SeqAt.shaped p = true ∧
  ((∃ l' p', kd st y = some (.own "Program") ∧ insD "Program" st y = some ([("block" : Str)], [D.tup l']) ∧ pyD (.tup l') = some p' ∧ SeqAt.shaped p' = true ∧ Q (.bl (PyData.eqv p p')) st) ∨
    (∃ k, kd st y = some k ∧ ans_Program k = some false ∧ Q (.bl false) st))
theorem setFD_at {c f : Str} {v : D} {st : Sto} {Q : Sto → Prop} {i : Nat} {fs : List Str} {vs : List D} (h : st[i]? = some (.ins c fs vs)) (hl : fs.length < 1000) (q : Q (st.set i (.ins c (putN f fs) (putW f v fs vs)))) : setFD c f (.ref i) v st Q := by
  unfold setFD
  simp only [h]
  exact ⟨trivial, hl, q⟩
theorem p_Program_init (ds : List D) (s : Sto) (Q : QD) (X : QX) (h : F_Program___init__ ds s Q X) : m_Program___init__ (startL 3 ds) s (endF Q X) := by
  obtain ⟨i, x, n, rfl, hi, g, h1, h2⟩ := h
  unfold m_Program___init__
  refine sq_i (b := !isT x) (fun R Y t => ?_) (fun e => ?_) fun e => ?_
  · walk_at "mir"
    rw [g.kd]
    simp only [tO_some, g.ansT, truD_bl]
    exact t
  · show mRaise1 _ _ _ _ _ _
    unfold mRaise1
    walk_at "mir"
    exact ⟨by decide, h1 (by simpa using e)⟩
  simp only [Bool.not_eq_false'] at e
  obtain ⟨l, rfl⟩ : ∃ l, x = .tup l := by
    cases x <;> first
      | (cases e; done)
      | exact ⟨_, rfl⟩
  obtain ⟨a, b, c⟩ := h2 l rfl
  refine sq_do ?_
  walk_at "mir"
  refine ⟨l, n, rfl, by omega, g, ?_⟩
  cases hf : fb 4 l with
  | some p =>
    show (if (!isNon (optP (some p))) = true then _ else _)
    rw [if_pos (show (!isNon (optP (some p))) = true from rfl)]
    show mRaise1 _ _ _ _ _ _
    unfold mRaise1
    walk_at "mir"
    exact a p hf
  | none =>
    show (if (!isNon (optP none)) = true then _ else _)
    rw [if_neg (show ¬ (!isNon (optP none)) = true from fun z => nomatch z)]
    refine ⟨l, n, rfl, by omega, g, hf, ?_⟩
    dsimp only
    simp only [gd_MOST_STATEMENTS, ordD_int, tbl_bl]
    refine iteBt (fun e2 => ?_) fun e2 => ?_
    · have e2 : (80 : Int) < ((cnt 4 l : Nat) : Int) := of_decide_eq_true e2
      show mRaise1 _ _ _ _ _ _
      unfold mRaise1
      walk_at "mir"
      exact ⟨by decide, b hf (by omega)⟩
    · have e2 : ¬ (80 : Int) < ((cnt 4 l : Nat) : Int) := of_decide_eq_false e2
      unfold mSetF
      walk_at "mir"
      exact setFD_at hi (by decide) (c hf (by omega))
theorem p_Program_eq (ds : List D) (s : Sto) (Q : QD) (X : QX) (h : F_Program___eq__ ds s Q X) : m_Program___eq__ (startL 2 ds) s (endF Q X) := by
  obtain ⟨x, y, l, p, rfl, hx, hp, sp, h⟩ := h
  unfold m_Program___eq__
  walk_at "mir"
  rcases h with ⟨l', p', hk, hy, hp', sp', q⟩ | ⟨k, hk, ha, q⟩
  · rw [hk]
    simp only [tO_some, ans_Program, if_true, mFld_eq, mVar_eq, List.getElem?_cons_zero, List.getElem?_cons_succ, hx, hy, tbl_bl]
    show tO (List.lookup ("block" : Str) [(("block" : Str), D.tup l)]) _
    rw [show List.lookup ("block" : Str) [(("block" : Str), D.tup l)] = some (.tup l) by simp [List.lookup]]
    rw [tO_some]
    show tO (List.lookup ("block" : Str) [(("block" : Str), D.tup l')]) _
    rw [show List.lookup ("block" : Str) [(("block" : Str), D.tup l')] = some (.tup l') by simp [List.lookup]]
    show eqD false (.tup l) (.tup l') s Q X
    rw [eqD_tup, hp, hp']
    exact ⟨sp, sp', q⟩
  · rw [hk]
    simp only [tO_some, ha, tbl_bl]
    exact q
end K87

set_option Elab.async false
set_option linter.all false
set_option maxRecDepth 100000
set_option maxHeartbeats 400000
/-! K87G: draws from the bag. -/
namespace K87
open PySem PySem.Spec PyProof.Rows L2 Mir
local macro_rules | `(tactic| walk_at "mir") => `(tactic| try simp only [mIfS, mSeqS, mRet, mAsg, gmName, gmTup_tup, gmCons_cons, gmNil, mVar_eq, mC, mOp, mCons, mNil, mTup, mLst, mLstR, mCall, mCB, oneF_eq, mTst_eq, mNotT, mAndT, mOrT, mTru_eq, truD_bl, mUn, mIf, mAndV_eq, mOrV_eq, mNotV_eq, mNeg_eq, mSl, mNoPart, mPart_eq, intD_eq, addD_int, addD_str, addD_tup, addD_vl, ordD_int, ordD_str, mChain_eq, isiM_eq, mNext, mFor, mSeq_eq, tSeq1_str, tSeq1_tup, tSeq1_vl, tSeq1_sq, mRange1_eq, tRng1_int, mEnum_eq, tEnum_tup, mAug_eq, mLc, mYes, startL, endF, tbl_bl, tint_int, tO_some, eqD_int, eqD_str, ixD_tup, ixD_vl, slD_tup, slD_vl, slD_sq, slD_str, lenG_tup, lenG_vl, isBlD_eq, List.length_cons, List.length_nil, List.map_cons, List.map_nil, List.replicate, Nat.reduceAdd, Nat.reduceSub, List.cons_append, List.nil_append, List.append_nil, List.getElem?_cons_succ, List.getElem?_cons_zero, List.set_cons_succ, List.set_cons_zero, true_and, and_true, Bool.not_true, Bool.not_false, Bool.false_eq_true, if_true, if_false, ite_true, ite_false, not_true, not_false_iff, Bool.true_eq_false, reduceCtorEq, wipeL])

/-- what is kept: all objects but those at S -/
def Fr (S : List Nat) (s s' : Sto) : Prop := s.length ≤ s'.length ∧ ∀ n, n < s.length → n ∉ S → s'[n]? = s[n]?
theorem Fr.refl (S : List Nat) (s : Sto) : Fr S s s := ⟨Nat.le_refl _, fun _ _ _ => rfl⟩
theorem Fr.trans {S : List Nat} {s s' s2 : Sto} (a : Fr S s s') (b : Fr S s' s2) : Fr S s s2 := ⟨Nat.le_trans a.1 b.1, fun n h m => (b.2 n (Nat.lt_of_lt_of_le h a.1) m).trans (a.2 n h m)⟩
theorem Fr.imp {S S' : List Nat} {s s' : Sto} (a : Fr S s s') (h : ∀ n ∈ S, n ∈ S') : Fr S' s s' := ⟨a.1, fun n hn m => a.2 n hn fun z => m (h n z)⟩
theorem Fr.set {S : List Nat} {s : Sto} {b : Nat} {o : Ob} (h : b ∈ S) : Fr S s (s.set b o) := ⟨by simp, fun n hn m => List.getElem?_set_ne (fun e => by subst e; exact m h)⟩
theorem Fr.push {S : List Nat} {s : Sto} {o : Ob} : Fr S s (s ++ [o]) := ⟨by simp, fun n hn _ => List.getElem?_append_left hn⟩
theorem Fr.at_ {S : List Nat} {s s' : Sto} {n : Nat} {o : Ob} (f : Fr S s s') (h : s[n]? = some o) (m : n ∉ S) : s'[n]? = some o := by
  obtain ⟨hl, _⟩ := List.getElem?_eq_some_iff.mp h
  rw [f.2 n hl m]
  exact h
def bagO (cs : List Int) (i j t : Int) : Ob := .lst [.vl (cs.map .int), .int i, .int j, .int t]
def BagAt (s : Sto) (b : Nat) : Prop := ∃ cs i j t, s[b]? = some (bagO cs i j t) ∧ cs.length ≤ 63
theorem BagAt.lt {s : Sto} {b : Nat} (h : BagAt s b) : b < s.length := by
  obtain ⟨_, _, _, _, h, _⟩ := h
  exact (List.getElem?_eq_some_iff.mp h).1
theorem BagAt.keep {S : List Nat} {s s' : Sto} {b : Nat} (h : BagAt s b) (f : Fr S s s') (m : b ∉ S) : BagAt s' b := by
  obtain ⟨cs, i, j, t, h, hl⟩ := h
  exact ⟨cs, i, j, t, f.at_ h m, hl⟩
theorem seqA_ref {s : Sto} {n : Nat} {l : List D} (h : s[n]? = some (.lst l)) : seqA s (.ref n) = some l := by
  show lstT s (.ref n) = some l
  unfold lstT
  simp only [h]
theorem lstT_ref {s : Sto} {n : Nat} {l : List D} (h : s[n]? = some (.lst l)) : lstT s (.ref n) = some l := by
  unfold lstT
  simp only [h]
theorem setD_at {s : Sto} {n : Nat} {l : List D} {k : Int} {j : Nat} {v : D} {Q : Sto → Prop} (h : s[n]? = some (.lst l)) (hj : ixN l.length k = some j) (q : Q (s.set n (.lst (l.set j v)))) : setD (.ref n) (.int k) v s Q := by
  unfold setD
  simp only [h, hj]
  exact q
/-- reading the bag -/
theorem ix_ref {s : Sto} {n : Nat} {l : List D} {k : Int} {d : D} {Q : QD} {X : QX} (h : s[n]? = some (.lst l)) (hd : atI l k = some d) (q : Q d s) : ixD (.ref n) (.int k) s Q X := by
  rw [ixD_ref, seqA_ref h, tO_some, hd]
  exact q
theorem set_get {s : Sto} {b : Nat} {o : Ob} (h : b < s.length) : (s.set b o)[b]? = some o := List.getElem?_set_self h
theorem setB0 {s : Sto} {b : Nat} {o o' : Ob} {l : List D} {k : Int} {j : Nat} {v : D} {Q : Sto → Prop} (h : s[b]? = some o) (ho : o = .lst l) (hj : ixN l.length k = some j) (ho' : o' = .lst (l.set j v)) (q : Q (s.set b o')) : setD (.ref b) (.int k) v s Q :=
  setD_at (by rw [h, ho]) hj (by rw [← ho']; exact q)
theorem setB {s : Sto} {b : Nat} (hlt : b < s.length) {o o' : Ob} {l : List D} {k : Int} {j : Nat} {v : D} {Q : Sto → Prop} (ho : o = .lst l) (hj : ixN l.length k = some j) (ho' : o' = .lst (l.set j v)) (q : Q (s.set b o')) : setD (.ref b) (.int k) v (s.set b o) Q :=
  setD_at (by rw [set_get hlt, ho]) hj (by rw [List.set_set, ← ho']; exact q)
/-! ### promises -/
def F__law_mixed : Fn := fun ds st Q _ => ∃ a b : Int, ds = [.int a, .int b] ∧ ∀ v : Int, 0 ≤ v → Q (.int v) st
def F__law_bag : Fn := fun ds st Q _ => ∃ ns : List Int, ds = [.sq (ns.map .int)] ∧ ns.length ≤ 63 ∧ ∀ st', BagAt st' st.length → Fr [] st st' → Q (.ref st.length) st'
def F__law_draw : Fn := fun ds st Q _ => ∃ b many, ds = [.ref b, .int many] ∧ BagAt st b ∧ 0 < many ∧ many < 1073741824 ∧ ∀ v st', 0 ≤ v → v < many → Fr [b] st st' → BagAt st' b → Q (.int v) st'
def F__law_word : Fn := fun ds st Q _ => ∃ b most, ds = [.ref b, .int most] ∧ BagAt st b ∧ 1 ≤ most ∧ most ≤ 12 ∧ ∀ z st', z.length ≤ 12 → PyData.strOk z = true → Fr [b] st st' → BagAt st' b → Q (.str z) st'
def keptL : List Str := ["let", "get", "put", "drop", "for", "in", "to", "do", "if", "else", "while", "most", "end", "say", "fail", "and", "or", "not", "mod"]
def F__law_kept_words : Fn := fun ds st Q _ => ds = [] ∧ Q (.vl (keptL.map .str)) st
def NmAt (s : Sto) (m : Nat) : Prop := ∃ l : List Str, s[m]? = some (.lst (l.map .str)) ∧ l.length = 3 ∧ ∀ z ∈ l, z.length ≤ 1000 ∧ PyData.strOk z = true
theorem NmAt.keep {S : List Nat} {s s' : Sto} {m : Nat} (h : NmAt s m) (f : Fr S s s') (hm : m ∉ S) : NmAt s' m := by
  obtain ⟨l, h, h2⟩ := h
  exact ⟨l, f.at_ h hm, h2⟩
def F__law_names : Fn := fun ds st Q _ => ∃ b, ds = [.ref b] ∧ BagAt st b ∧ ∀ st', Fr [b] st st' → BagAt st' b → NmAt st' st.length → Q (.ref st.length) st'
/-- _law_mixed(_law_cell, _law_turn); 0 _law_cell, 1 _law_turn, 2 _law_number -/
def m__law_mixed : WS := (mSeqS (mAsg (mOp iMod (mOp iMul (mOp addD (mOp addD (mOp iMod (mCB (oneF intG) (mCons (mVar 0) mNil)) (mC (.int 2147483647))) (mOp iMul (mC (.int 7919)) (mVar 1))) (mC (.int 1))) (mC (.int 48271))) (mC (.int 2147483647))) (gmName 2))
    (mSeqS (mAsg (mOp iMod (mOp iMul (mVar 2) (mOp addD (mOp iDiv (mVar 2) (mC (.int 1009))) (mC (.int 69621)))) (mC (.int 2147483647))) (gmName 2))
    (mRet (mOp iDiv (mOp iMod (mOp iMul (mVar 2) (mOp addD (mOp iDiv (mVar 2) (mC (.int 2003))) (mC (.int 40692)))) (mC (.int 2147483399))) (mC (.int 16))))))
/-- _law_bag(_law_script); 0 _law_script, 1 _law_cell -/
def m__law_bag : WS := (mRet (mLstR (mCons (mLc (mSeq (mSl (mVar 0) mNoPart (mPart (mC (.int 63))))) (gmName 1) mYes (mCB (oneF intG) (mCons (mVar 1) mNil)) [1]) (mCons (mC (.int 0)) (mCons (mC (.int 0)) (mCons (mC (.int 0)) mNil))))))
/-- _law_draw(_law_bag_here, _law_many); 0 _law_bag_here, 1 _law_many, 2 _law_found, 3 _law_cells, 4 _law_at, 5 _law_cell -/
def m__law_draw : WS := (mSeqS (mSub (mOp addD (mOp ixD (mVar 0) (mC (.int 3))) (mC (.int 1))) (mVar 0) (mC (.int 3)))
    (mSeqS (mIfS (mTst (mOp oGt (mOp ixD (mVar 0) (mC (.int 2))) (mC (.int 0))))
    (mSeqS (mAsg (mOp iMod (mCB (oneF intG) (mCons (mOp ixD (mVar 0) (mC (.int 2))) mNil)) (mVar 1)) (gmName 2))
    (mSeqS (mSub (mOp iDiv (mOp ixD (mVar 0) (mC (.int 2))) (mVar 1)) (mVar 0) (mC (.int 2)))
    (mRet (mVar 2))))
    mNext)
    (mSeqS (mAsg (mOp ixD (mVar 0) (mC (.int 0))) (gmName 3))
    (mSeqS (mIfS (mTst (mOp (eqD false) (mCB (oneF lenG) (mCons (mVar 3) mNil)) (mC (.int 0))))
    (mRet (mOp iMod (mCall 2 F__law_mixed (mCons (mC (.int 0)) (mCons (mOp ixD (mVar 0) (mC (.int 3))) mNil))) (mVar 1)))
    mNext)
    (mSeqS (mAsg (mOp ixD (mVar 0) (mC (.int 1))) (gmName 4))
    (mSeqS (mSub (mOp addD (mVar 4) (mC (.int 1))) (mVar 0) (mC (.int 1)))
    (mSeqS (mAsg (mOp ixD (mVar 3) (mOp iMod (mCB (oneF intG) (mCons (mVar 4) mNil)) (mCB (oneF lenG) (mCons (mVar 3) mNil)))) (gmName 5))
    (mSeqS (mIfS (mAndT (mTst (mOp oLt (mVar 4) (mCB (oneF lenG) (mCons (mVar 3) mNil)))) (mTst (mOp oGe (mCB (oneF absG) (mCons (mVar 5) mNil)) (mOp iPow (mC (.int 10)) (mC (.int 18))))))
    (mSeqS (mSub (mOp iDiv (mCB (oneF absG) (mCons (mVar 5) mNil)) (mVar 1)) (mVar 0) (mC (.int 2)))
    (mRet (mOp iMod (mCB (oneF intG) (mCons (mCB (oneF absG) (mCons (mVar 5) mNil)) mNil)) (mVar 1))))
    mNext)
    (mRet (mOp iMod (mCall 2 F__law_mixed (mCons (mVar 5) (mCons (mOp ixD (mVar 0) (mC (.int 3))) mNil))) (mVar 1)))))))))))
/-- _law_word(_law_bag_here, _law_most); 0 _law_bag_here, 1 _law_most, 2 _law_letters, 3 _law_found, 4 _law_k -/
def m__law_word : WS := (mSeqS (mAsg (mC (.str "abcdefghijklmnopqrstuvwxyz")) (gmName 2))
    (mSeqS (mAsg (mC (.str "")) (gmName 3))
    (mSeqS (mFor (mRange1 (mCons (mOp addD (mC (.int 1)) (mCall 2 F__law_draw (mCons (mVar 0) (mCons (mVar 1) mNil)))) mNil)) (gmName 4)
    (mAsg (mOp addD (mVar 3) (mOp ixD (mVar 2) (mCall 2 F__law_draw (mCons (mVar 0) (mCons (mC (.int 26)) mNil))))) (gmName 3)))
    (mRet (mVar 3)))))
/-- _law_kept_words(); 0 _law_found -/
def m__law_kept_words : WS := (mSeqS (mAsg (mLst (mCons (mC (.str "let")) (mCons (mC (.str "get")) (mCons (mC (.str "put")) (mCons (mC (.str "drop")) (mCons (mC (.str "for")) (mCons (mC (.str "in")) (mCons (mC (.str "to")) (mCons (mC (.str "do")) (mCons (mC (.str "if")) (mCons (mC (.str "else")) (mCons (mC (.str "while")) (mCons (mC (.str "most")) (mCons (mC (.str "end")) (mCons (mC (.str "say")) (mCons (mC (.str "fail")) mNil)))))))))))))))) (gmName 0))
    (mRet (mOp addD (mVar 0) (mLst (mCons (mC (.str "and")) (mCons (mC (.str "or")) (mCons (mC (.str "not")) (mCons (mC (.str "mod")) mNil))))))))
/-- _law_names(_law_bag_here); 0 _law_bag_here, 1 _law_found, 2 _law_k, 3 _law_name -/
def m__law_names : WS := (mSeqS (mAsg (mLstR mNil) (gmName 1))
    (mSeqS (mFor (mRange1 (mCons (mC (.int 3)) mNil)) (gmName 2)
    (mSeqS (mAsg (mCall 2 F__law_word (mCons (mVar 0) (mCons (mC (.int 8)) mNil))) (gmName 3))
    (mSeqS (mIfS (mTst (mOp (inD false) (mVar 3) (mCall 0 F__law_kept_words mNil)))
    (mAsg (mOp addD (mVar 3) (mC (.str "q"))) (gmName 3))
    mNext)
    (mExpr (mBM appendF isLst (mVar 1) (mCons (mVar 3) mNil))))))
    (mRet (mVar 1))))
theorem mulR {i j : Int} (h1 : -(2 ^ 64) < j) (h2 : j < 2 ^ 64) : CMul i j := .inr ⟨h1, h2⟩
theorem mulL {i j : Int} (h1 : -(2 ^ 64) < i) (h2 : i < 2 ^ 64) : CMul i j := .inl ⟨h1, h2⟩
theorem p_mixed (ds : List D) (s : Sto) (Q : QD) (X : QX) (h : F__law_mixed ds s Q X) : m__law_mixed (startL 3 ds) s (endF Q X) := by
  obtain ⟨a, b, rfl, q⟩ := h
  unfold m__law_mixed
  refine sq_do ?_
  walk_at "mir"
  simp only [intG, tO_some, intD_eq, addD_int]
  refine ⟨by decide, mulL (by decide) (by decide), mulR (by decide) (by decide), by decide, ?_⟩
  generalize hx : (a % 2147483647 + 7919 * b + 1) * 48271 % 2147483647 = x
  have x0 : 0 ≤ x := by omega
  have x1 : x < 2147483647 := by omega
  refine ⟨⟨by decide, by decide⟩, mulL (by omega) (by omega), by decide, ?_⟩
  generalize hy : x * (x / 1009 + 69621) % 2147483647 = y
  have y0 : 0 ≤ y := by
    rw [← hy]
    exact Int.emod_nonneg _ (by decide)
  have y1 : y < 2147483647 := by
    rw [← hy]
    exact Int.emod_lt_of_pos _ (by decide)
  refine ⟨⟨by decide, by decide⟩, mulL (by omega) (by omega), by decide, ⟨by decide, by decide⟩, ?_⟩
  refine q _ ?_
  have : 0 ≤ y * (y / 2003 + 40692) % 2147483399 := Int.emod_nonneg _ (by decide)
  omega
theorem p_bag (ds : List D) (s : Sto) (Q : QD) (X : QX) (h : F__law_bag ds s Q X) : m__law_bag (startL 2 ds) s (endF Q X) := by
  obtain ⟨ns, rfl, hn, q⟩ := h
  unfold m__law_bag
  walk_at "mir"
  rw [show ((63 : Int)) = ((63 : Nat) : Int) from rfl, cutD_to, List.take_of_length_le (by rw [List.length_map]; exact hn)]
  refine lcW_map (fun d => match d with
    | .int i => .int i
    | _ => .non) trivial _ (show (ns.map D.int).length ≤ sizeLine by rw [List.length_map]; unfold sizeLine; omega) (fun d hd R S h => ?_) ?_
  · obtain ⟨i, _, rfl⟩ := List.mem_map.mp hd
    walk_at "mir"
    exact h
  · rw [List.map_map]
    refine ⟨by decide, q _ ⟨ns, 0, 0, 0, ?_, hn⟩ .push⟩
    rw [List.getElem?_append_right (Nat.le_refl _), Nat.sub_self]
    rfl
theorem p_draw (ds : List D) (s : Sto) (Q : QD) (X : QX) (h : F__law_draw ds s Q X) : m__law_draw (startL 6 ds) s (endF Q X) := by
  obtain ⟨b, many, rfl, bg, hm0, hm1, q⟩ := h
  obtain ⟨cs, i, j, t, hb, hc⟩ := id bg
  have hlt := bg.lt
  have mod : ∀ (v : Int) (s' : Sto), (∃ cs i j t, s' = s.set b (bagO cs i j t) ∧ cs.length ≤ 63) → Q (.int (v % many)) s' := fun v s' ⟨cs, i, j, t, e, h⟩ => by
    subst e
    exact q _ _ (Int.emod_nonneg _ (by omega)) (Int.emod_lt_of_pos _ hm0) (.set (by simp)) ⟨cs, i, j, t, set_get hlt, h⟩
  have rd : ∀ cs i j t, (s.set b (bagO cs i j t))[b]? = some (bagO cs i j t) := fun _ _ _ _ => set_get hlt
  unfold m__law_draw
  walk_at "mir"
  unfold mSub
  walk_at "mir"
  refine ix_ref hb atI_three ?_
  simp only [addD_int]
  refine setB0 (o' := bagO cs i j (t + 1)) (j := 3) hb rfl rfl rfl ?_
  refine ix_ref (rd cs i j (t + 1)) atI_two ?_
  refine iteBt (fun e => ?_) fun e => ?_
  · have e : 0 < j := of_decide_eq_true e
    refine ix_ref (rd cs i j (t + 1)) atI_two ?_
    refine ⟨hm0, ?_⟩
    refine ix_ref (rd cs i j (t + 1)) atI_two ?_
    simp only [intD_eq]
    refine ⟨⟨hm0, hm1⟩, ?_⟩
    refine setB hlt (o' := bagO cs i (j / many) (t + 1)) (j := 2) rfl rfl rfl ?_
    exact mod j _ ⟨cs, i, j / many, t + 1, rfl, hc⟩
  refine ix_ref (rd cs i j (t + 1)) atI_zero ?_
  rw [lenG_vl, tO_some, List.length_map, eqD_int, tbl_bl]
  refine iteBt (fun e2 => ?_) fun e2 => ?_
  · refine ix_ref (rd cs i j (t + 1)) atI_three ?_
    exact ⟨0, t + 1, rfl, fun v hv => ⟨hm0, mod v _ ⟨cs, i, j, t + 1, rfl, hc⟩⟩⟩
  have e2 : ¬ ((cs.length : Int) = 0) := of_decide_eq_false e2
  refine ix_ref (rd cs i j (t + 1)) atI_one ?_
  simp only [addD_int]
  refine setB hlt (o' := bagO cs (i + 1) j (t + 1)) (j := 1) rfl rfl rfl ?_
  have hpos : 0 < (cs.length : Int) := by omega
  have h0 : 0 ≤ i % (cs.length : Int) := Int.emod_nonneg _ (by omega)
  have h1 : i % (cs.length : Int) < (cs.length : Int) := Int.emod_lt_of_pos _ hpos
  obtain ⟨d, hd, hmem⟩ := atI_in (l := cs.map D.int) h0 (by rw [List.length_map]; exact h1)
  obtain ⟨c, _, rfl⟩ := List.mem_map.mp hmem
  rw [show intG (s.set b (bagO cs (i + 1) j (t + 1))) (.int i) = some (.int i) from rfl]
  simp only [tO_some, lenG_vl, List.length_map, intD_eq]
  refine ⟨hpos, ?_⟩
  rw [ixD_vl, hd]
  simp only [tO_some, ordD_int, tbl_bl]
  have last : ixD (.ref b) (.int 3) (s.set b (bagO cs (i + 1) j (t + 1))) (fun x s1 => F__law_mixed [.int c, x] s1 (fun x s1 => iMod x (.int many) s1 Q X) X) X :=
    ix_ref (rd cs (i + 1) j (t + 1)) atI_three ⟨c, t + 1, rfl, fun v hv => ⟨hm0, mod v _ ⟨cs, i + 1, j, t + 1, rfl, hc⟩⟩⟩
  refine iteBt (fun e3 => ?_) fun e3 => last
  rw [show absG (s.set b (bagO cs (i + 1) j (t + 1))) (.int c) = some (.int (if c < 0 then -c else c)) from rfl]
  simp only [tO_some, ordD_int, tbl_bl]
  refine ⟨⟨by decide, by decide, by decide⟩, ?_⟩
  refine iteBt (fun e4 => ?_) fun e4 => last
  refine ⟨⟨hm0, hm1⟩, ?_⟩
  refine setB hlt (o' := bagO cs (i + 1) ((if c < 0 then -c else c) / many) (t + 1)) (j := 2) rfl rfl rfl ?_
  exact ⟨hm0, mod _ _ ⟨cs, i + 1, (if c < 0 then -c else c) / many, t + 1, rfl, hc⟩⟩
end K87

set_option Elab.async false
set_option linter.all false
set_option maxRecDepth 100000
set_option maxHeartbeats 400000
/-! K87H: words, names, leaves. -/
namespace K87
open PySem PySem.Spec PyProof.Rows L2 Mir
local macro_rules | `(tactic| walk_at "mir") => `(tactic| try simp only [mIfS, mSeqS, mRet, mAsg, gmName, gmTup_tup, gmCons_cons, gmNil, mVar_eq, mC, mOp, mCons, mNil, mTup, mLst, mLstR, mCall, mCB, oneF_eq, mTst_eq, mNotT, mAndT, mOrT, mTru_eq, truD_bl, mUn, mIf, mAndV_eq, mOrV_eq, mNotV_eq, mNeg_eq, mSl, mNoPart, mPart_eq, intD_eq, addD_int, addD_str, addD_tup, addD_vl, ordD_int, ordD_str, mChain_eq, isiM_eq, mNext, mFor, mSeq_eq, tSeq1_str, tSeq1_tup, tSeq1_vl, tSeq1_sq, mRange1_eq, tRng1_int, mEnum_eq, tEnum_tup, mAug_eq, mLc, mYes, startL, endF, tbl_bl, tint_int, tO_some, eqD_int, eqD_str, ixD_tup, ixD_vl, slD_tup, slD_vl, slD_sq, slD_str, lenG_tup, lenG_vl, isBlD_eq, List.length_cons, List.length_nil, List.map_cons, List.map_nil, List.replicate, Nat.reduceAdd, Nat.reduceSub, List.cons_append, List.nil_append, List.append_nil, List.getElem?_cons_succ, List.getElem?_cons_zero, List.set_cons_succ, List.set_cons_zero, true_and, and_true, Bool.not_true, Bool.not_false, Bool.false_eq_true, if_true, if_false, ite_true, ite_false, not_true, not_false_iff, Bool.true_eq_false, reduceCtorEq, wipeL])

theorem str_app_len {a b : Str} : (a ++ b).length = a.length + b.length := by
  show (a.cps ++ b.cps).size = a.cps.size + b.cps.size
  simp
theorem str_app_ok {a b : Str} (ha : PyData.strOk a = true) (hb : PyData.strOk b = true) : PyData.strOk (a ++ b) = true := by
  unfold PyData.strOk at *
  show (a.cps ++ b.cps).all _ = true
  rw [Array.all_append, ha, hb]
  rfl
theorem str1_len {c : Nat} : (⟨#[c]⟩ : Str).length = 1 := rfl
theorem rangeD_len {lo : Int} {n : Nat} : (rangeD lo n).length = n := by simp [rangeD]
/-- a sign out of the letters -/
theorem letter_at {v : Int} (h0 : 0 ≤ v) (h1 : v < 26) : ∃ c, atI letters.cps.toList v = some c ∧ PyData.strOk ⟨#[c]⟩ = true := by
  obtain ⟨c, hc, hm⟩ := atI_in (l := letters.cps.toList) h0 (by
    have : letters.cps.toList.length = 26 := by decide +kernel
    omega)
  refine ⟨c, hc, ?_⟩
  have : ∀ c ∈ letters.cps.toList, PyData.strOk ⟨#[c]⟩ = true := by decide +kernel
  exact this c hm
/-- a draw -/
theorem d_draw {b : Nat} {many : Int} {s : Sto} {R : QD} {Y : QX} (bg : BagAt s b) (h0 : 0 < many) (h1 : many < 1073741824) (h : ∀ v s1, 0 ≤ v → v < many → Fr [b] s s1 → BagAt s1 b → R (.int v) s1) : F__law_draw [.ref b, .int many] s R Y := ⟨b, many, rfl, bg, h0, h1, h⟩
theorem p_word (ds : List D) (s : Sto) (Q : QD) (X : QX) (h : F__law_word ds s Q X) : m__law_word (startL 5 ds) s (endF Q X) := by
  obtain ⟨b, most, rfl, bg, h1, h12, q⟩ := h
  unfold m__law_word
  refine sq_set (d := .str letters) (fun R Y t => t) ?_
  refine sq_set (d := .str "") (fun R Y t => t) ?_
  refine sq_rangeA (fun j s1 => 1 ≤ j ∧ j ≤ 12 ∧ Fr [b] s s1 ∧ BagAt s1 b) (fun R Y k => ?_) fun j s1 ⟨j0, j1, f1, bg1⟩ => ⟨by omega, by omega, ?_⟩
  · walk_at "mir"
    exact d_draw bg (by omega) (by omega) fun v s1 v0 v1 f1 bg1 => k (1 + v) s1 ⟨by omega, by omega, f1, bg1⟩
  refine loop_inv (fun its l s' => ∃ z v4, l = [some (.ref b), some (.int most), some (.str letters), some (.str z), v4] ∧ z.length + its.length ≤ 12 ∧ PyData.strOk z = true ∧ Fr [b] s s' ∧ BagAt s' b) ⟨"", none, rfl, ?_, by decide +kernel, f1, bg1⟩ (fun _ _ _ _ => trivial) ?_ ?_
  · rw [rangeD_len]
    show 0 + _ ≤ 12
    omega
  · rintro l s' ⟨z, v4, rfl, hz, oz, f, bg'⟩
    exact q z s' (by simpa using hz) oz f bg'
  · rintro d r l s' ⟨z, v4, rfl, hz, oz, f, bg'⟩ N hN
    walk_at "mir"
    refine d_draw bg' (by decide) (by decide) fun v s2 w0 w1 f2 bg2 => ?_
    obtain ⟨c, hc, oc⟩ := letter_at w0 w1
    rw [ixD_str, hc]
    refine ⟨by decide, ?_⟩
    simp only [tO_some, addD_str]
    rw [List.length_cons] at hz
    refine ⟨?_, hN _ _ ⟨z ++ ⟨#[c]⟩, some d, rfl, ?_, str_app_ok oz oc, f.trans f2, bg2⟩⟩
    · rw [str1_len]
      unfold sizeLine
      omega
    · rw [str_app_len, str1_len]
      omega
theorem p_kept (ds : List D) (s : Sto) (Q : QD) (X : QX) (h : F__law_kept_words ds s Q X) : m__law_kept_words (startL 1 ds) s (endF Q X) := by
  obtain ⟨rfl, q⟩ := h
  unfold m__law_kept_words
  refine ⟨by decide, by decide, by decide, q⟩
theorem BagAt.push {s : Sto} {b : Nat} {o : Ob} (h : BagAt s b) : BagAt (s ++ [o]) b := h.keep (S := []) .push (by simp)
theorem BagAt.setN {s : Sto} {b n : Nat} {o : Ob} (h : BagAt s b) (hn : n ≠ b) : BagAt (s.set n o) b := h.keep (S := [n]) (.set (by simp)) (by simp; omega)
/-- appending to a list of the store -/
theorem d_append {s : Sto} {n : Nat} {l : List D} {y : D} {R : QD} {Y : QX} (h : s[n]? = some (.lst l)) (hl : l.length < sizeLine) (q : R .non (s.set n (.lst (l ++ [y])))) : appendF (.ref n) [y] s R Y := by
  unfold appendF
  simp only [h]
  exact ⟨hl, q⟩
theorem isLst_ref {s : Sto} {n : Nat} {l : List D} (h : s[n]? = some (.lst l)) : isLst s (.ref n) = true := by
  unfold isLst
  rw [lstT_ref h]
  rfl
theorem p_names (ds : List D) (s : Sto) (Q : QD) (X : QX) (h : F__law_names ds s Q X) : m__law_names (startL 4 ds) s (endF Q X) := by
  obtain ⟨b, rfl, bg, q⟩ := h
  have hb := bg.lt
  unfold m__law_names
  refine sq_setA (fun d s1 => d = .ref s.length ∧ s1 = s ++ [.lst []]) (fun R Y k => ⟨by decide, k _ _ ⟨rfl, rfl⟩⟩) fun d s1 ⟨e1, e2⟩ => ?_
  subst e1 e2
  refine sq_rangeA (fun j s1 => j = 3 ∧ s1 = s ++ [.lst []]) (fun R Y k => k _ _ ⟨rfl, rfl⟩) fun j s1 ⟨e1, e2⟩ => ?_
  subst e1 e2
  refine ⟨by decide, by decide, ?_⟩
  refine loop_inv (fun its l s' => ∃ (ns : List Str) (v2 v3 : Option D), l = [some (.ref b), some (.ref s.length), v2, v3] ∧ ns.length + its.length = 3 ∧ (∀ z ∈ ns, z.length ≤ 1000 ∧ PyData.strOk z = true) ∧ s'[s.length]? = some (.lst (ns.map .str)) ∧ Fr [b] s s' ∧ BagAt s' b)
    ⟨[], none, none, rfl, rfl, (fun z hz => by cases hz), ?_, .push, bg.push⟩ (fun _ _ _ _ => trivial) ?_ ?_
  · rw [List.getElem?_append_right (Nat.le_refl _), Nat.sub_self]
    rfl
  · rintro l s' ⟨ns, v2, v3, rfl, hn, oz, hs, f, bg'⟩
    exact q s' f bg' ⟨ns, hs, by simpa using hn, oz⟩
  · rintro d r l s' ⟨ns, v2, v3, rfl, hn, oz, hs, f, bg'⟩ N hN
    have hlt : s.length < s'.length := (List.getElem?_eq_some_iff.mp hs).1
    rw [List.length_cons] at hn
    simp only [gmName, List.set_cons_succ, List.set_cons_zero]
    refine sq_setA (fun y s2 => ∃ z : Str, y = .str z ∧ z.length ≤ 12 ∧ PyData.strOk z = true ∧ Fr [b] s' s2 ∧ BagAt s2 b) (fun R Y k => ?_) fun y s2 ⟨z, e, hz, oz', f2, bg2⟩ => ?_
    · walk_at "mir"
      exact ⟨b, 8, rfl, bg', by decide, by decide, fun z s2 hz oz' f2 bg2 => k _ _ ⟨z, rfl, hz, oz', f2, bg2⟩⟩
    subst e
    have hs2 : s2[s.length]? = some (.lst (ns.map .str)) := f2.at_ hs (by simp; omega)
    have hlt2 : s.length < s2.length := Nat.lt_of_lt_of_le hlt f2.1
    have fin : ∀ (y : Str), y.length ≤ 1000 → PyData.strOk y = true → mExpr (mBM appendF isLst (mVar 1) (mCons (mVar 3) mNil)) [some (.ref b), some (.ref s.length), some d, some (.str y)] s2 { nx := N, rt := (endF Q X).rt, bk := fun l' s' => mRet (mVar 1) l' s' (endF Q X), ct := N, ex := (endF Q X).ex } := fun y hy oy => by
      refine exprA (fun s3 => s3 = s2.set s.length (.lst (ns.map .str ++ [.str y]))) (fun R Y k => ?_) fun s3 e => ?_
      · unfold mBM
        walk_at "mir"
        exact ⟨isLst_ref hs2, d_append hs2 (by rw [List.length_map]; unfold sizeLine; omega) (k _ _ rfl)⟩
      · subst e
        refine hN _ _ ⟨ns ++ [y], some d, some (.str y), rfl, by simp; omega, ?_, ?_, ?_, bg2.setN (by omega)⟩
        · intro z' hz'
          rcases List.mem_append.mp hz' with h | h
          · exact oz z' h
          · rw [List.mem_singleton.mp h]
            exact ⟨hy, oy⟩
        · rw [set_get hlt2, List.map_append]
          rfl
        · refine ⟨by simpa using Nat.le_trans f.1 f2.1, fun n hn' hm => ?_⟩
          rw [List.getElem?_set_ne (by omega), (f.trans f2).2 n hn' hm]
    refine sq_iA (fun _ s3 => s3 = s2) (fun R Y k => ?_) (fun s3 e => ?_) fun s3 e => ?_
    · walk_at "mir"
      refine ⟨rfl, ?_⟩
      dsimp only
      rw [inD_strsL, tbl_bl]
      exact k _ _ rfl
    · subst e
      refine setA (fun y s4 => y = .str (z ++ "q") ∧ s4 = s3) (fun R Y k => ?_) fun y s4 ⟨e1, e2⟩ => ?_
      · walk_at "mir"
        exact ⟨by rw [show ("q" : Str).length = 1 from rfl]; unfold sizeLine; omega, k _ _ ⟨rfl, rfl⟩⟩
      · subst e1 e2
        exact fin (z ++ "q") (by rw [str_app_len, show ("q" : Str).length = 1 from rfl]; omega) (str_app_ok oz' (by decide +kernel))
    · subst e
      exact fin z (by omega) oz'
end K87

set_option Elab.async false
set_option linter.all false
set_option maxRecDepth 100000
set_option maxHeartbeats 400000
/-! K87I: leaves, expressions. -/
namespace K87
open PySem PySem.Spec PyProof.Rows L2 Mir
local macro_rules | `(tactic| walk_at "mir") => `(tactic| try simp only [mIfS, mSeqS, mRet, mAsg, gmName, gmTup_tup, gmCons_cons, gmNil, mVar_eq, mC, mOp, mCons, mNil, mTup, mLst, mLstR, mCall, mCB, oneF_eq, mTst_eq, mNotT, mAndT, mOrT, mTru_eq, truD_bl, mUn, mIf, mAndV_eq, mOrV_eq, mNotV_eq, mNeg_eq, mSl, mNoPart, mPart_eq, intD_eq, addD_int, addD_str, addD_tup, addD_vl, ordD_int, ordD_str, mChain_eq, isiM_eq, mNext, mFor, mSeq_eq, tSeq1_str, tSeq1_tup, tSeq1_vl, tSeq1_sq, mRange1_eq, tRng1_int, mEnum_eq, tEnum_tup, mAug_eq, mLc, mYes, startL, endF, tbl_bl, tint_int, tO_some, eqD_int, eqD_str, ixD_tup, ixD_vl, slD_tup, slD_vl, slD_sq, slD_str, lenG_tup, lenG_vl, isBlD_eq, List.length_cons, List.length_nil, List.map_cons, List.map_nil, List.replicate, Nat.reduceAdd, Nat.reduceSub, List.cons_append, List.nil_append, List.append_nil, List.getElem?_cons_succ, List.getElem?_cons_zero, List.set_cons_succ, List.set_cons_zero, true_and, and_true, Bool.not_true, Bool.not_false, Bool.false_eq_true, if_true, if_false, ite_true, ite_false, not_true, not_false_iff, Bool.true_eq_false, reduceCtorEq, wipeL])

/-- the bag, the names -/
structure BN (s : Sto) (b m : Nat) : Prop where
  bg : BagAt s b
  nm : NmAt s m
  ne : m ≠ b
theorem BN.to {s s' : Sto} {b m : Nat} (h : BN s b m) (f : Fr [b] s s') (bg : BagAt s' b) : BN s' b m := ⟨bg, h.nm.keep f (by simpa using h.ne), h.ne⟩
/-- a value, the bag behind it -/
abbrev Out (P : D → Prop) (b : Nat) (st : Sto) (Q : QD) : Prop := ∀ x st', P x → Fr [b] st st' → BagAt st' b → Q x st'
def F__law_leaf : Fn := fun ds st Q _ => ∃ b m, ds = [.ref b, .ref m] ∧ BN st b m ∧ Out (Gd 1) b st Q
def Fd_expr (n : Nat) : Fn := fun ds st Q _ => ∃ b m, ∃ room deep shape : Int, ds = [.ref b, .ref m, .int room, .int deep, .int shape] ∧ BN st b m ∧ room ≤ 45 ∧ deep ≤ n ∧ Out (Gd (n + 1)) b st Q
def F__law_expression : Fn := Fd_expr 10
def F__law_plain : Fn := fun ds st Q _ => ∃ b m w, ds = [.ref b, .ref m, .bl w] ∧ BN st b m ∧ Out (Gd 11) b st Q
/-- _law_leaf(_law_bag_here, _law_names_here); 0 _law_bag_here, 1 _law_names_here, 2 _law_kind -/
def m__law_leaf : WS := (mSeqS (mAsg (mCall 2 F__law_draw (mCons (mVar 0) (mCons (mC (.int 5)) mNil))) (gmName 2))
    (mSeqS (mIfS (mTst (mOp (eqD false) (mVar 2) (mC (.int 0))))
    (mRet (mTup (mCons (mC (.str "key")) (mCons (mCall 2 F__law_word (mCons (mVar 0) (mCons (mC (.int 12)) mNil))) mNil))))
    mNext)
    (mSeqS (mIfS (mTst (mOp (eqD false) (mVar 2) (mC (.int 1))))
    (mRet (mTup (mCons (mC (.str "num")) (mCons (mOp ixD (mLst (mCons (mC (.int 0)) (mCons (mNeg (mC (.int 1))) (mCons (mOp iPow (mC (.int 10)) (mC (.int 18))) (mCons (mNeg (mOp iPow (mC (.int 10)) (mC (.int 18)))) (mCons (mC (.int 7)) mNil)))))) (mCall 2 F__law_draw (mCons (mVar 0) (mCons (mC (.int 5)) mNil)))) mNil))))
    mNext)
    (mSeqS (mIfS (mTst (mOp (eqD false) (mVar 2) (mC (.int 2))))
    (mRet (mTup (mCons (mC (.str "num")) (mCons (mOp iSub (mCall 2 F__law_draw (mCons (mVar 0) (mCons (mOp iPow (mC (.int 10)) (mC (.int 9))) mNil))) (mOp iMul (mC (.int 5)) (mOp iPow (mC (.int 10)) (mC (.int 8))))) mNil))))
    mNext)
    (mRet (mTup (mCons (mC (.str "name")) (mCons (mOp ixD (mVar 1) (mCall 2 F__law_draw (mCons (mVar 0) (mCons (mCB (oneF lenG) (mCons (mVar 1) mNil)) mNil)))) mNil))))))))
/-- _law_expression(_law_bag_here, _law_names_here, _law_room, _law_deep, _law_shape); 0 _law_bag_here, 1 _law_names_here, 2 _law_room, 3 _law_deep, 4 _law_shape, 5 _law_left, 6 _law_sign, 7 _law_one -/
def m__law_expression (Fr : List D → WD) : WS := (mSeqS (mIfS (mOrT (mTst (mOp oLe (mVar 2) (mC (.int 1)))) (mTst (mOp oLe (mVar 3) (mC (.int 1)))))
    (mRet (mCall 2 F__law_leaf (mCons (mVar 0) (mCons (mVar 1) mNil))))
    mNext)
    (mSeqS (mIfS (mOrT (mTst (mOp (eqD false) (mVar 2) (mC (.int 2)))) (mAndT (mTst (mOp (eqD false) (mVar 4) (mC (.int 2)))) (mTst (mOp (eqD false) (mCall 2 F__law_draw (mCons (mVar 0) (mCons (mC (.int 2)) mNil))) (mC (.int 0))))))
    (mRet (mTup (mCons (mC (.str "not")) (mCons (mCall 5 Fr (mCons (mVar 0) (mCons (mVar 1) (mCons (mOp iSub (mVar 2) (mC (.int 1))) (mCons (mOp iSub (mVar 3) (mC (.int 1))) (mCons (mVar 4) mNil)))))) mNil))))
    mNext)
    (mSeqS (mAsg (mOp addD (mC (.int 1)) (mCall 2 F__law_draw (mCons (mVar 0) (mCons (mOp iSub (mVar 2) (mC (.int 2))) mNil)))) (gmName 5))
    (mSeqS (mIfS (mTst (mOp (eqD false) (mVar 4) (mC (.int 1))))
    (mAsg (mOp iDiv (mOp iSub (mVar 2) (mC (.int 1))) (mC (.int 2))) (gmName 5))
    mNext)
    (mSeqS (mIfS (mTst (mOp (eqD false) (mVar 4) (mC (.int 2))))
    (mAsg (mOp iSub (mVar 2) (mC (.int 2))) (gmName 5))
    mNext)
    (mSeqS (mAsg (mOp ixD (mLst (mCons (mC (.str "+")) (mCons (mC (.str "-")) (mCons (mC (.str "*")) (mCons (mC (.str "/")) (mCons (mC (.str "mod")) (mCons (mC (.str "<")) (mCons (mC (.str "=")) (mCons (mC (.str "and")) (mCons (mC (.str "or")) mNil)))))))))) (mCall 2 F__law_draw (mCons (mVar 0) (mCons (mC (.int 9)) mNil)))) (gmName 6))
    (mSeqS (mAsg (mCall 5 Fr (mCons (mVar 0) (mCons (mVar 1) (mCons (mVar 5) (mCons (mOp iSub (mVar 3) (mC (.int 1))) (mCons (mVar 4) mNil)))))) (gmName 7))
    (mRet (mTup (mCons (mVar 6) (mCons (mVar 7) (mCons (mCall 5 Fr (mCons (mVar 0) (mCons (mVar 1) (mCons (mOp iSub (mOp iSub (mVar 2) (mC (.int 1))) (mVar 5)) (mCons (mOp iSub (mVar 3) (mC (.int 1))) (mCons (mVar 4) mNil)))))) mNil))))))))))))
/-- _law_plain(_law_bag_here, _law_names_here, _law_is_wild); 0 _law_bag_here, 1 _law_names_here, 2 _law_is_wild, 3 _law_room -/
def m__law_plain : WS := (mSeqS (mIfS (mTru (mVar 2))
    (mSeqS (mAsg (mOp ixD (mLst (mCons (mC (.int 8)) (mCons (mC (.int 9)) (mCons (mC (.int 39)) (mCons (mC (.int 40)) (mCons (mC (.int 41)) (mCons (mC (.int 45)) mNil))))))) (mCall 2 F__law_draw (mCons (mVar 0) (mCons (mC (.int 6)) mNil)))) (gmName 3))
    (mRet (mCall 5 F__law_expression (mCons (mVar 0) (mCons (mVar 1) (mCons (mVar 3) (mCons (mOp addD (mC (.int 8)) (mCall 2 F__law_draw (mCons (mVar 0) (mCons (mC (.int 3)) mNil)))) (mCons (mCall 2 F__law_draw (mCons (mVar 0) (mCons (mC (.int 3)) mNil))) mNil))))))))
    mNext)
    (mRet (mCall 5 F__law_expression (mCons (mVar 0) (mCons (mVar 1) (mCons (mOp ixD (mLst (mCons (mC (.int 1)) (mCons (mC (.int 1)) (mCons (mC (.int 1)) (mCons (mC (.int 2)) (mCons (mC (.int 3)) (mCons (mC (.int 5)) mNil))))))) (mCall 2 F__law_draw (mCons (mVar 0) (mCons (mC (.int 6)) mNil)))) (mCons (mC (.int 8)) (mCons (mCall 2 F__law_draw (mCons (mVar 0) (mCons (mC (.int 3)) mNil))) mNil))))))))
/-- an entry of a list that is written out -/
theorem ix_in {l : List D} {v : Int} {s : Sto} {R : QD} {Y : QX} (h0 : 0 ≤ v) (h1 : v < l.length) (h : ∀ d ∈ l, R d s) : ixD (.vl l) (.int v) s R Y := by
  rw [ixD_vl]
  obtain ⟨d, hd, hm⟩ := atI_in h0 h1
  rw [hd]
  exact h d hm
theorem gd2 {w : Str} {x : D} (hw : w.length ≤ 1000 ∧ PyData.strOk w = true) (hx : Sc x) : Gd 1 (.tup [.str w, x]) := ⟨by simp, fun y hy => by
  rcases List.mem_cons.mp hy with e | hy
  · subst e
    exact hw
  · rw [List.mem_singleton.mp hy]
    exact hx⟩
theorem p_leaf0 (ds : List D) (s : Sto) (Q : QD) (X : QX) (h : F__law_leaf ds s Q X) : m__law_leaf (startL 3 ds) s (endF Q X) := by
  obtain ⟨b, m, rfl, bn, q⟩ := h
  unfold m__law_leaf
  refine sq_setA (fun d s1 => ∃ v : Int, d = .int v ∧ Fr [b] s s1 ∧ BagAt s1 b) (fun R Y k => ?_) fun d s1 ⟨v, e, f1, bg1⟩ => ?_
  · walk_at "mir"
    exact d_draw bn.bg (by decide) (by decide) fun v s1 _ _ f1 bg1 => k _ _ ⟨v, rfl, f1, bg1⟩
  subst e
  have bn1 := bn.to f1 bg1
  refine sq_g (b := decide (v = 0)) (fun R Y t => by walk_at "mir"; exact t) (fun _ => ?_) fun _ => ?_
  · walk_at "mir"
    refine ⟨b, 12, rfl, bg1, by decide, by decide, fun z s2 hz oz f2 bg2 => ⟨by decide, ?_⟩⟩
    exact q _ s2 (gd2 (by decide +kernel) ⟨by omega, oz⟩) (f1.trans f2) bg2
  refine sq_g (b := decide (v = 1)) (fun R Y t => by walk_at "mir"; exact t) (fun _ => ?_) fun _ => ?_
  · walk_at "mir"
    refine ⟨⟨by decide, by decide, by decide⟩, ⟨by decide, by decide, by decide⟩, by decide, ?_⟩
    refine d_draw bg1 (by decide) (by decide) fun u s2 u0 u1 f2 bg2 => ?_
    refine ix_in u0 (by simpa using u1) fun d hd => ⟨by decide, q _ s2 (gd2 (by decide +kernel) ?_) (f1.trans f2) bg2⟩
    simp only [List.mem_cons, List.not_mem_nil, or_false] at hd
    rcases hd with e | e | e | e | e <;> rw [e] <;> trivial
  refine sq_g (b := decide (v = 2)) (fun R Y t => by walk_at "mir"; exact t) (fun _ => ?_) fun _ => ?_
  · walk_at "mir"
    refine ⟨⟨by decide, by decide, by decide⟩, ?_⟩
    refine d_draw bg1 (by decide) (by decide) fun u s2 u0 u1 f2 bg2 => ?_
    refine ⟨⟨by decide, by decide, by decide⟩, mulL (by decide) (by decide), trivial, by decide, ?_⟩
    exact q _ s2 (gd2 (by decide +kernel) trivial) (f1.trans f2) bg2
  walk_at "mir"
  obtain ⟨ns, hn, hl, hz⟩ := bn1.nm
  rw [show lenG s1 (.ref m) = some (.int 3) by
    show (seqA s1 (.ref m)).map _ = _
    rw [seqA_ref hn]
    simp [hl]]
  rw [tO_some]
  refine d_draw bg1 (by decide) (by decide) fun u s2 u0 u1 f2 bg2 => ?_
  have hn2 := f2.at_ hn (by simpa using bn.ne)
  obtain ⟨d, hd, hm⟩ := atI_in (l := ns.map D.str) u0 (by rw [List.length_map, hl]; exact u1)
  refine ix_ref hn2 hd ⟨by decide, ?_⟩
  obtain ⟨z, hzm, rfl⟩ := List.mem_map.mp hm
  exact q _ s2 (gd2 (by decide +kernel) (hz z hzm)) (f1.trans f2) bg2
theorem p_expr (n : Nat) (Fr' : Fn) (hFr : ∀ n', n = n' + 1 → Fr' = Fd_expr n') (ds : List D) (s : Sto) (Q : QD) (X : QX) (h : Fd_expr n ds s Q X) : m__law_expression Fr' (startL 8 ds) s (endF Q X) := by
  obtain ⟨b, m, room, deep, shape, rfl, bn, hr, hd, q⟩ := h
  unfold m__law_expression
  refine sq_g (b := decide (room ≤ 1) || decide (deep ≤ 1)) (fun R Y t => ?_) (fun _ => ?_) fun e => ?_
  · walk_at "mir"
    refine iteBt (fun z => ?_) fun z => ?_
    · have z : decide (room ≤ 1) = true := z
      rw [z] at t
      exact t
    · have z : decide (room ≤ 1) = false := z
      rw [z] at t
      exact t
  · walk_at "mir"
    exact ⟨b, m, rfl, bn, fun x st' g f bg => q x st' (g.mono (by omega)) f bg⟩
  simp only [Bool.or_eq_false_iff, decide_eq_false_iff_not] at e
  obtain ⟨e1, e2⟩ := e
  obtain ⟨n, rfl⟩ : ∃ n', n = n' + 1 := ⟨n - 1, by omega⟩
  have hf := hFr n rfl
  subst hf
  have gw : ∀ (w : Str) (l : List D), w.length ≤ 1000 ∧ PyData.strOk w = true → l.length ≤ 5 → (∀ x ∈ l, Gd (n + 1) x) → Gd (n + 1 + 1) (.tup (.str w :: l)) := fun w l hw hl hg => ⟨by simp; omega, fun y hy => by
    rcases List.mem_cons.mp hy with e | hy
    · subst e
      exact Gd.sc hw
    · exact hg y hy⟩
  refine sq_gA (fun c s1 => Fr [b] s s1 ∧ BagAt s1 b ∧ (c = false → room ≠ 2)) (fun R Y k => ?_) (fun s1 ⟨f1, bg1, _⟩ => ?_) fun s1 ⟨f1, bg1, hr2⟩ => ?_
  · walk_at "mir"
    refine iteBt (fun z => k true s ⟨.refl _ _, bn.bg, fun z => by cases z⟩) fun z => ?_
    have z : decide (room = 2) = false := z
    have z := of_decide_eq_false z
    refine iteBt (fun _ => ?_) fun _ => k false s ⟨.refl _ _, bn.bg, fun _ => z⟩
    refine d_draw bn.bg (by decide) (by decide) fun v s1 _ _ f1 bg1 => ?_
    exact k _ s1 ⟨f1, bg1, fun _ => z⟩
  · walk_at "mir"
    refine ⟨b, m, room - 1, deep - 1, shape, rfl, bn.to f1 bg1, by omega, by omega, fun x s2 g f2 bg2 => ⟨by decide, ?_⟩⟩
    exact q _ s2 (gw "not" [x] (by decide +kernel) (by simp) (by simpa using g)) (f1.trans f2) bg2
  have hr2 := hr2 rfl
  refine sq_setA (fun d s2 => ∃ v : Int, d = .int v ∧ 1 ≤ v ∧ v ≤ room - 2 ∧ Fr [b] s s2 ∧ BagAt s2 b) (fun R Y k => ?_) fun d s2 ⟨v, e, v0, v1, f2, bg2⟩ => ?_
  · walk_at "mir"
    exact d_draw bg1 (by omega) (by omega) fun v s2 v0 v1 f2 bg2 => k _ _ ⟨1 + v, rfl, by omega, by omega, f1.trans f2, bg2⟩
  subst e
  have left : ∀ v : Int, 1 ≤ v → v ≤ room - 2 → ∀ v6 v7 : Option D, mSeqS (mAsg (mOp ixD (mLst (mCons (mC (.str "+")) (mCons (mC (.str "-")) (mCons (mC (.str "*")) (mCons (mC (.str "/")) (mCons (mC (.str "mod")) (mCons (mC (.str "<")) (mCons (mC (.str "=")) (mCons (mC (.str "and")) (mCons (mC (.str "or")) mNil)))))))))) (mCall 2 F__law_draw (mCons (mVar 0) (mCons (mC (.int 9)) mNil)))) (gmName 6))
    (mSeqS (mAsg (mCall 5 (Fd_expr n) (mCons (mVar 0) (mCons (mVar 1) (mCons (mVar 5) (mCons (mOp iSub (mVar 3) (mC (.int 1))) (mCons (mVar 4) mNil)))))) (gmName 7))
    (mRet (mTup (mCons (mVar 6) (mCons (mVar 7) (mCons (mCall 5 (Fd_expr n) (mCons (mVar 0) (mCons (mVar 1) (mCons (mOp iSub (mOp iSub (mVar 2) (mC (.int 1))) (mVar 5)) (mCons (mOp iSub (mVar 3) (mC (.int 1))) (mCons (mVar 4) mNil)))))) mNil))))))
    [some (.ref b), some (.ref m), some (.int room), some (.int deep), some (.int shape), some (.int v), v6, v7] s2 (endF Q X) := fun v v0 v1 v6 v7 => by
    refine sq_setA (fun d s3 => (∃ w : Str, d = .str w ∧ w.length ≤ 1000 ∧ PyData.strOk w = true) ∧ Fr [b] s s3 ∧ BagAt s3 b) (fun R Y k => ?_) fun d s3 ⟨⟨w, e, hw⟩, f3, bg3⟩ => ?_
    · walk_at "mir"
      refine ⟨by decide, d_draw bg2 (by decide) (by decide) fun u s3 u0 u1 f3 bg3 => ix_in u0 (by simpa using u1) fun d hd => k _ _ ⟨?_, f2.trans f3, bg3⟩⟩
      simp only [List.mem_cons, List.not_mem_nil, or_false] at hd
      rcases hd with e | e | e | e | e | e | e | e | e <;> rw [e] <;> exact ⟨_, rfl, by decide +kernel⟩
    subst e
    refine sq_setA (fun d s4 => Gd (n + 1) d ∧ Fr [b] s s4 ∧ BagAt s4 b) (fun R Y k => ?_) fun x s4 ⟨g4, f4, bg4⟩ => ?_
    · walk_at "mir"
      exact ⟨b, m, v, deep - 1, shape, rfl, bn.to f3 bg3, by omega, by omega, fun x s4 g f4 bg4 => k _ _ ⟨g, f3.trans f4, bg4⟩⟩
    walk_at "mir"
    refine ⟨b, m, room - 1 - v, deep - 1, shape, rfl, bn.to f4 bg4, by omega, by omega, fun y s5 g5 f5 bg5 => ⟨by decide, ?_⟩⟩
    refine q _ s5 (gw w [x, y] hw (by simp) fun z hz => ?_) (f4.trans f5) bg5
    rcases List.mem_cons.mp hz with e | hz
    · rw [e]; exact g4
    · rw [List.mem_singleton.mp hz]; exact g5
  have left2 : ∀ v : Int, 1 ≤ v → v ≤ room - 2 → mSeqS (mIfS (mTst (mOp (eqD false) (mVar 4) (mC (.int 2)))) (mAsg (mOp iSub (mVar 2) (mC (.int 2))) (gmName 5)) mNext) _ [some (.ref b), some (.ref m), some (.int room), some (.int deep), some (.int shape), some (.int v), none, none] s2 (endF Q X) := fun v v0 v1 => by
    refine sq_i (b := decide (shape = 2)) (fun R Y t => by walk_at "mir"; exact t) (fun _ => ?_) fun _ => left v v0 v1 _ _
    refine setA (fun d s3 => d = .int (room - 2) ∧ s3 = s2) (fun R Y k => ?_) fun d s3 ⟨e1, e2⟩ => ?_
    · walk_at "mir"
      exact k _ _ ⟨rfl, rfl⟩
    · subst e1 e2
      exact left (room - 2) (by omega) (by omega) _ _
  refine sq_i (b := decide (shape = 1)) (fun R Y t => by walk_at "mir"; exact t) (fun _ => ?_) fun _ => left2 v v0 v1
  refine setA (fun d s3 => d = .int ((room - 1) / 2) ∧ s3 = s2) (fun R Y k => ?_) fun d s3 ⟨e1, e2⟩ => ?_
  · walk_at "mir"
    exact ⟨⟨by decide, by decide⟩, k _ _ ⟨rfl, rfl⟩⟩
  · subst e1 e2
    exact left2 _ (by omega) (by omega)
theorem p_plain (ds : List D) (s : Sto) (Q : QD) (X : QX) (h : F__law_plain ds s Q X) : m__law_plain (startL 4 ds) s (endF Q X) := by
  obtain ⟨b, m, w, rfl, bn, q⟩ := h
  unfold m__law_plain
  refine sq_i (b := w) (fun R Y t => by walk_at "mir"; exact t) (fun _ => ?_) fun _ => ?_
  · refine sq_setA (fun d s1 => (∃ v : Int, d = .int v ∧ v ≤ 45) ∧ Fr [b] s s1 ∧ BagAt s1 b) (fun R Y k => ?_) fun d s1 ⟨⟨v, e, hv⟩, f1, bg1⟩ => ?_
    · walk_at "mir"
      refine ⟨by decide, d_draw bn.bg (by decide) (by decide) fun u s1 u0 u1 f1 bg1 => ix_in u0 (by simpa using u1) fun d hd => k _ _ ⟨?_, f1, bg1⟩⟩
      simp only [List.mem_cons, List.not_mem_nil, or_false] at hd
      rcases hd with e | e | e | e | e | e <;> rw [e] <;> exact ⟨_, rfl, by decide⟩
    subst e
    walk_at "mir"
    refine d_draw bg1 (by decide) (by decide) fun u s2 u0 u1 f2 bg2 => ?_
    simp only [addD_int]
    refine d_draw bg2 (by decide) (by decide) fun t s3 t0 t1 f3 bg3 => ?_
    exact ⟨b, m, v, 8 + u, t, rfl, bn.to ((f1.trans f2).trans f3) bg3, hv, by omega, fun x s4 g f4 bg4 => q x s4 g (((f1.trans f2).trans f3).trans f4) bg4⟩
  · walk_at "mir"
    refine ⟨by decide, d_draw bn.bg (by decide) (by decide) fun u s1 u0 u1 f1 bg1 => ix_in u0 (by simpa using u1) fun d hd => ?_⟩
    refine d_draw bg1 (by decide) (by decide) fun t s2 t0 t1 f2 bg2 => ?_
    simp only [List.mem_cons, List.not_mem_nil, or_false] at hd
    rcases hd with e | e | e | e | e | e <;> rw [e] <;> exact ⟨b, m, _, 8, t, rfl, bn.to (f1.trans f2) bg2, by decide, by decide, fun x s3 g f3 bg3 => q x s3 g ((f1.trans f2).trans f3) bg3⟩
end K87

set_option Elab.async false
set_option linter.all false
set_option maxRecDepth 100000
set_option maxHeartbeats 400000
/-! K87J: strange things, spoiled statements. -/
namespace K87
open PySem PySem.Spec PyProof.Rows L2 Mir
local macro_rules | `(tactic| walk_at "mir") => `(tactic| try simp only [mIfS, mSeqS, mRet, mAsg, gmName, gmTup_tup, gmCons_cons, gmNil, mVar_eq, mC, mOp, mCons, mNil, mTup, mLst, mLstR, mCall, mCB, oneF_eq, mTst_eq, mNotT, mAndT, mOrT, mTru_eq, truD_bl, mUn, mIf, mAndV_eq, mOrV_eq, mNotV_eq, mNeg_eq, mSl, mNoPart, mPart_eq, intD_eq, addD_int, addD_str, addD_tup, addD_vl, ordD_int, ordD_str, mChain_eq, isiM_eq, mNext, mFor, mSeq_eq, tSeq1_str, tSeq1_tup, tSeq1_vl, tSeq1_sq, mRange1_eq, tRng1_int, mEnum_eq, tEnum_tup, mAug_eq, mLc, mYes, startL, endF, tbl_bl, tint_int, tO_some, eqD_int, eqD_str, ixD_tup, ixD_vl, slD_tup, slD_vl, slD_sq, slD_str, lenG_tup, lenG_vl, isBlD_eq, List.length_cons, List.length_nil, List.map_cons, List.map_nil, List.replicate, Nat.reduceAdd, Nat.reduceSub, List.cons_append, List.nil_append, List.append_nil, List.getElem?_cons_succ, List.getElem?_cons_zero, List.set_cons_succ, List.set_cons_zero, true_and, and_true, Bool.not_true, Bool.not_false, Bool.false_eq_true, if_true, if_false, ite_true, ite_false, not_true, not_false_iff, Bool.true_eq_false, reduceCtorEq, wipeL])

def scB : D → Bool
  | .non => true
  | .bl _ => true
  | .int _ => true
  | .str s => decide (s.length ≤ 1000) && PyData.strOk s
  | _ => false
def gdB : Nat → D → Bool
  | 0, x => scB x
  | n + 1, x => match x with
    | .tup l => decide (l.length ≤ 1000) && l.all (gdB n)
    | .vl l => decide (l.length ≤ 1000) && l.all (gdB n)
    | .vd ks vs => ks.isEmpty && vs.isEmpty
    | x => scB x
theorem scB_ok {x : D} (h : scB x = true) : Sc x := by
  cases x <;> first
    | trivial
    | (cases h; done)
    | (simp [scB] at h; exact h)
theorem gdB_ok : ∀ {n : Nat} {x : D}, gdB n x = true → Gd n x
  | 0, x, h => scB_ok h
  | n + 1, x, h => by
    cases x with
    | tup l =>
      simp only [gdB, Bool.and_eq_true, decide_eq_true_eq, List.all_eq_true] at h
      exact ⟨h.1, fun y hy => gdB_ok (h.2 y hy)⟩
    | vl l =>
      simp only [gdB, Bool.and_eq_true, decide_eq_true_eq, List.all_eq_true] at h
      exact ⟨h.1, fun y hy => gdB_ok (h.2 y hy)⟩
    | vd ks vs =>
      simp only [gdB, Bool.and_eq_true, List.isEmpty_iff] at h
      exact h
    | _ =>
      simp only [gdB] at h
      exact scB_ok h
/-- a word that opens no block -/
def calm (w : Str) : Bool := !(w == "for") && (!(w == "if") && !(w == "while"))
theorem calm_blocks {w : Str} {r : List D} (h : calm w = true) : blocksOf w r = [] := by
  simp only [calm, Bool.and_eq_true, Bool.not_eq_true', beq_eq_false_iff_ne] at h
  unfold blocksOf
  rw [if_neg h.1, if_neg h.2.1, if_neg h.2.2]
def calmD (x : D) : Bool := match stm x with
  | none => true
  | some (w, _) => calm w
theorem calmD_cnt {n : Nat} {x : D} (h : calmD x = true) : cntI n x = 0 := by
  unfold cntI
  unfold calmD at h
  cases e : stm x with
  | none => rfl
  | some p =>
    obtain ⟨w, r⟩ := p
    rw [e] at h
    cases n with
    | zero => rfl
    | succ n =>
      show ((blocksOf w r).map _).sum = 0
      rw [calm_blocks h]
      rfl
/-- a strange thing, as a block and as a word -/
structure Odd (x : D) : Prop where
  gd : Gd 4 x
  cnt : ∀ n, cnt n (tupL x) ≤ 4
  word : ∀ w, x = .str w → calm w = true
def oddB (x : D) : Bool := gdB 4 x && (decide ((tupL x).length ≤ 4) && ((tupL x).all calmD && match x with
  | .str w => calm w
  | _ => true))
theorem oddB_ok {x : D} (h : oddB x = true) : Odd x := by
  simp only [oddB, Bool.and_eq_true, decide_eq_true_eq, List.all_eq_true] at h
  obtain ⟨h1, h2, h3, h4⟩ := h
  refine ⟨gdB_ok h1, fun n => ?_, fun w e => by subst e; exact h4⟩
  rw [cnt_eq]
  have : ((tupL x).map (cntI n)).sum = 0 := by
    have : ∀ l : List D, (∀ y ∈ l, calmD y = true) → (l.map (cntI n)).sum = 0 := by
      intro l
      induction l with
      | nil => intro _; rfl
      | cons y r ih =>
        intro h
        rw [List.map_cons, List.sum_cons, ih fun z hz => h z (by simp [hz]), calmD_cnt (h y (by simp))]
    exact this _ h3
  omega
def F__law_strange : Fn := fun ds st Q _ => ∃ b, ds = [.ref b] ∧ BagAt st b ∧ Out Odd b st Q
/-- _law_strange(_law_bag_here); 0 _law_bag_here, 1 _law_kind, 2 _law_one, 3 _law_wrong -/
def m__law_strange : WS := (mSeqS (mAsg (mCall 2 F__law_draw (mCons (mVar 0) (mCons (mC (.int 4)) mNil))) (gmName 1))
    (mSeqS (mAsg (mTup (mCons (mC (.str "num")) (mCons (mC (.int 1)) mNil))) (gmName 2))
    (mSeqS (mIfS (mTst (mOp (eqD false) (mVar 1) (mC (.int 0))))
    (mRet (mOp ixD (mLst (mCons (mC .non) (mCons (mC (.bl true)) (mCons (mC (.int 0)) (mCons (mC (.str "")) (mCons (mC (.str "x")) (mCons (mTup mNil) (mCons (mLst mNil) (mCons (mC (.vd [] [])) (mCons (mC (.int 101)) (mCons (mC (.int 100)) (mCons (mC (.int 1)) (mCons (mC (.str "let")) (mCons (mC (.str "a1")) (mCons (mC (.str "abcdefghi")) mNil))))))))))))))) (mCall 2 F__law_draw (mCons (mVar 0) (mCons (mC (.int 14)) mNil)))))
    mNext)
    (mSeqS (mIfS (mTst (mOp (eqD false) (mVar 1) (mC (.int 1))))
    (mSeqS (mAsg (mLst (mCons (mC (.bl true)) (mCons (mOp addD (mOp iPow (mC (.int 10)) (mC (.int 18))) (mC (.int 1))) (mCons (mOp iSub (mNeg (mOp iPow (mC (.int 10)) (mC (.int 18)))) (mC (.int 1))) (mCons (mC (.str "1")) (mCons (mC .non) (mCons (mTup mNil) (mCons (mC (.bl false)) mNil)))))))) (gmName 3))
    (mRet (mTup (mCons (mC (.str "num")) (mCons (mOp ixD (mVar 3) (mCall 2 F__law_draw (mCons (mVar 0) (mCons (mC (.int 7)) mNil)))) mNil)))))
    mNext)
    (mSeqS (mIfS (mTst (mOp (eqD false) (mVar 1) (mC (.int 2))))
    (mSeqS (mAsg (mLst (mCons (mTup (mCons (mC (.str "key")) (mCons (mC (.str "")) mNil))) (mCons (mTup (mCons (mC (.str "key")) (mCons (mC (.str "A")) mNil))) (mCons (mTup (mCons (mC (.str "key")) (mCons (mC (.str "abcdefghijklm")) mNil))) (mCons (mTup (mCons (mC (.str "key")) (mCons (mC (.str "a b")) mNil))) (mCons (mTup (mCons (mC (.str "key")) (mCons (mC (.int 1)) mNil))) (mCons (mTup (mCons (mC (.str "name")) (mCons (mC (.str "let")) mNil))) mNil))))))) (gmName 3))
    (mSeqS (mAsg (mOp addD (mVar 3) (mLst (mCons (mTup (mCons (mC (.str "name")) (mCons (mC (.str "mod")) mNil))) (mCons (mTup (mCons (mC (.str "name")) (mCons (mC (.str "abcdefghi")) mNil))) (mCons (mTup (mCons (mC (.str "name")) (mCons (mC (.str "")) mNil))) (mCons (mTup (mCons (mC (.str "name")) (mCons (mC (.str "A")) mNil))) (mCons (mTup (mCons (mC (.str "name")) (mCons (mC .non) mNil))) mNil))))))) (gmName 3))
    (mRet (mOp ixD (mVar 3) (mCall 2 F__law_draw (mCons (mVar 0) (mCons (mC (.int 11)) mNil)))))))
    mNext)
    (mSeqS (mAsg (mLst (mCons (mLst (mCons (mC (.str "num")) (mCons (mC (.int 1)) mNil))) (mCons (mTup (mCons (mC (.str "+")) (mCons (mVar 2) mNil))) (mCons (mTup (mCons (mC (.str "not")) (mCons (mVar 2) (mCons (mVar 2) mNil)))) (mCons (mTup (mCons (mC (.str "^")) (mCons (mVar 2) (mCons (mVar 2) mNil)))) (mCons (mTup (mCons (mC (.str "-")) (mCons (mVar 2) mNil))) (mCons (mTup (mCons (mVar 2) mNil)) (mCons (mTup (mCons (mC (.str "num")) mNil)) (mCons (mTup (mCons (mC (.str "num")) (mCons (mC (.int 1)) (mCons (mC (.int 2)) mNil)))) mNil))))))))) (gmName 3))
    (mSeqS (mAsg (mOp addD (mVar 3) (mLst (mCons (mTup (mCons (mC (.str "not")) (mCons (mC (.bl true)) mNil))) (mCons (mTup (mCons (mTup (mCons (mC (.str "fail")) mNil)) (mCons (mC (.int 5)) mNil))) (mCons (mTup (mCons (mTup (mCons (mC (.str "fail")) mNil)) mNil)) (mCons (mTup (mCons (mC (.str "+")) (mCons (mVar 2) (mCons (mVar 2) (mCons (mVar 2) mNil))))) (mCons (mTup (mCons (mC (.str "num")) (mCons (mC (.int 1)) mNil))) (mCons (mTup (mCons (mC (.str "key")) (mCons (mC (.str "a")) (mCons (mC (.str "b")) mNil)))) mNil)))))))) (gmName 3))
    (mRet (mOp ixD (mVar 3) (mCall 2 F__law_draw (mCons (mVar 0) (mCons (mC (.int 14)) mNil))))))))))))
theorem odds_in {l : List D} {v : Int} {s : Sto} {R : QD} {Y : QX} (h0 : 0 ≤ v) (h1 : v < l.length) (hl : l.all oddB = true) (h : ∀ d, Odd d → R d s) : ixD (.vl l) (.int v) s R Y :=
  ix_in h0 h1 fun d hd => h d (oddB_ok (List.all_eq_true.mp hl d hd))
theorem cp18 : CPow 10 18 := ⟨by decide, by decide, by decide⟩
theorem p_strange (ds : List D) (s : Sto) (Q : QD) (X : QX) (h : F__law_strange ds s Q X) : m__law_strange (startL 4 ds) s (endF Q X) := by
  obtain ⟨b, rfl, bg, q⟩ := h
  unfold m__law_strange
  refine sq_setA (fun d s1 => ∃ v : Int, d = .int v ∧ Fr [b] s s1 ∧ BagAt s1 b) (fun R Y k => ?_) fun d s1 ⟨v, e, f1, bg1⟩ => ?_
  · walk_at "mir"
    exact d_draw bg (by decide) (by decide) fun v s1 _ _ f1 bg1 => k _ _ ⟨v, rfl, f1, bg1⟩
  subst e
  refine sq_set (d := .tup [.str "num", .int 1]) (fun R Y t => ⟨by decide, t⟩) ?_
  refine sq_g (b := decide (v = 0)) (fun R Y t => by walk_at "mir"; exact t) (fun _ => ?_) fun _ => ?_
  · walk_at "mir"
    refine ⟨by decide, by decide, by decide, d_draw bg1 (by decide) (by decide) fun u s2 u0 u1 f2 bg2 => odds_in u0 (by simpa using u1) (by decide +kernel) fun d o => q d s2 o (f1.trans f2) bg2⟩
  refine sq_i (b := decide (v = 1)) (fun R Y t => by walk_at "mir"; exact t) (fun _ => ?_) fun _ => ?_
  · refine sq_set (d := .vl [.bl true, .int (10 ^ 18 + 1), .int (-(10 ^ 18) - 1), .str "1", .non, .tup [], .bl false]) (fun R Y t => ?_) ?_
    · walk_at "mir"
      exact ⟨cp18, cp18, by decide, by decide, t⟩
    · walk_at "mir"
      refine d_draw bg1 (by decide) (by decide) fun u s2 u0 u1 f2 bg2 => ix_in u0 (by simpa using u1) fun d hd => ⟨by decide, q _ s2 ?_ (f1.trans f2) bg2⟩
      simp only [List.mem_cons, List.not_mem_nil, or_false] at hd
      rcases hd with e | e | e | e | e | e | e <;> rw [e] <;> exact oddB_ok (by decide +kernel)
  refine sq_i (b := decide (v = 2)) (fun R Y t => by walk_at "mir"; exact t) (fun _ => ?_) fun _ => ?_
  · refine sq_set (d := .vl [.tup [.str "key", .str ""], .tup [.str "key", .str "A"], .tup [.str "key", .str "abcdefghijklm"], .tup [.str "key", .str "a b"], .tup [.str "key", .int 1], .tup [.str "name", .str "let"]]) (fun R Y t => ?_) ?_
    · walk_at "mir"
      exact ⟨by decide, by decide, by decide, by decide, by decide, by decide, by decide, t⟩
    refine sq_set (d := .vl [.tup [.str "key", .str ""], .tup [.str "key", .str "A"], .tup [.str "key", .str "abcdefghijklm"], .tup [.str "key", .str "a b"], .tup [.str "key", .int 1], .tup [.str "name", .str "let"], .tup [.str "name", .str "mod"], .tup [.str "name", .str "abcdefghi"], .tup [.str "name", .str ""], .tup [.str "name", .str "A"], .tup [.str "name", .non]]) (fun R Y t => ?_) ?_
    · walk_at "mir"
      exact ⟨by decide, by decide, by decide, by decide, by decide, by decide, by decide, t⟩
    · walk_at "mir"
      refine d_draw bg1 (by decide) (by decide) fun u s2 u0 u1 f2 bg2 => odds_in u0 (by simpa using u1) (by decide +kernel) fun d o => q d s2 o (f1.trans f2) bg2
  refine sq_set (d := .vl [.vl [.str "num", .int 1], .tup [.str "+", .tup [.str "num", .int 1]], .tup [.str "not", .tup [.str "num", .int 1], .tup [.str "num", .int 1]], .tup [.str "^", .tup [.str "num", .int 1], .tup [.str "num", .int 1]], .tup [.str "-", .tup [.str "num", .int 1]], .tup [.tup [.str "num", .int 1]], .tup [.str "num"], .tup [.str "num", .int 1, .int 2]]) (fun R Y t => ?_) ?_
  · walk_at "mir"
    exact ⟨by decide, by decide, by decide, by decide, by decide, by decide, by decide, by decide, by decide, t⟩
  refine sq_set (d := .vl [.vl [.str "num", .int 1], .tup [.str "+", .tup [.str "num", .int 1]], .tup [.str "not", .tup [.str "num", .int 1], .tup [.str "num", .int 1]], .tup [.str "^", .tup [.str "num", .int 1], .tup [.str "num", .int 1]], .tup [.str "-", .tup [.str "num", .int 1]], .tup [.tup [.str "num", .int 1]], .tup [.str "num"], .tup [.str "num", .int 1, .int 2],
    .tup [.str "not", .bl true], .tup [.tup [.str "fail"], .int 5], .tup [.tup [.str "fail"]], .tup [.str "+", .tup [.str "num", .int 1], .tup [.str "num", .int 1], .tup [.str "num", .int 1]], .tup [.str "num", .int 1], .tup [.str "key", .str "a", .str "b"]]) (fun R Y t => ?_) ?_
  · walk_at "mir"
    exact ⟨by decide, by decide, by decide, by decide, by decide, by decide, by decide, by decide, by decide, by decide, t⟩
  · walk_at "mir"
    refine d_draw bg1 (by decide) (by decide) fun u s2 u0 u1 f2 bg2 => odds_in u0 (by simpa using u1) (by decide +kernel) fun d o => q d s2 o (f1.trans f2) bg2
end K87

set_option Elab.async false
set_option linter.all false
set_option maxRecDepth 100000
set_option maxHeartbeats 400000
/-! K87K: spoiled statements. -/
namespace K87
open PySem PySem.Spec PyProof.Rows L2 Mir
local macro_rules | `(tactic| walk_at "mir") => `(tactic| try simp only [mIfS, mSeqS, mRet, mAsg, gmName, gmTup_tup, gmCons_cons, gmNil, mVar_eq, mC, mOp, mCons, mNil, mTup, mLst, mLstR, mCall, mCB, oneF_eq, mTst_eq, mNotT, mAndT, mOrT, mTru_eq, truD_bl, mUn, mIf, mAndV_eq, mOrV_eq, mNotV_eq, mNeg_eq, mSl, mNoPart, mPart_eq, intD_eq, addD_int, addD_str, addD_tup, addD_vl, ordD_int, ordD_str, mChain_eq, isiM_eq, mNext, mFor, mSeq_eq, tSeq1_str, tSeq1_tup, tSeq1_vl, tSeq1_sq, mRange1_eq, tRng1_int, mEnum_eq, tEnum_tup, mAug_eq, mLc, mYes, startL, endF, tbl_bl, tint_int, tO_some, eqD_int, eqD_str, ixD_tup, ixD_vl, slD_tup, slD_vl, slD_sq, slD_str, lenG_tup, lenG_vl, isBlD_eq, List.length_cons, List.length_nil, List.map_cons, List.map_nil, List.replicate, Nat.reduceAdd, Nat.reduceSub, List.cons_append, List.nil_append, List.append_nil, List.getElem?_cons_succ, List.getElem?_cons_zero, List.set_cons_succ, List.set_cons_zero, true_and, and_true, Bool.not_true, Bool.not_false, Bool.false_eq_true, if_true, if_false, ite_true, ite_false, not_true, not_false_iff, Bool.true_eq_false, reduceCtorEq, wipeL])

/-- statements in these blocks -/
def sumC (n : Nat) (bs : List D) : Nat := (bs.map fun b => cnt n (tupL b)).sum
theorem sumC_cons {n : Nat} {x : D} {r : List D} : sumC n (x :: r) = cnt n (tupL x) + sumC n r := by
  unfold sumC
  rw [List.map_cons, List.sum_cons]
theorem sumC_take {n : Nat} : ∀ (k : Nat) (l : List D), sumC n (l.take k) ≤ sumC n l
  | 0, l => by simp [sumC]
  | k + 1, [] => by simp [sumC]
  | k + 1, x :: r => by
    rw [List.take_succ_cons, sumC_cons, sumC_cons]
    have := sumC_take (n := n) k r
    omega
theorem sumC_drop {n : Nat} : ∀ (k : Nat) (l : List D), sumC n (l.drop k) ≤ sumC n l
  | 0, l => Nat.le_refl _
  | k + 1, [] => Nat.le_refl _
  | k + 1, x :: r => by
    rw [List.drop_succ_cons, sumC_cons]
    have := sumC_drop (n := n) k r
    omega
theorem sumC_set {n : Nat} {x : D} : ∀ (j k : Nat) (l : List D), sumC n ((l.set k x).drop j) ≤ sumC n (l.drop j) + cnt n (tupL x)
  | j, k, [] => by simp [sumC]
  | 0, 0, y :: r => by
    rw [List.set_cons_zero, List.drop_zero, List.drop_zero, sumC_cons, sumC_cons]
    omega
  | 0, k + 1, y :: r => by
    rw [List.set_cons_succ, List.drop_zero, List.drop_zero, sumC_cons, sumC_cons]
    have := sumC_set (n := n) (x := x) 0 k r
    rw [List.drop_zero, List.drop_zero] at this
    omega
  | j + 1, 0, y :: r => by
    rw [List.set_cons_zero, List.drop_succ_cons, List.drop_succ_cons]
    omega
  | j + 1, k + 1, y :: r => by
    rw [List.set_cons_succ, List.drop_succ_cons, List.drop_succ_cons]
    exact sumC_set j k r
theorem sumC_app {n : Nat} {x : D} : ∀ (j : Nat) (l : List D), sumC n ((l ++ [x]).drop j) ≤ sumC n (l.drop j) + cnt n (tupL x)
  | j, [] => by
    have := sumC_drop (n := n) j [x]
    rw [sumC_cons] at this
    simpa [sumC] using this
  | 0, y :: r => by
    rw [List.cons_append, List.drop_zero, List.drop_zero, sumC_cons, sumC_cons]
    have := sumC_app (n := n) (x := x) 0 r
    rw [List.drop_zero, List.drop_zero] at this
    omega
  | j + 1, y :: r => by
    rw [List.cons_append, List.drop_succ_cons, List.drop_succ_cons]
    exact sumC_app j r
theorem blocks_drop (w : Str) : (∃ j, ∀ r, blocksOf w r = r.drop j) ∨ ∀ r, blocksOf w r = [] := by
  unfold blocksOf
  by_cases h1 : w = "for"
  · exact .inl ⟨4, fun r => if_pos h1⟩
  · by_cases h2 : w = "if"
    · exact .inl ⟨1, fun r => by rw [if_neg h1, if_pos h2]⟩
    · by_cases h3 : w = "while"
      · exact .inl ⟨2, fun r => by rw [if_neg h1, if_neg h2, if_pos h3]⟩
      · exact .inr fun r => by rw [if_neg h1, if_neg h2, if_neg h3]
theorem cntI_stm {n : Nat} {w : Str} {r : List D} : cntI (n + 1) (.tup (.str w :: r)) = sumC n (blocksOf w r) := rfl
theorem cntI_zero {x : D} : cntI 0 x = 0 := by
  unfold cntI
  cases stm x with
  | none => rfl
  | some p => rfl
theorem cntI_none {n : Nat} {x : D} (h : stm x = none) : cntI n x = 0 := by
  unfold cntI
  rw [h]
/-- one part more, one part less -/
theorem cntI_le {n : Nat} {w : Str} {r r' : List D} {x : D} (ho : Odd x) (h : ∀ n j, sumC n (r'.drop j) ≤ sumC n (r.drop j) + cnt n (tupL x)) : cntI n (.tup (.str w :: r')) ≤ cntI n (.tup (.str w :: r)) + 4 := by
  cases n with
  | zero => rw [cntI_zero]; omega
  | succ n =>
    rw [cntI_stm, cntI_stm]
    rcases blocks_drop w with ⟨j, hj⟩ | hj
    · rw [hj, hj]
      have := h n j
      have := ho.cnt n
      omega
    · rw [hj]
      show 0 ≤ _
      omega
def F__law_spoiled : Fn := fun ds st Q _ => ∃ b w r g, ds = [.ref b, .tup (.str w :: r)] ∧ BagAt st b ∧ Gd (g + 5) (.tup (.str w :: r)) ∧ r.length ≤ 8 ∧ Out (fun y => Gd (g + 5) y ∧ ∀ n, cntI n y ≤ cntI n (.tup (.str w :: r)) + 4) b st Q
/-- _law_spoiled(_law_bag_here, _law_made_here); 0 _law_bag_here, 1 _law_made_here, 2 _law_kind, 3 _law_here -/
def m__law_spoiled : WS := (mSeqS (mAsg (mCall 2 F__law_draw (mCons (mVar 0) (mCons (mC (.int 8)) mNil))) (gmName 2))
    (mSeqS (mAsg (mCall 2 F__law_draw (mCons (mVar 0) (mCons (mCB (oneF lenG) (mCons (mVar 1) mNil)) mNil))) (gmName 3))
    (mSeqS (mIfS (mTst (mOp (eqD false) (mVar 2) (mC (.int 0))))
    (mRet (mCB (oneF listG) (mCons (mVar 1) mNil)))
    mNext)
    (mSeqS (mIfS (mTst (mOp (eqD false) (mVar 2) (mC (.int 1))))
    (mRet (mSl (mVar 1) mNoPart (mPart (mVar 3))))
    mNext)
    (mSeqS (mIfS (mTst (mOp (eqD false) (mVar 2) (mC (.int 2))))
    (mRet (mOp addD (mVar 1) (mTup (mCons (mCall 1 F__law_strange (mCons (mVar 0) mNil)) mNil))))
    mNext)
    (mSeqS (mIfS (mTst (mOp (eqD false) (mVar 2) (mC (.int 3))))
    (mRet (mOp addD (mTup (mCons (mOp ixD (mLst (mCons (mC (.str "lets")) (mCons (mC (.str "PUT")) (mCons (mC (.str "")) (mCons (mC (.str "mod")) (mCons (mC (.str "begin")) (mCons (mC (.int 5)) (mCons (mC .non) (mCons (mTup mNil) mNil))))))))) (mCall 2 F__law_draw (mCons (mVar 0) (mCons (mC (.int 8)) mNil)))) mNil)) (mSl (mVar 1) (mPart (mC (.int 1))) mNoPart)))
    mNext)
    (mRet (mOp addD (mOp addD (mSl (mVar 1) mNoPart (mPart (mVar 3))) (mTup (mCons (mCall 1 F__law_strange (mCons (mVar 0) mNil)) mNil))) (mSl (mVar 1) (mPart (mOp addD (mVar 3) (mC (.int 1)))) mNoPart)))))))))
theorem gdT {g : Nat} {l : List D} (h : l.length ≤ 1000) (hl : ∀ x ∈ l, Gd (g + 4) x) : Gd (g + 5) (.tup l) := ⟨h, hl⟩
theorem p_spoiled (ds : List D) (s : Sto) (Q : QD) (X : QX) (h : F__law_spoiled ds s Q X) : m__law_spoiled (startL 4 ds) s (endF Q X) := by
  obtain ⟨b, w, r, g, rfl, bg, gd, hr, q⟩ := h
  have gi : ∀ x ∈ (.str w :: r : List D), Gd (g + 4) x := gd.2
  have odd : ∀ {x : D}, Odd x → Gd (g + 4) x := fun o => o.gd.mono (by omega)
  unfold m__law_spoiled
  refine sq_setA (fun d s1 => ∃ v : Int, d = .int v ∧ Fr [b] s s1 ∧ BagAt s1 b) (fun R Y k => ?_) fun d s1 ⟨kd, e, f1, bg1⟩ => ?_
  · walk_at "mir"
    exact d_draw bg (by decide) (by decide) fun v s1 _ _ f1 bg1 => k _ _ ⟨v, rfl, f1, bg1⟩
  subst e
  refine sq_setA (fun d s2 => ∃ h : Nat, d = .int (h : Int) ∧ h ≤ r.length ∧ Fr [b] s s2 ∧ BagAt s2 b) (fun R Y k => ?_) fun d s2 ⟨h, e, hh, f2, bg2⟩ => ?_
  · walk_at "mir"
    exact d_draw bg1 (by omega) (by omega) fun v s2 v0 v1 f2 bg2 => k _ _ ⟨v.toNat, by rw [Int.toNat_of_nonneg v0], by omega, f1.trans f2, bg2⟩
  subst e
  refine sq_g (b := decide (kd = 0)) (fun R Y t => by walk_at "mir"; exact t) (fun _ => ?_) fun _ => ?_
  · show Q (.vl (.str w :: r)) s2
    exact q _ s2 ⟨⟨gd.1, gi⟩, fun n => by rw [cntI_none rfl]; omega⟩ f2 bg2
  refine sq_g (b := decide (kd = 1)) (fun R Y t => by walk_at "mir"; exact t) (fun _ => ?_) fun _ => ?_
  · walk_at "mir"
    rw [cutD_to]
    refine q _ s2 ⟨gdT (by rw [List.length_take]; simp; omega) fun x hx => gi x (List.mem_of_mem_take hx), fun n => ?_⟩ f2 bg2
    cases h with
    | zero => rw [cntI_none rfl]; omega
    | succ h =>
      rw [List.take_succ_cons]
      cases n with
      | zero => rw [cntI_zero]; omega
      | succ n =>
        rw [cntI_stm, cntI_stm]
        rcases blocks_drop w with ⟨j, hj⟩ | hj
        · rw [hj, hj, List.drop_take]
          have := sumC_take (n := n) (h - j) (r.drop j)
          omega
        · rw [hj]
          show 0 ≤ _
          omega
  refine sq_g (b := decide (kd = 2)) (fun R Y t => by walk_at "mir"; exact t) (fun _ => ?_) fun _ => ?_
  · walk_at "mir"
    refine ⟨b, rfl, bg2, fun x s3 o f3 bg3 => ?_⟩
    simp only [addD_tup, List.length_cons, List.length_nil]
    refine ⟨by decide, by unfold sizeLine; omega, ?_⟩
    refine q _ s3 ⟨gdT (by simp; omega) fun y hy => ?_, fun n => ?_⟩ (f2.trans f3) bg3
    · have hy : y ∈ (.str w :: r) ++ [x] := hy
      rcases List.mem_append.mp hy with hy | hy
      · exact gi y hy
      · rw [List.mem_singleton.mp hy]; exact odd o
    · exact cntI_le (r' := r ++ [x]) o fun n j => sumC_app j r
  refine sq_g (b := decide (kd = 3)) (fun R Y t => by walk_at "mir"; exact t) (fun _ => ?_) fun _ => ?_
  · walk_at "mir"
    refine ⟨by decide, by decide, d_draw bg2 (by decide) (by decide) fun u s3 u0 u1 f3 bg3 => ix_in u0 (by simpa using u1) fun d hd => ?_⟩
    rw [show ((1 : Int)) = ((1 : Nat) : Int) from rfl, cutD_from]
    simp only [addD_tup, List.length_cons, List.length_nil, List.drop_succ_cons, List.drop_zero]
    refine ⟨by decide, by unfold sizeLine; omega, ?_⟩
    have : Sc d ∨ d = .tup [] := by
      simp only [List.mem_cons, List.not_mem_nil, or_false] at hd
      rcases hd with e | e | e | e | e | e | e | e <;> rw [e] <;> first
        | exact .inr rfl
        | exact .inl (scB_ok (by decide +kernel))
    refine q _ s3 ⟨gdT (by simp; omega) fun y hy => ?_, fun n => ?_⟩ (f2.trans f3) bg3
    · have hy : y ∈ d :: r := hy
      rcases List.mem_cons.mp hy with hy | hy
      · rw [hy]
        rcases this with h | h
        · exact Gd.sc h
        · rw [h]
          exact Gd.mono (by omega : 1 ≤ g + 4) (show Gd 1 (.tup []) from ⟨by simp, fun x hx => by cases hx⟩)
      · exact gi y (by simp [hy])
    · have : cntI n (.tup (d :: r)) = 0 := by
        refine calmD_cnt ?_
        simp only [List.mem_cons, List.not_mem_nil, or_false] at hd
        rcases hd with e | e | e | e | e | e | e | e <;> rw [e] <;> first
          | rfl
          | (show calm _ = true; decide +kernel)
      show cntI n (.tup (d :: r)) ≤ _
      omega
  walk_at "mir"
  rw [cutD_to]
  refine ⟨b, rfl, bg2, fun x s3 o f3 bg3 => ?_⟩
  rw [show ((h : Int) + 1) = ((h + 1 : Nat) : Int) by omega, cutD_from]
  simp only [addD_tup, List.length_cons, List.length_nil]
  have el : List.take h (D.str w :: r) ++ [x] ++ List.drop (h + 1) (D.str w :: r) = (D.str w :: r).set h x := by
    rw [List.set_eq_take_append_cons_drop, if_pos (by simp; omega)]
    simp
  refine ⟨by decide, by rw [List.length_take, List.length_cons]; unfold sizeLine; omega, by rw [List.length_append, List.length_take, List.length_drop, List.length_cons]; simp only [List.length_cons, List.length_nil]; unfold sizeLine; omega, ?_⟩
  rw [el]
  refine q _ s3 ⟨gdT (by simp; omega) fun y hy => ?_, fun n => ?_⟩ (f2.trans f3) bg3
  · rcases List.mem_or_eq_of_mem_set hy with hy | hy
    · exact gi y hy
    · rw [hy]; exact odd o
  · cases h with
    | zero =>
      rw [List.set_cons_zero]
      have : cntI n (.tup (x :: r)) = 0 := by
        refine calmD_cnt ?_
        unfold calmD
        cases e : stm (.tup (x :: r)) with
        | none => rfl
        | some p =>
          obtain ⟨w', r'⟩ := p
          have := stm_some e
          cases this
          exact o.word w' rfl
      omega
    | succ h =>
      rw [List.set_cons_succ]
      exact cntI_le o fun n j => sumC_set j h r
end K87

set_option Elab.async false
set_option linter.all false
set_option maxRecDepth 100000
set_option maxHeartbeats 1000000
/-! K87L: statements and blocks that are drawn. -/
namespace K87
open PySem PySem.Spec PyProof.Rows L2 Mir
local macro_rules | `(tactic| walk_at "mir") => `(tactic| try simp only [mIfS, mSeqS, mRet, mAsg, gmName, gmTup_tup, gmCons_cons, gmNil, mVar_eq, mC, mOp, mCons, mNil, mTup, mLst, mLstR, mCall, mCB, oneF_eq, mTst_eq, mNotT, mAndT, mOrT, mTru_eq, truD_bl, mUn, mIf, mAndV_eq, mOrV_eq, mNotV_eq, mNeg_eq, mSl, mNoPart, mPart_eq, intD_eq, addD_int, addD_str, addD_tup, addD_vl, ordD_int, ordD_str, mChain_eq, isiM_eq, mNext, mFor, mSeq_eq, tSeq1_str, tSeq1_tup, tSeq1_vl, tSeq1_sq, mRange1_eq, tRng1_int, mEnum_eq, tEnum_tup, mAug_eq, mLc, mYes, startL, endF, tbl_bl, tint_int, tO_some, eqD_int, eqD_str, ixD_tup, ixD_vl, slD_tup, slD_vl, slD_sq, slD_str, lenG_tup, lenG_vl, isBlD_eq, List.length_cons, List.length_nil, List.map_cons, List.map_nil, List.replicate, Nat.reduceAdd, Nat.reduceSub, List.cons_append, List.nil_append, List.append_nil, List.getElem?_cons_succ, List.getElem?_cons_zero, List.set_cons_succ, List.set_cons_zero, true_and, and_true, Bool.not_true, Bool.not_false, Bool.false_eq_true, if_true, if_false, ite_true, ite_false, not_true, not_false_iff, Bool.true_eq_false, reduceCtorEq, wipeL])

def aimO (h x y z : Int) : Ob := .lst [.int h, .int x, .int y, .int z]
def AimAt (s : Sto) (a : Nat) (z : Int) : Prop := ∃ h x y : Int, s[a]? = some (aimO h x y z)
structure Env3 (s : Sto) (b m a : Nat) (z : Int) : Prop where
  bn : BN s b m
  am : AimAt s a z
  ab : a ≠ b
  an : a ≠ m
theorem AimAt.keep {S : List Nat} {s s' : Sto} {a : Nat} {z : Int} (h : AimAt s a z) (f : Fr S s s') (m : a ∉ S) : AimAt s' a z := by
  obtain ⟨x, y, w, e⟩ := h
  exact ⟨x, y, w, f.at_ e m⟩
theorem Env3.to {s s' : Sto} {b m a : Nat} {z : Int} (h : Env3 s b m a z) (f : Fr [b, a] s s') (bg : BagAt s' b) (am : AimAt s' a z) : Env3 s' b m a z :=
  ⟨⟨bg, h.bn.nm.keep f (by simp; exact ⟨h.bn.ne, fun e => h.an e.symm⟩), h.bn.ne⟩, am, h.ab, h.an⟩
theorem Env3.draw {s s' : Sto} {b m a : Nat} {z : Int} (h : Env3 s b m a z) (f : Fr [b] s s') (bg : BagAt s' b) : Env3 s' b m a z :=
  h.to (f.imp (by simp)) bg (h.am.keep f (by simpa using h.ab))
abbrev Out3 (P : D → Prop) (b a : Nat) (z : Int) (st : Sto) (Q : QD) : Prop := ∀ x st', P x → Fr [b, a] st st' → BagAt st' b → AimAt st' a z → Q x st'
def BlkOk' (f : Nat) (room : Int) (x : D) : Prop := ∃ l, x = .tup l ∧ Gd (13 + 2 * f) x ∧ (∀ n, (cnt n l : Int) ≤ 5 * room) ∧ (0 < room → l ≠ [])
def Fd_block (f : Nat) : Fn := fun ds st Q _ => ∃ b m a, ∃ room deep z : Int, ds = [.ref b, .ref m, .int room, .int deep, .ref a] ∧ Env3 st b m a z ∧ 0 ≤ room ∧ room ≤ 81 ∧ deep ≤ z ∧ z - deep ≤ f ∧ Out3 (BlkOk' f room) b a z st Q
def StmOk (f : Nat) (inner : Int) (x : D) : Prop := Gd (12 + 2 * f) x ∧ ∀ n, (cntI n x : Int) ≤ 5 * inner + 4
def Fd_stmt (f : Nat) : Fn := fun ds st Q _ => ∃ b m a, ∃ inner deep z : Int, ds = [.ref b, .ref m, .int inner, .int deep, .ref a] ∧ Env3 st b m a z ∧ 0 ≤ inner ∧ inner ≤ 81 ∧ (0 < inner → deep < z) ∧ deep ≤ z ∧ z - deep ≤ f ∧ Out3 (StmOk f inner) b a z st Q
def F__law_block : Fn := Fd_block 5
/-- _law_statement(_law_bag_here, _law_names_here, _law_inner, _law_deep, _law_aim); 0 _law_bag_here, 1 _law_names_here, 2 _law_inner, 3 _law_deep, 4 _law_aim, 5 _law_here, 6 _law_is_wild, 7 _law_kind, 8 _law_first, 9 _law_name, 10 _law_some, 11 _law_block_here, 12 _law_made_here, 13 _law_other -/
def m__law_statement (Fr : List D → WD) : WS := (mSeqS (mAsg (mOp ixD (mVar 4) (mC (.int 0))) (gmName 5))
    (mSeqS (mSub (mOp addD (mVar 5) (mC (.int 1))) (mVar 4) (mC (.int 0)))
    (mSeqS (mAsg (mAndV (mOp (eqD false) (mVar 5) (mOp ixD (mVar 4) (mC (.int 1)))) (mOp (eqD false) (mOp ixD (mVar 4) (mC (.int 2))) (mC (.int 0)))) (gmName 6))
    (mSeqS (mAsg (mCall 2 F__law_draw (mCons (mVar 0) (mCons (mC (.int 6)) mNil))) (gmName 7))
    (mSeqS (mIfS (mOrT (mTst (mOp oGt (mVar 2) (mC (.int 0)))) (mAndT (mTst (mOp oLt (mVar 3) (mOp ixD (mVar 4) (mC (.int 3))))) (mTst (mOp (eqD false) (mCall 2 F__law_draw (mCons (mVar 0) (mCons (mC (.int 4)) mNil))) (mC (.int 0))))))
    (mAsg (mOp addD (mC (.int 6)) (mCall 2 F__law_draw (mCons (mVar 0) (mCons (mC (.int 3)) mNil)))) (gmName 7))
    mNext)
    (mSeqS (mAsg (mCall 3 F__law_plain (mCons (mVar 0) (mCons (mVar 1) (mCons (mVar 6) mNil)))) (gmName 8))
    (mSeqS (mAsg (mOp ixD (mVar 1) (mCall 2 F__law_draw (mCons (mVar 0) (mCons (mCB (oneF lenG) (mCons (mVar 1) mNil)) mNil)))) (gmName 9))
    (mSeqS (mIfS (mTst (mOp (eqD false) (mVar 7) (mC (.int 6))))
    (mSeqS (mAsg (mCall 2 F__law_draw (mCons (mVar 0) (mCons (mOp addD (mVar 2) (mC (.int 1))) mNil))) (gmName 10))
    (mSeqS (mAsg (mCall 5 Fr (mCons (mVar 0) (mCons (mVar 1) (mCons (mVar 10) (mCons (mOp addD (mVar 3) (mC (.int 1))) (mCons (mVar 4) mNil)))))) (gmName 11))
    (mAsg (mTup (mCons (mC (.str "if")) (mCons (mVar 8) (mCons (mVar 11) (mCons (mCall 5 Fr (mCons (mVar 0) (mCons (mVar 1) (mCons (mOp iSub (mVar 2) (mVar 10)) (mCons (mOp addD (mVar 3) (mC (.int 1))) (mCons (mVar 4) mNil)))))) mNil))))) (gmName 12))))
    (mIfS (mTst (mOp (eqD false) (mVar 7) (mC (.int 7))))
    (mAsg (mTup (mCons (mC (.str "while")) (mCons (mVar 8) (mCons (mOp ixD (mLst (mCons (mC (.int 1)) (mCons (mC (.int 2)) (mCons (mC (.int 99)) (mCons (mC (.int 100)) mNil))))) (mCall 2 F__law_draw (mCons (mVar 0) (mCons (mC (.int 4)) mNil)))) (mCons (mCall 5 Fr (mCons (mVar 0) (mCons (mVar 1) (mCons (mVar 2) (mCons (mOp addD (mVar 3) (mC (.int 1))) (mCons (mVar 4) mNil)))))) mNil))))) (gmName 12))
    (mIfS (mTst (mOp (eqD false) (mVar 7) (mC (.int 8))))
    (mSeqS (mAsg (mCall 3 F__law_plain (mCons (mVar 0) (mCons (mVar 1) (mCons (mC (.bl false)) mNil)))) (gmName 13))
    (mAsg (mTup (mCons (mC (.str "for")) (mCons (mVar 9) (mCons (mOp ixD (mVar 1) (mC (.int 0))) (mCons (mVar 8) (mCons (mVar 13) (mCons (mCall 5 Fr (mCons (mVar 0) (mCons (mVar 1) (mCons (mVar 2) (mCons (mOp addD (mVar 3) (mC (.int 1))) (mCons (mVar 4) mNil)))))) mNil))))))) (gmName 12)))
    (mIfS (mTst (mOp (eqD false) (mVar 7) (mC (.int 0))))
    (mAsg (mTup (mCons (mC (.str "put")) (mCons (mVar 8) (mCons (mCall 3 F__law_plain (mCons (mVar 0) (mCons (mVar 1) (mCons (mC (.bl false)) mNil)))) mNil)))) (gmName 12))
    (mIfS (mTst (mOp oLt (mVar 7) (mC (.int 3))))
    (mAsg (mTup (mCons (mOp ixD (mLst (mCons (mC (.str "let")) (mCons (mC (.str "get")) mNil))) (mOp iSub (mVar 7) (mC (.int 1)))) (mCons (mVar 9) (mCons (mVar 8) mNil)))) (gmName 12))
    (mIfS (mTst (mOp oLt (mVar 7) (mC (.int 5))))
    (mAsg (mTup (mCons (mOp ixD (mLst (mCons (mC (.str "drop")) (mCons (mC (.str "say")) mNil))) (mOp iSub (mVar 7) (mC (.int 3)))) (mCons (mVar 8) mNil))) (gmName 12))
    (mAsg (mTup (mCons (mC (.str "fail")) mNil)) (gmName 12))))))))
    (mSeqS (mIfS (mAndT (mTst (mOp (eqD false) (mVar 5) (mOp ixD (mVar 4) (mC (.int 1))))) (mTst (mOp oGt (mOp ixD (mVar 4) (mC (.int 2))) (mC (.int 0)))))
    (mRet (mCall 2 F__law_spoiled (mCons (mVar 0) (mCons (mVar 12) mNil))))
    mNext)
    (mRet (mVar 12)))))))))))
/-- _law_block(_law_bag_here, _law_names_here, _law_room, _law_deep, _law_aim); 0 _law_bag_here, 1 _law_names_here, 2 _law_room, 3 _law_deep, 4 _law_aim, 5 _law_found, 6 _law_left, 7 _law_k, 8 _law_inner -/
def m__law_block (Fr : List D → WD) : WS := (mSeqS (mAsg (mLstR mNil) (gmName 5))
    (mSeqS (mAsg (mVar 2) (gmName 6))
    (mSeqS (mFor (mRange1 (mCons (mVar 2) mNil)) (gmName 7)
    (mSeqS (mIfS (mTst (mOp oLe (mVar 6) (mC (.int 0))))
    mBreak
    mNext)
    (mSeqS (mAsg (mC (.int 0)) (gmName 8))
    (mSeqS (mIfS (mAndT (mTst (mOp oLt (mVar 3) (mOp ixD (mVar 4) (mC (.int 3))))) (mTst (mOp (eqD false) (mCall 2 F__law_draw (mCons (mVar 0) (mCons (mC (.int 3)) mNil))) (mC (.int 0)))))
    (mAsg (mCall 2 F__law_draw (mCons (mVar 0) (mCons (mVar 6) mNil))) (gmName 8))
    mNext)
    (mSeqS (mExpr (mBM appendF isLst (mVar 5) (mCons (mCall 5 Fr (mCons (mVar 0) (mCons (mVar 1) (mCons (mVar 8) (mCons (mVar 3) (mCons (mVar 4) mNil)))))) mNil)))
    (mAsg (mOp iSub (mOp iSub (mVar 6) (mC (.int 1))) (mVar 8)) (gmName 6)))))))
    (mRet (mCB (oneF tupG) (mCons (mVar 5) mNil))))))
abbrev stGo (Fr : List D → WD) : WS := (mSeqS (mAsg (mCall 3 F__law_plain (mCons (mVar 0) (mCons (mVar 1) (mCons (mVar 6) mNil)))) (gmName 8))
    (mSeqS (mAsg (mOp ixD (mVar 1) (mCall 2 F__law_draw (mCons (mVar 0) (mCons (mCB (oneF lenG) (mCons (mVar 1) mNil)) mNil)))) (gmName 9))
    (mSeqS (mIfS (mTst (mOp (eqD false) (mVar 7) (mC (.int 6))))
    (mSeqS (mAsg (mCall 2 F__law_draw (mCons (mVar 0) (mCons (mOp addD (mVar 2) (mC (.int 1))) mNil))) (gmName 10))
    (mSeqS (mAsg (mCall 5 Fr (mCons (mVar 0) (mCons (mVar 1) (mCons (mVar 10) (mCons (mOp addD (mVar 3) (mC (.int 1))) (mCons (mVar 4) mNil)))))) (gmName 11))
    (mAsg (mTup (mCons (mC (.str "if")) (mCons (mVar 8) (mCons (mVar 11) (mCons (mCall 5 Fr (mCons (mVar 0) (mCons (mVar 1) (mCons (mOp iSub (mVar 2) (mVar 10)) (mCons (mOp addD (mVar 3) (mC (.int 1))) (mCons (mVar 4) mNil)))))) mNil))))) (gmName 12))))
    (mIfS (mTst (mOp (eqD false) (mVar 7) (mC (.int 7))))
    (mAsg (mTup (mCons (mC (.str "while")) (mCons (mVar 8) (mCons (mOp ixD (mLst (mCons (mC (.int 1)) (mCons (mC (.int 2)) (mCons (mC (.int 99)) (mCons (mC (.int 100)) mNil))))) (mCall 2 F__law_draw (mCons (mVar 0) (mCons (mC (.int 4)) mNil)))) (mCons (mCall 5 Fr (mCons (mVar 0) (mCons (mVar 1) (mCons (mVar 2) (mCons (mOp addD (mVar 3) (mC (.int 1))) (mCons (mVar 4) mNil)))))) mNil))))) (gmName 12))
    (mIfS (mTst (mOp (eqD false) (mVar 7) (mC (.int 8))))
    (mSeqS (mAsg (mCall 3 F__law_plain (mCons (mVar 0) (mCons (mVar 1) (mCons (mC (.bl false)) mNil)))) (gmName 13))
    (mAsg (mTup (mCons (mC (.str "for")) (mCons (mVar 9) (mCons (mOp ixD (mVar 1) (mC (.int 0))) (mCons (mVar 8) (mCons (mVar 13) (mCons (mCall 5 Fr (mCons (mVar 0) (mCons (mVar 1) (mCons (mVar 2) (mCons (mOp addD (mVar 3) (mC (.int 1))) (mCons (mVar 4) mNil)))))) mNil))))))) (gmName 12)))
    (mIfS (mTst (mOp (eqD false) (mVar 7) (mC (.int 0))))
    (mAsg (mTup (mCons (mC (.str "put")) (mCons (mVar 8) (mCons (mCall 3 F__law_plain (mCons (mVar 0) (mCons (mVar 1) (mCons (mC (.bl false)) mNil)))) mNil)))) (gmName 12))
    (mIfS (mTst (mOp oLt (mVar 7) (mC (.int 3))))
    (mAsg (mTup (mCons (mOp ixD (mLst (mCons (mC (.str "let")) (mCons (mC (.str "get")) mNil))) (mOp iSub (mVar 7) (mC (.int 1)))) (mCons (mVar 9) (mCons (mVar 8) mNil)))) (gmName 12))
    (mIfS (mTst (mOp oLt (mVar 7) (mC (.int 5))))
    (mAsg (mTup (mCons (mOp ixD (mLst (mCons (mC (.str "drop")) (mCons (mC (.str "say")) mNil))) (mOp iSub (mVar 7) (mC (.int 3)))) (mCons (mVar 8) mNil))) (gmName 12))
    (mAsg (mTup (mCons (mC (.str "fail")) mNil)) (gmName 12))))))))
    (mSeqS (mIfS (mAndT (mTst (mOp (eqD false) (mVar 5) (mOp ixD (mVar 4) (mC (.int 1))))) (mTst (mOp oGt (mOp ixD (mVar 4) (mC (.int 2))) (mC (.int 0)))))
    (mRet (mCall 2 F__law_spoiled (mCons (mVar 0) (mCons (mVar 12) mNil))))
    mNext)
    (mRet (mVar 12))))))
abbrev stCh (Fr : List D → WD) : WS := (mSeqS (mIfS (mTst (mOp (eqD false) (mVar 7) (mC (.int 6))))
    (mSeqS (mAsg (mCall 2 F__law_draw (mCons (mVar 0) (mCons (mOp addD (mVar 2) (mC (.int 1))) mNil))) (gmName 10))
    (mSeqS (mAsg (mCall 5 Fr (mCons (mVar 0) (mCons (mVar 1) (mCons (mVar 10) (mCons (mOp addD (mVar 3) (mC (.int 1))) (mCons (mVar 4) mNil)))))) (gmName 11))
    (mAsg (mTup (mCons (mC (.str "if")) (mCons (mVar 8) (mCons (mVar 11) (mCons (mCall 5 Fr (mCons (mVar 0) (mCons (mVar 1) (mCons (mOp iSub (mVar 2) (mVar 10)) (mCons (mOp addD (mVar 3) (mC (.int 1))) (mCons (mVar 4) mNil)))))) mNil))))) (gmName 12))))
    (mIfS (mTst (mOp (eqD false) (mVar 7) (mC (.int 7))))
    (mAsg (mTup (mCons (mC (.str "while")) (mCons (mVar 8) (mCons (mOp ixD (mLst (mCons (mC (.int 1)) (mCons (mC (.int 2)) (mCons (mC (.int 99)) (mCons (mC (.int 100)) mNil))))) (mCall 2 F__law_draw (mCons (mVar 0) (mCons (mC (.int 4)) mNil)))) (mCons (mCall 5 Fr (mCons (mVar 0) (mCons (mVar 1) (mCons (mVar 2) (mCons (mOp addD (mVar 3) (mC (.int 1))) (mCons (mVar 4) mNil)))))) mNil))))) (gmName 12))
    (mIfS (mTst (mOp (eqD false) (mVar 7) (mC (.int 8))))
    (mSeqS (mAsg (mCall 3 F__law_plain (mCons (mVar 0) (mCons (mVar 1) (mCons (mC (.bl false)) mNil)))) (gmName 13))
    (mAsg (mTup (mCons (mC (.str "for")) (mCons (mVar 9) (mCons (mOp ixD (mVar 1) (mC (.int 0))) (mCons (mVar 8) (mCons (mVar 13) (mCons (mCall 5 Fr (mCons (mVar 0) (mCons (mVar 1) (mCons (mVar 2) (mCons (mOp addD (mVar 3) (mC (.int 1))) (mCons (mVar 4) mNil)))))) mNil))))))) (gmName 12)))
    (mIfS (mTst (mOp (eqD false) (mVar 7) (mC (.int 0))))
    (mAsg (mTup (mCons (mC (.str "put")) (mCons (mVar 8) (mCons (mCall 3 F__law_plain (mCons (mVar 0) (mCons (mVar 1) (mCons (mC (.bl false)) mNil)))) mNil)))) (gmName 12))
    (mIfS (mTst (mOp oLt (mVar 7) (mC (.int 3))))
    (mAsg (mTup (mCons (mOp ixD (mLst (mCons (mC (.str "let")) (mCons (mC (.str "get")) mNil))) (mOp iSub (mVar 7) (mC (.int 1)))) (mCons (mVar 9) (mCons (mVar 8) mNil)))) (gmName 12))
    (mIfS (mTst (mOp oLt (mVar 7) (mC (.int 5))))
    (mAsg (mTup (mCons (mOp ixD (mLst (mCons (mC (.str "drop")) (mCons (mC (.str "say")) mNil))) (mOp iSub (mVar 7) (mC (.int 3)))) (mCons (mVar 8) mNil))) (gmName 12))
    (mAsg (mTup (mCons (mC (.str "fail")) mNil)) (gmName 12))))))))
    (mSeqS (mIfS (mAndT (mTst (mOp (eqD false) (mVar 5) (mOp ixD (mVar 4) (mC (.int 1))))) (mTst (mOp oGt (mOp ixD (mVar 4) (mC (.int 2))) (mC (.int 0)))))
    (mRet (mCall 2 F__law_spoiled (mCons (mVar 0) (mCons (mVar 12) mNil))))
    mNext)
    (mRet (mVar 12))))
theorem p_block (f : Nat) (ds : List D) (s : Sto) (Q : QD) (X : QX) (h : Fd_block f ds s Q X) : m__law_block (Fd_stmt f) (startL 9 ds) s (endF Q X) := by
  obtain ⟨b, m, a, room, deep, z, rfl, ev, r0, r1, dz, zf, q⟩ := h
  have hb := ev.bn.bg.lt
  have hm : m < s.length := by
    obtain ⟨_, h, _⟩ := ev.bn.nm
    exact (List.getElem?_eq_some_iff.mp h).1
  have ha : a < s.length := by
    obtain ⟨_, _, _, h⟩ := ev.am
    exact (List.getElem?_eq_some_iff.mp h).1
  unfold m__law_block
  refine sq_setA (fun d s1 => d = .ref s.length ∧ s1 = s ++ [.lst []]) (fun R Y k => ⟨by decide, k _ _ ⟨rfl, rfl⟩⟩) fun d s1 ⟨e1, e2⟩ => ?_
  subst e1 e2
  refine sq_set (d := .int room) (fun R Y t => t) ?_
  refine sq_rangeA (fun j s1 => j = room ∧ s1 = s ++ [.lst []]) (fun R Y k => k _ _ ⟨rfl, rfl⟩) fun j s1 ⟨e1, e2⟩ => ?_
  subst e1 e2
  refine ⟨by omega, by omega, ?_⟩
  have p0 : Fr [b, a] s (s ++ [.lst []]) := .push
  have e0 : Env3 (s ++ [.lst []]) b m a z := ev.to p0 ev.bn.bg.push (ev.am.keep (S := []) .push (by simp))
  -- the end
  have fin : ∀ (L : List D) (left : Int) (v7 v8 : Option D) (s' : Sto), Env3 s' b m a z → Fr [b, a] s s' → s'[s.length]? = some (.lst L) → 0 ≤ left → (∀ x ∈ L, Gd (12 + 2 * f) x) → (∀ n, (L.length : Int) + ((L.map (cntI n)).sum : Nat) + 5 * left ≤ 5 * j) → L.length ≤ 81 → (0 < j → L ≠ []) →
      mRet (mCB (oneF tupG) (mCons (mVar 5) mNil)) [some (.ref b), some (.ref m), some (.int j), some (.int deep), some (.ref a), some (.ref s.length), some (.int left), v7, v8] s' (endF Q X) := fun L left v7 v8 s' e fr hl l0 hg hc hs hn => by
    walk_at "mir"
    rw [show tupG s' (.ref s.length) = some (.tup L) by
      show (lstT s' (.ref s.length)).map D.tup = _
      rw [lstT_ref hl]
      rfl]
    have gL : Gd (13 + 2 * f) (.tup L) := by
      rw [show 13 + 2 * f = (12 + 2 * f) + 1 by omega]
      exact ⟨by omega, hg⟩
    refine q _ s' ⟨L, rfl, gL, fun n => ?_, hn⟩ fr e.bn.bg e.am
    rw [cnt_eq]
    have := hc n
    omega
  refine loop_inv (fun its l s' => ∃ (L : List D) (left : Int) (v7 v8 : Option D), l = [some (.ref b), some (.ref m), some (.int j), some (.int deep), some (.ref a), some (.ref s.length), some (.int left), v7, v8] ∧ Env3 s' b m a z ∧ Fr [b, a] s s' ∧ s'[s.length]? = some (.lst L) ∧ 0 ≤ left ∧ left ≤ 81 ∧
      (∀ x ∈ L, Gd (12 + 2 * f) x) ∧ (∀ n, (L.length : Int) + ((L.map (cntI n)).sum : Nat) + 5 * left ≤ 5 * j) ∧ L.length + its.length ≤ 81 ∧ (L = [] → left = j) ∧ ((its.length : Int) = j ∨ L ≠ [])) ⟨[], j, none, none, rfl, e0, p0, ?_, r0, r1, (fun x hx => by cases hx), (fun n => by simp), ?_, fun _ => rfl, .inl ?_⟩ (fun _ _ _ _ => trivial) ?_ ?_
  · rw [List.getElem?_append_right (Nat.le_refl _), Nat.sub_self]
    rfl
  · rw [rangeD_len]
    show 0 + j.toNat ≤ 81
    omega
  · rw [rangeD_len]
    omega
  · rintro l s' ⟨L, left, v7, v8, rfl, e, fr, hl, l0, l1, hg, hc, hs, hL, hn⟩
    refine fin L left v7 v8 s' e fr hl l0 hg hc (by simpa using hs) fun hj => ?_
    rcases hn with hn | hn
    · simp at hn
      omega
    · exact hn
  · rintro d r l s' ⟨L, left, v7, v8, rfl, e, fr, hl, l0, l1, hg, hc, hs, hL, hn⟩ N hN
    simp only [gmName, List.set_cons_succ, List.set_cons_zero]
    rw [List.length_cons] at hs
    refine sq_i (b := decide (left ≤ 0)) (fun R Y t => by walk_at "mir"; exact t) (fun z0 => ?_) fun z0 => ?_
    · have z0 := of_decide_eq_true z0
      refine fin L left (some d) v8 s' e fr hl l0 hg hc (by omega) fun hj hLe => ?_
      have := hL hLe
      omega
    have z0 := of_decide_eq_false z0
    refine sq_set (d := .int 0) (fun R Y t => t) ?_
    have hlt : s.length < s'.length := (List.getElem?_eq_some_iff.mp hl).1
    -- behind the inner number
    have go : ∀ (inner : Int) (s2 : Sto), Fr [b] s' s2 → BagAt s2 b → 0 ≤ inner → inner < left → (0 < inner → deep < z) → mSeqS (mExpr (mBM appendF isLst (mVar 5) (mCons (mCall 5 (Fd_stmt f) (mCons (mVar 0) (mCons (mVar 1) (mCons (mVar 8) (mCons (mVar 3) (mCons (mVar 4) mNil)))))) mNil)))
        (mAsg (mOp iSub (mOp iSub (mVar 6) (mC (.int 1))) (mVar 8)) (gmName 6)) [some (.ref b), some (.ref m), some (.int j), some (.int deep), some (.ref a), some (.ref s.length), some (.int left), some d, some (.int inner)] s2 { nx := N, rt := (endF Q X).rt, bk := fun l' s' => mRet (mCB (oneF tupG) (mCons (mVar 5) mNil)) l' s' (endF Q X), ct := N, ex := (endF Q X).ex } := fun inner s2 f2 bg2 i0 i1 iz => by
      have e2 := e.draw f2 bg2
      have hl2 := f2.at_ hl (by simp; omega)
      refine sq_exprA (fun s4 => ∃ x, StmOk f inner x ∧ Env3 s4 b m a z ∧ Fr [b, a] s s4 ∧ s4[s.length]? = some (.lst (L ++ [x]))) (fun R Y k => ?_) fun s4 ⟨x, ⟨gx, cx⟩, e4, f4, hl4⟩ => ?_
      · unfold mBM
        walk_at "mir"
        refine ⟨isLst_ref hl2, b, m, a, inner, deep, z, rfl, e2, i0, by omega, iz, dz, zf, fun x s3 ox f3 bg3 am3 => ?_⟩
        have e3 := e2.to f3 bg3 am3
        have hl3 := f3.at_ hl2 (by simp; omega)
        have hlt3 : s.length < s3.length := (List.getElem?_eq_some_iff.mp hl3).1
        refine d_append hl3 (by unfold sizeLine; omega) (k _ _ ⟨x, ox, ?_, ?_, set_get hlt3⟩)
        · refine ⟨⟨bg3.setN (by omega), e3.bn.nm.keep (S := [s.length]) (.set (by simp)) (by simp; omega), e3.bn.ne⟩, am3.keep (S := [s.length]) (.set (by simp)) (by simp; omega), e3.ab, e3.an⟩
        · have fr3 := (fr.trans (f2.imp (by simp))).trans f3
          refine ⟨by simpa using fr3.1, fun n hn' hmm => ?_⟩
          rw [List.getElem?_set_ne (by omega), fr3.2 n hn' hmm]
      · refine setA (fun y s5 => y = .int (left - 1 - inner) ∧ s5 = s4) (fun R Y k => ?_) fun y s5 ⟨e5, e6⟩ => ?_
        · walk_at "mir"
          exact k _ _ ⟨rfl, rfl⟩
        subst e5 e6
        refine hN _ _ ⟨L ++ [x], left - 1 - inner, some d, some (.int inner), rfl, e4, f4, hl4, by omega, by omega, ?_, fun n => ?_, by simp; omega, fun h => by simp at h, .inr (by simp)⟩
        · intro y hy
          rcases List.mem_append.mp hy with hy | hy
          · exact hg y hy
          · rw [List.mem_singleton.mp hy]; exact gx
        · have := hc n
          have := cx n
          rw [List.length_append, List.map_append, List.sum_append]
          simp only [List.length_cons, List.length_nil, List.map_cons, List.map_nil, List.sum_cons, List.sum_nil]
          omega
    refine sq_iA (fun c s2 => Fr [b] s' s2 ∧ BagAt s2 b ∧ (c = true → deep < z)) (fun R Y k => ?_) (fun s2 ⟨f2, bg2, hz⟩ => ?_) fun s2 ⟨f2, bg2, _⟩ => go 0 s2 f2 bg2 (by omega) (by omega) (by omega)
    · obtain ⟨h, x, y, hx⟩ := e.am
      walk_at "mir"
      refine ix_ref hx atI_three ?_
      simp only [ordD_int, tbl_bl]
      refine iteBt (fun c => ?_) fun c => k _ _ ⟨.refl _ _, e.bn.bg, fun z => by cases z⟩
      have c : decide (deep < z) = true := c
      refine d_draw e.bn.bg (by decide) (by decide) fun v s2 _ _ f2 bg2 => k _ _ ⟨f2, bg2, fun _ => of_decide_eq_true c⟩
    · refine setA (fun y s3 => ∃ v : Int, y = .int v ∧ 0 ≤ v ∧ v < left ∧ Fr [b] s' s3 ∧ BagAt s3 b) (fun R Y k => ?_) fun y s3 ⟨v, e5, v0, v1, f3, bg3⟩ => ?_
      · walk_at "mir"
        exact d_draw bg2 (by omega) (by omega) fun v s3 v0 v1 f3 bg3 => k _ _ ⟨v, rfl, v0, v1, f2.trans f3, bg3⟩
      · subst e5
        exact go v s3 f3 bg3 v0 v1 fun _ => hz rfl
theorem tO_in {l : List D} {v : Int} {f : D → Prop} (h0 : 0 ≤ v) (h1 : v < l.length) (h : ∀ d ∈ l, f d) : tO (atI l v) f := by
  obtain ⟨d, hd, hm⟩ := atI_in h0 h1
  rw [hd]
  exact h d hm
theorem gdS {f : Nat} {l : List D} (h : l.length ≤ 1000) (hl : ∀ x ∈ l, Gd (11 + 2 * f) x) : Gd (12 + 2 * f) (.tup l) := by
  rw [show 12 + 2 * f = (11 + 2 * f) + 1 by omega]
  exact ⟨h, hl⟩
/-- a statement that is made -/
def MadeOk (f : Nat) (inner : Int) (x : D) : Prop := ∃ w r, x = .tup (.str w :: r) ∧ Gd (12 + 2 * f) x ∧ r.length ≤ 8 ∧ ∀ n, (cntI n x : Int) ≤ 5 * inner
theorem made_calm {f : Nat} {inner : Int} {w : Str} {r : List D} (i0 : 0 ≤ inner) (hw : calm w = true) (sw : w.length ≤ 1000 ∧ PyData.strOk w = true) (hr : r.length ≤ 8) (hg : ∀ x ∈ r, Gd (11 + 2 * f) x) : MadeOk f inner (.tup (.str w :: r)) := by
  refine ⟨w, r, rfl, gdS (by simp; omega) fun x hx => ?_, hr, fun n => ?_⟩
  · rcases List.mem_cons.mp hx with e | hx
    · rw [e]; exact Gd.sc sw
    · exact hg x hx
  · rw [calmD_cnt (x := .tup (.str w :: r)) (by show calm w = true; exact hw)]
    omega
theorem made_blocks {f : Nat} {inner : Int} {w : Str} {r bs : List D} (hb : blocksOf w r = bs) (hc : ∀ n, (sumC n bs : Int) ≤ 5 * inner) (i0 : 0 ≤ inner) (sw : w.length ≤ 1000 ∧ PyData.strOk w = true) (hr : r.length ≤ 8) (hg : ∀ x ∈ r, Gd (11 + 2 * f) x) : MadeOk f inner (.tup (.str w :: r)) := by
  refine ⟨w, r, rfl, gdS (by simp; omega) fun x hx => ?_, hr, fun n => ?_⟩
  · rcases List.mem_cons.mp hx with e | hx
    · rw [e]; exact Gd.sc sw
    · exact hg x hx
  · cases n with
    | zero => rw [cntI_zero]; omega
    | succ n =>
      rw [cntI_stm, hb]
      exact hc n
theorem all1 {p : D → Prop} {a : D} (ha : p a) : ∀ x ∈ [a], p x := fun x hx => by rw [List.mem_singleton.mp hx]; exact ha
theorem allC {p : D → Prop} {a : D} {l : List D} (ha : p a) (hl : ∀ x ∈ l, p x) : ∀ x ∈ a :: l, p x := fun x hx => by
  rcases List.mem_cons.mp hx with e | hx
  · rw [e]; exact ha
  · exact hl x hx
theorem p_statement (f : Nat) (Fr' : Fn) (hFr : ∀ f', f = f' + 1 → Fr' = Fd_block f') (ds : List D) (s : Sto) (Q : QD) (X : QX) (h : Fd_stmt f ds s Q X) : m__law_statement Fr' (startL 14 ds) s (endF Q X) := by
  obtain ⟨b, m, a, inner, deep, z, rfl, ev, i0, i1, iz, dz, zf, q⟩ := h
  obtain ⟨h, x, y, hx⟩ := id ev.am
  have ha : a < s.length := (List.getElem?_eq_some_iff.mp hx).1
  unfold m__law_statement
  refine sq_set (d := .int h) (fun R Y t => by walk_at "mir"; exact ix_ref hx atI_zero t) ?_
  refine sq_subA (fun s1 => s1 = s.set a (aimO (h + 1) x y z)) (fun R Y k => ?_) fun s1 es => ?_
  · walk_at "mir"
    exact setB0 (o' := aimO (h + 1) x y z) (j := 0) hx rfl rfl rfl (k _ rfl)
  have f1 : Fr [b, a] s s1 := by
    rw [es]
    exact .set (by simp)
  have hx1 : s1[a]? = some (aimO (h + 1) x y z) := by
    rw [es]
    exact set_get ha
  have e1 : Env3 s1 b m a z := ev.to f1 (by rw [es]; exact ev.bn.bg.setN ev.ab) ⟨_, _, _, hx1⟩
  clear es
  refine sq_setA (fun d s2 => ∃ w : Bool, d = .bl w ∧ s2 = s1) (fun R Y k => ?_) fun d s2 ⟨w, ew, es⟩ => ?_
  · walk_at "mir"
    refine ix_ref hx1 atI_one ?_
    simp only [eqD_int, tbl_bl]
    refine iteBt (fun _ => ?_) fun _ => k _ _ ⟨_, rfl, rfl⟩
    refine ix_ref hx1 atI_two ?_
    exact k _ _ ⟨_, rfl, rfl⟩
  subst ew es
  refine sq_setA (fun d s3 => ∃ v : Int, d = .int v ∧ 0 ≤ v ∧ v < 6 ∧ Fr [b, a] s s3 ∧ Env3 s3 b m a z) (fun R Y k => ?_) fun d s3 ⟨v, e, v0, v1, f3, e3⟩ => ?_
  · walk_at "mir"
    exact d_draw e1.bn.bg (by decide) (by decide) fun v s3 v0 v1 f3 bg3 => k _ _ ⟨v, rfl, v0, v1, f1.trans (f3.imp (by simp)), e1.draw f3 bg3⟩
  subst e
  -- behind the kind
  have go : ∀ (v : Int) (s4 : Sto), 0 ≤ v → v ≤ 8 → (0 < inner → 6 ≤ v) → (6 ≤ v → deep < z) → Fr [b, a] s s4 → Env3 s4 b m a z →
      stGo Fr' [some (.ref b), some (.ref m), some (.int inner), some (.int deep), some (.ref a), some (.int h), some (.bl w), some (.int v), none, none, none, none, none, none] s4 (endF Q X) := fun v s4 v0 v8 vi vz f4 e4 => by
    refine sq_setA (fun d s5 => Gd 11 d ∧ Fr [b, a] s s5 ∧ Env3 s5 b m a z) (fun R Y k => ?_) fun first s5 ⟨g5, f5, e5⟩ => ?_
    · walk_at "mir"
      exact ⟨b, m, w, rfl, e4.bn, fun x s5 g f5 bg5 => k _ _ ⟨g, f4.trans (f5.imp (by simp)), e4.draw f5 bg5⟩⟩
    refine sq_setA (fun d s6 => (∃ nm : Str, d = .str nm ∧ nm.length ≤ 1000 ∧ PyData.strOk nm = true) ∧ Fr [b, a] s s6 ∧ Env3 s6 b m a z) (fun R Y k => ?_) fun d s6 ⟨⟨nm, en, gn⟩, f6, e6⟩ => ?_
    · obtain ⟨ns, hn, hl, hz⟩ := e5.bn.nm
      walk_at "mir"
      rw [show lenG s5 (.ref m) = some (.int 3) by
        show (seqA s5 (.ref m)).map _ = _
        rw [seqA_ref hn]
        simp [hl], tO_some]
      refine d_draw e5.bn.bg (by decide) (by decide) fun u s6 u0 u1 f6 bg6 => ?_
      have hn2 := f6.at_ hn (by simpa using e5.bn.ne)
      obtain ⟨d, hd, hm⟩ := atI_in (l := ns.map D.str) u0 (by rw [List.length_map, hl]; exact u1)
      obtain ⟨nm, hnm, rfl⟩ := List.mem_map.mp hm
      exact ix_ref hn2 hd (k _ _ ⟨⟨nm, rfl, hz nm hnm⟩, f5.trans (f6.imp (by simp)), e5.draw f6 bg6⟩)
    subst en
    -- the end
    have fin : ∀ (made : D) (v10 v11 v13 : Option D) (s7 : Sto), MadeOk f inner made → Fr [b, a] s s7 → Env3 s7 b m a z →
        mSeqS (mIfS (mAndT (mTst (mOp (eqD false) (mVar 5) (mOp ixD (mVar 4) (mC (.int 1))))) (mTst (mOp oGt (mOp ixD (mVar 4) (mC (.int 2))) (mC (.int 0)))))
          (mRet (mCall 2 F__law_spoiled (mCons (mVar 0) (mCons (mVar 12) mNil)))) mNext) (mRet (mVar 12))
        [some (.ref b), some (.ref m), some (.int inner), some (.int deep), some (.ref a), some (.int h), some (.bl w), some (.int v), some first, some (.str nm), v10, v11, some made, v13] s7 (endF Q X) := fun made v10 v11 v13 s7 mo f7 e7 => by
      obtain ⟨w', r, rfl, gm, hr, hc⟩ := mo
      refine sq_gA (fun _ s8 => s8 = s7) (fun R Y k => ?_) (fun s8 es => ?_) fun s8 es => ?_
      · obtain ⟨h', x', y', hx'⟩ := e7.am
        walk_at "mir"
        refine ix_ref hx' atI_one ?_
        simp only [eqD_int, tbl_bl]
        refine iteBt (fun _ => ?_) fun _ => k _ _ rfl
        refine ix_ref hx' atI_two ?_
        exact k _ _ rfl
      · subst es
        walk_at "mir"
        refine ⟨b, w', r, 7 + 2 * f, rfl, e7.bn.bg, by rw [show 7 + 2 * f + 5 = 12 + 2 * f by omega]; exact gm, hr, fun x s9 ⟨gx, cx⟩ f9 bg9 => ?_⟩
        have e9 := e7.draw f9 bg9
        refine q x s9 ⟨by rw [show 7 + 2 * f + 5 = 12 + 2 * f by omega] at gx; exact gx, fun n => ?_⟩ (f7.trans (f9.imp (by simp))) bg9 e9.am
        have := cx n
        have := hc n
        omega
      · subst es
        refine q _ s8 ⟨gm, fun n => ?_⟩ f7 e7.bn.bg e7.am
        have := hc n
        omega
    have g11 : ∀ {x : D}, Gd 11 x → Gd (11 + 2 * f) x := fun g => g.mono (by omega)
    have gnm : Gd (11 + 2 * f) (.str nm) := Gd.sc gn
    have gb : ∀ {f' : Nat} {x : D}, f = f' + 1 → Gd (13 + 2 * f') x → Gd (11 + 2 * f) x := fun h g => g.mono (by omega)
    -- a block inside
    have blk : ∀ (f' : Nat) (room : Int) (s7 : Sto) (R : QD) (Y : QX), f = f' + 1 → 0 ≤ room → room ≤ 81 → deep < z → Env3 s7 b m a z → Fr [b, a] s s7 → (∀ lb s8, Gd (11 + 2 * f) (.tup lb) → (∀ n, (cnt n lb : Int) ≤ 5 * room) → Fr [b, a] s s8 → Env3 s8 b m a z → R (.tup lb) s8) →
        Fd_block f' [.ref b, .ref m, .int room, .int (deep + 1), .ref a] s7 R Y := fun f' room s7 R Y hf r0 r1 hz e7 f7 k =>
      ⟨b, m, a, room, deep + 1, z, rfl, e7, r0, r1, by omega, by omega, fun x s8 ⟨lb, ex, gl, cl, _⟩ f8 bg8 am8 => by
        subst ex
        exact k lb s8 (gb hf gl) cl (f7.trans f8) (e7.to f8 bg8 am8)⟩
    show stCh Fr' [some (.ref b), some (.ref m), some (.int inner), some (.int deep), some (.ref a), some (.int h), some (.bl w), some (.int v), some first, some (.str nm), none, none, none, none] s6 (endF Q X)
    refine sq_if (b := decide (v = 6)) (fun R Y t => by walk_at "mir"; exact t) (fun h6 => ?_) fun h6 => ?_
    · have h6 := of_decide_eq_true h6
      have hz := vz (by omega)
      obtain ⟨f', hf⟩ : ∃ f', f = f' + 1 := ⟨f - 1, by omega⟩
      have hF := hFr f' hf
      subst hF
      refine sq_setA (fun d s7 => ∃ k : Int, d = .int k ∧ 0 ≤ k ∧ k ≤ inner ∧ Fr [b, a] s s7 ∧ Env3 s7 b m a z) (fun R Y k => ?_) fun d s7 ⟨so, e, k0, k1, f7, e7⟩ => ?_
      · walk_at "mir"
        exact d_draw e6.bn.bg (by omega) (by omega) fun u s7 u0 u1 f7 bg7 => k _ _ ⟨u, rfl, u0, by omega, f6.trans (f7.imp (by simp)), e6.draw f7 bg7⟩
      subst e
      refine sq_setA (fun d s8 => ∃ lb, d = .tup lb ∧ Gd (11 + 2 * f) (.tup lb) ∧ (∀ n, (cnt n lb : Int) ≤ 5 * so) ∧ Fr [b, a] s s8 ∧ Env3 s8 b m a z) (fun R Y k => ?_) fun d s8 ⟨lb, e, gl, cl, f8, e8⟩ => ?_
      · walk_at "mir"
        exact blk f' so s7 _ _ hf k0 (by omega) hz e7 f7 fun lb s8 gl cl f8 e8 => k _ _ ⟨lb, rfl, gl, cl, f8, e8⟩
      subst e
      refine setA (fun d s9 => MadeOk f inner d ∧ Fr [b, a] s s9 ∧ Env3 s9 b m a z) (fun R Y k => ?_) fun d s9 ⟨mo, f9, e9⟩ => fin d _ _ _ s9 mo f9 e9
      walk_at "mir"
      refine blk f' (inner - so) s8 _ _ hf (by omega) (by omega) hz e8 f8 fun lb2 s9 gl2 cl2 f9 e9 => ⟨by decide, k _ _ ⟨made_blocks (bs := [.tup lb, .tup lb2]) (by unfold blocksOf; rw [if_neg (by decide +kernel), if_pos rfl]; rfl) (fun n => ?_) i0 (by decide +kernel) (by simp) (allC (g11 g5) (allC gl (all1 gl2))), f9, e9⟩⟩
      have := cl n
      have := cl2 n
      simp only [sumC, List.map_cons, List.map_nil, List.sum_cons, List.sum_nil, tupL]
      omega
    refine if_b (b := decide (v = 7)) (fun R Y t => by walk_at "mir"; exact t) (fun h7 => ?_) fun h7 => ?_
    · have h7 := of_decide_eq_true h7
      have hz := vz (by omega)
      obtain ⟨f', hf⟩ : ∃ f', f = f' + 1 := ⟨f - 1, by omega⟩
      have hF := hFr f' hf
      subst hF
      refine setA (fun d s9 => MadeOk f inner d ∧ Fr [b, a] s s9 ∧ Env3 s9 b m a z) (fun R Y k => ?_) fun d s9 ⟨mo, f9, e9⟩ => fin d _ _ _ s9 mo f9 e9
      walk_at "mir"
      refine ⟨by decide, d_draw e6.bn.bg (by decide) (by decide) fun u s7 u0 u1 f7 bg7 => ix_in u0 (by simpa using u1) fun dn hdn => ?_⟩
      have gdn : Gd (11 + 2 * f) dn := by
        simp only [List.mem_cons, List.not_mem_nil, or_false] at hdn
        rcases hdn with e | e | e | e <;> rw [e] <;> exact Gd.sc trivial
      refine blk f' inner s7 _ _ hf i0 i1 hz (e6.draw f7 bg7) (f6.trans (f7.imp (by simp))) fun lb s9 gl cl f9 e9 => ⟨by decide, k _ _ ⟨made_blocks (bs := [.tup lb]) (by unfold blocksOf; rw [if_neg (by decide +kernel), if_neg (by decide +kernel), if_pos rfl]; rfl) (fun n => ?_) i0 (by decide +kernel) (by simp) (allC (g11 g5) (allC gdn (all1 gl))), f9, e9⟩⟩
      have := cl n
      simp only [sumC, List.map_cons, List.map_nil, List.sum_cons, List.sum_nil, tupL]
      omega
    refine if_b (b := decide (v = 8)) (fun R Y t => by walk_at "mir"; exact t) (fun h8 => ?_) fun h8 => ?_
    · have h8 := of_decide_eq_true h8
      have hz := vz (by omega)
      obtain ⟨f', hf⟩ : ∃ f', f = f' + 1 := ⟨f - 1, by omega⟩
      have hF := hFr f' hf
      subst hF
      refine sq_setA (fun d s7 => Gd 11 d ∧ Fr [b, a] s s7 ∧ Env3 s7 b m a z) (fun R Y k => ?_) fun other s7 ⟨g7, f7, e7⟩ => ?_
      · walk_at "mir"
        exact ⟨b, m, false, rfl, e6.bn, fun x s7 g f7 bg7 => k _ _ ⟨g, f6.trans (f7.imp (by simp)), e6.draw f7 bg7⟩⟩
      refine setA (fun d s9 => MadeOk f inner d ∧ Fr [b, a] s s9 ∧ Env3 s9 b m a z) (fun R Y k => ?_) fun d s9 ⟨mo, f9, e9⟩ => fin d _ _ _ s9 mo f9 e9
      obtain ⟨ns, hn, hl, hz'⟩ := e7.bn.nm
      obtain ⟨d0, hd0, hm0⟩ := atI_in (l := ns.map D.str) (i := 0) (by omega) (by rw [List.length_map, hl]; decide)
      obtain ⟨nm0, hnm0, rfl⟩ := List.mem_map.mp hm0
      walk_at "mir"
      refine ix_ref hn hd0 ?_
      refine blk f' inner s7 _ _ hf i0 i1 hz e7 f7 fun lb s9 gl cl f9 e9 => ⟨by decide, k _ _ ⟨made_blocks (bs := [.tup lb]) (by unfold blocksOf; rw [if_pos rfl]; rfl) (fun n => ?_) i0 (by decide +kernel) (by simp) (allC gnm (allC (Gd.sc (hz' nm0 hnm0)) (allC (g11 g5) (allC (g11 g7) (all1 gl))))), f9, e9⟩⟩
      have := cl n
      simp only [sumC, List.map_cons, List.map_nil, List.sum_cons, List.sum_nil, tupL]
      omega
    refine if_b (b := decide (v = 0)) (fun R Y t => by walk_at "mir"; exact t) (fun h0 => ?_) fun h0 => ?_
    · refine setA (fun d s9 => MadeOk f inner d ∧ Fr [b, a] s s9 ∧ Env3 s9 b m a z) (fun R Y k => ?_) fun d s9 ⟨mo, f9, e9⟩ => fin d _ _ _ s9 mo f9 e9
      walk_at "mir"
      exact ⟨b, m, false, rfl, e6.bn, fun x s7 g f7 bg7 => ⟨by decide, k _ _ ⟨made_calm i0 (by decide +kernel) (by decide +kernel) (by simp) (allC (g11 g5) (all1 (g11 g))), f6.trans (f7.imp (by simp)), e6.draw f7 bg7⟩⟩⟩
    have h0 := of_decide_eq_false h0
    refine if_b (b := decide (v < 3)) (fun R Y t => by walk_at "mir"; exact t) (fun h3 => ?_) fun h3 => ?_
    · have h3 := of_decide_eq_true h3
      refine setA (fun d s9 => MadeOk f inner d ∧ Fr [b, a] s s9 ∧ Env3 s9 b m a z) (fun R Y k => ?_) fun d s9 ⟨mo, f9, e9⟩ => fin d _ _ _ s9 mo f9 e9
      walk_at "mir"
      refine ⟨by decide, tO_in (by omega) (by simp; omega) fun dw hdw => ⟨by decide, k _ _ ⟨?_, f6, e6⟩⟩⟩
      simp only [List.mem_cons, List.not_mem_nil, or_false] at hdw
      rcases hdw with e | e <;> rw [e] <;> exact made_calm i0 (by decide +kernel) (by decide +kernel) (by simp) (allC gnm (all1 (g11 g5)))
    have h3 := of_decide_eq_false h3
    refine if_b (b := decide (v < 5)) (fun R Y t => by walk_at "mir"; exact t) (fun h5 => ?_) fun h5 => ?_
    · have h5 := of_decide_eq_true h5
      refine setA (fun d s9 => MadeOk f inner d ∧ Fr [b, a] s s9 ∧ Env3 s9 b m a z) (fun R Y k => ?_) fun d s9 ⟨mo, f9, e9⟩ => fin d _ _ _ s9 mo f9 e9
      walk_at "mir"
      refine ⟨by decide, tO_in (by omega) (by simp; omega) fun dw hdw => ⟨by decide, k _ _ ⟨?_, f6, e6⟩⟩⟩
      simp only [List.mem_cons, List.not_mem_nil, or_false] at hdw
      rcases hdw with e | e <;> rw [e] <;> exact made_calm i0 (by decide +kernel) (by decide +kernel) (by simp) (all1 (g11 g5))
    · refine setA (fun d s9 => MadeOk f inner d ∧ Fr [b, a] s s9 ∧ Env3 s9 b m a z) (fun R Y k => ?_) fun d s9 ⟨mo, f9, e9⟩ => fin d _ _ _ s9 mo f9 e9
      walk_at "mir"
      exact ⟨by decide, k _ _ ⟨made_calm i0 (by decide +kernel) (by decide +kernel) (by simp) (fun x hx => by cases hx), f6, e6⟩⟩
  refine sq_iA (fun c s4 => Fr [b, a] s s4 ∧ Env3 s4 b m a z ∧ (c = true → deep < z) ∧ (c = false → inner = 0)) (fun R Y k => ?_) (fun s4 ⟨f4, e4, hz, _⟩ => ?_) fun s4 ⟨f4, e4, _, hi⟩ => go v s4 v0 (by omega) (fun z => by have := hi rfl; omega) (by omega) f4 e4
  · obtain ⟨h', x', y', hx'⟩ := e3.am
    walk_at "mir"
    refine iteBt (fun c => ?_) fun c => ?_
    · have c : decide (0 < inner) = true := c
      exact k true s3 ⟨f3, e3, fun _ => iz (of_decide_eq_true c), fun z => by cases z⟩
    have c : decide (0 < inner) = false := c
    have c := of_decide_eq_false c
    refine ix_ref hx' atI_three ?_
    simp only [ordD_int, tbl_bl]
    refine iteBt (fun c2 => ?_) fun c2 => k _ _ ⟨f3, e3, (fun z => by cases z), fun _ => by omega⟩
    have c2 : decide (deep < z) = true := c2
    exact d_draw e3.bn.bg (by decide) (by decide) fun u s4 _ _ f4 bg4 => k _ _ ⟨f3.trans (f4.imp (by simp)), e3.draw f4 bg4, fun _ => of_decide_eq_true c2, fun _ => by omega⟩
  · refine setA (fun d s5 => ∃ u : Int, d = .int u ∧ 6 ≤ u ∧ u ≤ 8 ∧ Fr [b, a] s s5 ∧ Env3 s5 b m a z) (fun R Y k => ?_) fun d s5 ⟨u, e, u0, u1, f5, e5⟩ => ?_
    · walk_at "mir"
      exact d_draw e4.bn.bg (by decide) (by decide) fun u s5 u0 u1 f5 bg5 => k _ _ ⟨6 + u, rfl, by omega, by omega, f4.trans (f5.imp (by simp)), e4.draw f5 bg5⟩
    · subst e
      exact go u s5 (by omega) u1 (fun _ => u0) (fun _ => hz rfl) f5 e5
end K87

set_option Elab.async false
set_option linter.all false
set_option maxRecDepth 100000
set_option maxHeartbeats 1000000
/-! K87M: the law's own judge of expressions. -/
namespace K87
open PySem PySem.Spec PyProof.Rows L2 Mir
local macro_rules | `(tactic| walk_at "mir") => `(tactic| try simp only [mIfS, mSeqS, mRet, mAsg, gmName, gmTup_tup, gmCons_cons, gmNil, mVar_eq, mC, mOp, mCons, mNil, mTup, mLst, mLstR, mCall, mCB, oneF_eq, mTst_eq, mNotT, mAndT, mOrT, mTru_eq, truD_bl, mUn, mIf, mAndV_eq, mOrV_eq, mNotV_eq, mNeg_eq, mSl, mNoPart, mPart_eq, intD_eq, addD_int, addD_str, addD_tup, addD_vl, ordD_int, ordD_str, mChain_eq, isiM_eq, mNext, mFor, mSeq_eq, tSeq1_str, tSeq1_tup, tSeq1_vl, tSeq1_sq, mRange1_eq, tRng1_int, mEnum_eq, tEnum_tup, mAug_eq, mLc, mYes, startL, endF, tbl_bl, tint_int, tO_some, eqD_int, eqD_str, ixD_tup, ixD_vl, slD_tup, slD_vl, slD_sq, slD_str, lenG_tup, lenG_vl, isBlD_eq, List.length_cons, List.length_nil, List.map_cons, List.map_nil, List.replicate, Nat.reduceAdd, Nat.reduceSub, List.cons_append, List.nil_append, List.append_nil, List.getElem?_cons_succ, List.getElem?_cons_zero, List.set_cons_succ, List.set_cons_zero, true_and, and_true, Bool.not_true, Bool.not_false, Bool.false_eq_true, if_true, if_false, ite_true, ite_false, not_true, not_false_iff, Bool.true_eq_false, reduceCtorEq, wipeL])

def F__law_is_whole : Fn := fun ds st Q _ => ∃ x n a b, ds = [x, .int a, .int b] ∧ Gd n x ∧ Q (.bl (isW a b x)) st
def F__law_is_letters : Fn := fun ds st Q _ => ∃ x n m, ds = [x, .int m] ∧ Gd n x ∧ Q (.bl (isLet m x)) st
def F__law_is_name : Fn := fun ds st Q _ => ∃ x n, ds = [x] ∧ Gd n x ∧ Q (.bl (isNm x)) st
/-- _law_is_whole(_law_thing, _law_least, _law_most); 0 _law_thing, 1 _law_least, 2 _law_most -/
def m__law_is_whole : WS := (mRet (mAndV (isiM (ansB "int") (mVar 0)) (mAndV (mNotV (isiM (ansB "bool") (mVar 0))) (mChain oLe oLe (mVar 1) (mVar 0) (mVar 2)))))
/-- _law_is_letters(_law_thing, _law_most); 0 _law_thing, 1 _law_most, 2 _law_sign -/
def m__law_is_letters : WS := (mSeqS (mIfS (mOrT (mNotT (mTru (isiM (ansB "str") (mVar 0)))) (mNotT (mTst (mChain oLe oLe (mC (.int 1)) (mCB (oneF lenG) (mCons (mVar 0) mNil)) (mVar 1)))))
    (mRet (mC (.bl false)))
    mNext)
    (mRet (mCB (oneF allG) (mCons (mLc (mSeq (mVar 0)) (gmName 2) mYes (mOp (inD false) (mVar 2) (mC (.str "abcdefghijklmnopqrstuvwxyz"))) [2]) mNil))))
/-- _law_is_name(_law_thing); 0 _law_thing -/
def m__law_is_name : WS := (mRet (mAndV (mCall 2 F__law_is_letters (mCons (mVar 0) (mCons (mC (.int 8)) mNil))) (mOp (inD true) (mVar 0) (mCall 0 F__law_kept_words mNil))))
theorem p_is_whole (ds : List D) (s : Sto) (Q : QD) (X : QX) (h : F__law_is_whole ds s Q X) : m__law_is_whole (startL 3 ds) s (endF Q X) := by
  obtain ⟨x, n, a, b, rfl, g, q⟩ := h
  unfold m__law_is_whole
  walk_at "mir"
  rw [g.kd]
  simp only [tO_some, g.ansI, g.ansB, tbl_bl]
  cases x <;> first
    | exact q
    | skip
  rename_i i
  walk_at "mir"
  refine (if_pos rfl).mpr ((if_pos rfl).mpr ?_)
  refine iteBt (fun e => ?_) (fun e => ?_)
  · rw [show isW a b (.int i) = (decide (a ≤ i) && decide (i ≤ b)) from rfl, show decide (a ≤ i) = true from e] at q
    exact q
  · rw [show isW a b (.int i) = (decide (a ≤ i) && decide (i ≤ b)) from rfl, show decide (a ≤ i) = false from e] at q
    exact q
theorem p_is_letters (ds : List D) (s : Sto) (Q : QD) (X : QX) (h : F__law_is_letters ds s Q X) : m__law_is_letters (startL 3 ds) s (endF Q X) := by
  obtain ⟨x, n, m, rfl, g, q⟩ := h
  unfold m__law_is_letters
  simp only [mSeqS, mIfS, mOrT, mNotT, mTru_eq, isiM_eq, mVar_eq, startL, List.map_cons, List.map_nil, List.length_cons, List.length_nil, Nat.reduceAdd, Nat.reduceSub, List.replicate, List.cons_append, List.nil_append, List.getElem?_cons_zero, tO_some, g.kd, g.ansS, truD_bl]
  cases x <;> first
    | exact q
    | skip
  rename_i z
  have hz := le_size g.str.1
  refine iteBt (fun e => (by cases e)) fun _ => ?_
  walk_at "mir"
  rw [lenG_str hz]
  walk_at "mir"
  refine iteBt (fun e => iteBt (fun e2 => ?_) fun e2 => ?_) fun e => ?_
  · simp only [Bool.not_eq_true'] at e2
    simpa [isLet, e2] using q
  · simp only [Bool.not_eq_false'] at e2
    refine p_letters trivial (fun _ _ _ _ => rfl) hz (by simp) ?_
    simpa [isLet, show decide (1 ≤ (z.length : Int)) = true from e, show decide ((z.length : Int) ≤ m) = true from e2] using q
  · simpa [isLet, show decide (1 ≤ (z.length : Int)) = false from e] using q
theorem kept_same {z : Str} : keptL.contains z = wordL.contains z := by
  have h : ∀ l l' : List Str, (∀ x ∈ l, x ∈ l') → (∀ x ∈ l', x ∈ l) → l.contains z = l'.contains z := fun l l' h1 h2 => by
    by_cases hz : z ∈ l
    · rw [List.contains_iff_mem.mpr hz, List.contains_iff_mem.mpr (h1 z hz)]
    · have hz' : z ∉ l' := fun h => hz (h2 z h)
      rw [Bool.eq_false_iff.mpr fun h => hz (List.contains_iff_mem.mp h), Bool.eq_false_iff.mpr fun h => hz' (List.contains_iff_mem.mp h)]
  exact h _ _ (by decide +kernel) (by decide +kernel)
theorem p_is_name2 (ds : List D) (s : Sto) (Q : QD) (X : QX) (h : F__law_is_name ds s Q X) : m__law_is_name (startL 1 ds) s (endF Q X) := by
  obtain ⟨x, n, rfl, g, q⟩ := h
  unfold m__law_is_name
  walk_at "mir"
  refine ⟨x, n, 8, rfl, g, ?_⟩
  dsimp only
  rw [tbl_bl]
  have hno : isLet 8 x = false → isNm x = false := fun e => by
    cases x <;> first
      | rfl
      | skip
    rename_i z
    simp only [isLet, isNm, Bool.and_eq_false_iff] at e ⊢
    rcases e with e | e
    · exact .inl (.inl e)
    · exact .inr e
  refine iteBt (fun e => ?_) fun e => by rw [hno e] at q; exact q
  cases x <;> first
    | (cases e; done)
    | skip
  rename_i z
  refine ⟨rfl, ?_⟩
  dsimp only
  rw [inD_strsL, kept_same]
  simp only [isLet, Bool.and_eq_true] at e
  simp only [isNm, e.1.1, e.1.2, e.2] at q
  simpa using q
/-! ### sizes -/
def optS : Option (Nat × Nat) → D
  | none => .non
  | some (a, b) => .tup [.int (a : Nat), .int (b : Nat)]
def maxO : List (Option (Nat × Nat)) → Nat → Nat → Option (Nat × Nat)
  | [], a, b => some (a, b)
  | none :: _, _, _ => none
  | some (c, d) :: r, a, b => maxO r (max a c) (b + d)
/-- depth, parts -/
def sizes : Nat → D → Option (Nat × Nat)
  | 0, _ => none
  | g + 1, x => match stm x with
    | none => none
    | some (w, r) =>
      if r.length = 0 then none
      else if w = "num" ∨ w = "key" ∨ w = "name" then (if r.length = 1 ∧ ((w = "num" ∧ isW (-1000000000000000000) 1000000000000000000 (hd r) = true) ∨ (w = "key" ∧ isLet 12 (hd r) = true) ∨ (w = "name" ∧ isNm (hd r) = true)) then some (1, 1) else none)
      else if (signL.contains w = false ∧ w ≠ "not") ∨ r.length ≠ (if signL.contains w = true then 2 else 1) then none
      else (maxO (r.map (sizes g)) 0 1).map fun p => (p.1 + 1, p.2)
theorem maxO_sum {d : Nat} {g : Nat} : ∀ (l : List D), (∀ x ∈ l, ∀ p, parts d x = some p ↔ ∃ k, k ≤ d ∧ sizes g x = some (k, p)) → ∀ a b p, a ≤ d → (sumO (l.map (parts d)) b = some p ↔ ∃ k, k ≤ d ∧ maxO (l.map (sizes g)) a b = some (k, p))
  | [], _, a, b, p, ha => by
    simp only [List.map_nil, sumO, maxO]
    constructor
    · intro h
      cases h
      exact ⟨a, ha, rfl⟩
    · rintro ⟨k, _, h⟩
      cases h
      rfl
  | x :: r, h, a, b, p, ha => by
    have hx := h x (by simp)
    simp only [List.map_cons]
    cases e : sizes g x with
    | none =>
      have : parts d x = none := by
        cases e2 : parts d x with
        | none => rfl
        | some q =>
          obtain ⟨k, _, h2⟩ := (hx q).mp e2
          rw [e] at h2
          cases h2
      rw [this]
      constructor
      · intro h; cases h
      · rintro ⟨k, _, h⟩; cases h
    | some kq =>
      obtain ⟨k, q⟩ := kq
      by_cases hk : k ≤ d
      · have hp := (hx q).mpr ⟨k, hk, e⟩
        rw [hp]
        exact maxO_sum r (fun y hy => h y (by simp [hy])) (max a k) (b + q) p (by omega)
      · have : parts d x = none := by
          cases e2 : parts d x with
          | none => rfl
          | some q' =>
            obtain ⟨k', hk', h2⟩ := (hx q').mp e2
            rw [e] at h2
            cases h2
            exact absurd hk' hk
        rw [this]
        constructor
        · intro h; cases h
        · rintro ⟨k', hk', h⟩
          have mono : ∀ (l : List (Option (Nat × Nat))) a b c q, maxO l a b = some (c, q) → a ≤ c := by
            intro l
            induction l with
            | nil => intro a b c q h; cases h; exact Nat.le_refl _
            | cons o r ih =>
              intro a b c q h
              cases o with
              | none => cases h
              | some p => exact Nat.le_trans (Nat.le_max_left _ _) (ih _ _ _ _ h)
          have := mono (r.map (sizes g)) (max a k) (b + q) k' p h
          omega
theorem sizes_pos {g : Nat} {x : D} {k p : Nat} (h : sizes g x = some (k, p)) : 1 ≤ k := by
  cases g with
  | zero => cases h
  | succ g =>
    unfold sizes at h
    cases e : stm x with
    | none => rw [e] at h; cases h
    | some wr =>
      obtain ⟨w, r⟩ := wr
      rw [e] at h
      dsimp only at h
      by_cases h0 : r.length = 0
      · rw [if_pos h0] at h; cases h
      rw [if_neg h0] at h
      by_cases hk : w = "num" ∨ w = "key" ∨ w = "name"
      · rw [if_pos hk] at h
        by_cases hc : r.length = 1 ∧ ((w = "num" ∧ isW (-1000000000000000000) 1000000000000000000 (hd r) = true) ∨ (w = "key" ∧ isLet 12 (hd r) = true) ∨ (w = "name" ∧ isNm (hd r) = true))
        · rw [if_pos hc] at h
          cases h
          omega
        · rw [if_neg hc] at h
          cases h
      · rw [if_neg hk] at h
        by_cases hc : (signL.contains w = false ∧ w ≠ "not") ∨ r.length ≠ (if signL.contains w = true then 2 else 1)
        · rw [if_pos hc] at h
          cases h
        · rw [if_neg hc] at h
          simp only [Option.map_eq_some_iff] at h
          obtain ⟨q, _, h⟩ := h
          cases h
          omega
theorem sizes_parts : ∀ (g d : Nat) (x : D), Gd g x → ∀ p, parts d x = some p ↔ ∃ k, k ≤ d ∧ sizes (g + 1) x = some (k, p)
  | g, 0, x, _, p => by
    constructor
    · intro h; cases h
    · rintro ⟨k, hk, h⟩
      have := sizes_pos h
      omega
  | g, d + 1, x, gx, p => by
    unfold parts sizes
    cases e : stm x with
    | none => simp
    | some wr =>
      obtain ⟨w, r⟩ := wr
      have ex := stm_some e
      subst ex
      dsimp only
      by_cases h0 : r.length = 0
      · rw [if_pos h0, if_pos h0]
        simp
      rw [if_neg h0, if_neg h0]
      by_cases hk : w = "num" ∨ w = "key" ∨ w = "name"
      · rw [if_pos hk]
        have hns : (w ≠ "not" ∧ signL.contains w = false) := by
          rcases hk with e | e | e <;> rw [e] <;> decide +kernel
        by_cases h1 : r.length = 1
        · rcases hk with e | e | e
          · subst e
            rw [if_pos ⟨h1, rfl⟩]
            by_cases hv : isW (-1000000000000000000) 1000000000000000000 (hd r) = true
            · rw [if_pos hv, if_pos ⟨h1, .inl ⟨rfl, hv⟩⟩]
              constructor
              · intro h; cases h; exact ⟨1, by omega, rfl⟩
              · rintro ⟨k, _, h⟩; cases h; rfl
            · rw [if_neg hv, if_neg (by rintro ⟨_, h | h | h⟩ <;> first | exact hv h.2 | exact absurd h.1 (by decide +kernel))]
              simp
          · subst e
            rw [if_neg (fun h => absurd h.2 (by decide +kernel)), if_pos ⟨h1, rfl⟩]
            by_cases hv : isLet 12 (hd r) = true
            · rw [if_pos hv, if_pos ⟨h1, .inr (.inl ⟨rfl, hv⟩)⟩]
              constructor
              · intro h; cases h; exact ⟨1, by omega, rfl⟩
              · rintro ⟨k, _, h⟩; cases h; rfl
            · rw [if_neg hv, if_neg (by rintro ⟨_, h | h | h⟩ <;> first | exact hv h.2 | exact absurd h.1 (by decide +kernel))]
              simp
          · subst e
            rw [if_neg (fun h => absurd h.2 (by decide +kernel)), if_neg (fun h => absurd h.2 (by decide +kernel)), if_pos ⟨h1, rfl⟩]
            by_cases hv : isNm (hd r) = true
            · rw [if_pos hv, if_pos ⟨h1, .inr (.inr ⟨rfl, hv⟩)⟩]
              constructor
              · intro h; cases h; exact ⟨1, by omega, rfl⟩
              · rintro ⟨k, _, h⟩; cases h; rfl
            · rw [if_neg hv, if_neg (by rintro ⟨_, h | h | h⟩ <;> first | exact hv h.2 | exact absurd h.1 (by decide +kernel))]
              simp
        · rw [if_neg (fun h => h1 h.1), if_neg (fun h => h1 h.1), if_neg (fun h => h1 h.1), if_pos (.inl hns), if_neg (fun h => h1 h.1)]
          simp
      · rw [if_neg hk]
        rw [if_neg (fun h => hk (.inl h.2)), if_neg (fun h => hk (.inr (.inl h.2))), if_neg (fun h => hk (.inr (.inr h.2)))]
        have hcond : ((w ≠ "not" ∧ signL.contains w = false) ∨ r.length ≠ (if w = "not" then 1 else 2)) ↔ ((signL.contains w = false ∧ w ≠ "not") ∨ r.length ≠ (if signL.contains w = true then 2 else 1)) := by
          by_cases hn : w = "not"
          · subst hn
            have : signL.contains ("not" : Str) = false := by decide +kernel
            rw [this]
            simp
          · by_cases hs : signL.contains w = true
            · rw [hs]
              simp [hn]
            · rw [Bool.eq_false_iff.mpr hs]
              simp [hn]
        by_cases hc : (w ≠ "not" ∧ signL.contains w = false) ∨ r.length ≠ (if w = "not" then 1 else 2)
        · rw [if_pos hc, if_pos (hcond.mp hc)]
          simp
        · rw [if_neg hc, if_neg (fun h => hc (hcond.mpr h))]
          cases g with
          | zero => exact gx.elim
          | succ g =>
            have := maxO_sum (d := d) (g := g + 1) r (fun y hy q => sizes_parts g d y (gx.2 y (by simp [hy])) q) 0 1 p (Nat.zero_le _)
            rw [this]
            simp only [Option.map_eq_some_iff]
            constructor
            · rintro ⟨k, hk, h⟩
              exact ⟨k + 1, by omega, ⟨(k, p), h, rfl⟩⟩
            · rintro ⟨k, hk, ⟨⟨a, b⟩, h, h2⟩⟩
              cases h2
              exact ⟨a, by omega, h⟩
theorem isExpr_sizes {g : Nat} {x : D} (h : Gd g x) : isExpr x = match sizes (g + 1) x with
    | some (k, p) => decide ((k : Int) ≤ 8) && decide ((p : Int) ≤ 40)
    | none => false := by
  unfold isExpr
  have hs := sizes_parts g 8 x h
  cases e : sizes (g + 1) x with
  | none =>
    cases e2 : parts 8 x with
    | none => rfl
    | some p =>
      obtain ⟨k, _, h2⟩ := (hs p).mp e2
      rw [e] at h2
      cases h2
  | some kp =>
    obtain ⟨k, p⟩ := kp
    by_cases hk : k ≤ 8
    · have := (hs p).mpr ⟨k, hk, e⟩
      rw [this]
      dsimp only
      rw [decide_eq_true (by omega : (k : Int) ≤ 8), Bool.true_and]
    · have : parts 8 x = none := by
        cases e2 : parts 8 x with
        | none => rfl
        | some p' =>
          obtain ⟨k', hk', h2⟩ := (hs p').mp e2
          rw [e] at h2
          cases h2
          exact absurd hk' hk
      rw [this]
      dsimp only
      rw [decide_eq_false (by omega : ¬ (k : Int) ≤ 8)]
      rfl
/-! ### its walk -/
def Fd_sizes (g : Nat) : Fn := fun ds st Q _ => ∃ x, ds = [x] ∧ Gd g x ∧ Q (optS (sizes (g + 1) x)) st
def F__law_sizes : Fn := Fd_sizes 30
def F__law_is_expression : Fn := fun ds st Q _ => ∃ x n, ds = [x] ∧ Gd n x ∧ n ≤ 30 ∧ Q (.bl (isExpr x)) st
/-- _law_sizes(_law_thing); 0 _law_thing, 1 _law_word_here, 2 _law_is_right, 3 _law_many, 4 _law_deep, 5 _law_parts, 6 _law_one, 7 _law_sizes_here -/
def m__law_sizes (Fr : List D → WD) : WS := (mSeqS (mIfS (mOrT (mNotT (mTru (isiM (ansB "tuple") (mVar 0)))) (mOrT (mTst (mOp oLt (mCB (oneF lenG) (mCons (mVar 0) mNil)) (mC (.int 2)))) (mNotT (mTru (isiM (ansB "str") (mOp ixD (mVar 0) (mC (.int 0))))))))
    (mRet (mC .non))
    mNext)
    (mSeqS (mAsg (mOp ixD (mVar 0) (mC (.int 0))) (gmName 1))
    (mSeqS (mIfS (mTst (mOp (inD false) (mVar 1) (mLst (mCons (mC (.str "num")) (mCons (mC (.str "key")) (mCons (mC (.str "name")) mNil))))))
    (mSeqS (mIfS (mTst (mOp (eqD true) (mCB (oneF lenG) (mCons (mVar 0) mNil)) (mC (.int 2))))
    (mRet (mC .non))
    mNext)
    (mSeqS (mAsg (mAndV (mOp (eqD false) (mVar 1) (mC (.str "num"))) (mCall 3 F__law_is_whole (mCons (mOp ixD (mVar 0) (mC (.int 1))) (mCons (mNeg (mOp iPow (mC (.int 10)) (mC (.int 18)))) (mCons (mOp iPow (mC (.int 10)) (mC (.int 18))) mNil))))) (gmName 2))
    (mSeqS (mAsg (mOrV (mVar 2) (mAndV (mOp (eqD false) (mVar 1) (mC (.str "key"))) (mCall 2 F__law_is_letters (mCons (mOp ixD (mVar 0) (mC (.int 1))) (mCons (mC (.int 12)) mNil))))) (gmName 2))
    (mSeqS (mIfS (mOrT (mTru (mVar 2)) (mAndT (mTst (mOp (eqD false) (mVar 1) (mC (.str "name")))) (mTru (mCall 1 F__law_is_name (mCons (mOp ixD (mVar 0) (mC (.int 1))) mNil)))))
    (mRet (mTup (mCons (mC (.int 1)) (mCons (mC (.int 1)) mNil))))
    mNext)
    (mRet (mC .non))))))
    mNext)
    (mSeqS (mAsg (mOp addD (mC (.int 2)) (mCB (oneF intG) (mCons (mOp (inD false) (mVar 1) (mLst (mCons (mC (.str "+")) (mCons (mC (.str "-")) (mCons (mC (.str "*")) (mCons (mC (.str "/")) (mCons (mC (.str "mod")) (mCons (mC (.str "<")) (mCons (mC (.str "=")) (mCons (mC (.str "and")) (mCons (mC (.str "or")) mNil))))))))))) mNil))) (gmName 3))
    (mSeqS (mIfS (mOrT (mAndT (mTst (mOp (eqD false) (mVar 3) (mC (.int 2)))) (mTst (mOp (eqD true) (mVar 1) (mC (.str "not"))))) (mTst (mOp (eqD true) (mCB (oneF lenG) (mCons (mVar 0) mNil)) (mVar 3))))
    (mRet (mC .non))
    mNext)
    (mSeqS (mAsg (mTup (mCons (mC (.int 0)) (mCons (mC (.int 1)) mNil))) (gmTup 2 (gmCons (gmName 4) (gmCons (gmName 5) gmNil))))
    (mSeqS (mFor (mSeq (mSl (mVar 0) (mPart (mC (.int 1))) mNoPart)) (gmName 6)
    (mSeqS (mAsg (mCall 1 Fr (mCons (mVar 6) mNil)) (gmName 7))
    (mSeqS (mIfS (mTst (mUn (fun d => .bl (isNon d)) (mVar 7)))
    (mRet (mC .non))
    mNext)
    (mAsg (mTup (mCons (mCB maxF (mCons (mVar 4) (mCons (mOp ixD (mVar 7) (mC (.int 0))) mNil))) (mCons (mOp addD (mVar 5) (mOp ixD (mVar 7) (mC (.int 1)))) mNil))) (gmTup 2 (gmCons (gmName 4) (gmCons (gmName 5) gmNil)))))))
    (mRet (mTup (mCons (mOp addD (mVar 4) (mC (.int 1))) (mCons (mVar 5) mNil)))))))))))
/-- _law_is_expression(_law_thing); 0 _law_thing, 1 _law_sizes_here -/
def m__law_is_expression : WS := (mSeqS (mAsg (mCall 1 F__law_sizes (mCons (mVar 0) mNil)) (gmName 1))
    (mRet (mAndV (mUn (fun d => .bl (!isNon d)) (mVar 1)) (mAndV (mOp oLe (mOp ixD (mVar 1) (mC (.int 0))) (mC (.int 8))) (mOp oLe (mOp ixD (mVar 1) (mC (.int 1))) (mC (.int 40)))))))
theorem p_is_expression2 (ds : List D) (s : Sto) (Q : QD) (X : QX) (h : F__law_is_expression ds s Q X) : m__law_is_expression (startL 2 ds) s (endF Q X) := by
  obtain ⟨x, n, rfl, g, hn, q⟩ := h
  have g30 : Gd 30 x := g.mono hn
  rw [isExpr_sizes g30] at q
  unfold m__law_is_expression
  refine sq_setA (fun d s1 => d = optS (sizes 31 x) ∧ s1 = s) (fun R Y k => ?_) fun d s1 ⟨e1, e2⟩ => ?_
  · walk_at "mir"
    exact ⟨x, rfl, g30, k _ _ ⟨rfl, rfl⟩⟩
  subst e1 e2
  cases e : sizes 31 x with
  | none =>
    rw [e] at q
    exact q
  | some kp =>
    obtain ⟨k, p⟩ := kp
    rw [e] at q
    unfold optS
    walk_at "mir"
    refine (if_pos rfl).mpr ?_
    rw [atI_zero, atI_one]
    simp only [tO_some, ordD_int, tbl_bl]
    refine iteBt (fun e => ?_) fun e => ?_
    · dsimp only at q
      rw [show decide ((k : Int) ≤ 8) = true from e] at q
      exact q
    · dsimp only at q
      rw [show decide ((k : Int) ≤ 8) = false from e] at q
      exact q
theorem maxF_eq {i j : Int} {st : Sto} {Q : QD} {X : QX} : maxF [.int i, .int j] st Q X = Q (.int (if j > i then j else i)) st := rfl
theorem p_sz_loop {g : Nat} {v0 v1 v2 v3 : Option D} {s : Sto} {Q : QD} {E : EndM} {ks : WS} (hrt : E.rt = Q) :
    ∀ (its : List D) (a b : Nat) (v6 v7 : Option D), (∀ x ∈ its, Gd g x) → (maxO (its.map (sizes (g + 1))) a b = none → Q .non s) → (∀ a' b' v6' v7', maxO (its.map (sizes (g + 1))) a b = some (a', b') → ks [v0, v1, v2, v3, some (.int (a' : Nat)), some (.int (b' : Nat)), v6', v7'] s E) →
    loopW (gmName 6) (fun _ => True) (mSeqS (mAsg (mCall 1 (Fd_sizes g) (mCons (mVar 6) mNil)) (gmName 7))
    (mSeqS (mIfS (mTst (mUn (fun d => .bl (isNon d)) (mVar 7)))
    (mRet (mC .non))
    mNext)
    (mAsg (mTup (mCons (mCB maxF (mCons (mVar 4) (mCons (mOp ixD (mVar 7) (mC (.int 0))) mNil))) (mCons (mOp addD (mVar 5) (mOp ixD (mVar 7) (mC (.int 1)))) mNil))) (gmTup 2 (gmCons (gmName 4) (gmCons (gmName 5) gmNil)))))) its [v0, v1, v2, v3, some (.int (a : Nat)), some (.int (b : Nat)), v6, v7] s { E with nx := fun l' s' => ks l' s' E }
  | [], a, b, v6, v7, _, _, hk => ⟨trivial, hk a b v6 v7 rfl⟩
  | x :: r, a, b, v6, v7, gx, hn, hk => by
    refine ⟨trivial, ?_⟩
    simp only [gmName, List.set_cons_succ, List.set_cons_zero]
    refine sq_setA (fun d s1 => d = optS (sizes (g + 1) x) ∧ s1 = s) (fun R Y k => ?_) fun d s1 ⟨e1, e2⟩ => ?_
    · walk_at "mir"
      exact ⟨x, rfl, gx x (by simp), k _ _ ⟨rfl, rfl⟩⟩
    subst e1 e2
    cases e : sizes (g + 1) x with
    | none =>
      refine sq_g (b := true) (fun R Y t => by walk_at "mir"; exact t) (fun _ => ?_) fun z => by cases z
      show E.rt .non s1
      rw [hrt]
      exact hn (by rw [List.map_cons, e]; rfl)
    | some kp =>
      obtain ⟨k, p⟩ := kp
      refine sq_g (b := false) (fun R Y t => by walk_at "mir"; exact t) (fun z => by cases z) fun _ => ?_
      unfold optS
      walk_at "mir"
      rw [atI_zero, atI_one]
      have em : (if (k : Int) > (a : Int) then (k : Int) else (a : Int)) = ((max a k : Nat) : Int) := by
        split <;> omega
      have ep : (b : Int) + (p : Int) = ((b + p : Nat) : Int) := by omega
      simp only [tO_some, maxF_eq, addD_int]
      refine ⟨by decide, ?_⟩
      rw [em, ep]
      exact p_sz_loop hrt r (max a k) (b + p) _ _ (fun y hy => gx y (by simp [hy])) (fun h => hn (by rw [List.map_cons, e]; exact h)) fun a' b' v6' v7' h => hk a' b' v6' v7' (by rw [List.map_cons, e]; exact h)
theorem sq_setT {k : WS} {l : LL} {st : Sto} {E : EndM} {me : WE} {i j : Nat} {x y : D} (h : EvE me l st (.tup [x, y])) (hk : k ((l.set i (some x)).set j (some y)) st E) : mSeqS (mAsg me (gmTup 2 (gmCons (gmName i) (gmCons (gmName j) gmNil)))) k l st E := h _ _ ⟨rfl, rfl, hk⟩
theorem p_sizes (g : Nat) (Fr' : Fn) (hFr : ∀ g', g = g' + 1 → Fr' = Fd_sizes g') (ds : List D) (s : Sto) (Q : QD) (X : QX) (h : Fd_sizes g ds s Q X) : m__law_sizes Fr' (startL 8 ds) s (endF Q X) := by
  obtain ⟨x, rfl, gx, q⟩ := h
  unfold m__law_sizes
  -- no statement
  by_cases hx : ∃ w z r, x = .tup (.str w :: z :: r)
  rotate_left
  · have hs : sizes (g + 1) x = none := by
      unfold sizes
      cases e : stm x with
      | none => rfl
      | some wr =>
        obtain ⟨w, r⟩ := wr
        have ex := stm_some e
        subst ex
        cases r with
        | nil => rfl
        | cons z r => exact absurd ⟨w, z, r, rfl⟩ hx
    rw [hs] at q
    refine sq_g (b := true) (fun R Y t => ?_) (fun _ => q) fun e => by cases e
    simp only [mOrT, mNotT, mTru_eq, isiM_eq, mVar_eq, startL, List.map_cons, List.map_nil, List.length_cons, List.length_nil, Nat.reduceAdd, Nat.reduceSub, List.replicate, List.cons_append, List.nil_append, List.getElem?_cons_zero, tO_some, gx.kd, gx.ansT, truD_bl]
    cases x with
    | tup l =>
      refine iteBt (fun e => by cases e) fun _ => ?_
      walk_at "mir"
      refine iteBt (fun e => t) fun e => ?_
      have e : ¬ ((l.length : Int) < 2) := of_decide_eq_false e
      cases l with
      | nil => exact absurd (show (0 : Int) < 2 by decide) e
      | cons y l =>
        cases l with
        | nil => exact absurd (show (1 : Int) < 2 by decide) e
        | cons z r =>
          rw [atI_zero]
          have gy : Gd g y := gx.at_ (by simp)
          simp only [tO_some, gy.kd, gy.ansS, truD_bl]
          cases y with
          | str w => exact absurd ⟨w, z, r, rfl⟩ hx
          | _ => exact t
    | _ => exact t
  obtain ⟨w, z, r, rfl⟩ := hx
  obtain ⟨g, rfl⟩ : ∃ g', g = g' + 1 := ⟨g - 1, by
    cases g with
    | zero => exact gx.elim
    | succ g => omega⟩
  have hf := hFr g rfl
  subst hf
  have gi := gx.2
  have hl : r.length + 1 + 1 ≤ 1000 := gx.1
  have gw : Gd g (.str w) := gi _ (by simp)
  have gz : Gd g z := gi _ (by simp)
  refine sq_g (b := false) (fun R Y t => ?_) (fun e => by cases e) fun _ => ?_
  · walk_at "mir"
    rw [gx.kd]
    simp only [tO_some, gx.ansT, truD_bl]
    refine iteBt (fun e => by cases e) fun _ => iteBt (fun e => ?_) fun _ => ?_
    · have e : (((r.length + 1 + 1 : Nat)) : Int) < 2 := of_decide_eq_true e
      omega
    · rw [atI_zero]
      simp only [tO_some, gw.kd, gw.ansS, truD_bl]
      exact t
  refine sq_set (d := .str w) (fun R Y t => by walk_at "mir"; rw [atI_zero]; exact t) ?_
  have hsz : sizes (g + 1 + 1) (.tup (.str w :: z :: r)) = (if w = "num" ∨ w = "key" ∨ w = "name" then (if r.length + 1 = 1 ∧ ((w = "num" ∧ isW (-1000000000000000000) 1000000000000000000 z = true) ∨ (w = "key" ∧ isLet 12 z = true) ∨ (w = "name" ∧ isNm z = true)) then some (1, 1) else none)
      else if (signL.contains w = false ∧ w ≠ "not") ∨ r.length + 1 ≠ (if signL.contains w = true then 2 else 1) then none
      else (maxO ((z :: r).map (sizes (g + 1))) 0 1).map fun p => (p.1 + 1, p.2)) := rfl
  rw [hsz] at q
  clear hsz
  refine sq_i (b := decide (w = "num" ∨ w = "key" ∨ w = "name")) (fun R Y t => ?_) (fun e => ?_) fun e => ?_
  · walk_at "mir"
    refine ⟨by decide, ?_⟩
    rw [show ([D.str "num", D.str "key", D.str "name"]) = (["num", "key", "name"] : List Str).map D.str from rfl, inD_strsL, tbl_bl]
    have : ((["num", "key", "name"] : List Str).contains w) = decide (w = "num" ∨ w = "key" ∨ w = "name") := by
      by_cases h : w = "num" ∨ w = "key" ∨ w = "name"
      · rw [decide_eq_true h]
        rcases h with h | h | h <;> subst h <;> decide +kernel
      · rw [decide_eq_false h, Bool.eq_false_iff]
        intro hc
        have := List.contains_iff_mem.mp hc
        simp only [List.mem_cons, List.not_mem_nil, or_false] at this
        exact h this
    rw [this]
    exact t
  · rw [if_pos (of_decide_eq_true e)] at q
    refine sq_g (b := decide (r.length + 1 ≠ 1)) (fun R Y t => ?_) (fun e1 => ?_) fun e1 => ?_
    · walk_at "mir"
      by_cases h : r.length = 0
      · simp [h] at t ⊢
        exact t
      · simp [h] at t
        rw [show decide (((r.length + 1 + 1 : Nat) : Int) = 2) = false from decide_eq_false (by omega)]
        exact t
    · rw [if_neg (fun h => (of_decide_eq_true e1) h.1)] at q
      exact q
    have e1 : r.length + 1 = 1 := by
      have := of_decide_eq_false e1
      omega
    obtain rfl : r = [] := List.length_eq_zero_iff.mp (by omega)
    refine sq_set (d := .bl (decide (w = "num") && isW (-1000000000000000000) 1000000000000000000 z)) (fun R Y t => ?_) ?_
    · walk_at "mir"
      by_cases h : w = "num"
      · rw [decide_eq_true h] at t ⊢
        refine (if_pos rfl).mpr ?_
        rw [atI_one]
        refine ⟨cp18, cp18, z, g, _, _, rfl, gz, ?_⟩
        exact t
      · rw [decide_eq_false h] at t ⊢
        exact t
    refine sq_set (d := .bl ((decide (w = "num") && isW (-1000000000000000000) 1000000000000000000 z) || (decide (w = "key") && isLet 12 z))) (fun R Y t => ?_) ?_
    · rw [mOrV_eq]
      walk_at "mir"
      refine iteBt (fun h => ?_) fun h => ?_
      · rw [h] at t
        exact t
      · rw [h] at t
        by_cases hk : w = "key"
        · rw [decide_eq_true hk] at t ⊢
          refine (if_pos rfl).mpr ?_
          rw [atI_one]
          exact ⟨z, g, 12, rfl, gz, t⟩
        · rw [decide_eq_false hk] at t ⊢
          exact t
    refine sq_g (b := ((decide (w = "num") && isW (-1000000000000000000) 1000000000000000000 z) || (decide (w = "key") && isLet 12 z)) || (decide (w = "name") && isNm z)) (fun R Y t => ?_) (fun e2 => ?_) fun e2 => ?_
    · walk_at "mir"
      refine iteBt (fun h => ?_) fun h => ?_
      · rw [h] at t
        exact t
      · rw [h] at t
        by_cases hk : w = "name"
        · rw [decide_eq_true hk] at t ⊢
          refine (if_pos rfl).mpr ?_
          rw [atI_one]
          exact ⟨z, g, rfl, gz, t⟩
        · rw [decide_eq_false hk] at t ⊢
          exact t
    · rw [if_pos ⟨rfl, by simpa [or_assoc] using e2⟩] at q
      exact ⟨by decide, q⟩
    · rw [if_neg (fun h => by
        have := h.2
        rw [Bool.eq_false_iff] at e2
        exact e2 (by simpa [or_assoc] using this))] at q
      exact q
  rw [if_neg (of_decide_eq_false e)] at q
  clear e
  refine sq_set (d := .int (if signL.contains w = true then 3 else 2)) (fun R Y t => ?_) ?_
  · walk_at "mir"
    refine ⟨by decide, ?_⟩
    rw [show ([D.str "+", D.str "-", D.str "*", D.str "/", D.str "mod", D.str "<", D.str "=", D.str "and", D.str "or"]) = signL.map D.str from rfl, inD_strsL]
    show R (.int (2 + if (if false = true then !signL.contains w else signL.contains w) = true then 1 else 0)) s
    rw [if_neg Bool.false_ne_true]
    cases h : signL.contains w <;> rw [h] at t <;> exact t
  refine sq_g (b := decide ((signL.contains w = false ∧ w ≠ "not") ∨ r.length + 1 ≠ (if signL.contains w = true then 2 else 1))) (fun R Y t => ?_) (fun e => ?_) fun e => ?_
  · walk_at "mir"
    cases h : signL.contains w
    · rw [h] at t
      by_cases hn : w = "not"
      · subst hn
        by_cases h3 : r.length = 0
        · simp [h3] at t ⊢
          exact t
        · simp [h3] at t ⊢
          rw [decide_eq_false (by omega)]
          exact t
      · simp [hn] at t ⊢
        exact t
    · rw [h] at t
      by_cases h3 : r.length = 1
      · simp [h3] at t ⊢
        exact t
      · simp [h3] at t ⊢
        rw [decide_eq_false (by omega)]
        exact t
  · rw [if_pos (of_decide_eq_true e)] at q
    exact q
  rw [if_neg (of_decide_eq_false e)] at q
  refine sq_setT (x := .int 0) (y := .int 1) (fun R Y t => ⟨by decide, t⟩) ?_
  refine sq_forI (its := z :: r) (gd := fun _ => True) (fun R Y t => ?_) ?_
  · walk_at "mir"
    rw [show ((1 : Int)) = ((1 : Nat) : Int) from rfl, cutD_from]
    exact t
  refine p_sz_loop (E := endF Q X) (ks := mRet _) (Q := Q) rfl (z :: r) 0 1 none none (fun x hx => gi x (by simp only [List.mem_cons] at hx ⊢; exact .inr hx)) (fun h => ?_) fun a' b' v6 v7 h => ?_
  · rw [h] at q
    exact q
  · rw [h] at q
    exact ⟨(by decide : 2 ≤ sizeLine), q⟩
end K87

set_option Elab.async false
set_option linter.all false
set_option maxRecDepth 100000
set_option maxHeartbeats 1000000
/-! K87N: the law's own judge of statements. -/
namespace K87
open PySem PySem.Spec PyProof.Rows L2 Mir
local macro_rules | `(tactic| walk_at "mir") => `(tactic| try simp only [mIfS, mSeqS, mRet, mAsg, gmName, gmTup_tup, gmCons_cons, gmNil, mVar_eq, mC, mOp, mCons, mNil, mTup, mLst, mLstR, mCall, mCB, oneF_eq, mTst_eq, mNotT, mAndT, mOrT, mTru_eq, truD_bl, mUn, mIf, mAndV_eq, mOrV_eq, mNotV_eq, mNeg_eq, mSl, mNoPart, mPart_eq, intD_eq, addD_int, addD_str, addD_tup, addD_vl, ordD_int, ordD_str, mChain_eq, isiM_eq, mNext, mFor, mSeq_eq, tSeq1_str, tSeq1_tup, tSeq1_vl, tSeq1_sq, mRange1_eq, tRng1_int, mEnum_eq, tEnum_tup, mAug_eq, mLc, mYes, startL, endF, tbl_bl, tint_int, tO_some, eqD_int, eqD_str, ixD_tup, ixD_vl, slD_tup, slD_vl, slD_sq, slD_str, lenG_tup, lenG_vl, isBlD_eq, List.length_cons, List.length_nil, List.map_cons, List.map_nil, List.replicate, Nat.reduceAdd, Nat.reduceSub, List.cons_append, List.nil_append, List.append_nil, List.getElem?_cons_succ, List.getElem?_cons_zero, List.set_cons_succ, List.set_cons_zero, true_and, and_true, Bool.not_true, Bool.not_false, Bool.false_eq_true, if_true, if_false, ite_true, ite_false, not_true, not_false_iff, Bool.true_eq_false, reduceCtorEq, wipeL])

/-- the kinds of a word's parts -/
def kindsV (w : Str) : Option Str :=
  if w = "let" then some "ne" else if w = "get" then some "ne" else if w = "put" then some "ee" else if w = "drop" then some "e" else if w = "say" then some "e" else if w = "fail" then some ""
  else if w = "if" then some "ebb" else if w = "while" then some "emb" else if w = "for" then some "nneeb" else none
def optK : Option Str → D
  | none => .non
  | some k => .str k
def F__law_kinds : Fn := fun ds st Q _ => ∃ w : Str, ds = [.str w] ∧ Q (optK (kindsV w)) st
/-- one part by its kind -/
def partB (k : Str) (x : D) : Bool := (!(decide (k = "e")) || isExpr x) && ((!(decide (k = "n")) || isNm x) && ((!(decide (k = "b")) || isT x) && (!(decide (k = "m")) || isW 1 100 x)))
def arePB : List Nat → List D → Bool
  | c :: ks, x :: r => partB ⟨#[c]⟩ x && arePB ks r
  | _, _ => true
def F__law_are_parts : Fn := fun ds st Q _ => ∃ r ks n, ds = [.tup r, .str ks] ∧ Gd n (.tup r) ∧ n ≤ 30 ∧ ks.length ≤ 10 ∧ Q (.bl (decide (r.length = ks.length) && arePB ks.cps.toList r)) st
/-- a good statement, as the law asks; last: at the lowest level -/
def ownL (last : Bool) (x : D) : Bool := match stm x with
  | none => false
  | some (w, r) => isPlain w r || (!last && (ownParts w r && (blocksOf w r).all isT))
def F__law_is_own : Fn := fun ds st Q _ => ∃ x n, ∃ deep : Int, ds = [x, .int deep] ∧ Gd n x ∧ n ≤ 30 ∧ Q (.bl (ownL (decide (deep = 5)) x)) st
/-- _law_kinds(_law_word_here); 0 _law_word_here, 1 _law_plain_here -/
def m__law_kinds : WS := (mSeqS (mAsg (mDisp [.inr "let", .inr "get", .inr "put", .inr "drop", .inr "say", .inr "fail"] (mCons (mC (.str "ne")) (mCons (mC (.str "ne")) (mCons (mC (.str "ee")) (mCons (mC (.str "e")) (mCons (mC (.str "e")) (mCons (mC (.str "")) mNil))))))) (gmName 1))
    (mRet (mGet2 (mVar 1) (mVar 0) (mGet1 (mDisp [.inr "if", .inr "while", .inr "for"] (mCons (mC (.str "ebb")) (mCons (mC (.str "emb")) (mCons (mC (.str "nneeb")) mNil)))) (mVar 0)))))
/-- _law_are_parts(_law_parts, _law_kinds_here); 0 _law_parts, 1 _law_kinds_here, 2 _law_k -/
def m__law_are_parts : WS := (mSeqS (mIfS (mTst (mOp (eqD true) (mCB (oneF lenG) (mCons (mVar 0) mNil)) (mCB (oneF lenG) (mCons (mVar 1) mNil))))
    (mRet (mC (.bl false)))
    mNext)
    (mSeqS (mFor (mRange1 (mCons (mCB (oneF lenG) (mCons (mVar 1) mNil)) mNil)) (gmName 2)
    (mSeqS (mIfS (mAndT (mTst (mOp (eqD false) (mOp ixD (mVar 1) (mVar 2)) (mC (.str "e")))) (mNotT (mTru (mCall 1 F__law_is_expression (mCons (mOp ixD (mVar 0) (mVar 2)) mNil)))))
    (mRet (mC (.bl false)))
    mNext)
    (mSeqS (mIfS (mAndT (mTst (mOp (eqD false) (mOp ixD (mVar 1) (mVar 2)) (mC (.str "n")))) (mNotT (mTru (mCall 1 F__law_is_name (mCons (mOp ixD (mVar 0) (mVar 2)) mNil)))))
    (mRet (mC (.bl false)))
    mNext)
    (mSeqS (mIfS (mAndT (mTst (mOp (eqD false) (mOp ixD (mVar 1) (mVar 2)) (mC (.str "b")))) (mNotT (mTru (isiM (ansB "tuple") (mOp ixD (mVar 0) (mVar 2))))))
    (mRet (mC (.bl false)))
    mNext)
    (mIfS (mAndT (mTst (mOp (eqD false) (mOp ixD (mVar 1) (mVar 2)) (mC (.str "m")))) (mNotT (mTru (mCall 3 F__law_is_whole (mCons (mOp ixD (mVar 0) (mVar 2)) (mCons (mC (.int 1)) (mCons (mC (.int 100)) mNil)))))))
    (mRet (mC (.bl false)))
    mNext)))))
    (mRet (mC (.bl true)))))
/-- _law_is_own(_law_thing, _law_deep); 0 _law_thing, 1 _law_deep, 2 _law_kinds_here -/
def m__law_is_own : WS := (mSeqS (mIfS (mOrT (mNotT (mTru (isiM (ansB "tuple") (mVar 0)))) (mOrT (mTst (mOp (eqD false) (mCB (oneF lenG) (mCons (mVar 0) mNil)) (mC (.int 0)))) (mNotT (mTru (isiM (ansB "str") (mOp ixD (mVar 0) (mC (.int 0))))))))
    (mRet (mC (.bl false)))
    mNext)
    (mSeqS (mAsg (mCall 1 F__law_kinds (mCons (mOp ixD (mVar 0) (mC (.int 0))) mNil)) (gmName 2))
    (mSeqS (mIfS (mOrT (mTst (mUn (fun d => .bl (isNon d)) (mVar 2))) (mAndT (mTst (mOp (eqD false) (mSl (mVar 2) (mPart (mNeg (mC (.int 1)))) mNoPart) (mC (.str "b")))) (mTst (mOp (eqD false) (mVar 1) (mC (.int 5))))))
    (mRet (mC (.bl false)))
    mNext)
    (mRet (mCall 2 F__law_are_parts (mCons (mSl (mVar 0) (mPart (mC (.int 1))) mNoPart) (mCons (mVar 2) mNil)))))))
theorem lookK_cons {k j : Key} {ks : List Key} {v : D} {vs : List D} : lookK (k :: ks) (v :: vs) j = if k = j then some v else lookK ks vs j := by
  unfold lookK
  rw [List.zip_cons_cons, List.find?_cons]
  by_cases h : k = j
  · simp [h]
  · simp [h]
theorem lookK_nil {j : Key} : lookK [] [] j = none := rfl
theorem inr_eq {a b : Str} : ((Sum.inr a : Key) = Sum.inr b) ↔ b = a := ⟨fun h => by cases h; rfl, fun h => by rw [h]⟩
theorem p_kinds (ds : List D) (s : Sto) (Q : QD) (X : QX) (h : F__law_kinds ds s Q X) : m__law_kinds (startL 2 ds) s (endF Q X) := by
  obtain ⟨w, rfl, q⟩ := h
  unfold m__law_kinds
  refine sq_set (d := .vd [.inr "let", .inr "get", .inr "put", .inr "drop", .inr "say", .inr "fail"] [.str "ne", .str "ne", .str "ee", .str "e", .str "e", .str ""]) (fun R Y t => t) ?_
  show (dicA s _).isSome = true ∧ _
  refine ⟨rfl, rfl, ?_⟩
  show Q ((lookK [.inr "let", .inr "get", .inr "put", .inr "drop", .inr "say", .inr "fail"] [.str "ne", .str "ne", .str "ee", .str "e", .str "e", .str ""] (.inr w)).getD ((lookK [.inr "if", .inr "while", .inr "for"] [.str "ebb", .str "emb", .str "nneeb"] (.inr w)).getD .non)) s
  have e : ((lookK [.inr "let", .inr "get", .inr "put", .inr "drop", .inr "say", .inr "fail"] [.str "ne", .str "ne", .str "ee", .str "e", .str "e", .str ""] (.inr w)).getD ((lookK [.inr "if", .inr "while", .inr "for"] [.str "ebb", .str "emb", .str "nneeb"] (.inr w)).getD .non)) = optK (kindsV w) := by
    simp only [lookK_cons, lookK_nil, inr_eq]
    unfold kindsV
    repeat (first
      | (split
         · rfl)
      | rfl)
  rw [e]
  exact q
theorem str_at {ks : Str} {k : Nat} {c : Nat} {s : Sto} {R : QD} {Y : QX} (hk : ks.length ≤ 10) (hc : ks.cps.toList[k]? = some c) (q : R (.str ⟨#[c]⟩) s) : ixD (.str ks) (.int (k : Int)) s R Y := by
  rw [ixD_str, Mir.atI_nat hc]
  exact ⟨by unfold sizeLine; omega, q⟩
theorem p_are_loop {r : List D} {ks : Str} {n : Nat} {s : Sto} {Q : QD} {E : EndM} (g : ∀ x ∈ r, Gd n x) (hn : n ≤ 30) (hk : ks.length ≤ 10) (hl : r.length = ks.length) (hrt : E.rt = Q) :
    ∀ (m k : Nat) (v2 : Option D), k + m = ks.length → (arePB (ks.cps.toList.drop k) (r.drop k) = false → Q (.bl false) s) → (arePB (ks.cps.toList.drop k) (r.drop k) = true → ∀ v2, E.nx [some (.tup r), some (.str ks), v2] s) →
    loopW (gmName 2) (fun _ => True) (mSeqS (mIfS (mAndT (mTst (mOp (eqD false) (mOp ixD (mVar 1) (mVar 2)) (mC (.str "e")))) (mNotT (mTru (mCall 1 F__law_is_expression (mCons (mOp ixD (mVar 0) (mVar 2)) mNil)))))
    (mRet (mC (.bl false)))
    mNext)
    (mSeqS (mIfS (mAndT (mTst (mOp (eqD false) (mOp ixD (mVar 1) (mVar 2)) (mC (.str "n")))) (mNotT (mTru (mCall 1 F__law_is_name (mCons (mOp ixD (mVar 0) (mVar 2)) mNil)))))
    (mRet (mC (.bl false)))
    mNext)
    (mSeqS (mIfS (mAndT (mTst (mOp (eqD false) (mOp ixD (mVar 1) (mVar 2)) (mC (.str "b")))) (mNotT (mTru (isiM (ansB "tuple") (mOp ixD (mVar 0) (mVar 2))))))
    (mRet (mC (.bl false)))
    mNext)
    (mIfS (mAndT (mTst (mOp (eqD false) (mOp ixD (mVar 1) (mVar 2)) (mC (.str "m")))) (mNotT (mTru (mCall 3 F__law_is_whole (mCons (mOp ixD (mVar 0) (mVar 2)) (mCons (mC (.int 1)) (mCons (mC (.int 100)) mNil)))))))
    (mRet (mC (.bl false)))
    mNext)))) ((List.range' k m).map fun (i : Nat) => D.int (i : Int)) [some (.tup r), some (.str ks), v2] s E
  | 0, k, v2, hkm, hf, ht => by
    refine ⟨trivial, ht ?_ v2⟩
    rw [List.drop_of_length_le (by show ks.cps.toList.length ≤ k; rw [Array.length_toList]; show ks.length ≤ k; omega)]
    rfl
  | m + 1, k, v2, hkm, hf, ht => by
    have hks : ks.cps.toList.length = ks.length := Array.length_toList
    have hlk : k < ks.cps.toList.length := by omega
    have hlr : k < r.length := by omega
    have ec := List.drop_eq_getElem_cons hlk
    have er := List.drop_eq_getElem_cons hlr
    generalize hc : ks.cps.toList[k] = c at ec
    generalize hx : r[k] = x at er
    have hc' : ks.cps.toList[k]? = some c := by rw [List.getElem?_eq_getElem hlk, hc]
    have hx' : r[k]? = some x := by rw [List.getElem?_eq_getElem hlr, hx]
    have gx : Gd n x := g x (by rw [← hx]; exact List.getElem_mem hlr)
    rw [ec, er] at hf ht
    have hf : partB ⟨#[c]⟩ x = false ∨ arePB (ks.cps.toList.drop (k + 1)) (r.drop (k + 1)) = false → Q (.bl false) s := fun h => hf (by
      show (partB _ _ && _) = false
      rcases h with h | h <;> rw [h] <;> simp)
    have ht : partB ⟨#[c]⟩ x = true → arePB (ks.cps.toList.drop (k + 1)) (r.drop (k + 1)) = true → ∀ v2, E.nx [some (.tup r), some (.str ks), v2] s := fun h1 h2 => ht (by
      show (partB _ _ && _) = true
      rw [h1, h2]
      rfl)
    have isk : ∀ (k' : Str) {R : QD} {Y : QX} {l3 : Option D}, R (.bl (decide ((⟨#[c]⟩ : Str) = k'))) s → (mOp (eqD false) (mOp ixD (mVar 1) (mVar 2)) (mC (.str k'))) [some (.tup r), some (.str ks), some (.int (k : Int))] s R Y := fun k' R Y _ t => by
      walk_at "mir"
      exact str_at hk hc' t
    have tx : ∀ {f : D → Prop}, f x → tO (atI r (k : Int)) f := fun h => by rw [Mir.atI_nat hx']; exact h
    have test : ∀ (k' : Str) (b : Bool) (c2 : WT), (∀ (R : Bool → Sto → Prop) (Y : QX), R b s → c2 [some (.tup r), some (.str ks), some (.int (k : Int))] s R Y) → EvT (mAndT (mTst (mOp (eqD false) (mOp ixD (mVar 1) (mVar 2)) (mC (.str k')))) c2) [some (.tup r), some (.str ks), some (.int (k : Int))] s (decide ((⟨#[c]⟩ : Str) = k') && b) := fun k' b c2 h R Y t => by
      unfold mAndT
      rw [mTst_eq]
      refine isk k' (l3 := none) ?_
      rw [tbl_bl]
      refine iteBt (fun e => h _ _ (by rw [e] at t; exact t)) fun e => by rw [e] at t; exact t
    rw [List.range'_succ, List.map_cons]
    refine ⟨trivial, ?_⟩
    simp only [gmName, List.set_cons_succ, List.set_cons_zero]
    refine sq_g (test "e" (!isExpr x) _ fun R Y t => ?_) (fun e => ?_) fun e1 => ?_
    · walk_at "mir"
      exact tx ⟨x, n, rfl, gx, hn, t⟩
    · show E.rt (.bl false) s
      rw [hrt]
      simp at e
      exact hf (.inl (by simp [partB, e.1, e.2]))
    refine sq_g (test "n" (!isNm x) _ fun R Y t => ?_) (fun e => ?_) fun e2 => ?_
    · walk_at "mir"
      exact tx ⟨x, n, rfl, gx, t⟩
    · show E.rt (.bl false) s
      rw [hrt]
      simp at e
      exact hf (.inl (by simp [partB, e.1, e.2]))
    refine sq_g (test "b" (!isT x) _ fun R Y t => ?_) (fun e => ?_) fun e3 => ?_
    · walk_at "mir"
      refine tx ?_
      rw [gx.kd]
      simp only [tO_some, gx.ansT, truD_bl]
      exact t
    · show E.rt (.bl false) s
      rw [hrt]
      simp at e
      exact hf (.inl (by simp [partB, e.1, e.2]))
    refine if_b (test "m" (!isW 1 100 x) _ fun R Y t => ?_) (fun e => ?_) fun e4 => ?_
    · walk_at "mir"
      exact tx ⟨x, n, 1, 100, rfl, gx, t⟩
    · show E.rt (.bl false) s
      rw [hrt]
      simp at e
      exact hf (.inl (by simp [partB, e.1, e.2]))
    have hp : partB ⟨#[c]⟩ x = true := by
      simp only [Bool.and_eq_false_iff, Bool.not_eq_false'] at e1 e2 e3 e4
      unfold partB
      simp only [Bool.and_eq_true, Bool.or_eq_true, Bool.not_eq_true']
      exact ⟨e1, e2, e3, e4⟩
    exact p_are_loop g hn hk hl hrt m (k + 1) _ (by omega) (fun h => hf (.inr h)) (fun h => ht hp h)
theorem range_ints (n : Nat) : rangeD 0 n = (List.range' 0 n).map fun (i : Nat) => D.int (i : Int) := by
  unfold rangeD
  rw [List.range_eq_range']
  congr 1
  funext i
  rw [Int.zero_add]
theorem p_are_parts (ds : List D) (s : Sto) (Q : QD) (X : QX) (h : F__law_are_parts ds s Q X) : m__law_are_parts (startL 3 ds) s (endF Q X) := by
  obtain ⟨r, ks, n, rfl, g, hn, hk, q⟩ := h
  have hz : ks.length ≤ sizeLine := by unfold sizeLine; omega
  unfold m__law_are_parts
  refine sq_g (b := decide (r.length ≠ ks.length)) (fun R Y t => ?_) (fun e => ?_) fun e => ?_
  · walk_at "mir"
    rw [lenG_str hz]
    walk_at "mir"
    by_cases h : r.length = ks.length
    · simpa [h] using t
    · rw [decide_eq_true h] at t
      rw [decide_eq_false (by omega)]
      exact t
  · have e := of_decide_eq_true e
    rw [decide_eq_false e] at q
    exact q
  have e : r.length = ks.length := by
    have := of_decide_eq_false e
    omega
  rw [decide_eq_true e, Bool.true_and] at q
  refine sq_rangeA (fun j s1 => j = (ks.length : Nat) ∧ s1 = s) (fun R Y k => ?_) fun j s1 ⟨e1, e2⟩ => ⟨by omega, by omega, ?_⟩
  · walk_at "mir"
    rw [lenG_str hz]
    exact k _ _ ⟨rfl, rfl⟩
  subst e1 e2
  rw [Int.toNat_natCast, range_ints]
  refine p_are_loop (Q := Q) (fun x hx => g.at_ hx) hn hk e (by rfl) ks.length 0 none (by omega) (fun h => ?_) fun h v2 => ?_
  · rw [List.drop_zero, List.drop_zero] at h
    rw [h] at q
    exact q
  · rw [List.drop_zero, List.drop_zero] at h
    rw [h] at q
    exact q
/-! ### statements -/
theorem partB_e {c : Nat} {x : D} (h : (⟨#[c]⟩ : Str) = "e") : partB ⟨#[c]⟩ x = isExpr x := by
  rw [h]
  simp [partB, show ¬ (("e" : Str) = "n") by decide +kernel, show ¬ (("e" : Str) = "b") by decide +kernel, show ¬ (("e" : Str) = "m") by decide +kernel]
theorem partB_n {c : Nat} {x : D} (h : (⟨#[c]⟩ : Str) = "n") : partB ⟨#[c]⟩ x = isNm x := by
  rw [h]
  simp [partB, show ¬ (("n" : Str) = "e") by decide +kernel, show ¬ (("n" : Str) = "b") by decide +kernel, show ¬ (("n" : Str) = "m") by decide +kernel]
theorem partB_b {c : Nat} {x : D} (h : (⟨#[c]⟩ : Str) = "b") : partB ⟨#[c]⟩ x = isT x := by
  rw [h]
  simp [partB, show ¬ (("b" : Str) = "e") by decide +kernel, show ¬ (("b" : Str) = "n") by decide +kernel, show ¬ (("b" : Str) = "m") by decide +kernel]
theorem partB_m {c : Nat} {x : D} (h : (⟨#[c]⟩ : Str) = "m") : partB ⟨#[c]⟩ x = isW 1 100 x := by
  rw [h]
  simp [partB, show ¬ (("m" : Str) = "e") by decide +kernel, show ¬ (("m" : Str) = "n") by decide +kernel, show ¬ (("m" : Str) = "b") by decide +kernel]
/-- the signs e, n, b, m -/
abbrev cE : Nat := 101
abbrev cN : Nat := 110
abbrev cB : Nat := 98
abbrev cM : Nat := 109
theorem sE : (⟨#[cE]⟩ : Str) = "e" := by decide +kernel
theorem sN : (⟨#[cN]⟩ : Str) = "n" := by decide +kernel
theorem sB : (⟨#[cB]⟩ : Str) = "b" := by decide +kernel
theorem sM : (⟨#[cM]⟩ : Str) = "m" := by decide +kernel
/-- what the parts of a word's kinds ask -/
def areL (ks : List Nat) (r : List D) : Bool := decide (r.length = ks.length) && arePB ks r
theorem are_ne {r : List D} : areL [cN, cE] r = match r with
    | [a, b] => isNm a && isExpr b
    | _ => false := by
  match r with
  | [a, b] => simp [areL, arePB, partB_e sE, partB_n sN]
  | [] => rfl
  | [a] => rfl
  | a :: b :: c :: r => simp [areL]
theorem are_ee {r : List D} : areL [cE, cE] r = match r with
    | [a, b] => isExpr a && isExpr b
    | _ => false := by
  match r with
  | [a, b] => simp [areL, arePB, partB_e sE]
  | [] => rfl
  | [a] => rfl
  | a :: b :: c :: r => simp [areL]
theorem are_e {r : List D} : areL [cE] r = match r with
    | [a] => isExpr a
    | _ => false := by
  match r with
  | [a] => simp [areL, arePB, partB_e sE]
  | [] => rfl
  | a :: b :: r => simp [areL]
theorem are_0 {r : List D} : areL [] r = decide (r.length = 0) := by
  match r with
  | [] => rfl
  | a :: r => simp [areL]
theorem are_ebb {r : List D} : areL [cE, cB, cB] r = ((match r with
    | [a, _, _] => isExpr a
    | _ => false) && (r.drop 1).all isT) := by
  match r with
  | [a, b, c] => simp [areL, arePB, partB_e sE, partB_b sB]
  | [] => rfl
  | [a] => rfl
  | [a, b] => rfl
  | a :: b :: c :: d :: r => simp [areL]
theorem are_emb {r : List D} : areL [cE, cM, cB] r = ((match r with
    | [a, b, _] => isExpr a && isW 1 100 b
    | _ => false) && (r.drop 2).all isT) := by
  match r with
  | [a, b, c] => simp [areL, arePB, partB_e sE, partB_b sB, partB_m sM, Bool.and_assoc]
  | [] => rfl
  | [a] => rfl
  | [a, b] => rfl
  | a :: b :: c :: d :: r => simp [areL]
theorem are_nneeb {r : List D} : areL [cN, cN, cE, cE, cB] r = ((match r with
    | [a, b, c, d, _] => (isNm a && isNm b) && (isExpr c && isExpr d)
    | _ => false) && (r.drop 4).all isT) := by
  match r with
  | [a, b, c, d, e] => simp [areL, arePB, partB_e sE, partB_b sB, partB_n sN, Bool.and_assoc]
  | [] => rfl
  | [a] => rfl
  | [a, b] => rfl
  | [a, b, c] => rfl
  | [a, b, c, d] => rfl
  | a :: b :: c :: d :: e :: f :: r => simp [areL]
/-- the last kind is a block -/
def lastB (ks : Str) : Bool := decide (cutS ks (some (-1)) none = "b")
theorem own_same {w : Str} {r : List D} {last : Bool} : ownL last (.tup (.str w :: r)) = match kindsV w with
    | none => false
    | some ks => if lastB ks && last then false else areL ks.cps.toList r := by
  have e0 : ownL last (.tup (.str w :: r)) = (isPlain w r || (!last && (ownParts w r && (blocksOf w r).all isT))) := rfl
  have np : ∀ {k : Str}, (∀ r, ownParts k r = false) → isPlain k r = areL [] r → True := fun _ _ => trivial
  have plain : ∀ {ks : Str} {l : List Nat}, lastB ks = false → ks.cps.toList = l → ownParts w r = false → isPlain w r = areL l r → kindsV w = some ks → ownL last (.tup (.str w :: r)) = match kindsV w with
      | none => false
      | some ks => if lastB ks && last then false else areL ks.cps.toList r := fun {ks l} h1 h2 h3 h4 h5 => by
    rw [e0, h5, h3, h4]
    simp [h1, h2]
  have inner : ∀ {ks : Str} {l : List Nat}, lastB ks = true → ks.cps.toList = l → isPlain w r = false → (ownParts w r && (blocksOf w r).all isT) = areL l r → kindsV w = some ks → ownL last (.tup (.str w :: r)) = match kindsV w with
      | none => false
      | some ks => if lastB ks && last then false else areL ks.cps.toList r := fun {ks l} h1 h2 h3 h4 h5 => by
    rw [e0, h5, h3, h4]
    cases last <;> simp [h1, h2]
  by_cases h1 : w = "let"
  · subst h1
    exact plain (ks := "ne") (l := [cN, cE]) (by decide +kernel) (by decide +kernel) (by unfold ownParts; rw [if_neg (by decide +kernel), if_neg (by decide +kernel), if_neg (by decide +kernel)]) (by rw [are_ne]; unfold isPlain; rw [if_pos (.inl rfl)] <;> (rcases r with _ | ⟨a, _ | ⟨b, _ | ⟨c, _ | ⟨d, _ | ⟨e, _ | ⟨f, r⟩⟩⟩⟩⟩⟩ <;> rfl)) (by unfold kindsV; rw [if_pos rfl])
  by_cases h2 : w = "get"
  · subst h2
    exact plain (ks := "ne") (l := [cN, cE]) (by decide +kernel) (by decide +kernel) (by unfold ownParts; rw [if_neg (by decide +kernel), if_neg (by decide +kernel), if_neg (by decide +kernel)]) (by rw [are_ne]; unfold isPlain; rw [if_pos (.inr rfl)] <;> (rcases r with _ | ⟨a, _ | ⟨b, _ | ⟨c, _ | ⟨d, _ | ⟨e, _ | ⟨f, r⟩⟩⟩⟩⟩⟩ <;> rfl)) (by unfold kindsV; rw [if_neg h1, if_pos rfl])
  by_cases h3 : w = "put"
  · subst h3
    exact plain (ks := "ee") (l := [cE, cE]) (by decide +kernel) (by decide +kernel) (by unfold ownParts; rw [if_neg (by decide +kernel), if_neg (by decide +kernel), if_neg (by decide +kernel)]) (by rw [are_ee]; unfold isPlain; rw [if_neg (by decide +kernel), if_pos rfl] <;> (rcases r with _ | ⟨a, _ | ⟨b, _ | ⟨c, _ | ⟨d, _ | ⟨e, _ | ⟨f, r⟩⟩⟩⟩⟩⟩ <;> rfl)) (by unfold kindsV; rw [if_neg h1, if_neg h2, if_pos rfl])
  by_cases h4 : w = "drop"
  · subst h4
    exact plain (ks := "e") (l := [cE]) (by decide +kernel) (by decide +kernel) (by unfold ownParts; rw [if_neg (by decide +kernel), if_neg (by decide +kernel), if_neg (by decide +kernel)]) (by rw [are_e]; unfold isPlain; rw [if_neg (by decide +kernel), if_neg (by decide +kernel), if_pos (.inl rfl)] <;> (rcases r with _ | ⟨a, _ | ⟨b, _ | ⟨c, _ | ⟨d, _ | ⟨e, _ | ⟨f, r⟩⟩⟩⟩⟩⟩ <;> rfl)) (by unfold kindsV; rw [if_neg h1, if_neg h2, if_neg h3, if_pos rfl])
  by_cases h5 : w = "say"
  · subst h5
    exact plain (ks := "e") (l := [cE]) (by decide +kernel) (by decide +kernel) (by unfold ownParts; rw [if_neg (by decide +kernel), if_neg (by decide +kernel), if_neg (by decide +kernel)]) (by rw [are_e]; unfold isPlain; rw [if_neg (by decide +kernel), if_neg (by decide +kernel), if_pos (.inr rfl)] <;> (rcases r with _ | ⟨a, _ | ⟨b, _ | ⟨c, _ | ⟨d, _ | ⟨e, _ | ⟨f, r⟩⟩⟩⟩⟩⟩ <;> rfl)) (by unfold kindsV; rw [if_neg h1, if_neg h2, if_neg h3, if_neg h4, if_pos rfl])
  by_cases h6 : w = "fail"
  · subst h6
    exact plain (ks := "") (l := []) (by decide +kernel) (by decide +kernel) (by unfold ownParts; rw [if_neg (by decide +kernel), if_neg (by decide +kernel), if_neg (by decide +kernel)]) (by rw [are_0]; unfold isPlain; rw [if_neg (by decide +kernel), if_neg (by decide +kernel), if_neg (by decide +kernel)] <;> simp) (by unfold kindsV; rw [if_neg h1, if_neg h2, if_neg h3, if_neg h4, if_neg h5, if_pos rfl])
  by_cases h7 : w = "if"
  · subst h7
    exact inner (ks := "ebb") (l := [cE, cB, cB]) (by decide +kernel) (by decide +kernel) plain_ifw (by rw [are_ebb]; unfold ownParts blocksOf; rw [if_neg (by decide +kernel), if_pos rfl, if_neg (by decide +kernel), if_pos rfl] <;> (rcases r with _ | ⟨a, _ | ⟨b, _ | ⟨c, _ | ⟨d, _ | ⟨e, _ | ⟨f, r⟩⟩⟩⟩⟩⟩ <;> rfl)) (by unfold kindsV; rw [if_neg h1, if_neg h2, if_neg h3, if_neg h4, if_neg h5, if_neg h6, if_pos rfl])
  by_cases h8 : w = "while"
  · subst h8
    exact inner (ks := "emb") (l := [cE, cM, cB]) (by decide +kernel) (by decide +kernel) plain_while (by rw [are_emb]; unfold ownParts blocksOf; rw [if_neg (by decide +kernel), if_neg (by decide +kernel), if_pos rfl, if_neg (by decide +kernel), if_neg (by decide +kernel), if_pos rfl] <;> (rcases r with _ | ⟨a, _ | ⟨b, _ | ⟨c, _ | ⟨d, _ | ⟨e, _ | ⟨f, r⟩⟩⟩⟩⟩⟩ <;> rfl)) (by unfold kindsV; rw [if_neg h1, if_neg h2, if_neg h3, if_neg h4, if_neg h5, if_neg h6, if_neg h7, if_pos rfl])
  by_cases h9 : w = "for"
  · subst h9
    exact inner (ks := "nneeb") (l := [cN, cN, cE, cE, cB]) (by decide +kernel) (by decide +kernel) plain_for (by rw [are_nneeb]; unfold ownParts blocksOf; rw [if_pos rfl, if_pos rfl] <;> (rcases r with _ | ⟨a, _ | ⟨b, _ | ⟨c, _ | ⟨d, _ | ⟨e, _ | ⟨f, r⟩⟩⟩⟩⟩⟩ <;> rfl)) (by unfold kindsV; rw [if_neg h1, if_neg h2, if_neg h3, if_neg h4, if_neg h5, if_neg h6, if_neg h7, if_neg h8, if_pos rfl])
  have hk : kindsV w = none := by
    unfold kindsV
    rw [if_neg h1, if_neg h2, if_neg h3, if_neg h4, if_neg h5, if_neg h6, if_neg h7, if_neg h8, if_neg h9]
  rw [hk, e0, plain_not (by simp [h1, h2]) h3 (by simp [h4, h5]) h6]
  unfold ownParts
  rw [if_neg h9, if_neg h7, if_neg h8]
  simp
theorem kinds_short {w ks : Str} (h : kindsV w = some ks) : ks.length ≤ 5 := by
  unfold kindsV at h
  repeat (split at h; · cases h; decide +kernel)
  cases h
theorem p_is_own (ds : List D) (s : Sto) (Q : QD) (X : QX) (h : F__law_is_own ds s Q X) : m__law_is_own (startL 3 ds) s (endF Q X) := by
  obtain ⟨x, n, deep, rfl, g, hn, q⟩ := h
  unfold m__law_is_own
  cases hx : stm x with
  | none =>
    have : ownL (decide (deep = 5)) x = false := by unfold ownL; rw [hx]
    rw [this] at q
    refine sq_g (b := true) (fun R Y t => ?_) (fun _ => q) fun e => by cases e
    simp only [mOrT, mNotT, mTru_eq, isiM_eq, mVar_eq, startL, List.map_cons, List.map_nil, List.length_cons, List.length_nil, Nat.reduceAdd, Nat.reduceSub, List.replicate, List.cons_append, List.nil_append, List.getElem?_cons_zero, tO_some, g.kd, g.ansT, truD_bl]
    cases x with
    | tup l =>
      refine iteBt (fun e => by cases e) fun _ => ?_
      walk_at "mir"
      cases l with
      | nil => exact t
      | cons y l =>
        refine iteBt (fun e => ?_) fun _ => ?_
        · have e : (((l.length + 1 : Nat)) : Int) = 0 := of_decide_eq_true e
          omega
        · rw [atI_zero]
          have gy : Gd n y := g.at_ (by simp)
          simp only [tO_some, gy.kd, gy.ansS, truD_bl]
          cases y with
          | str w => cases hx
          | _ => exact t
    | _ => exact t
  | some wr =>
    obtain ⟨w, r⟩ := wr
    have ex := stm_some hx
    subst ex
    have gw : Gd n (.str w) := g.at_ (by simp)
    rw [own_same] at q
    refine sq_g (b := false) (fun R Y t => ?_) (fun e => by cases e) fun _ => ?_
    · walk_at "mir"
      rw [g.kd]
      simp only [tO_some, g.ansT, truD_bl]
      refine iteBt (fun e => by cases e) fun _ => iteBt (fun e => ?_) fun _ => ?_
      · have e : (((r.length + 1 : Nat)) : Int) = 0 := of_decide_eq_true e
        omega
      · rw [atI_zero]
        simp only [tO_some, gw.kd, gw.ansS, truD_bl]
        exact t
    refine sq_set (d := optK (kindsV w)) (fun R Y t => ?_) ?_
    · walk_at "mir"
      rw [atI_zero]
      exact ⟨w, rfl, t⟩
    cases hk : kindsV w with
    | none =>
      rw [hk] at q
      exact sq_g (b := true) (fun R Y t => t) (fun _ => q) fun e => by cases e
    | some ks =>
      rw [hk] at q
      have hs := kinds_short hk
      refine sq_g (b := lastB ks && decide (deep = 5)) (fun R Y t => ?_) (fun e => ?_) fun e => ?_
      · unfold optK
        walk_at "mir"
        rw [if_neg (show ¬ isNon (.str ks) = true from fun z => nomatch z)]
        refine ⟨by unfold sizeLine; omega, ?_⟩
        show (if lastB ks = true then R (decide (deep = 5)) s else R false s)
        cases h : lastB ks <;> rw [h] at t <;> exact t
      · dsimp only at q
        rw [if_pos e] at q
        exact q
      · dsimp only at q
        rw [if_neg (by rw [e]; decide)] at q
        unfold optK
        walk_at "mir"
        rw [show ((1 : Int)) = ((1 : Nat) : Int) from rfl, cutD_from]
        have gr : Gd n (.tup r) := by
          cases n with
          | zero => exact g.elim
          | succ n => exact ⟨by have := g.1; simp at this; omega, fun x hx => g.2 x (by simp [hx])⟩
        refine ⟨r, ks, n, rfl, gr, hn, by omega, ?_⟩
        have : areL ks.cps.toList r = (decide (r.length = ks.length) && arePB ks.cps.toList r) := by
          unfold areL
          rw [Array.length_toList]
          rfl
        rw [this] at q
        exact q
end K87

set_option Elab.async false
set_option linter.all false
set_option maxRecDepth 100000
set_option maxHeartbeats 1000000
/-! K87O: the law's own walk over a block, with a stack; plain laws. -/
namespace K87
open PySem PySem.Spec PyProof.Rows L2 Mir
/-- what a statement is bad at, counted from behind its own place -/
def sfx (m : Nat) (x : D) : Option (List Int) := match stm x with
  | none => some []
  | some (w, r) => match m with
    | 0 => if isPlain w r = true then none else some []
    | m' + 1 => if isPlain w r = true then none else if ownParts w r = false then some [] else if (blocksOf w r).all isT = false then some []
      else firstI (fun side one => (fb m' (tupL one)).map fun p => (side : Int) :: p) 0 (blocksOf w r)
theorem firstI_map {α : Type} (f : Nat → α → Option (List Int)) (g : List Int → List Int) : ∀ (l : List α) (i : Nat), firstI (fun i x => (f i x).map g) i l = (firstI f i l).map g
  | [], _ => rfl
  | x :: r, i => by
    cases e : f i x with
    | none => rw [firstI_none e, firstI_none (by rw [e]; rfl)]; exact firstI_map f g r (i + 1)
    | some p => rw [firstI_some e, firstI_some (p := g p) (by rw [e]; rfl)]; rfl
theorem badA_sfx {m k : Nat} {x : D} : badA m k x = (sfx m x).map fun p => (k : Int) :: p := by
  unfold sfx
  cases hx : stm x with
  | none => rw [badA_none hx]; rfl
  | some wr =>
    obtain ⟨w, r⟩ := wr
    dsimp only
    cases m with
    | zero =>
      cases hp : isPlain w r with
      | true => rw [badA_plain hx hp]; rfl
      | false => rw [badA_zero hx hp]; rfl
    | succ m =>
      dsimp only
      cases hp : isPlain w r with
      | true => rw [badA_plain hx hp]; rfl
      | false =>
        rw [if_neg (by decide)]
        cases ho : ownParts w r with
        | false => rw [badA_own hx hp ho]; rfl
        | true =>
          rw [if_neg (by decide)]
          cases hb : (blocksOf w r).all isT with
          | false => rw [badA_tup hx hp hb]; rfl
          | true =>
            rw [if_neg (by decide), badA_in hx hp ho hb, ← firstI_map]
            congr 1
            funext i y
            rw [Option.map_map]
            rfl
/-! ### items that wait -/
abbrev It := Nat × D × List Int
def itD (i : It) : D := .tup [i.2.1, .tup (i.2.2.map .int), .int (5 - (i.1 : Int))]
def itR (i : It) : Option (List Int) := (sfx i.1 i.2.1).map fun q => i.2.2 ++ q
def itC (i : It) : Nat := 1 + cntI i.1 i.2.1
def blkIt (m : Nat) (p : List Int) : Nat → List D → List It
  | _, [] => []
  | k, y :: r => (m, y, p ++ [(k : Int)]) :: blkIt m p (k + 1) r
def allIt (m : Nat) (p : List Int) : Nat → List D → List It
  | _, [] => []
  | side, b :: bs => blkIt m (p ++ [(side : Int)]) 0 (tupL b) ++ allIt m p (side + 1) bs
theorem blk_R {m : Nat} {p : List Int} : ∀ (l : List D) (k : Nat), (blkIt m p k l).findSome? itR = (firstI (badA m) k l).map fun q => p ++ q
  | [], _ => rfl
  | y :: r, k => by
    show ((m, y, p ++ [(k : Int)]) :: blkIt m p (k + 1) r).findSome? itR = _
    rw [List.findSome?_cons]
    have e : itR (m, y, p ++ [(k : Int)]) = (badA m k y).map fun q => p ++ q := by
      unfold itR
      rw [badA_sfx, Option.map_map]
      dsimp only
      congr 1
      funext q
      simp
    rw [e]
    cases h : badA m k y with
    | none => rw [firstI_none h]; exact blk_R r (k + 1)
    | some q => rw [firstI_some h]; rfl
theorem all_R {m : Nat} {p : List Int} : ∀ (bs : List D) (side : Nat), (allIt m p side bs).findSome? itR = (firstI (fun side one => (fb m (tupL one)).map fun q => (side : Int) :: q) side bs).map fun q => p ++ q
  | [], _ => rfl
  | b :: bs, side => by
    show (blkIt m (p ++ [(side : Int)]) 0 (tupL b) ++ allIt m p (side + 1) bs).findSome? itR = _
    rw [List.findSome?_append, blk_R, ← fb_eq]
    cases h : fb m (tupL b) with
    | none =>
      rw [firstI_none (by rw [h]; rfl)]
      show (none : Option (List Int)).or _ = _
      rw [Option.none_or]
      exact all_R bs (side + 1)
    | some q =>
      rw [firstI_some (p := (side : Int) :: q) (by rw [h]; rfl)]
      simp
theorem blk_C {m : Nat} {p : List Int} : ∀ (l : List D) (k : Nat), ((blkIt m p k l).map itC).sum = cnt m l
  | [], _ => by cases m <;> rfl
  | y :: r, k => by
    show (((m, y, p ++ [(k : Int)]) :: blkIt m p (k + 1) r).map itC).sum = _
    rw [List.map_cons, List.sum_cons, blk_C r (k + 1), cnt_eq, cnt_eq, List.map_cons, List.sum_cons, List.length_cons]
    unfold itC
    dsimp only
    omega
theorem all_C {m : Nat} {p : List Int} : ∀ (bs : List D) (side : Nat), ((allIt m p side bs).map itC).sum = (bs.map fun b => cnt m (tupL b)).sum
  | [], _ => rfl
  | b :: bs, side => by
    show ((blkIt m (p ++ [(side : Int)]) 0 (tupL b) ++ allIt m p (side + 1) bs).map itC).sum = _
    rw [List.map_append, List.sum_append, blk_C, all_C bs (side + 1), List.map_cons, List.sum_cons]
theorem blk_mem {m : Nat} {p : List Int} {i : It} : ∀ (l : List D) (k : Nat), i ∈ blkIt m p k l → i.1 = m ∧ i.2.1 ∈ l ∧ i.2.2.length = p.length + 1
  | [], _, h => by cases h
  | y :: r, k, h => by
    rcases List.mem_cons.mp h with h | h
    · subst h
      exact ⟨rfl, by simp, by simp⟩
    · obtain ⟨a, b, c⟩ := blk_mem r (k + 1) h
      exact ⟨a, by simp [b], c⟩
theorem all_mem {m : Nat} {p : List Int} {i : It} : ∀ (bs : List D) (side : Nat), i ∈ allIt m p side bs → i.1 = m ∧ (∃ b ∈ bs, i.2.1 ∈ tupL b) ∧ i.2.2.length = p.length + 2
  | [], _, h => by cases h
  | b :: bs, side, h => by
    rcases List.mem_append.mp h with h | h
    · obtain ⟨x, y, z⟩ := blk_mem _ _ h
      exact ⟨x, ⟨b, by simp, y⟩, by rw [z]; simp⟩
    · obtain ⟨x, ⟨c, hc, hy⟩, z⟩ := all_mem bs (side + 1) h
      exact ⟨x, ⟨c, by simp [hc], hy⟩, z⟩
theorem len_C : ∀ S : List It, S.length ≤ (S.map itC).sum
  | [] => Nat.le_refl _
  | i :: r => by
    rw [List.length_cons, List.map_cons, List.sum_cons]
    have := len_C r
    unfold itC at *
    omega
/-- the blocks that stand in a good statement -/
def bsOf (w : Str) (r : List D) : List D := if isPlain w r = true then [] else blocksOf w r
/-- one item that is taken off -/
theorem it_bad {m : Nat} {x : D} {p : List Int} (h : ownL (decide (m = 0)) x = false) : itR (m, x, p) = some p := by
  unfold ownL at h
  unfold itR sfx
  dsimp only
  cases hx : stm x with
  | none => simp
  | some wr =>
    obtain ⟨w, r⟩ := wr
    rw [hx] at h
    simp only [Bool.or_eq_false_iff] at h
    obtain ⟨h1, h2⟩ := h
    cases m with
    | zero => simp [h1]
    | succ m =>
      dsimp only
      rw [if_neg (by rw [h1]; decide)]
      have h2 : (ownParts w r && (blocksOf w r).all isT) = false := by simpa using h2
      cases ho : ownParts w r with
      | false => simp
      | true =>
        rw [ho] at h2
        have h2 : (blocksOf w r).all isT = false := by simpa using h2
        rw [if_neg (by decide), if_pos h2]
        simp
theorem it_good {m : Nat} {w : Str} {r : List D} {p : List Int} (h : ownL (decide (m = 0)) (.tup (.str w :: r)) = true) :
    itR (m, .tup (.str w :: r), p) = (allIt (m - 1) p 0 (bsOf w r)).findSome? itR ∧ itC (m, .tup (.str w :: r), p) = 1 + ((allIt (m - 1) p 0 (bsOf w r)).map itC).sum ∧ (bsOf w r ≠ [] → 0 < m) ∧ (bsOf w r).all isT = true := by
  have hx : stm (.tup (.str w :: r)) = some (w, r) := rfl
  unfold ownL at h
  rw [hx] at h
  dsimp only at h
  rw [show itR (m, .tup (.str w :: r), p) = (sfx m (.tup (.str w :: r))).map fun q => p ++ q from rfl, show itC (m, .tup (.str w :: r), p) = 1 + cntI m (.tup (.str w :: r)) from rfl]
  unfold bsOf
  cases hp : isPlain w r with
  | true =>
    refine ⟨?_, ?_, fun z => (z rfl).elim, rfl⟩
    · unfold sfx
      rw [hx]
      dsimp only
      cases m <;> simp [hp, allIt]
    · unfold cntI
      rw [hx]
      dsimp only
      cases m with
      | zero => simp [allIt]
      | succ m => simp [allIt, plain_blocks hp]
  | false =>
    rw [hp] at h
    cases m with
    | zero => cases h
    | succ m =>
      have h : (ownParts w r && (blocksOf w r).all isT) = true := by simpa using h
      rw [Bool.and_eq_true] at h
      obtain ⟨ho, hb⟩ := h
      rw [if_neg (by decide)]
      refine ⟨?_, ?_, fun _ => by omega, hb⟩
      · rw [show m + 1 - 1 = m from rfl, all_R]
        unfold sfx
        rw [hx]
        dsimp only
        rw [if_neg (by rw [hp]; decide), if_neg (by rw [ho]; decide), if_neg (by rw [hb]; decide)]
      · rw [show m + 1 - 1 = m from rfl, all_C]
        rfl
end K87

set_option Elab.async false
set_option linter.all false
set_option maxRecDepth 100000
set_option maxHeartbeats 1000000
/-! K87P: the law's own walk over a block; the walk through its text. -/
namespace K87
open PySem PySem.Spec PyProof.Rows L2 Mir
local macro_rules | `(tactic| walk_at "mir") => `(tactic| try simp only [mIfS, mSeqS, mRet, mAsg, gmName, gmTup_tup, gmCons_cons, gmNil, mVar_eq, mC, mOp, mCons, mNil, mTup, mLst, mLstR, mCall, mCB, oneF_eq, mTst_eq, mNotT, mAndT, mOrT, mTru_eq, truD_bl, mUn, mIf, mAndV_eq, mOrV_eq, mNotV_eq, mNeg_eq, mSl, mNoPart, mPart_eq, intD_eq, addD_int, addD_str, addD_tup, addD_vl, ordD_int, ordD_str, mChain_eq, isiM_eq, mNext, mFor, mSeq_eq, tSeq1_str, tSeq1_tup, tSeq1_vl, tSeq1_sq, mRange1_eq, tRng1_int, mEnum_eq, tEnum_tup, mAug_eq, mLc, mYes, startL, endF, tbl_bl, tint_int, tO_some, eqD_int, eqD_str, ixD_tup, ixD_vl, slD_tup, slD_vl, slD_sq, slD_str, lenG_tup, lenG_vl, isBlD_eq, List.length_cons, List.length_nil, List.map_cons, List.map_nil, List.replicate, Nat.reduceAdd, Nat.reduceSub, List.cons_append, List.nil_append, List.append_nil, List.getElem?_cons_succ, List.getElem?_cons_zero, List.set_cons_succ, List.set_cons_zero, true_and, and_true, Bool.not_true, Bool.not_false, Bool.false_eq_true, if_true, if_false, ite_true, ite_false, not_true, not_false_iff, Bool.true_eq_false, reduceCtorEq, wipeL])

def dueD (l : List D) : D := match fb 4 l with
  | some p => .tup (p.map .int)
  | none => if 80 < cnt 4 l then .tup [] else .non
def F__law_first_bad : Fn := fun ds st Q _ => ∃ l n, ds = [.tup l] ∧ Gd n (.tup l) ∧ n ≤ 30 ∧ cnt 4 l ≤ 405 ∧ ∀ st', Fr [] st st' → Q (dueD l) st'
/-- _law_first_bad(_law_block_here); 0 _law_block_here, 1 _law_waiting, 2 _law_k, 3 _law_many, 4 _law_turn, 5 _law_thing, 6 _law_place, 7 _law_deep, 8 _law_kinds_here, 9 _law_blocks, 10 _law_back, 11 _law_side, 12 _law_one -/
def m__law_first_bad : WS := (mSeqS (mAsg (mRevR (mLc (mRange1 (mCons (mCB (oneF lenG) (mCons (mVar 0) mNil)) mNil)) (gmName 2) mYes (mTup (mCons (mOp ixD (mVar 0) (mVar 2)) (mCons (mTup (mCons (mVar 2) mNil)) (mCons (mC (.int 1)) mNil)))) [2])) (gmName 1))
    (mSeqS (mAsg (mC (.int 0)) (gmName 3))
    (mSeqS (mFor (mRange1 (mCons (mC (.int 4000)) mNil)) (gmName 4)
    (mSeqS (mIfS (mTst (mOp (eqD false) (mCB (oneF lenG) (mCons (mVar 1) mNil)) (mC (.int 0))))
    mBreak
    mNext)
    (mSeqS (mAsg (mPop (mVar 1)) (gmTup 3 (gmCons (gmName 5) (gmCons (gmName 6) (gmCons (gmName 7) gmNil)))))
    (mSeqS (mAsg (mOp addD (mVar 3) (mC (.int 1))) (gmName 3))
    (mSeqS (mIfS (mNotT (mTru (mCall 2 F__law_is_own (mCons (mVar 5) (mCons (mVar 7) mNil)))))
    (mRet (mVar 6))
    mNext)
    (mSeqS (mAsg (mCall 1 F__law_kinds (mCons (mOp ixD (mVar 5) (mC (.int 0))) mNil)) (gmName 8))
    (mSeqS (mAsg (mLc (mRange1 (mCons (mCB (oneF lenG) (mCons (mVar 8) mNil)) mNil)) (gmName 2) (mTst (mOp (eqD false) (mOp ixD (mVar 8) (mVar 2)) (mC (.str "b")))) (mOp ixD (mVar 5) (mOp addD (mVar 2) (mC (.int 1)))) [2]) (gmName 9))
    (mFor (mRange1 (mCons (mCB (oneF lenG) (mCons (mVar 9) mNil)) mNil)) (gmName 10)
    (mSeqS (mAsg (mOp iSub (mOp iSub (mCB (oneF lenG) (mCons (mVar 9) mNil)) (mC (.int 1))) (mVar 10)) (gmName 11))
    (mSeqS (mAsg (mOp ixD (mVar 9) (mVar 11)) (gmName 12))
    (mExpr (mBM extendF isLst (mVar 1) (mCons (mRev (mLc (mRange1 (mCons (mCB (oneF lenG) (mCons (mVar 12) mNil)) mNil)) (gmName 2) mYes (mTup (mCons (mOp ixD (mVar 12) (mVar 2)) (mCons (mOp addD (mVar 6) (mTup (mCons (mVar 11) (mCons (mVar 2) mNil)))) (mCons (mOp addD (mVar 7) (mC (.int 1))) mNil)))) [2])) mNil)))))))))))))
    (mSeqS (mIfS (mTst (mOp oGt (mVar 3) (mC (.int 80))))
    (mRet (mTup mNil))
    mNext)
    (mRet (mC .non))))))
/-! ### the blocks among the parts -/
def bF (cl : List Nat) (r : List D) (d : D) : Option D := match d with
  | .int i => if cl[i.toNat]? = some 98 then r[i.toNat]? else none
  | _ => none
theorem ls_kinds {w : Str} {r : List D} {last : Bool} (h : ownL last (.tup (.str w :: r)) = true) :
    ∃ ks, kindsV w = some ks ∧ ks.length ≤ 5 ∧ r.length = ks.length ∧ (rangeD 0 ks.length).filterMap (bF ks.cps.toList r) = bsOf w r := by
  have ho : ∀ {k : Str}, isPlain w r = false → ownParts w r = true := fun {k} hp => by
    have e0 : ownL last (.tup (.str w :: r)) = (isPlain w r || (!last && (ownParts w r && (blocksOf w r).all isT))) := rfl
    rw [e0, hp] at h
    cases last <;> simp at h
    exact h.1
  have hh := h
  rw [own_same] at hh
  cases hk : kindsV w with
  | none => rw [hk] at hh; cases hh
  | some ks =>
    rw [hk] at hh
    have hs := kinds_short hk
    have hl : r.length = ks.length := by
      have h3 : areL ks.cps.toList r = true := by
        dsimp only at hh
        split at hh
        · cases hh
        · exact hh
      unfold areL at h3
      rw [Bool.and_eq_true] at h3
      have := of_decide_eq_true h3.1
      rw [Array.length_toList] at this
      exact this
    refine ⟨ks, rfl, hs, hl, ?_⟩
    have two : ∀ {n : Nat}, r.length = n → True := fun _ => trivial
    -- the words with no block
    have pl : ∀ (cl : List Nat) (n : Nat), ks.cps.toList = cl → ks.length = n → (∀ r : List D, ownParts w r = false) → (∀ r : List D, (rangeD 0 n).filterMap (bF cl r) = []) → (rangeD 0 ks.length).filterMap (bF ks.cps.toList r) = bsOf w r := fun cl n h1 h2 h3 h4 => by
      rw [h1, h2, h4]
      unfold bsOf
      cases hp : isPlain w r with
      | true => rfl
      | false => have := ho (k := w) hp; rw [h3] at this; cases this
    unfold kindsV at hk
    by_cases h1 : w = "let"
    · subst h1
      rw [if_pos rfl] at hk
      cases hk
      exact pl [cN, cE] 2 (by decide +kernel) rfl (fun r => by unfold ownParts; rw [if_neg (by decide +kernel), if_neg (by decide +kernel), if_neg (by decide +kernel)]) fun r => rfl
    rw [if_neg h1] at hk
    by_cases h2 : w = "get"
    · subst h2
      rw [if_pos rfl] at hk
      cases hk
      exact pl [cN, cE] 2 (by decide +kernel) rfl (fun r => by unfold ownParts; rw [if_neg (by decide +kernel), if_neg (by decide +kernel), if_neg (by decide +kernel)]) fun r => rfl
    rw [if_neg h2] at hk
    by_cases h3 : w = "put"
    · subst h3
      rw [if_pos rfl] at hk
      cases hk
      exact pl [cE, cE] 2 (by decide +kernel) rfl (fun r => by unfold ownParts; rw [if_neg (by decide +kernel), if_neg (by decide +kernel), if_neg (by decide +kernel)]) fun r => rfl
    rw [if_neg h3] at hk
    by_cases h4 : w = "drop"
    · subst h4
      rw [if_pos rfl] at hk
      cases hk
      exact pl [cE] 1 (by decide +kernel) rfl (fun r => by unfold ownParts; rw [if_neg (by decide +kernel), if_neg (by decide +kernel), if_neg (by decide +kernel)]) fun r => rfl
    rw [if_neg h4] at hk
    by_cases h5 : w = "say"
    · subst h5
      rw [if_pos rfl] at hk
      cases hk
      exact pl [cE] 1 (by decide +kernel) rfl (fun r => by unfold ownParts; rw [if_neg (by decide +kernel), if_neg (by decide +kernel), if_neg (by decide +kernel)]) fun r => rfl
    rw [if_neg h5] at hk
    by_cases h6 : w = "fail"
    · subst h6
      rw [if_pos rfl] at hk
      cases hk
      exact pl [] 0 (by decide +kernel) rfl (fun r => by unfold ownParts; rw [if_neg (by decide +kernel), if_neg (by decide +kernel), if_neg (by decide +kernel)]) fun r => rfl
    rw [if_neg h6] at hk
    by_cases h7 : w = "if"
    · subst h7
      rw [if_pos rfl] at hk
      cases hk
      rw [show (("ebb" : Str)).cps.toList = [cE, cB, cB] by decide +kernel]
      unfold bsOf blocksOf
      rw [plain_ifw, if_neg (by decide), if_neg (by decide +kernel), if_pos rfl]
      have hl : r.length = 3 := hl
      rcases r with _ | ⟨a, _ | ⟨b, _ | ⟨c, _ | ⟨d, r⟩⟩⟩⟩ <;> first
        | (simp at hl; done)
        | rfl
    rw [if_neg h7] at hk
    by_cases h8 : w = "while"
    · subst h8
      rw [if_pos rfl] at hk
      cases hk
      rw [show (("emb" : Str)).cps.toList = [cE, cM, cB] by decide +kernel]
      unfold bsOf blocksOf
      rw [plain_while, if_neg (by decide), if_neg (by decide +kernel), if_neg (by decide +kernel), if_pos rfl]
      have hl : r.length = 3 := hl
      rcases r with _ | ⟨a, _ | ⟨b, _ | ⟨c, _ | ⟨d, r⟩⟩⟩⟩ <;> first
        | (simp at hl; done)
        | rfl
    rw [if_neg h8] at hk
    by_cases h9 : w = "for"
    · subst h9
      rw [if_pos rfl] at hk
      cases hk
      rw [show (("nneeb" : Str)).cps.toList = [cN, cN, cE, cE, cB] by decide +kernel]
      unfold bsOf blocksOf
      rw [plain_for, if_neg (by decide), if_pos rfl]
      have hl : r.length = 5 := hl
      rcases r with _ | ⟨a, _ | ⟨b, _ | ⟨c, _ | ⟨d, _ | ⟨e, _ | ⟨f, r⟩⟩⟩⟩⟩⟩ <;> first
        | (simp at hl; done)
        | rfl
    rw [if_neg h9] at hk
    cases hk
/-! ### the items of one block -/
def itF (lb : List D) (p : List Int) (side deep : Int) (d : D) : D := match d with
  | .int i => .tup [(lb[i.toNat]?).getD .non, .tup (p.map .int ++ [.int side, .int i]), .int deep]
  | _ => .non
theorem blk_map {lb : List D} {m : Nat} {p : List Int} {side : Int} : ∀ (r : List D) (k : Nat), r = lb.drop k → ((List.range' k r.length).map fun (i : Nat) => D.int (i : Int)).map (itF lb p side (5 - (m : Int))) = (blkIt m (p ++ [side]) k r).map itD
  | [], _, _ => rfl
  | y :: r, k, h => by
    have hk : lb[k]? = some y := by
      have : (lb.drop k)[0]? = some y := by rw [← h]; rfl
      rw [List.getElem?_drop] at this
      exact this
    have hr : r = lb.drop (k + 1) := by
      have : (lb.drop k).drop 1 = r := by rw [← h]; rfl
      rw [List.drop_drop] at this
      rw [← this]
    rw [List.length_cons, List.range'_succ, List.map_cons, List.map_cons, blk_map r (k + 1) hr]
    show _ = ((m, y, (p ++ [side]) ++ [(k : Int)]) :: blkIt m (p ++ [side]) (k + 1) r).map itD
    rw [List.map_cons]
    congr 1
    unfold itF itD
    simp [hk]
end K87

set_option Elab.async false
set_option linter.all false
set_option maxRecDepth 100000
set_option maxHeartbeats 1000000
/-! K87Q: the walk through _law_first_bad. -/
namespace K87
open PySem PySem.Spec PyProof.Rows L2 Mir
local macro_rules | `(tactic| walk_at "mir") => `(tactic| try simp only [mIfS, mSeqS, mRet, mAsg, gmName, gmTup_tup, gmCons_cons, gmNil, mVar_eq, mC, mOp, mCons, mNil, mTup, mLst, mLstR, mCall, mCB, oneF_eq, mTst_eq, mNotT, mAndT, mOrT, mTru_eq, truD_bl, mUn, mIf, mAndV_eq, mOrV_eq, mNotV_eq, mNeg_eq, mSl, mNoPart, mPart_eq, intD_eq, addD_int, addD_str, addD_tup, addD_vl, ordD_int, ordD_str, mChain_eq, isiM_eq, mNext, mFor, mSeq_eq, tSeq1_str, tSeq1_tup, tSeq1_vl, tSeq1_sq, mRange1_eq, tRng1_int, mEnum_eq, tEnum_tup, mAug_eq, mLc, mYes, startL, endF, tbl_bl, tint_int, tO_some, eqD_int, eqD_str, ixD_tup, ixD_vl, slD_tup, slD_vl, slD_sq, slD_str, lenG_tup, lenG_vl, isBlD_eq, List.length_cons, List.length_nil, List.map_cons, List.map_nil, List.replicate, Nat.reduceAdd, Nat.reduceSub, List.cons_append, List.nil_append, List.append_nil, List.getElem?_cons_succ, List.getElem?_cons_zero, List.set_cons_succ, List.set_cons_zero, true_and, and_true, Bool.not_true, Bool.not_false, Bool.false_eq_true, if_true, if_false, ite_true, ite_false, not_true, not_false_iff, Bool.true_eq_false, reduceCtorEq, wipeL])

abbrev fbInner : WS := (mSeqS (mAsg (mOp iSub (mOp iSub (mCB (oneF lenG) (mCons (mVar 9) mNil)) (mC (.int 1))) (mVar 10)) (gmName 11))
    (mSeqS (mAsg (mOp ixD (mVar 9) (mVar 11)) (gmName 12))
    (mExpr (mBM extendF isLst (mVar 1) (mCons (mRev (mLc (mRange1 (mCons (mCB (oneF lenG) (mCons (mVar 12) mNil)) mNil)) (gmName 2) mYes (mTup (mCons (mOp ixD (mVar 12) (mVar 2)) (mCons (mOp addD (mVar 6) (mTup (mCons (mVar 11) (mCons (mVar 2) mNil)))) (mCons (mOp addD (mVar 7) (mC (.int 1))) mNil)))) [2])) mNil)))))
theorem mRev_vl {a : WE} {l : LL} {st : Sto} {Q : QD} {X : QX} : mRev a l st Q X = a l st (fun x s1 => tO (lstA s1 x) (fun l => Q (.vl l.reverse) s1)) X := by
  unfold mRev
  congr 1
  funext x s1
  cases lstA s1 x <;> rfl
theorem d_extend {s : Sto} {n : Nat} {l m : List D} {R : QD} {Y : QX} (h : s[n]? = some (.lst l)) (hl : l.length + m.length ≤ sizeLine) (q : R .non (s.set n (.lst (l ++ m)))) : extendF (.ref n) [.vl m] s R Y := by
  unfold extendF
  simp only [h, lstT_vl]
  exact ⟨hl, q⟩
theorem d_pop {s : Sto} {n : Nat} {l : List D} {y : D} {R : QD} {Y : QX} (h : s[n]? = some (.lst (l ++ [y]))) (q : R y (s.set n (.lst l))) : popF (.ref n) s R Y := by
  unfold popF
  simp only [h]
  rw [show (l ++ [y])[(l ++ [y]).length - 1]? = some y by simp]
  simpa using q
def stk (S : List It) : Ob := .lst (S.map itD).reverse
theorem all_len {m : Nat} {p : List Int} (bs : List D) : ∀ j, j ≤ bs.length → (allIt m p j (bs.drop j)).length ≤ (allIt m p 0 bs).length
  | 0, _ => Nat.le_refl _
  | j + 1, h => by
    have := all_len (m := m) (p := p) bs j (by omega)
    rw [List.drop_eq_getElem_cons (show j < bs.length by omega)] at this
    refine Nat.le_trans ?_ this
    show _ ≤ (blkIt m (p ++ [(j : Int)]) 0 _ ++ allIt m p (j + 1) (bs.drop (j + 1))).length
    simp
theorem p_fb_in {w m many : Nat} {x : D} {p : List Int} {bs : List D} {S : List It} {v0 v4 v8 : Option D} {s0 : Sto} {E : EndM} (hb : bs.all isT = true) (hbl : ∀ b ∈ bs, ∀ lb, b = .tup lb → lb.length ≤ 1000) (hp : p.length ≤ 100) (hm : m ≤ 5)
    (hS : (allIt m p 0 bs).length + S.length ≤ 1000) (hbs : bs.length ≤ 1000) (hn : ∀ s1 v2 v10 v11 v12, Fr [w] s0 s1 → s1[w]? = some (stk (allIt m p 0 bs ++ S)) → E.nx [v0, some (.ref w), v2, some (.int (many : Int)), v4, some x, some (.tup (p.map .int)), some (.int (5 - ((m + 1 : Nat) : Int))), v8, some (.vl bs), v10, v11, v12] s1) :
    ∀ (j k : Nat) (v2 v10 v11 v12 : Option D) (s : Sto), k + j = bs.length → Fr [w] s0 s → s[w]? = some (stk (allIt m p j (bs.drop j) ++ S)) →
    loopW (gmName 10) (fun _ => True) fbInner ((List.range' k j).map fun (i : Nat) => D.int (i : Int)) [v0, some (.ref w), v2, some (.int (many : Int)), v4, some x, some (.tup (p.map .int)), some (.int (5 - ((m + 1 : Nat) : Int))), v8, some (.vl bs), v10, v11, v12] s E
  | 0, k, v2, v10, v11, v12, s, _, fr, hs => ⟨trivial, hn s v2 v10 v11 v12 fr hs⟩
  | j + 1, k, v2, v10, v11, v12, s, hk, fr, hs => by
    have hj : j < bs.length := by omega
    have ed := List.drop_eq_getElem_cons hj
    generalize hx : bs[j] = b at ed
    have hb' : bs[j]? = some b := by rw [List.getElem?_eq_getElem hj, hx]
    have hmem : b ∈ bs := by rw [← hx]; exact List.getElem_mem hj
    obtain ⟨lb, rfl⟩ : ∃ lb, b = .tup lb := by
      have := List.all_eq_true.mp hb b hmem
      cases b <;> first
        | (cases this; done)
        | exact ⟨_, rfl⟩
    have hlb := hbl _ hmem lb rfl
    rw [List.range'_succ, List.map_cons]
    refine ⟨trivial, ?_⟩
    simp only [gmName, List.set_cons_succ, List.set_cons_zero]
    refine sq_set (d := .int (j : Int)) (fun R Y t => ?_) ?_
    · walk_at "mir"
      rw [show ((bs.length : Nat) : Int) - 1 - (k : Int) = (j : Int) by omega]
      exact t
    refine sq_set (d := .tup lb) (fun R Y t => ?_) ?_
    · walk_at "mir"
      rw [Mir.atI_nat hb']
      exact t
    refine exprA (fun s1 => s1 = s.set w (stk (allIt m p j (bs.drop j) ++ S))) (fun R Y q => ?_) fun s1 e => ?_
    · unfold mBM
      simp only [mVar_eq, List.set_cons_succ, List.set_cons_zero, List.getElem?_cons_succ, List.getElem?_cons_zero, tO_some]
      refine ⟨isLst_ref hs, ?_⟩
      simp only [mCons, mNil, mRev_vl]
      walk_at "mir"
      refine ⟨by omega, by omega, ?_⟩
      refine lcW_map (itF lb p (j : Int) (5 - (m : Int))) trivial _ (by rw [rangeD_len]; show lb.length ≤ sizeLine; unfold sizeLine; omega) (fun d hd R' S' h' => ?_) ?_
      · rw [range_ints] at hd
        obtain ⟨i, hi, rfl⟩ := List.mem_map.mp hd
        have hi : i < lb.length := by
          have := List.mem_range'.mp hi
          obtain ⟨a, h1, h2⟩ := this
          simp at h1 h2
          omega
        have hy : lb[i]? = some lb[i] := List.getElem?_eq_getElem hi
        walk_at "mir"
        rw [Mir.atI_nat hy, tO_some]
        simp only [itF, Int.toNat_natCast, hy, Option.getD_some] at h'
        rw [show (5 : Int) - ((m + 1 : Nat) : Int) + 1 = 5 - (m : Int) by omega]
        exact ⟨by decide, by rw [List.length_map]; unfold sizeLine; omega, by decide, h'⟩
      · simp only [lstA_vl, tO_some]
        rw [range_ints, show ((lb.length : Nat) : Int).toNat = lb.length from rfl, blk_map lb 0 (by simp)]
        have e : allIt m p j (bs.drop j) = blkIt m (p ++ [(j : Int)]) 0 lb ++ allIt m p (j + 1) (bs.drop (j + 1)) := by
          rw [ed]
          rfl
        refine d_extend hs ?_ ?_
        · have := all_len (m := m) (p := p) bs j (by omega)
          rw [e] at this
          simp only [List.length_append, List.length_reverse, List.length_map] at this ⊢
          unfold sizeLine
          omega
        · refine q _ _ ?_
          rw [e]
          unfold stk
          simp
    · subst e
      have hw : w < s.length := (List.getElem?_eq_some_iff.mp hs).1
      refine p_fb_in hb hbl hp hm hS hbs hn j (k + 1) _ _ _ _ _ (by omega) (fr.trans (.set (by simp))) (set_get hw)
theorem Fr.off {S : List Nat} {s s1 s2 : Sto} {w : Nat} (a : Fr S s s1) (b : Fr [w] s1 s2) (h : s.length ≤ w) : Fr S s s2 :=
  ⟨Nat.le_trans a.1 b.1, fun n hn hm => (b.2 n (Nat.lt_of_lt_of_le hn a.1) (by simp; omega)).trans (a.2 n hn hm)⟩
def it0 (lb : List D) (d : D) : D := match d with
  | .int i => .tup [(lb[i.toNat]?).getD .non, .tup [.int i], .int 1]
  | _ => .non
theorem blk_map0 {lb : List D} : ∀ (r : List D) (k : Nat), r = lb.drop k → ((List.range' k r.length).map fun (i : Nat) => D.int (i : Int)).map (it0 lb) = (blkIt 4 [] k r).map itD
  | [], _, _ => rfl
  | y :: r, k, h => by
    have hk : lb[k]? = some y := by
      have : (lb.drop k)[0]? = some y := by rw [← h]; rfl
      rw [List.getElem?_drop] at this
      exact this
    have hr : r = lb.drop (k + 1) := by
      have : (lb.drop k).drop 1 = r := by rw [← h]; rfl
      rw [List.drop_drop] at this
      rw [← this]
    rw [List.length_cons, List.range'_succ, List.map_cons, List.map_cons, blk_map0 r (k + 1) hr]
    show _ = ((4, y, [] ++ [(k : Int)]) :: blkIt 4 [] (k + 1) r).map itD
    rw [List.map_cons]
    congr 1
    unfold it0 itD
    simp [hk]
theorem lenG_ref {s : Sto} {n : Nat} {l : List D} (h : s[n]? = some (.lst l)) : lenG s (.ref n) = some (.int (l.length : Nat)) := by
  show (seqA s (.ref n)).map _ = _
  show (lstT s (.ref n)).map _ = _
  rw [lstT_ref h]
  rfl
theorem sq_asg {me : WE} {tg : WTg} {k : WS} {l : LL} {st : Sto} {E : EndM} (h : me l st (fun d s1 => tg d l s1 (fun l2 s2 => k l2 s2 E)) (E.ex l)) : mSeqS (mAsg me tg) k l st E := h
theorem for_range {me : WE} {tg : WTg} {body : WS} {l : LL} {st : Sto} {E : EndM} {j : Int} (h : EvE me l st (.int j)) (h0 : -(2 ^ 62) ≤ j) (h1 : j < 2 ^ 62) (hk : loopW tg (fun _ => True) body (rangeD 0 j.toNat) l st E) : mFor (mRange1 (mCons me mNil)) tg body l st E := by
  show mRange1 (mCons me mNil) l st _ _
  rw [mRange1_eq]
  exact h _ _ ⟨h0, h1, hk⟩
theorem p_law_first_bad (ds : List D) (s : Sto) (Q : QD) (X : QX) (h : F__law_first_bad ds s Q X) : m__law_first_bad (startL 13 ds) s (endF Q X) := by
  obtain ⟨l, n, rfl, g, hn, hc, q⟩ := h
  have g1 : l.length ≤ 1000 := g.tupI.1
  unfold m__law_first_bad
  refine sq_setA (fun d s1 => d = .ref s.length ∧ s1 = s ++ [stk (blkIt 4 [] 0 l)]) (fun R Y k => ?_) fun d s1 ⟨e1, e2⟩ => ?_
  · unfold mRevR
    walk_at "mir"
    refine ⟨by omega, by omega, ?_⟩
    refine lcW_map (it0 l) trivial _ (by rw [rangeD_len]; show l.length ≤ sizeLine; unfold sizeLine; omega) (fun d hd R' S' h' => ?_) ?_
    · rw [range_ints] at hd
      obtain ⟨i, hi, rfl⟩ := List.mem_map.mp hd
      have hi : i < l.length := by
        have := List.mem_range'.mp hi
        obtain ⟨a, h1, h2⟩ := this
        simp at h1 h2
        omega
      have hy : l[i]? = some l[i] := List.getElem?_eq_getElem hi
      walk_at "mir"
      rw [Mir.atI_nat hy, tO_some]
      simp only [it0, Int.toNat_natCast, hy, Option.getD_some] at h'
      exact ⟨by decide, by decide, h'⟩
    · dsimp only [lstA_vl]
      rw [range_ints, show ((l.length : Nat) : Int).toNat = l.length from rfl, blk_map0 l 0 (by simp)]
      exact k _ _ ⟨rfl, rfl⟩
  subst e1 e2
  refine sq_set (d := .int 0) (fun R Y t => t) ?_
  simp only [startL, List.length_cons, List.length_nil, List.map_cons, List.map_nil, Nat.reduceAdd, Nat.reduceSub, List.replicate, List.cons_append, List.nil_append, List.set_cons_succ, List.set_cons_zero]
  refine sq_forI (its := rangeD 0 4000) (gd := fun _ => True) (fun R Y t => by walk_at "mir"; exact ⟨by decide, by decide, t⟩) ?_
  have fin : ∀ (many : Nat) (v1 v2 v4 v5 v6 v7 v8 v9 v10 v11 v12 : Option D) (s' : Sto), Fr [] s s' → fb 4 l = none → many = cnt 4 l →
      (mSeqS (mIfS (mTst (mOp oGt (mVar 3) (mC (.int 80))))
    (mRet (mTup mNil))
    mNext)
    (mRet (mC .non))) [some (.tup l), v1, v2, some (.int (many : Int)), v4, v5, v6, v7, v8, v9, v10, v11, v12] s' (endF Q X) := fun many v1 v2 v4 v5 v6 v7 v8 v9 v10 v11 v12 s' fr hf hm => by
    have q := q s' fr
    unfold dueD at q
    rw [hf] at q
    dsimp only at q
    refine sq_g (b := decide (80 < many)) (fun R Y t => ?_) (fun e => ?_) fun e => ?_
    · walk_at "mir"
      rw [show ltI 80 (many : Int) = decide (80 < many) from show decide ((80 : Int) < (many : Int)) = _ by
        congr 1
        apply propext
        omega]
      exact t
    · have e := of_decide_eq_true e
      rw [if_pos (by omega)] at q
      walk_at "mir"
      exact ⟨by decide, q⟩
    · have e := of_decide_eq_false e
      rw [if_neg (by omega)] at q
      exact q
  refine loop_inv (fun its lo s' => ∃ (S : List It) (many : Nat) (v2 v4 v5 v6 v7 v8 v9 v10 v11 v12 : Option D), lo = [some (.tup l), some (.ref s.length), v2, some (.int (many : Int)), v4, v5, v6, v7, v8, v9, v10, v11, v12] ∧ its.length + many = 4000 ∧ Fr [] s s' ∧ s'[s.length]? = some (stk S) ∧ S.findSome? itR = fb 4 l ∧ many + (S.map itC).sum = cnt 4 l ∧
      ∀ i ∈ S, i.2.2.length + 2 * i.1 ≤ 9 ∧ i.1 ≤ 4 ∧ ∃ n ≤ 30, Gd n i.2.1) ⟨blkIt 4 [] 0 l, 0, none, none, none, none, none, none, none, none, none, none, rfl, ?_, .push, ?_, ?_, ?_, ?_⟩ (fun _ _ _ _ => trivial) ?_ ?_
  · rw [rangeD_len]
  · rw [List.getElem?_append_right (Nat.le_refl _), Nat.sub_self]
    rfl
  · rw [blk_R, ← fb_eq]
    simp
  · rw [blk_C]
    omega
  · intro i hi
    obtain ⟨a, b, c⟩ := blk_mem _ _ hi
    refine ⟨by rw [a, c]; decide, by omega, n, hn, g.at_ b⟩
  · rintro lo s' ⟨S, many, v2, v4, v5, v6, v7, v8, v9, v10, v11, v12, rfl, hm, fr, hs, hR, hC, hi⟩
    simp at hm
    omega
  · rintro d r lo s' ⟨S, many, v2, v4, v5, v6, v7, v8, v9, v10, v11, v12, rfl, hm, fr, hs, hR, hC, hi⟩ N hN
    rw [List.length_cons] at hm
    simp only [gmName, List.set_cons_succ, List.set_cons_zero]
    have hw : s.length < s'.length := (List.getElem?_eq_some_iff.mp hs).1
    have hSl := len_C S
    refine sq_i (b := decide (S.length = 0)) (fun R Y t => ?_) (fun e => ?_) fun e => ?_
    · walk_at "mir"
      rw [lenG_ref hs]
      walk_at "mir"
      rw [List.length_reverse, List.length_map, show decide (((S.length : Nat) : Int) = 0) = decide (S.length = 0) by simp]
      exact t
    · have e := List.length_eq_zero_iff.mp (of_decide_eq_true e)
      subst e
      exact fin many _ _ _ _ _ _ _ _ _ _ _ s' fr hR.symm (by simpa using hC)
    cases S with
    | nil => cases e
    | cons i S =>
    obtain ⟨m, x, p⟩ := i
    obtain ⟨hp, hm4, nx, hnx, gx⟩ := hi (m, x, p) (by simp)
    have hp : p.length + 2 * m ≤ 9 := hp
    have hm4 : m ≤ 4 := hm4
    refine sq_asg ?_
    unfold mPop
    simp only [mVar_eq, List.getElem?_cons_succ, List.getElem?_cons_zero, tO_some]
    refine d_pop (l := (S.map itD).reverse) (y := itD (m, x, p)) (by rw [hs]; unfold stk; simp) ?_
    rw [show itD (m, x, p) = .tup [x, .tup (p.map .int), .int (5 - (m : Int))] from rfl]
    simp only [gmTup_tup, gmCons_cons, gmNil, gmName, List.set_cons_succ, List.set_cons_zero, List.length_cons, List.length_nil]
    refine ⟨trivial, trivial, ?_⟩
    have fr1 : Fr [] s (s'.set s.length (.lst (S.map itD).reverse)) := fr.off (.set (by simp)) (Nat.le_refl _)
    have hs1 : (s'.set s.length (.lst (S.map itD).reverse))[s.length]? = some (stk S) := set_get hw
    generalize s'.set s.length (.lst (S.map itD).reverse) = s1 at fr1 hs1
    refine sq_set (d := .int ((many + 1 : Nat) : Int)) (fun R Y t => by walk_at "mir"; exact t) ?_
    have e5 : decide ((5 : Int) - (m : Int) = 5) = decide (m = 0) := by
      congr 1
      apply propext
      omega
    refine sq_g (b := !ownL (decide (m = 0)) x) (fun R Y t => ?_) (fun e => ?_) fun e => ?_
    · walk_at "mir"
      refine ⟨x, nx, 5 - (m : Int), rfl, gx, hnx, ?_⟩
      rw [e5]
      exact t
    · have q := q s1 fr1
      unfold dueD at q
      rw [← hR, List.findSome?_cons, it_bad (by simpa using e)] at q
      exact q
    simp only [Bool.not_eq_false'] at e
    obtain ⟨w, r, rfl⟩ : ∃ w r, x = .tup (.str w :: r) := by
      have e' := e
      unfold ownL at e'
      cases hx : stm x with
      | none => rw [hx] at e'; cases e'
      | some wr => exact ⟨_, _, stm_some hx⟩
    obtain ⟨ks, hk, hk5, hrl, hfm⟩ := ls_kinds e
    obtain ⟨tR, tC, tm, tT⟩ := it_good (p := p) e
    refine sq_set (d := .str ks) (fun R Y t => ?_) ?_
    · walk_at "mir"
      rw [atI_zero]
      refine ⟨w, rfl, ?_⟩
      rw [hk]
      exact t
    refine sq_set (d := .vl (bsOf w r)) (fun R Y t => ?_) ?_
    · walk_at "mir"
      rw [lenG_str (by unfold sizeLine; omega)]
      walk_at "mir"
      refine ⟨by omega, by omega, ?_⟩
      refine lcW_fm (bF ks.cps.toList r) trivial _ _ (by rw [rangeD_len]; show 0 + ks.length ≤ sizeLine; unfold sizeLine; omega) (fun d hd R' S' h' => ?_) ?_
      · rw [range_ints] at hd
        obtain ⟨i, hi, rfl⟩ := List.mem_map.mp hd
        have hi : i < ks.length := by
          have := List.mem_range'.mp hi
          obtain ⟨a, h1, h2⟩ := this
          simp at h1 h2
          omega
        have hci : i < ks.cps.toList.length := by rw [Array.length_toList]; exact hi
        have hc' : ks.cps.toList[i]? = some ks.cps.toList[i] := List.getElem?_eq_getElem hci
        have hy : r[i]? = some r[i] := List.getElem?_eq_getElem (by omega)
        walk_at "mir"
        refine str_at (by omega) hc' ?_
        walk_at "mir"
        simp only [bF, Int.toNat_natCast, hc', hy] at h'
        refine iteBt (fun e => ?_) fun e => ?_
        · have e := of_decide_eq_true e
          rw [show (("b" : Str)) = ⟨#[98]⟩ by decide +kernel] at e
          have e : ks.cps.toList[i] = 98 := by injection e with e; injection e with e; injection e with e
          rw [e, if_pos rfl] at h'
          rw [show ((i : Int) + 1) = ((i + 1 : Nat) : Int) by omega, Mir.atI_nat (show (D.str w :: r)[i + 1]? = some r[i] from hy)]
          exact h'
        · have e := of_decide_eq_false e
          rw [if_neg (fun z => by
            injection z with z
            exact e (by rw [z]; decide +kernel))] at h'
          exact h'
      · rw [List.nil_append, show ((ks.length : Nat) : Int).toNat = ks.length from rfl, hfm]
        exact t
    have hbl : (bsOf w r).length ≤ r.length := by
      unfold bsOf
      split
      · simp
      · exact blocksOf_len
    have hbm : ∀ b ∈ bsOf w r, b ∈ r := by
      unfold bsOf
      split
      · intro b hb; cases hb
      · exact fun b hb => blocksOf_mem hb
    have hbg : ∀ b ∈ bsOf w r, Gd nx b := fun b hb => gx.at_ (by simp [hbm b hb])
    have hC' : many + (itC (m, .tup (.str w :: r), p) + (S.map itC).sum) = cnt 4 l := by rw [List.map_cons, List.sum_cons] at hC; exact hC
    have done : ∀ s2 v2 v10 v11 v12, Fr [s.length] s1 s2 → s2[s.length]? = some (stk (allIt (m - 1) p 0 (bsOf w r) ++ S)) → N [some (.tup l), some (.ref s.length), v2, some (.int ((many + 1 : Nat) : Int)), some d, some (.tup (.str w :: r)), some (.tup (p.map .int)), some (.int (5 - (m : Int))), some (.str ks), some (.vl (bsOf w r)), v10, v11, v12] s2 := fun s2 v2 v10 v11 v12 f2 h2 => by
      refine hN _ _ ⟨_, many + 1, _, _, _, _, _, _, _, _, _, _, rfl, by omega, fr1.off f2 (Nat.le_refl _), h2, ?_, ?_, ?_⟩
      · rw [List.findSome?_append, ← tR, ← hR, List.findSome?_cons]
        cases itR (m, D.tup (D.str w :: r), p) <;> rfl
      · rw [List.map_append, List.sum_append]
        omega
      · intro i hi'
        rcases List.mem_append.mp hi' with h | h
        · obtain ⟨a, ⟨b, hb, hy⟩, c⟩ := all_mem _ _ h
          have m0 : 0 < m := tm (fun z => by rw [z] at hb; cases hb)
          obtain ⟨lb, rfl⟩ : ∃ lb, b = .tup lb := by
            cases b <;> first
              | (cases hy; done)
              | exact ⟨_, rfl⟩
          exact ⟨by omega, by omega, nx, hnx, (hbg _ hb).at_ hy⟩
        · exact hi i (by simp [h])
    refine for_range (j := ((bsOf w r).length : Nat)) (fun R Y t => by walk_at "mir"; exact t) (by omega) (by omega) ?_
    rw [range_ints, show (((bsOf w r).length : Nat) : Int).toNat = (bsOf w r).length from rfl]
    cases m with
    | zero =>
      have : bsOf w r = [] := by
        cases h : bsOf w r with
        | nil => rfl
        | cons b bs => have := tm (by rw [h]; simp); omega
      rw [this] at done ⊢
      exact ⟨trivial, done s1 _ _ _ _ (.refl _ _) hs1⟩
    | succ m =>
      have hlen : (allIt m p 0 (bsOf w r)).length + S.length ≤ 1000 := by
        have := len_C (allIt m p 0 (bsOf w r))
        have := len_C S
        rw [show m + 1 - 1 = m from rfl] at tC
        omega
      exact p_fb_in (w := s.length) (m := m) (s0 := s1) tT (fun b hb lb e => by
        have := hbg b hb
        rw [e] at this
        exact this.tupI.1) (by omega) (by omega) hlen (by omega) (fun s2 a1 a2 a3 a4 f2 h2 => done s2 a1 a2 a3 a4 f2 h2) (bsOf w r).length 0 _ _ _ _ s1 (by omega) (.refl _ _) (by
          rw [List.drop_length]
          exact hs1)
end K87

set_option Elab.async false
set_option linter.all false
set_option maxRecDepth 100000
set_option maxHeartbeats 1000000
/-! K87R: how large a good program is. -/
namespace K87
open PySem PySem.Spec PyProof.Rows L2 Mir
def PkP (d B : Nat) (p : PyData) : Prop := p.canLay0 = true ∧ p.intsShort 24 = true ∧ p.depth ≤ d ∧ p.bulk ≤ B ∧ p.showable = true
def Pk (d B : Nat) (x : D) : Prop := ∃ p, pyD x = some p ∧ PkP d B p
def PkL (d B : Nat) (l : List D) : Prop := ∃ ps, pyL l = some ps ∧ PyData.canLayAll0 ps = true ∧ PyData.intsShortAll 24 ps = true ∧ PyData.depthAll ps ≤ d ∧ PyData.bulkAll ps ≤ B ∧ PyData.showableAll ps = true
theorem Pk.mono {d d' B B' : Nat} {x : D} (h : Pk d B x) (hd : d ≤ d') (hB : B ≤ B') : Pk d' B' x := by
  obtain ⟨p, e, a, b, c, f, g⟩ := h
  exact ⟨p, e, a, b, by omega, by omega, g⟩
theorem PkL.mono {d d' B B' : Nat} {x : List D} (h : PkL d B x) (hd : d ≤ d') (hB : B ≤ B') : PkL d' B' x := by
  obtain ⟨p, e, a, b, c, f, g⟩ := h
  exact ⟨p, e, a, b, by omega, by omega, g⟩
theorem PkL.nil {d : Nat} : PkL d 0 [] := ⟨[], by unfold pyL; rfl, rfl, rfl, Nat.zero_le _, Nat.le_refl _, rfl⟩
theorem PkL.cons {d B C : Nat} {x : D} {l : List D} (h : Pk d B x) (hl : PkL d C l) : PkL d (B + 1 + C) (x :: l) := by
  obtain ⟨p, e, a, b, c, f, g⟩ := h
  obtain ⟨ps, e', a', b', c', f', g'⟩ := hl
  refine ⟨p :: ps, ?_, ?_, ?_, ?_, ?_, ?_⟩
  · unfold pyL
    rw [e, e']
  · unfold PyData.canLayAll0; rw [a, a']; rfl
  · unfold PyData.intsShortAll; rw [b, b']; rfl
  · unfold PyData.depthAll; omega
  · unfold PyData.bulkAll; omega
  · unfold PyData.showableAll; rw [g, g']; rfl
theorem PkL.tup {d B : Nat} {l : List D} (h : PkL d B l) : Pk (d + 1) B (.tup l) := by
  obtain ⟨ps, e, a, b, c, f, g⟩ := h
  refine ⟨.tuple ps, ?_, ?_, ?_, ?_, ?_, ?_⟩
  · unfold pyD
    rw [e]
    rfl
  · unfold PyData.canLay0; exact a
  · unfold PyData.intsShort; exact b
  · unfold PyData.depth; omega
  · unfold PyData.bulk; exact f
  · unfold PyData.showable; exact g
theorem Pk.str {z : Str} (h : PyData.strOk z = true) : Pk 0 z.length (.str z) :=
  ⟨.str z, by unfold pyD; rfl, by unfold PyData.canLay0; exact h, by unfold PyData.intsShort; rfl, by unfold PyData.depth; omega, by unfold PyData.bulk; exact Nat.le_refl _, by unfold PyData.showable; rfl⟩
theorem Pk.int {i : Int} (h1 : -1000000000000000000 ≤ i) (h2 : i ≤ 1000000000000000000) : Pk 0 0 (.int i) := by
  have hn : i.natAbs < 10 ^ 19 := by
    have : (10 : Nat) ^ 19 = 10000000000000000000 := by decide
    omega
  refine ⟨.int i, by unfold pyD; rfl, by unfold PyData.canLay0; rfl, ?_, by unfold PyData.depth; omega, by unfold PyData.bulk; omega, ?_⟩
  · unfold PyData.intsShort
    have e := int_text_length_le10 (k := 19) (by decide) hn
    refine decide_eq_true ?_
    show (Str.ofString (toString i)).length ≤ 24
    rw [PySem.ofString_length]
    omega
  · unfold PyData.showable
    refine decide_eq_true ?_
    by_cases h0 : i.natAbs = 0
    · rw [h0]
      decide
    · have : i.natAbs.log2 < 64 := (Nat.log2_lt h0).mpr (Nat.lt_of_lt_of_le hn (show (10 : Nat) ^ 19 ≤ 2 ^ 64 by decide))
      omega
theorem Gd.okS {n : Nat} {z : Str} (h : Gd n (.str z)) : PyData.strOk z = true := by
  cases n <;> exact h.2
theorem isLet_pk {n : Nat} {m : Nat} {x : D} (g : Gd n x) (h : isLet m x = true) : Pk 0 m x := by
  cases x <;> first
    | (cases h; done)
    | skip
  rename_i z
  have h : ((decide (1 ≤ (z.length : Int)) && decide ((z.length : Int) ≤ m)) && letB z) = true := h
  simp only [Bool.and_eq_true, decide_eq_true_eq] at h
  exact (Pk.str g.okS).mono (Nat.le_refl _) (by omega)
theorem isNm_pk {n : Nat} {x : D} (g : Gd n x) (h : isNm x = true) : Pk 0 8 x := by
  cases x <;> first
    | (cases h; done)
    | skip
  rename_i z
  have h : (((decide (1 ≤ (z.length : Int)) && decide ((z.length : Int) ≤ 8)) && !wordL.contains z) && letB z) = true := h
  simp only [Bool.and_eq_true, decide_eq_true_eq] at h
  exact (Pk.str g.okS).mono (Nat.le_refl _) (by omega)
theorem isW_pk {a b : Int} {x : D} (h : isW a b x = true) (ha : -1000000000000000000 ≤ a) (hb : b ≤ 1000000000000000000) : Pk 0 0 x := by
  cases x <;> first
    | (cases h; done)
    | skip
  rename_i i
  have h : (decide (a ≤ i) && decide (i ≤ b)) = true := h
  simp only [Bool.and_eq_true, decide_eq_true_eq] at h
  exact Pk.int (by omega) (by omega)
theorem sign_len {w : Str} (h : signL.contains w = true) : w.length ≤ 3 := by
  have h : w ∈ signL := by simpa using h
  have : ∀ z ∈ signL, z.length ≤ 3 := by decide +kernel
  exact this w h
theorem pk_parts : ∀ (d n : Nat) (x : D) (k : Nat), Gd n x → parts d x = some k → Pk d (20 * k) x
  | 0, n, x, k, g, h => by cases h
  | d + 1, n, x, k, g, h => by
    unfold parts at h
    cases hx : stm x with
    | none => rw [hx] at h; cases h
    | some wr =>
      obtain ⟨w, r⟩ := wr
      rw [hx] at h
      have ex := stm_some hx
      subst ex
      have gw : PyData.strOk w = true := Gd.okS (g.at_ (by simp))
      have gr : ∀ y ∈ r, Gd n y := fun y hy => g.at_ (by simp [hy])
      have pw : ∀ {m : Nat}, w.length ≤ m → Pk d m (.str w) := fun hm => (Pk.str gw).mono (Nat.zero_le _) hm
      have leaf : ∀ {y : D} {m : Nat}, r = [y] → k = 1 → w.length ≤ 4 → Pk 0 m y → m ≤ 12 → Pk (d + 1) (20 * k) (.tup (.str w :: r)) := fun e1 e2 h1 h2 h3 => by
        subst e1 e2
        exact ((PkL.cons (pw h1) (PkL.cons (h2.mono (Nat.zero_le _) (Nat.le_refl _)) PkL.nil)).mono (Nat.le_refl _) (by omega)).tup
      dsimp only at h
      split at h
      · cases h
      rename_i h0
      split at h
      · rename_i h1
        split at h
        · rename_i h2
          cases h
          obtain ⟨y, rfl⟩ : ∃ y, r = [y] := by
            rcases r with _ | ⟨y, _ | ⟨z, r⟩⟩ <;> simp at h1 ⊢
          exact leaf rfl rfl (by rw [h1.2]; decide) (isW_pk h2 (by decide) (by decide)) (by decide)
        · cases h
      split at h
      · rename_i _ h1
        split at h
        · rename_i h2
          cases h
          obtain ⟨y, rfl⟩ : ∃ y, r = [y] := by
            rcases r with _ | ⟨y, _ | ⟨z, r⟩⟩ <;> simp at h1 ⊢
          exact leaf rfl rfl (by rw [h1.2]; decide) (isLet_pk (m := 12) (gr y (by simp)) h2) (by decide)
        · cases h
      split at h
      · rename_i _ _ h1
        split at h
        · rename_i h2
          cases h
          obtain ⟨y, rfl⟩ : ∃ y, r = [y] := by
            rcases r with _ | ⟨y, _ | ⟨z, r⟩⟩ <;> simp at h1 ⊢
          exact leaf rfl rfl (by rw [h1.2]; decide) (isNm_pk (gr y (by simp)) h2) (by decide)
        · cases h
      by_cases h5 : (w ≠ "not" ∧ signL.contains w = false) ∨ r.length ≠ (if w = "not" then 1 else 2)
      · rw [if_pos h5] at h; cases h
      rw [if_neg h5] at h
      have h5 : (w = "not" ∨ signL.contains w = true) ∧ r.length = (if w = "not" then 1 else 2) := by
        simp only [not_or, not_and, Classical.not_not] at h5
        refine ⟨?_, h5.2⟩
        by_cases hn : w = "not"
        · exact .inl hn
        · exact .inr (by simpa using h5.1 hn)
      obtain ⟨hw, hl⟩ := h5
      by_cases hn : w = "not"
      · rw [if_pos hn] at hl
        rcases r with _ | ⟨y, _ | ⟨z, r⟩⟩ <;> simp at hl
        rw [List.map_cons, List.map_nil] at h
        cases hy : parts d y with
        | none => rw [hy] at h; cases h
        | some a =>
          rw [hy] at h
          cases h
          have := pk_parts d n y a (gr y (by simp)) hy
          exact ((PkL.cons (pw (m := 3) (by rw [hn]; decide)) (PkL.cons this PkL.nil)).mono (Nat.le_refl _) (by omega)).tup
      · rw [if_neg hn] at hl
        rcases r with _ | ⟨y, _ | ⟨z, _ | ⟨u, r⟩⟩⟩ <;> simp at hl
        rw [List.map_cons, List.map_cons, List.map_nil] at h
        cases hy : parts d y with
        | none => rw [hy] at h; cases h
        | some a =>
          cases hz : parts d z with
          | none => rw [hy, hz] at h; cases h
          | some b =>
            rw [hy, hz] at h
            cases h
            have p1 := pk_parts d n y a (gr y (by simp)) hy
            have p2 := pk_parts d n z b (gr z (by simp)) hz
            exact ((PkL.cons (pw (m := 3) (sign_len (hw.resolve_left hn))) (PkL.cons p1 (PkL.cons p2 PkL.nil))).mono (Nat.le_refl _) (by omega)).tup
theorem pk_expr {n : Nat} {x : D} (g : Gd n x) (h : isExpr x = true) : Pk 8 800 x := by
  unfold isExpr at h
  cases hk : parts 8 x with
  | none => rw [hk] at h; cases h
  | some k =>
    rw [hk] at h
    have h := of_decide_eq_true h
    exact (pk_parts 8 n x k g hk).mono (Nat.le_refl _) (by omega)
/-- one statement: the blocks apart -/
theorem pk_plain {n : Nat} {w : Str} {r : List D} (g : Gd n (.tup (.str w :: r))) (h : isPlain w r = true) : Pk 9 2000 (.tup (.str w :: r)) := by
  have gw : PyData.strOk w = true := Gd.okS (g.at_ (by simp))
  have gr : ∀ y ∈ r, Gd n y := fun y hy => g.at_ (by simp [hy])
  have pw : ∀ {m : Nat}, w.length ≤ m → Pk 8 m (.str w) := fun hm => (Pk.str gw).mono (Nat.zero_le _) hm
  unfold isPlain at h
  split at h
  · rename_i h1
    have hl : w.length ≤ 4 := by rcases h1 with h1 | h1 <;> (rw [h1]; decide)
    split at h
    · simp only [Bool.and_eq_true] at h
      exact ((PkL.cons (pw hl) (PkL.cons ((isNm_pk (gr _ (by simp)) h.1).mono (Nat.zero_le _) (Nat.le_refl _)) (PkL.cons (pk_expr (gr _ (by simp)) h.2) PkL.nil))).mono (Nat.le_refl _) (by decide)).tup
    · cases h
  split at h
  · rename_i _ h1
    have hl : w.length ≤ 4 := by rw [h1]; decide
    split at h
    · simp only [Bool.and_eq_true] at h
      exact ((PkL.cons (pw hl) (PkL.cons (pk_expr (gr _ (by simp)) h.1) (PkL.cons (pk_expr (gr _ (by simp)) h.2) PkL.nil))).mono (Nat.le_refl _) (by decide)).tup
    · cases h
  split at h
  · rename_i _ _ h1
    have hl : w.length ≤ 4 := by rcases h1 with h1 | h1 <;> (rw [h1]; decide)
    split at h
    · exact ((PkL.cons (pw hl) (PkL.cons (pk_expr (gr _ (by simp)) h) PkL.nil)).mono (Nat.le_refl _) (by decide)).tup
    · cases h
  · simp only [Bool.and_eq_true, decide_eq_true_eq] at h
    have hl : w.length ≤ 4 := by rw [h.1]; decide
    rw [List.length_eq_zero_iff.mp h.2]
    exact ((PkL.cons (pw hl) PkL.nil).mono (Nat.le_refl _) (by decide)).tup
theorem pk_own {n d : Nat} {w : Str} {r : List D} {f : D → Nat} (g : Gd n (.tup (.str w :: r))) (h : ownParts w r = true) (hd : 8 ≤ d) (hb : ∀ b ∈ blocksOf w r, Pk d (f b) b) : Pk (d + 1) (2000 + ((blocksOf w r).map f).sum) (.tup (.str w :: r)) := by
  have gw : PyData.strOk w = true := Gd.okS (g.at_ (by simp))
  have gr : ∀ y ∈ r, Gd n y := fun y hy => g.at_ (by simp [hy])
  have pw : ∀ {m : Nat}, w.length ≤ m → Pk d m (.str w) := fun hm => (Pk.str gw).mono (Nat.zero_le _) hm
  have pe : ∀ {y : D}, y ∈ r → isExpr y = true → Pk d 800 y := fun hy he => (pk_expr (gr _ hy) he).mono hd (Nat.le_refl _)
  have pn : ∀ {y : D}, y ∈ r → isNm y = true → Pk d 8 y := fun hy he => (isNm_pk (gr _ hy) he).mono (Nat.zero_le _) (Nat.le_refl _)
  unfold ownParts at h
  unfold blocksOf at hb ⊢
  by_cases h1 : w = "for"
  · have hl : w.length ≤ 5 := by rw [h1]; decide
    rw [if_pos h1] at h hb ⊢
    split at h
    · rename_i a b c e blk
      simp only [Bool.and_eq_true] at h
      have hb := hb blk (by simp)
      refine ((PkL.cons (pw hl) (PkL.cons (pn (by simp) h.1.1) (PkL.cons (pn (by simp) h.1.2) (PkL.cons (pe (by simp) h.2.1) (PkL.cons (pe (by simp) h.2.2) (PkL.cons hb PkL.nil)))))).mono (Nat.le_refl _) ?_).tup
      simp
      omega
    · cases h
  rw [if_neg h1] at h hb ⊢
  by_cases h2 : w = "if"
  · have hl : w.length ≤ 5 := by rw [h2]; decide
    rw [if_pos h2] at h hb ⊢
    split at h
    · rename_i a t e
      have hb1 := hb t (by simp)
      have hb2 := hb e (by simp)
      refine ((PkL.cons (pw hl) (PkL.cons (pe (by simp) h) (PkL.cons hb1 (PkL.cons hb2 PkL.nil)))).mono (Nat.le_refl _) ?_).tup
      simp
      omega
    · cases h
  rw [if_neg h2] at h hb ⊢
  by_cases h3 : w = "while"
  · have hl : w.length ≤ 5 := by rw [h3]; decide
    rw [if_pos h3] at h hb ⊢
    split at h
    · rename_i a b blk
      simp only [Bool.and_eq_true] at h
      have hb := hb blk (by simp)
      refine ((PkL.cons (pw hl) (PkL.cons (pe (by simp) h.1) (PkL.cons ((isW_pk h.2 (by decide) (by decide)).mono (Nat.zero_le _) (Nat.le_refl _)) (PkL.cons hb PkL.nil)))).mono (Nat.le_refl _) ?_).tup
      simp
      omega
    · cases h
  rw [if_neg h3] at h
  cases h
theorem badA_way {m k : Nat} {x : D} (h : badA m k x = none) : ∃ w r, x = .tup (.str w :: r) ∧ (isPlain w r = true ∨ ∃ m', m = m' + 1 ∧ ownParts w r = true ∧ ∀ b ∈ blocksOf w r, isT b = true ∧ fb m' (tupL b) = none) := by
  obtain ⟨w, r, e, hb⟩ := badA_good h
  refine ⟨w, r, stm_some e, ?_⟩
  cases hp : isPlain w r with
  | true => exact .inl rfl
  | false =>
    right
    cases m with
    | zero => rw [badA_zero e hp] at h; cases h
    | succ m =>
      cases ho : ownParts w r with
      | false => rw [badA_own e hp ho] at h; cases h
      | true =>
        refine ⟨m, rfl, rfl, fun b hbm => ?_⟩
        obtain ⟨m', hm, h1, h2⟩ := hb b hbm
        cases hm
        exact ⟨h1, h2⟩
theorem pkL_of {d : Nat} {f : D → Nat} : ∀ (l : List D), (∀ x ∈ l, Pk d (f x) x) → PkL d ((l.map fun x => f x + 1).sum) l
  | [], _ => PkL.nil
  | x :: r, h => by
    refine (PkL.cons (h x (by simp)) (pkL_of r fun y hy => h y (by simp [hy]))).mono (Nat.le_refl _) ?_
    rw [List.map_cons, List.sum_cons]
    omega
theorem sum_lin {α : Type} (a b : Nat) (f : α → Nat) : ∀ l : List α, (l.map fun x => a + b * f x).sum = a * l.length + b * (l.map f).sum
  | [] => by simp
  | x :: r => by
    rw [List.map_cons, List.map_cons, List.sum_cons, List.sum_cons, List.length_cons, sum_lin a b f r, Nat.mul_add, Nat.mul_add]
    omega
theorem sum_le' {α : Type} {f g : α → Nat} : ∀ l : List α, (∀ x ∈ l, f x ≤ g x) → (l.map f).sum ≤ (l.map g).sum
  | [], _ => Nat.le_refl _
  | x :: r, h => by
    rw [List.map_cons, List.map_cons, List.sum_cons, List.sum_cons]
    have := h x (by simp)
    have := sum_le' (f := f) (g := g) r fun y hy => h y (by simp [hy])
    omega
theorem pk_block : ∀ (m n : Nat) (l : List D), Gd n (.tup l) → fb m l = none → PkL (9 + 2 * m) (2001 * cnt m l) l := by
  intro m
  induction m with
  | zero =>
    intro n l g h
    rw [fb_eq] at h
    refine (pkL_of (f := fun _ => 2000) l fun x hx => ?_).mono (Nat.le_refl _) ?_
    · obtain ⟨k, hk⟩ := firstI_all h x hx
      obtain ⟨w, r, rfl, hp | ⟨m', hm, _⟩⟩ := badA_way hk
      · exact pk_plain (g.at_ hx) hp
      · omega
    · rw [cnt_eq]
      have : (l.map fun _ => 2000 + 1).sum = 2001 * l.length := by
        have := sum_lin (α := D) 2001 0 (fun _ => 0) l
        simpa using this
      omega
  | succ m ih =>
    intro n l g h
    rw [fb_eq] at h
    refine (pkL_of (f := fun x => 2000 + 2001 * cntI (m + 1) x) l fun x hx => ?_).mono (Nat.le_refl _) ?_
    · obtain ⟨k, hk⟩ := firstI_all h x hx
      obtain ⟨w, r, rfl, hp | ⟨m', hm, ho, hb⟩⟩ := badA_way hk
      · exact (pk_plain (g.at_ hx) hp).mono (by omega) (by omega)
      · cases hm
        have gx : Gd n (.tup (.str w :: r)) := g.at_ hx
        refine (pk_own (d := 9 + 2 * m + 1) (f := fun b => 2001 * cnt m (tupL b)) gx ho (by omega) fun b hbm => ?_).mono (by omega) ?_
        · obtain ⟨h1, h2⟩ := hb b hbm
          obtain ⟨lb, rfl⟩ : ∃ lb, b = .tup lb := by
            cases b <;> first
              | (cases h1; done)
              | exact ⟨_, rfl⟩
          exact (ih n lb (gx.at_ (by simp [blocksOf_mem hbm])) h2).tup
        · have := sum_lin (α := D) 0 2001 (fun b => cnt m (tupL b)) (blocksOf w r)
          simp only [Nat.zero_add, Nat.zero_mul] at this
          rw [this]
          exact Nat.le_refl _
    · rw [cnt_eq]
      have : (l.map fun x => 2001 + 2001 * cntI (m + 1) x).sum = 2001 * l.length + 2001 * (l.map (cntI (m + 1))).sum := sum_lin (α := D) 2001 2001 (cntI (m + 1)) l
      have e : (fun x => 2000 + 2001 * cntI (m + 1) x + 1) = fun x : D => 2001 + 2001 * cntI (m + 1) x := by
        funext x
        omega
      rw [e, this]
      omega
/-- what the law needs of a good program -/
theorem good_data {n : Nat} {l : List D} (g : Gd n (.tup l)) (h : fb 4 l = none) (hc : cnt 4 l ≤ 80) : ∃ ps, pyL l = some ps ∧ ps.length = l.length ∧ SeqAt.shaped (.tuple ps) = true ∧ (PyData.tuple ps).showable = true ∧ (PyData.tuple ps).hasDict = false ∧ (PyData.tuple ps).depth ≤ 60 ∧ (PyData.tuple ps).shown.length ≤ sizeLine := by
  obtain ⟨p, e, a, b, c, f, s⟩ := (pk_block 4 n l g h).tup
  unfold pyD at e
  cases e1 : pyL l with
  | none => rw [e1] at e; cases e
  | some ps =>
    rw [e1] at e
    cases e
    refine ⟨ps, rfl, ?_, ?_, s, PyData.hasDict_of_canLay _ a, by omega, ?_⟩
    · clear a b c f s
      have : ∀ (l : List D) (ps : List PyData), pyL l = some ps → ps.length = l.length := by
        intro l
        induction l with
        | nil => intro ps h; unfold pyL at h; cases h; rfl
        | cons x r ih =>
          intro ps h
          unfold pyL at h
          split at h
          · rename_i p q h1 h2
            cases h
            rw [List.length_cons, List.length_cons, ih _ h2]
          · cases h
      exact this l ps e1
    · unfold SeqAt.shaped
      rw [a, decide_eq_true (show (PyData.tuple ps).depth ≤ 64 by omega)]
      rfl
    · have := PyData.shown_le_bulk 24 (by decide) _ (PyData.leavesShort_of_canLay0 24 _ a b)
      have h2 : (24 + 2) * (PyData.tuple ps).bulk ≤ 26 * (2001 * 80) := Nat.mul_le_mul (by decide) (by omega)
      unfold sizeLine
      omega
end K87

set_option Elab.async false
set_option linter.all false
set_option maxRecDepth 100000
set_option maxHeartbeats 1000000
/-! K87S: _law_made, _law_is_place. -/
namespace K87
open PySem PySem.Spec PyProof.Rows L2 Mir
local macro_rules | `(tactic| walk_at "mir") => `(tactic| try simp only [mIfS, mSeqS, mRet, mAsg, gmName, gmTup_tup, gmCons_cons, gmNil, mVar_eq, mC, mOp, mCons, mNil, mTup, mLst, mLstR, mCall, mCB, oneF_eq, mTst_eq, mNotT, mAndT, mOrT, mTru_eq, truD_bl, mUn, mIf, mAndV_eq, mOrV_eq, mNotV_eq, mNeg_eq, mSl, mNoPart, mPart_eq, intD_eq, addD_int, addD_str, addD_tup, addD_vl, ordD_int, ordD_str, mChain_eq, isiM_eq, mNext, mFor, mSeq_eq, tSeq1_str, tSeq1_tup, tSeq1_vl, tSeq1_sq, mRange1_eq, tRng1_int, mEnum_eq, tEnum_tup, mAug_eq, mLc, mYes, startL, endF, tbl_bl, tint_int, tO_some, eqD_int, eqD_str, ixD_tup, ixD_vl, slD_tup, slD_vl, slD_sq, slD_str, lenG_tup, lenG_vl, isBlD_eq, List.length_cons, List.length_nil, List.map_cons, List.map_nil, List.replicate, Nat.reduceAdd, Nat.reduceSub, List.cons_append, List.nil_append, List.append_nil, List.getElem?_cons_succ, List.getElem?_cons_zero, List.set_cons_succ, List.set_cons_zero, true_and, and_true, Bool.not_true, Bool.not_false, Bool.false_eq_true, if_true, if_false, ite_true, ite_false, not_true, not_false_iff, Bool.true_eq_false, reduceCtorEq, wipeL])

def ans_StoreError : Str → Option Bool := fun c => if c = "BadProgram" then some true else none
def exm_BadProgram : Str → Option Bool := fun c => if c = "BadProgram" then some true else none
def ok_eq_Program : Kd → Bool
  | .own c => decide (c = "Program")
  | .tuple => true
  | .non => true
  | .str => true
  | _ => false
def badD (p : List Int) : D := .tup [.str "bad", .tup (p.map .int), .bl true]
def progO (l : List D) : Ob := .ins "Program" ["block"] [.tup l]
def MadeQ (x : D) (st : Sto) (Q : QD) : Prop := (isT x = false → ∀ st', Fr [] st st' → Q (badD []) st') ∧
  ∀ l, x = .tup l → (∀ p, fb 4 l = some p → ∀ st', Fr [] st st' → Q (badD p) st') ∧ (fb 4 l = none → 80 < cnt 4 l → ∀ st', Fr [] st st' → Q (badD []) st') ∧
    (fb 4 l = none → cnt 4 l ≤ 80 → Q (.tup [.str "made", .ref st.length]) (st ++ [progO l]))
def F__law_made : Fn := fun ds st Q _ => ∃ x n, ds = [x] ∧ Gd n x ∧ MadeQ x st Q
def F__law_is_place : Fn := fun ds st Q _ => ∃ p q : List Int, ds = [.tup (p.map .int), .tup (q.map .int)] ∧ p.length ≤ 1000 ∧ q.length ≤ 1000 ∧ Q (.bl (decide (p = q))) st
/-- _law_made(_law_block_here); 0 _law_block_here, 1 _law_found, 2 e -/
def m__law_made : WS := (mSeqS (mTry 2 exm_BadProgram (mAsg (mTup (mCons (mC (.str "made")) (mCons (mMake "Program" 1 F_Program___init__ (mCons (mVar 0) mNil)) mNil))) (gmName 1)) (fun x l st E => (fun x => mTup (mCons (mC (.str "bad")) (mCons (mXf "BadProgram" "place" x) (mCons (mXis ans_StoreError x) mNil)))) x l st (fun d s1 => E.nx (l.set 1 (some d)) s1) noX))
    (mRet (mVar 1)))
/-- _law_is_place(_law_told, _law_due); 0 _law_told, 1 _law_due, 2 _law_one -/
def m__law_is_place : WS := (mSeqS (mIfS (mOrT (mNotT (mTru (isiM (ansB "tuple") (mVar 0)))) (mTst (mOp (eqD true) (mVar 0) (mVar 1))))
    (mRet (mC (.bl false)))
    mNext)
    (mRet (mNotV (mCB (oneF anyG) (mCons (mLc (mSeq (mVar 0)) (gmName 2) mYes (isiM (ansB "bool") (mVar 2)) [2]) mNil)))))
theorem p_law_made (ds : List D) (s : Sto) (Q : QD) (X : QX) (h : F__law_made ds s Q X) : m__law_made (startL 3 ds) s (endF Q X) := by
  obtain ⟨x, n, rfl, g, h1, h2⟩ := h
  unfold m__law_made
  have bad : ∀ (p : List Int) (s' : Sto), Fr [] s s' → (∀ st', Fr [] s st' → Q (badD p) st') → (tryE 2 exm_BadProgram (fun x l st E => (fun x => mTup (mCons (mC (.str "bad")) (mCons (mXf "BadProgram" "place" x) (mCons (mXis ans_StoreError x) mNil)))) x l st (fun d s1 => E.nx (l.set 1 (some d)) s1) noX) { (endF Q X) with nx := fun l' s' => mRet (mVar 1) l' s' (endF Q X) }).ex [some x, none, none] ⟨"BadProgram", ["place"], [.tup (p.map .int)]⟩ s' := fun p s' f q => by
    unfold tryE exm_BadProgram
    dsimp only
    rw [if_pos rfl]
    refine ⟨by simp, ?_⟩
    simp only [mTup, mCons, mNil, mC]
    refine ⟨rfl, ?_⟩
    rw [show List.lookup ("place" : Str) ((["place"] : List Str).zip [D.tup (p.map .int)]) = some (.tup (p.map .int)) by simp [List.lookup]]
    dsimp only
    unfold mXis ans_StoreError
    dsimp only
    rw [if_pos rfl]
    dsimp only
    refine ⟨by simp only [List.length_cons, List.length_nil]; decide, ?_⟩
    exact q s' f
  show mTry _ _ _ _ _ _ _
  unfold mTry
  simp only [startL, List.length_cons, List.length_nil, List.map_cons, List.map_nil, Nat.reduceAdd, Nat.reduceSub, List.replicate, List.cons_append, List.nil_append]
  show mTup _ _ _ _ _
  unfold mMake
  walk_at "mir"
  have f0 : Fr [] s (s ++ [.ins "Program" [] []]) := .push
  refine ⟨s.length, x, n, rfl, by rw [List.getElem?_append_right (Nat.le_refl _), Nat.sub_self]; rfl, g, fun e => bad [] _ f0 (h1 e), fun l e => ?_⟩
  obtain ⟨a, b, c⟩ := h2 l e
  refine ⟨fun p hp => bad p _ f0 (a p hp), fun hf hc => bad [] _ f0 (b hf hc), fun hf hc => ⟨rfl, by decide, ?_⟩⟩
  have := c hf hc
  rw [List.set_append_right _ _ (Nat.le_refl _), Nat.sub_self]
  exact this
theorem pyL_ints : ∀ p : List Int, pyL (p.map .int) = some (p.map .int)
  | [] => by unfold pyL; rfl
  | i :: r => by
    rw [List.map_cons]
    unfold pyL
    rw [pyL_ints r]
    unfold pyD
    rfl
theorem eqv_ints : ∀ p q : List Int, PyData.eqvAll (p.map .int) (q.map .int) = decide (p = q)
  | [], [] => rfl
  | [], _ :: _ => rfl
  | _ :: _, [] => rfl
  | i :: p, j :: q => by
    show (PyData.eqv (.int i) (.int j) && PyData.eqvAll (p.map .int) (q.map .int)) = _
    rw [eqv_ints p q]
    show ((i == j) && _) = _
    rw [Bool.eq_iff_iff]
    simp
theorem canLay_ints : ∀ p : List Int, PyData.canLayAll0 (p.map .int) = true
  | [] => rfl
  | i :: r => by
    show (PyData.canLay0 (.int i) && PyData.canLayAll0 (r.map .int)) = true
    rw [canLay_ints r]
    rfl
theorem depth_ints : ∀ p : List Int, PyData.depthAll (p.map .int) = 0
  | [] => rfl
  | i :: r => by
    show max (PyData.depth (.int i)) (PyData.depthAll (r.map .int)) = 0
    rw [depth_ints r]
    rfl
theorem shaped_ints (p : List Int) : SeqAt.shaped (.tuple (p.map .int)) = true := by
  unfold SeqAt.shaped
  rw [show (PyData.tuple (p.map .int)).canLay0 = PyData.canLayAll0 (p.map .int) by unfold PyData.canLay0; rfl, canLay_ints, show (PyData.tuple (p.map .int)).depth = PyData.depthAll (p.map .int) + 1 by unfold PyData.depth; rfl, depth_ints]
  rfl
theorem pyD_ints (p : List Int) : pyD (.tup (p.map .int)) = some (.tuple (p.map .int)) := by
  unfold pyD
  rw [pyL_ints]
  rfl
theorem p_law_is_place (ds : List D) (s : Sto) (Q : QD) (X : QX) (h : F__law_is_place ds s Q X) : m__law_is_place (startL 3 ds) s (endF Q X) := by
  obtain ⟨p, q, rfl, hp, hq, h⟩ := h
  unfold m__law_is_place
  refine sq_g (b := !decide (p = q)) (fun R Y t => ?_) (fun e => ?_) fun e => ?_
  · simp only [mOrT, mNotT, mTru_eq, isiM_eq, mVar_eq, startL, List.map_cons, List.map_nil, List.length_cons, List.length_nil, Nat.reduceAdd, Nat.reduceSub, List.replicate, List.cons_append, List.nil_append, List.getElem?_cons_zero, tO_some, kd, show ansB "tuple" .tuple = some true by decide +kernel, truD_bl]
    refine iteBt (fun e => by cases e) fun _ => ?_
    walk_at "mir"
    rw [eqD_tup, pyD_ints, pyD_ints]
    refine ⟨shaped_ints p, shaped_ints q, ?_⟩
    show tbl (.bl (!PyData.eqvAll (p.map .int) (q.map .int))) _
    rw [eqv_ints]
    exact t
  · rw [show decide (p = q) = false by simpa using e] at h
    exact h
  · rw [show decide (p = q) = true by simpa using e] at h
    refine ret_do ?_
    walk_at "mir"
    refine lcW_map (fun _ => .bl false) trivial _ (by rw [List.length_map]; unfold sizeLine; omega) (fun d hd R' S' h' => ?_) ?_
    · obtain ⟨i, _, rfl⟩ := List.mem_map.mp hd
      walk_at "mir"
      exact h'
    · rw [anyG_map]
      have : ((p.map D.int).any fun _ => false) = false := by simp
      rw [this]
      walk_at "mir"
      exact h
end K87

set_option Elab.async false
set_option linter.all false
set_option maxRecDepth 100000
set_option maxHeartbeats 1000000
/-! K87T: the law itself, plain part. -/
namespace K87
open PySem PySem.Spec PyProof.Rows L2 Mir
local macro_rules | `(tactic| walk_at "mir") => `(tactic| try simp only [mIfS, mSeqS, mRet, mAsg, gmName, gmTup_tup, gmCons_cons, gmNil, mVar_eq, mC, mOp, mCons, mNil, mTup, mLst, mLstR, mCall, mCB, oneF_eq, mTst_eq, mNotT, mAndT, mOrT, mTru_eq, truD_bl, mUn, mIf, mAndV_eq, mOrV_eq, mNotV_eq, mNeg_eq, mSl, mNoPart, mPart_eq, intD_eq, addD_int, addD_str, addD_tup, addD_vl, ordD_int, ordD_str, mChain_eq, isiM_eq, mNext, mFor, mSeq_eq, tSeq1_str, tSeq1_tup, tSeq1_vl, tSeq1_sq, mRange1_eq, tRng1_int, mEnum_eq, tEnum_tup, mAug_eq, mLc, mYes, startL, endF, tbl_bl, tint_int, tO_some, eqD_int, eqD_str, ixD_tup, ixD_vl, slD_tup, slD_vl, slD_sq, slD_str, lenG_tup, lenG_vl, isBlD_eq, List.length_cons, List.length_nil, List.map_cons, List.map_nil, List.replicate, Nat.reduceAdd, Nat.reduceSub, List.cons_append, List.nil_append, List.append_nil, List.getElem?_cons_succ, List.getElem?_cons_zero, List.set_cons_succ, List.set_cons_zero, true_and, and_true, Bool.not_true, Bool.not_false, Bool.false_eq_true, if_true, if_false, ite_true, ite_false, not_true, not_false_iff, Bool.true_eq_false, reduceCtorEq, wipeL])

def F_law : Fn := fun ds st Q _ => ∃ ns : List Int, ds = [.sq (ns.map .int)] ∧ ns.length ≤ 63 ∧ ∀ st', Q (.bl true) st'
/-- law(_law_script); 0 _law_script, 1 _law_bag_here, 2 _law_names_here, 3 _law_room, 4 _law_aim, 5 _law_block_here, 6 _law_thing, 7 _law_told, 8 _law_due, 9 _law_program, 10 _law_again, 11 _law_other -/
def m_law : WS := (mSeqS (mAsg (mCall 1 F__law_bag (mCons (mVar 0) mNil)) (gmName 1))
    (mSeqS (mAsg (mCall 1 F__law_names (mCons (mVar 1) mNil)) (gmName 2))
    (mSeqS (mAsg (mOp ixD (mLst (mCons (mC (.int 1)) (mCons (mC (.int 2)) (mCons (mC (.int 3)) (mCons (mC (.int 5)) (mCons (mC (.int 8)) (mCons (mC (.int 13)) (mCons (mC (.int 30)) (mCons (mC (.int 80)) (mCons (mC (.int 81)) mNil)))))))))) (mCall 2 F__law_draw (mCons (mVar 1) (mCons (mC (.int 9)) mNil)))) (gmName 3))
    (mSeqS (mAsg (mLstR (mCons (mC (.int 0)) (mCons (mCall 2 F__law_draw (mCons (mVar 1) (mCons (mOp addD (mOp addD (mVar 3) (mOp iDiv (mVar 3) (mC (.int 2)))) (mC (.int 1))) mNil))) (mCons (mCall 2 F__law_draw (mCons (mVar 1) (mCons (mC (.int 4)) mNil))) (mCons (mC (.int 5)) mNil))))) (gmName 4))
    (mSeqS (mIfS (mTst (mOp (eqD false) (mCall 2 F__law_draw (mCons (mVar 1) (mCons (mC (.int 4)) mNil))) (mC (.int 0))))
    (mSub (mC (.int 6)) (mVar 4) (mC (.int 3)))
    mNext)
    (mSeqS (mAsg (mCall 5 F__law_block (mCons (mVar 1) (mCons (mVar 2) (mCons (mVar 3) (mCons (mC (.int 1)) (mCons (mVar 4) mNil)))))) (gmName 5))
    (mSeqS (mFor (mSeq (mLst (mCons (mCB (oneF listG) (mCons (mVar 5) mNil)) (mCons (mC .non) (mCons (mC (.str "")) (mCons (mC (.vd [] [])) (mCons (mC (.int 5)) (mCons (mC (.bl true)) mNil)))))))) (gmName 6)
    (mSeqS (mAsg (mCall 1 F__law_made (mCons (mVar 6) mNil)) (gmName 7))
    (mIfS (mOrT (mTst (mOp (eqD true) (mOp ixD (mVar 7) (mC (.int 0))) (mC (.str "bad")))) (mOrT (mTst (mOp (isBlD true) (mOp ixD (mVar 7) (mC (.int 2))) (mC (.bl true)))) (mNotT (mTru (mCall 2 F__law_is_place (mCons (mOp ixD (mVar 7) (mC (.int 1))) (mCons (mTup mNil) mNil)))))))
    (mRet (mC (.bl false)))
    mNext)))
    (mSeqS (mAsg (mCall 1 F__law_first_bad (mCons (mVar 5) mNil)) (gmName 8))
    (mSeqS (mAsg (mCall 1 F__law_made (mCons (mVar 5) mNil)) (gmName 7))
    (mSeqS (mIfS (mTst (mUn (fun d => .bl (!isNon d)) (mVar 8)))
    (mRet (mAndV (mOp (eqD false) (mOp ixD (mVar 7) (mC (.int 0))) (mC (.str "bad"))) (mAndV (mOp (isBlD false) (mOp ixD (mVar 7) (mC (.int 2))) (mC (.bl true))) (mCall 2 F__law_is_place (mCons (mOp ixD (mVar 7) (mC (.int 1))) (mCons (mVar 8) mNil))))))
    mNext)
    (mSeqS (mIfS (mOrT (mTst (mOp (eqD true) (mOp ixD (mVar 7) (mC (.int 0))) (mC (.str "made")))) (mOrT (mNotT (mTru (isiM (ansB "tuple") (mFld "Program" "block" (mOp ixD (mVar 7) (mC (.int 1))))))) (mTst (mOp (eqD true) (mFld "Program" "block" (mOp ixD (mVar 7) (mC (.int 1)))) (mVar 5)))))
    (mRet (mC (.bl false)))
    mNext)
    (mSeqS (mAsg (mOp ixD (mVar 7) (mC (.int 1))) (gmName 9))
    (mSeqS (mAsg (mMake "Program" 1 F_Program___init__ (mCons (mCB (oneF tupG) (mCons (mCB (oneF listG) (mCons (mVar 5) mNil)) mNil)) mNil)) (gmName 10))
    (mSeqS (mAsg (mMake "Program" 1 F_Program___init__ (mCons (mSl (mVar 5) mNoPart (mPart (mNeg (mC (.int 1))))) mNil)) (gmName 11))
    (mSeqS (mIfS (mOrT (mNotT (mTst (mOp (eqIM "Program" ok_eq_Program F_Program___eq__ false) (mVar 9) (mVar 10)))) (mOrT (mTst (mOp (eqIM "Program" ok_eq_Program F_Program___eq__ true) (mVar 9) (mVar 10))) (mOrT (mTst (mOp (eqIM "Program" ok_eq_Program F_Program___eq__ false) (mVar 9) (mVar 11))) (mNotT (mTst (mOp (eqIM "Program" ok_eq_Program F_Program___eq__ true) (mVar 9) (mVar 11)))))))
    (mRet (mC (.bl false)))
    mNext)
    (mRet (mAndV (mNotV (mOp (eqIM "Program" ok_eq_Program F_Program___eq__ false) (mVar 9) (mVar 5))) (mAndV (mNotV (mOp (eqIM "Program" ok_eq_Program F_Program___eq__ false) (mVar 9) (mC .non))) (mAndV (mNotV (mOp (eqIM "Program" ok_eq_Program F_Program___eq__ false) (mVar 9) (mCB reprF (mCons (mVar 5) mNil)))) (mOp (eqD false) (mFld "Program" "block" (mVar 9)) (mFld "Program" "block" (mVar 10))))))))))))))))))))))
theorem firstI_take {f : Nat → D → Option (List Int)} : ∀ (l : List D) (k j : Nat), firstI f j l = none → firstI f j (l.take k) = none
  | [], k, j, _ => by rw [List.take_nil]; rfl
  | x :: r, 0, j, _ => rfl
  | x :: r, k + 1, j, h => by
    rw [List.take_succ_cons]
    cases e : f j x with
    | some p => rw [firstI_some e] at h; cases h
    | none =>
      rw [firstI_none e] at h ⊢
      exact firstI_take r k (j + 1) h
theorem fb_but {m : Nat} {l : List D} (h : fb m l = none) : fb m l.dropLast = none := by
  rw [fb_eq] at h ⊢
  rw [List.dropLast_eq_take]
  exact firstI_take l _ 0 h
theorem cnt_but {m : Nat} {l : List D} : cnt m l.dropLast ≤ cnt m l := by
  rcases List.eq_nil_or_concat l with rfl | ⟨r, x, rfl⟩
  · exact Nat.le_refl _
  · rw [List.concat_eq_append, List.dropLast_concat, cnt_eq, cnt_eq]
    simp
    omega
theorem eqv_len : ∀ (p q : List PyData), p.length ≠ q.length → PyData.eqvAll p q = false
  | [], [], h => (h rfl).elim
  | [], _ :: _, _ => rfl
  | _ :: _, [], _ => rfl
  | x :: p, y :: q, h => by
    show (PyData.eqv x y && PyData.eqvAll p q) = false
    rw [eqv_len p q (by simpa using h)]
    simp
theorem Gd.but {n : Nat} {l : List D} (g : Gd n (.tup l)) : Gd n (.tup l.dropLast) := by
  cases n with
  | zero => exact g.elim
  | succ n => exact ⟨by have := g.1; rw [List.length_dropLast]; omega, fun x hx => g.2 x (List.dropLast_subset l hx)⟩
theorem make_prog {l : List D} {n : Nat} {st : Sto} {R : QD} {Y : QX} (g : Gd n (.tup l)) (hf : fb 4 l = none) (hc : cnt 4 l ≤ 80) (k : R (.ref st.length) (st ++ [progO l])) :
    F_Program___init__ (.ref st.length :: [.tup l]) (st ++ [.ins "Program" [] []]) (fun d s2 => isNon d = true ∧ R (.ref st.length) s2) Y := by
  refine ⟨st.length, .tup l, n, rfl, by rw [List.getElem?_append_right (Nat.le_refl _), Nat.sub_self]; rfl, g, (fun e => by cases e), fun l' e => ?_⟩
  cases e
  refine ⟨(fun p e => by rw [hf] at e; cases e), (fun _ h => by omega), fun _ _ => ⟨rfl, ?_⟩⟩
  rw [List.set_append_right _ _ (Nat.le_refl _), Nat.sub_self]
  exact k
theorem ins_prog {s : Sto} {i : Nat} {l : List D} (h : s[i]? = some (progO l)) : insD "Program" s (.ref i) = some ([("block" : Str)], [D.tup l]) ∧ kd s (.ref i) = some (.own "Program") := by
  unfold insD kd
  dsimp only
  rw [h]
  exact ⟨rfl, rfl⟩
theorem eq_prog {neg : Bool} {s : Sto} {i j : Nat} {l l' : List D} {p p' : PyData} {R : QD} {Y : QX} (hi : s[i]? = some (progO l)) (hj : s[j]? = some (progO l')) (hp : pyD (.tup l) = some p) (hp' : pyD (.tup l') = some p') (sp : SeqAt.shaped p = true) (sp' : SeqAt.shaped p' = true)
    (q : R (.bl (if neg = true then !PyData.eqv p p' else PyData.eqv p p')) s) : eqIM "Program" ok_eq_Program F_Program___eq__ neg (.ref i) (.ref j) s R Y :=
  ⟨(ins_prog hi).2, ⟨_, (ins_prog hj).2, by decide +kernel⟩, .ref i, .ref j, l, p, rfl, (ins_prog hi).1, hp, sp, .inl ⟨l', p', (ins_prog hj).2, (ins_prog hj).1, hp', sp', q⟩⟩
theorem eq_other {neg : Bool} {s : Sto} {i : Nat} {y : D} {k : Kd} {l : List D} {p : PyData} {R : QD} {Y : QX} (hi : s[i]? = some (progO l)) (hp : pyD (.tup l) = some p) (sp : SeqAt.shaped p = true) (hk : kd s y = some k) (ho : ok_eq_Program k = true) (ha : ans_Program k = some false)
    (q : R (.bl (if neg = true then !false else false)) s) : eqIM "Program" ok_eq_Program F_Program___eq__ neg (.ref i) y s R Y :=
  ⟨(ins_prog hi).2, ⟨_, hk, ho⟩, .ref i, y, l, p, rfl, (ins_prog hi).1, hp, sp, .inr ⟨k, hk, ha, q⟩⟩
/-- behind the block that is drawn -/
abbrev lawEnd : WS := 
    (mSeqS (mFor (mSeq (mLst (mCons (mCB (oneF listG) (mCons (mVar 5) mNil)) (mCons (mC .non) (mCons (mC (.str "")) (mCons (mC (.vd [] [])) (mCons (mC (.int 5)) (mCons (mC (.bl true)) mNil)))))))) (gmName 6)
    (mSeqS (mAsg (mCall 1 F__law_made (mCons (mVar 6) mNil)) (gmName 7))
    (mIfS (mOrT (mTst (mOp (eqD true) (mOp ixD (mVar 7) (mC (.int 0))) (mC (.str "bad")))) (mOrT (mTst (mOp (isBlD true) (mOp ixD (mVar 7) (mC (.int 2))) (mC (.bl true)))) (mNotT (mTru (mCall 2 F__law_is_place (mCons (mOp ixD (mVar 7) (mC (.int 1))) (mCons (mTup mNil) mNil)))))))
    (mRet (mC (.bl false)))
    mNext)))
    (mSeqS (mAsg (mCall 1 F__law_first_bad (mCons (mVar 5) mNil)) (gmName 8))
    (mSeqS (mAsg (mCall 1 F__law_made (mCons (mVar 5) mNil)) (gmName 7))
    (mSeqS (mIfS (mTst (mUn (fun d => .bl (!isNon d)) (mVar 8)))
    (mRet (mAndV (mOp (eqD false) (mOp ixD (mVar 7) (mC (.int 0))) (mC (.str "bad"))) (mAndV (mOp (isBlD false) (mOp ixD (mVar 7) (mC (.int 2))) (mC (.bl true))) (mCall 2 F__law_is_place (mCons (mOp ixD (mVar 7) (mC (.int 1))) (mCons (mVar 8) mNil))))))
    mNext)
    (mSeqS (mIfS (mOrT (mTst (mOp (eqD true) (mOp ixD (mVar 7) (mC (.int 0))) (mC (.str "made")))) (mOrT (mNotT (mTru (isiM (ansB "tuple") (mFld "Program" "block" (mOp ixD (mVar 7) (mC (.int 1))))))) (mTst (mOp (eqD true) (mFld "Program" "block" (mOp ixD (mVar 7) (mC (.int 1)))) (mVar 5)))))
    (mRet (mC (.bl false)))
    mNext)
    (mSeqS (mAsg (mOp ixD (mVar 7) (mC (.int 1))) (gmName 9))
    (mSeqS (mAsg (mMake "Program" 1 F_Program___init__ (mCons (mCB (oneF tupG) (mCons (mCB (oneF listG) (mCons (mVar 5) mNil)) mNil)) mNil)) (gmName 10))
    (mSeqS (mAsg (mMake "Program" 1 F_Program___init__ (mCons (mSl (mVar 5) mNoPart (mPart (mNeg (mC (.int 1))))) mNil)) (gmName 11))
    (mSeqS (mIfS (mOrT (mNotT (mTst (mOp (eqIM "Program" ok_eq_Program F_Program___eq__ false) (mVar 9) (mVar 10)))) (mOrT (mTst (mOp (eqIM "Program" ok_eq_Program F_Program___eq__ true) (mVar 9) (mVar 10))) (mOrT (mTst (mOp (eqIM "Program" ok_eq_Program F_Program___eq__ false) (mVar 9) (mVar 11))) (mNotT (mTst (mOp (eqIM "Program" ok_eq_Program F_Program___eq__ true) (mVar 9) (mVar 11)))))))
    (mRet (mC (.bl false)))
    mNext)
    (mRet (mAndV (mNotV (mOp (eqIM "Program" ok_eq_Program F_Program___eq__ false) (mVar 9) (mVar 5))) (mAndV (mNotV (mOp (eqIM "Program" ok_eq_Program F_Program___eq__ false) (mVar 9) (mC .non))) (mAndV (mNotV (mOp (eqIM "Program" ok_eq_Program F_Program___eq__ false) (mVar 9) (mCB reprF (mCons (mVar 5) mNil)))) (mOp (eqD false) (mFld "Program" "block" (mVar 9)) (mFld "Program" "block" (mVar 10))))))))))))))))
theorem p_law_end {l : List D} {n : Nat} {v0 v1 v2 v3 v4 v6 v7 v8 v9 v10 v11 : Option D} {s : Sto} {Q : QD} {X : QX} (g : Gd n (.tup l)) (hn : n ≤ 30) (hc : cnt 4 l ≤ 405) (hl : l ≠ []) (q : ∀ st', Q (.bl true) st') :
    lawEnd [v0, v1, v2, v3, v4, some (.tup l), v6, v7, v8, v9, v10, v11] s (endF Q X) := by
  unfold lawEnd
  have badN : ∀ {R : QD} {Y : QX} {st : Sto} {x : D}, isT x = false → Gd 30 x → (∀ st', R (badD []) st') → F__law_made [x] st R Y := fun ht gx k => ⟨_, 30, rfl, gx, fun _ st' _ => k st', fun l e => by subst e; cases ht⟩
  have gl : Gd 30 (.tup l) := g.mono hn
  -- the six things that are no block
  refine sq_forI (its := [.vl l, .non, .str "", .vd [] [], .int 5, .bl true]) (gd := fun _ => True) (fun R Y t => ?_) ?_
  · walk_at "mir"
    rw [show listG s (.tup l) = some (.vl l) from rfl]
    walk_at "mir"
    exact ⟨by decide, t⟩
  refine loop_inv (fun its lo s' => (∀ x ∈ its, isT x = false ∧ Gd 30 x) ∧ ∃ v6 v7, lo = [v0, v1, v2, v3, v4, some (.tup l), v6, v7, v8, v9, v10, v11]) ⟨?_, _, _, rfl⟩ (fun _ _ _ _ => trivial) ?_ ?_
  · intro x hx
    simp only [List.mem_cons, List.not_mem_nil, or_false] at hx
    rcases hx with rfl | rfl | rfl | rfl | rfl | rfl
    · refine ⟨rfl, ?_⟩
      have g2 := gl
      exact ⟨g2.1, g2.2⟩
    · exact ⟨rfl, trivial⟩
    · exact ⟨rfl, by decide, by decide +kernel⟩
    · exact ⟨rfl, rfl, rfl⟩
    · exact ⟨rfl, trivial⟩
    · exact ⟨rfl, trivial⟩
  · rintro lo s' ⟨_, v6, v7, rfl⟩
    dsimp only
    refine sq_setA (fun d s1 => d = dueD l) (fun R Y k => ?_) fun d s1 e => ?_
    · walk_at "mir"
      exact ⟨l, n, rfl, g, hn, hc, fun st' _ => k _ _ rfl⟩
    subst e
    simp only [List.set_cons_succ, List.set_cons_zero]
    have two : (∃ p : List Int, p.length ≤ 1000 ∧ dueD l = .tup (p.map .int) ∧ ∀ R : QD, (∀ st', R (badD p) st') → MadeQ (.tup l) s1 R) ∨ (fb 4 l = none ∧ cnt 4 l ≤ 80 ∧ dueD l = .non) := by
      unfold dueD
      cases hf : fb 4 l with
      | some p => exact .inl ⟨p, by have := fb_short 4 l p hf; omega, rfl, fun R k => ⟨(fun e => by cases e), fun l' e => by
          cases e
          exact ⟨(fun p' e st' _ => by rw [hf] at e; cases e; exact k st'), (fun e => by rw [hf] at e; cases e), (fun e => by rw [hf] at e; cases e)⟩⟩⟩
      | none =>
        by_cases h80 : 80 < cnt 4 l
        · refine .inl ⟨[], by simp, by simp [h80], fun R k => ⟨(fun e => by cases e), fun l' e => by
            cases e
            exact ⟨(fun p' e => by rw [hf] at e; cases e), fun _ _ st' _ => k st', fun _ h => by omega⟩⟩⟩
        · exact .inr ⟨rfl, by omega, by simp [h80]⟩
    rcases two with ⟨p, hp, hd, hm⟩ | ⟨hf, h80, hd⟩
    · refine sq_setA (fun d _ => d = badD p) (fun R Y k => ?_) fun d s2 e => ?_
      · walk_at "mir"
        exact ⟨_, 30, rfl, gl, hm R fun st' => k _ _ rfl⟩
      subst e
      simp only [List.set_cons_succ, List.set_cons_zero]
      rw [hd]
      refine sq_g (b := true) (fun R Y t => ?_) (fun _ => ?_) (fun e => by cases e)
      · walk_at "mir"
        exact t
      · unfold badD
        walk_at "mir"
        rw [atI_zero, tO_some, eqD_str, tbl_bl]
        refine iteBt (fun _ => ?_) fun e => by cases e
        rw [atI_two, tO_some, isBlD_eq, tbl_bl]
        refine iteBt (fun _ => ?_) fun e => by cases e
        rw [atI_one, tO_some]
        refine ⟨p, p, rfl, hp, hp, ?_⟩
        rw [decide_eq_true rfl]
        exact q s2
    · refine sq_setA (fun d s2 => d = .tup [.str "made", .ref s1.length] ∧ s2 = s1 ++ [progO l]) (fun R Y k => ?_) fun d s2 ⟨e1, e2⟩ => ?_
      · walk_at "mir"
        exact ⟨_, 30, rfl, gl, (fun e => by cases e), fun l' e => by
          cases e
          exact ⟨(fun p e => by rw [hf] at e; cases e), (fun _ h => by omega), fun _ _ => k _ _ ⟨rfl, rfl⟩⟩⟩
      subst e1
      simp only [List.set_cons_succ, List.set_cons_zero]
      rw [hd]
      refine sq_g (b := false) (fun R Y t => ?_) (fun e => by cases e) fun _ => ?_
      · walk_at "mir"
        exact t
      have hi : s2[s1.length]? = some (progO l) := by
        rw [e2, List.getElem?_append_right (Nat.le_refl _), Nat.sub_self]
        rfl
      obtain ⟨ps, e3, e4, e5, e6, e7, e8, e9⟩ := good_data g hf h80
      have eD : pyD (.tup l) = some (.tuple ps) := by
        unfold pyD
        rw [e3]
        rfl
      have eqS : PyData.eqv (.tuple ps) (.tuple ps) = true := SeqAt.eqv_refl _ (SeqAt.canLay_of_shaped e5)
      have ib : insD "Program" s2 (.ref s1.length) = some ([("block" : Str)], [D.tup l]) := by
        unfold insD
        dsimp only
        rw [hi]
        rfl
      refine sq_g (b := false) (fun R Y t => ?_) (fun e => by cases e) fun _ => ?_
      · walk_at "mir"
        rw [atI_zero, tO_some, eqD_str, tbl_bl]
        refine iteBt (fun e => by cases e) fun _ => ?_
        simp only [mFld_eq]
        walk_at "mir"
        rw [atI_one, tO_some, ib, tO_some]
        have lk : List.lookup ("block" : Str) ((["block"] : List Str).zip [D.tup l]) = some (.tup l) := by simp [List.lookup]
        rw [lk, tO_some]
        simp only [kd, tO_some, show ansB "tuple" .tuple = some true by decide +kernel]
        refine iteBt (fun e => by cases e) fun _ => ?_
        rw [ib, tO_some, lk, tO_some, eqD_tup, eD]
        refine ⟨e5, e5, ?_⟩
        rw [tbl_bl, eqS]
        exact t
      refine sq_set (d := .ref s1.length) (fun R Y t => ?_) ?_
      · walk_at "mir"
        rw [atI_one]
        exact t
      refine sq_setA (fun d s3 => d = .ref s2.length ∧ s3 = s2 ++ [progO l]) (fun R Y k => ?_) fun d s3 ⟨e10, e11⟩ => ?_
      · unfold mMake
        walk_at "mir"
        rw [show listG s2 (.tup l) = some (.vl l) from rfl]
        walk_at "mir"
        rw [show tupG s2 (.vl l) = some (.tup l) from rfl]
        walk_at "mir"
        exact make_prog g hf h80 (k _ _ ⟨rfl, rfl⟩)
      subst e10
      refine sq_setA (fun d s4 => d = .ref s3.length ∧ s4 = s3 ++ [progO l.dropLast]) (fun R Y k => ?_) fun d s4 ⟨e12, e13⟩ => ?_
      · unfold mMake
        walk_at "mir"
        rw [cutD_but]
        exact make_prog g.but (fb_but hf) (Nat.le_trans cnt_but h80) (k _ _ ⟨rfl, rfl⟩)
      subst e12
      simp only [List.set_cons_succ, List.set_cons_zero]
      have l2 : s1.length < s2.length := (List.getElem?_eq_some_iff.mp hi).1
      have l3 : s2.length < s3.length := by rw [e11]; simp
      have i1 : s4[s1.length]? = some (progO l) := by
        rw [e13, List.getElem?_append_left (by omega), e11, List.getElem?_append_left l2]
        exact hi
      have i2 : s4[s2.length]? = some (progO l) := by
        rw [e13, List.getElem?_append_left (by omega), e11, List.getElem?_append_right (Nat.le_refl _), Nat.sub_self]
        rfl
      have i3 : s4[s3.length]? = some (progO l.dropLast) := by
        rw [e13, List.getElem?_append_right (Nat.le_refl _), Nat.sub_self]
        rfl
      obtain ⟨pt, f3, f4, f5, f6, f7, f8, f9⟩ := good_data g.but (fb_but hf) (Nat.le_trans cnt_but h80)
      have fD : pyD (.tup l.dropLast) = some (.tuple pt) := by
        unfold pyD
        rw [f3]
        rfl
      have ne : PyData.eqv (.tuple ps) (.tuple pt) = false := by
        show PyData.eqvAll ps pt = false
        refine eqv_len _ _ ?_
        rw [e4, f4, List.length_dropLast]
        have := List.length_pos_iff.mpr hl
        omega
      refine sq_g (b := false) (fun R Y t => ?_) (fun e => by cases e) fun _ => ?_
      · walk_at "mir"
        refine eq_prog i1 i2 eD eD e5 e5 ?_
        rw [eqS]
        simp only [Bool.false_eq_true, if_false, if_true, Bool.not_true, Bool.not_false, tbl_bl]
        refine eq_prog i1 i2 eD eD e5 e5 ?_
        rw [eqS]
        simp only [Bool.false_eq_true, if_false, if_true, Bool.not_true, Bool.not_false, tbl_bl]
        refine eq_prog i1 i3 eD fD e5 f5 ?_
        rw [ne]
        simp only [Bool.false_eq_true, if_false, if_true, Bool.not_true, Bool.not_false, tbl_bl]
        refine eq_prog i1 i3 eD fD e5 f5 ?_
        rw [ne]
        exact t
      refine ret_do ?_
      walk_at "mir"
      refine eq_other i1 eD e5 (k := .tuple) rfl rfl rfl ?_
      simp only [Bool.false_eq_true, if_false, if_true, Bool.not_true, Bool.not_false, tbl_bl]
      refine eq_other i1 eD e5 (k := .non) rfl rfl rfl ?_
      simp only [Bool.false_eq_true, if_false, if_true, Bool.not_true, Bool.not_false, tbl_bl]
      have er : reprG s4 (.tup l) = some (.str (PyData.tuple ps).shown) := by
        unfold reprG
        rw [show pyA s4 (.tup l) = some (.tuple ps) from eD]
        dsimp only
        rw [if_pos (by rw [e6, e7, decide_eq_true e8, decide_eq_true e9]; rfl)]
      refine ⟨rfl, ?_⟩
      rw [er]
      dsimp only
      refine eq_other i1 eD e5 (k := .str) rfl rfl rfl ?_
      simp only [Bool.false_eq_true, if_false, if_true, Bool.not_true, Bool.not_false, tbl_bl]
      rw [mFld_eq]
      walk_at "mir"
      rw [(ins_prog i1).1, tO_some]
      have lk : List.lookup ("block" : Str) ((["block"] : List Str).zip [D.tup l]) = some (.tup l) := by simp [List.lookup]
      rw [lk, tO_some, mFld_eq]
      walk_at "mir"
      rw [(ins_prog i2).1, tO_some, lk, tO_some, eqD_tup, eD]
      refine ⟨e5, e5, ?_⟩
      rw [eqS]
      exact q s4
  · rintro d r lo s' ⟨hx, v6, v7, rfl⟩ N hN
    simp only [gmName, List.set_cons_succ, List.set_cons_zero]
    obtain ⟨hd, gd⟩ := hx d (by simp)
    refine sq_setA (fun y _ => y = badD []) (fun R Y k => ?_) fun y s2 e => ?_
    · walk_at "mir"
      exact badN hd gd fun st' => k _ _ rfl
    subst e
    simp only [List.set_cons_succ, List.set_cons_zero]
    refine if_b (b := false) (fun R Y t => ?_) (fun e => by cases e) fun _ => hN _ _ ⟨fun x h => hx x (by simp [h]), _, _, rfl⟩
    unfold badD
    walk_at "mir"
    rw [atI_zero, tO_some, eqD_str, tbl_bl]
    refine iteBt (fun e => by cases e) fun _ => ?_
    rw [atI_two, tO_some, isBlD_eq, tbl_bl]
    refine iteBt (fun e => by cases e) fun _ => ?_
    rw [atI_one, tO_some]
    refine ⟨by decide, [], [], rfl, by decide, by decide, ?_⟩
    show R (!decide (([] : List Int) = [])) s2
    exact t
theorem p_law (ds : List D) (s : Sto) (Q : QD) (X : QX) (h : F_law ds s Q X) : m_law (startL 12 ds) s (endF Q X) := by
  obtain ⟨ns, rfl, hn, q⟩ := h
  unfold m_law
  simp only [startL, List.length_cons, List.length_nil, List.map_cons, List.map_nil, Nat.reduceAdd, Nat.reduceSub, List.replicate, List.cons_append, List.nil_append]
  refine sq_setA (fun d s1 => d = .ref s.length ∧ BagAt s1 s.length) (fun R Y k => ?_) fun d s1 ⟨e1, bg1⟩ => ?_
  · walk_at "mir"
    exact ⟨ns, rfl, hn, fun st' bg f => k _ _ ⟨rfl, bg⟩⟩
  subst e1
  generalize hb : s.length = b at bg1
  simp only [List.set_cons_succ, List.set_cons_zero]
  refine sq_setA (fun d s2 => d = .ref s1.length ∧ BN s2 b s1.length) (fun R Y k => ?_) fun d s2 ⟨e1, bn2⟩ => ?_
  · walk_at "mir"
    exact ⟨b, rfl, bg1, fun st' f bg nm => k _ _ ⟨rfl, bg, nm, by have := bg1.lt; omega⟩⟩
  subst e1
  generalize s1.length = m at bn2
  simp only [List.set_cons_succ, List.set_cons_zero]
  refine sq_setA (fun d s3 => ∃ room : Int, d = .int room ∧ 1 ≤ room ∧ room ≤ 81 ∧ BN s3 b m) (fun R Y k => ?_) fun d s3 ⟨room, e1, r1, r2, bn3⟩ => ?_
  · walk_at "mir"
    refine ⟨by decide, b, 9, rfl, bn2.bg, by decide, by decide, fun v st' v0 v1 f bg => ?_⟩
    walk_at "mir"
    obtain ⟨y, hy, hm⟩ := atI_in (l := [D.int 1, .int 2, .int 3, .int 5, .int 8, .int 13, .int 30, .int 80, .int 81]) v0 (by simpa using v1)
    rw [hy, tO_some]
    have : ∃ room : Int, y = .int room ∧ 1 ≤ room ∧ room ≤ 81 := by
      simp only [List.mem_cons, List.not_mem_nil, or_false] at hm
      rcases hm with rfl | rfl | rfl | rfl | rfl | rfl | rfl | rfl | rfl <;> exact ⟨_, rfl, by decide, by decide⟩
    obtain ⟨room, e, a1, a2⟩ := this
    exact k _ _ ⟨room, e, a1, a2, bn2.to f bg⟩
  subst e1
  simp only [List.set_cons_succ, List.set_cons_zero]
  refine sq_setA (fun d s4 => ∃ a, d = .ref a ∧ Env3 s4 b m a 5) (fun R Y k => ?_) fun d s4 ⟨a, e1, ev⟩ => ?_
  · walk_at "mir"
    refine ⟨by unfold CDiv; omega, ?_⟩
    refine ⟨b, _, rfl, bn3.bg, by omega, by omega, fun v st' v0 v1 f bg => ?_⟩
    walk_at "mir"
    have bn4 := bn3.to f bg
    refine ⟨b, _, rfl, bn4.bg, by decide, by decide, fun v' st2 v0' v1' f2 bg2 => ?_⟩
    walk_at "mir"
    have bn5 := bn4.to f2 bg2
    refine ⟨by decide, k _ _ ⟨_, rfl, ⟨bn5.to .push bn5.bg.push, ⟨0, v, v', ?_⟩, ?_, ?_⟩⟩⟩
    · rw [List.getElem?_append_right (Nat.le_refl _), Nat.sub_self]
      rfl
    · have := bn5.bg.lt
      omega
    · obtain ⟨ns', hs', _⟩ := bn5.nm
      have := (List.getElem?_eq_some_iff.mp hs').1
      omega
  subst e1
  simp only [List.set_cons_succ, List.set_cons_zero]
  -- behind the aim
  have rest : ∀ (z : Int) (s5 : Sto), z = 5 ∨ z = 6 → Env3 s5 b m a z → mSeqS (mAsg (mCall 5 F__law_block (mCons (mVar 1) (mCons (mVar 2) (mCons (mVar 3) (mCons (mC (.int 1)) (mCons (mVar 4) mNil)))))) (gmName 5)) lawEnd
      [some (.sq (ns.map .int)), some (.ref b), some (.ref m), some (.int room), some (.ref a), none, none, none, none, none, none, none] s5 (endF Q X) := fun z s5 hz ev5 => by
    refine sq_setA (fun d s6 => BlkOk' 5 room d) (fun R Y k => ?_) fun d s6 ⟨l, e, g, hc, hl⟩ => ?_
    · walk_at "mir"
      exact ⟨b, m, a, room, 1, z, rfl, ev5, by omega, by omega, by omega, by omega, fun x st' h _ _ _ => k _ _ h⟩
    subst e
    simp only [List.set_cons_succ, List.set_cons_zero]
    exact p_law_end g (by decide) (by have := hc 4; omega) (hl (by omega)) q
  refine sq_iA (fun _ s5 => Env3 s5 b m a 5) (fun R Y k => ?_) (fun s5 ev5 => ?_) fun s5 ev5 => rest 5 s5 (.inl rfl) ev5
  · walk_at "mir"
    refine ⟨b, _, rfl, ev.bn.bg, by decide, by decide, fun v st' v0 v1 f bg => ?_⟩
    walk_at "mir"
    exact k _ _ (ev.draw f bg)
  · obtain ⟨h1, h2, h3, ha⟩ := ev5.am
    have hlt := (List.getElem?_eq_some_iff.mp ha).1
    show setD (.ref a) (.int 3) (.int 6) s5 _
    refine setD_at (j := 3) (l := [.int h1, .int h2, .int h3, .int 5]) ha rfl ?_
    refine rest 6 _ (.inr rfl) ⟨⟨ev5.bn.bg.setN ev5.ab, ev5.bn.nm.keep (S := [a]) (.set (by simp)) (by simp; exact fun e => ev5.an e.symm), ev5.bn.ne⟩, ⟨h1, h2, h3, set_get hlt⟩, ev5.ab, ev5.an⟩
end K87

set_option Elab.async false
set_option linter.all false
set_option maxRecDepth 100000
set_option maxHeartbeats 4000000
/-! K87Z: the text, each def's promise kept, the head. -/
namespace K87
open PySem PySem.Spec PyProof.Rows L2 Mir
def top (i : Nat) : Stmt := PySem.Challenge.pw_wholecommits_k87_whole_programs_judged.main.body.getD i (.Pass ⟨0, 0, 0, 0⟩)
abbrev s_is_integer : Stmt := top 4
theorem sc_is_integer : FnScope ["thing"] ["thing"] (defScope s_is_integer) := ⟨rfl, rfl, rfl, by decide +kernel, rfl, by decide +kernel, by decide +kernel⟩
abbrev s_is_within : Stmt := top 5
theorem sc_is_within : FnScope ["thing", "least", "most"] ["thing", "least", "most"] (defScope s_is_within) := ⟨rfl, rfl, rfl, by decide +kernel, rfl, by decide +kernel, by decide +kernel⟩
abbrev s_is_key : Stmt := top 6
theorem sc_is_key : FnScope ["thing", "sign"] ["thing"] (defScope s_is_key) := ⟨rfl, rfl, rfl, by decide +kernel, rfl, by decide +kernel, by decide +kernel⟩
abbrev s_is_name : Stmt := top 20
theorem sc_is_name : FnScope ["thing", "sign"] ["thing"] (defScope s_is_name) := ⟨rfl, rfl, rfl, by decide +kernel, rfl, by decide +kernel, by decide +kernel⟩
abbrev s_parts_in : Stmt := top 21
theorem sc_parts_in : FnScope ["thing", "deep", "found", "part", "many"] ["thing", "deep"] (defScope s_parts_in) := ⟨rfl, rfl, rfl, by decide +kernel, rfl, by decide +kernel, by decide +kernel⟩
abbrev s_is_expression : Stmt := top 22
theorem sc_is_expression : FnScope ["thing", "many"] ["thing"] (defScope s_is_expression) := ⟨rfl, rfl, rfl, by decide +kernel, rfl, by decide +kernel, by decide +kernel⟩
abbrev s_is_plain_statement : Stmt := top 23
theorem sc_is_plain_statement : FnScope ["thing", "word"] ["thing"] (defScope s_is_plain_statement) := ⟨rfl, rfl, rfl, by decide +kernel, rfl, by decide +kernel, by decide +kernel⟩
abbrev s_has_own_parts : Stmt := top 24
theorem sc_has_own_parts : FnScope ["thing", "word"] ["thing"] (defScope s_has_own_parts) := ⟨rfl, rfl, rfl, by decide +kernel, rfl, by decide +kernel, by decide +kernel⟩
abbrev s_blocks_of : Stmt := top 25
theorem sc_blocks_of : FnScope ["statement"] ["statement"] (defScope s_blocks_of) := ⟨rfl, rfl, rfl, by decide +kernel, rfl, by decide +kernel, by decide +kernel⟩
abbrev s_first_bad : Stmt := top 26
theorem sc_first_bad : FnScope ["block", "deep", "number", "thing", "one", "side", "found"] ["block", "deep"] (defScope s_first_bad) := ⟨rfl, rfl, rfl, by decide +kernel, rfl, by decide +kernel, by decide +kernel⟩
abbrev s_statements_in : Stmt := top 27
theorem sc_statements_in : FnScope ["block", "found", "statement", "one"] ["block"] (defScope s_statements_in) := ⟨rfl, rfl, rfl, by decide +kernel, rfl, by decide +kernel, by decide +kernel⟩
abbrev s_Program___init__ : Stmt := inClass (top 28) 0
theorem sc_Program___init__ : FnScope ["self", "block", "found"] ["self", "block"] (defScope s_Program___init__) := ⟨rfl, rfl, rfl, by decide +kernel, rfl, by decide +kernel, by decide +kernel⟩
abbrev s_Program___eq__ : Stmt := inClass (top 28) 1
theorem sc_Program___eq__ : FnScope ["self", "other"] ["self", "other"] (defScope s_Program___eq__) := ⟨rfl, rfl, rfl, by decide +kernel, rfl, by decide +kernel, by decide +kernel⟩
abbrev s__law_mixed : Stmt := top 30
theorem sc__law_mixed : FnScope ["_law_cell", "_law_turn", "_law_number"] ["_law_cell", "_law_turn"] (defScope s__law_mixed) := ⟨rfl, rfl, rfl, by decide +kernel, rfl, by decide +kernel, by decide +kernel⟩
abbrev s__law_bag : Stmt := top 31
theorem sc__law_bag : FnScope ["_law_script", "_law_cell"] ["_law_script"] (defScope s__law_bag) := ⟨rfl, rfl, rfl, by decide +kernel, rfl, by decide +kernel, by decide +kernel⟩
abbrev s__law_draw : Stmt := top 32
theorem sc__law_draw : FnScope ["_law_bag_here", "_law_many", "_law_found", "_law_cells", "_law_at", "_law_cell"] ["_law_bag_here", "_law_many"] (defScope s__law_draw) := ⟨rfl, rfl, rfl, by decide +kernel, rfl, by decide +kernel, by decide +kernel⟩
abbrev s__law_word : Stmt := top 33
theorem sc__law_word : FnScope ["_law_bag_here", "_law_most", "_law_letters", "_law_found", "_law_k"] ["_law_bag_here", "_law_most"] (defScope s__law_word) := ⟨rfl, rfl, rfl, by decide +kernel, rfl, by decide +kernel, by decide +kernel⟩
abbrev s__law_kept_words : Stmt := top 34
theorem sc__law_kept_words : FnScope ["_law_found"] [] (defScope s__law_kept_words) := ⟨rfl, rfl, rfl, by decide +kernel, rfl, by decide +kernel, by decide +kernel⟩
abbrev s__law_names : Stmt := top 35
theorem sc__law_names : FnScope ["_law_bag_here", "_law_found", "_law_k", "_law_name"] ["_law_bag_here"] (defScope s__law_names) := ⟨rfl, rfl, rfl, by decide +kernel, rfl, by decide +kernel, by decide +kernel⟩
abbrev s__law_leaf : Stmt := top 36
theorem sc__law_leaf : FnScope ["_law_bag_here", "_law_names_here", "_law_kind"] ["_law_bag_here", "_law_names_here"] (defScope s__law_leaf) := ⟨rfl, rfl, rfl, by decide +kernel, rfl, by decide +kernel, by decide +kernel⟩
abbrev s__law_expression : Stmt := top 37
theorem sc__law_expression : FnScope ["_law_bag_here", "_law_names_here", "_law_room", "_law_deep", "_law_shape", "_law_left", "_law_sign", "_law_one"] ["_law_bag_here", "_law_names_here", "_law_room", "_law_deep", "_law_shape"] (defScope s__law_expression) := ⟨rfl, rfl, rfl, by decide +kernel, rfl, by decide +kernel, by decide +kernel⟩
abbrev s__law_plain : Stmt := top 38
theorem sc__law_plain : FnScope ["_law_bag_here", "_law_names_here", "_law_is_wild", "_law_room"] ["_law_bag_here", "_law_names_here", "_law_is_wild"] (defScope s__law_plain) := ⟨rfl, rfl, rfl, by decide +kernel, rfl, by decide +kernel, by decide +kernel⟩
abbrev s__law_strange : Stmt := top 39
theorem sc__law_strange : FnScope ["_law_bag_here", "_law_kind", "_law_one", "_law_wrong"] ["_law_bag_here"] (defScope s__law_strange) := ⟨rfl, rfl, rfl, by decide +kernel, rfl, by decide +kernel, by decide +kernel⟩
abbrev s__law_spoiled : Stmt := top 40
theorem sc__law_spoiled : FnScope ["_law_bag_here", "_law_made_here", "_law_kind", "_law_here"] ["_law_bag_here", "_law_made_here"] (defScope s__law_spoiled) := ⟨rfl, rfl, rfl, by decide +kernel, rfl, by decide +kernel, by decide +kernel⟩
abbrev s__law_statement : Stmt := top 41
theorem sc__law_statement : FnScope ["_law_bag_here", "_law_names_here", "_law_inner", "_law_deep", "_law_aim", "_law_here", "_law_is_wild", "_law_kind", "_law_first", "_law_name", "_law_some", "_law_block_here", "_law_made_here", "_law_other"] ["_law_bag_here", "_law_names_here", "_law_inner", "_law_deep", "_law_aim"] (defScope s__law_statement) := ⟨rfl, rfl, rfl, by decide +kernel, rfl, by decide +kernel, by decide +kernel⟩
abbrev s__law_block : Stmt := top 42
theorem sc__law_block : FnScope ["_law_bag_here", "_law_names_here", "_law_room", "_law_deep", "_law_aim", "_law_found", "_law_left", "_law_k", "_law_inner"] ["_law_bag_here", "_law_names_here", "_law_room", "_law_deep", "_law_aim"] (defScope s__law_block) := ⟨rfl, rfl, rfl, by decide +kernel, rfl, by decide +kernel, by decide +kernel⟩
abbrev s__law_is_whole : Stmt := top 43
theorem sc__law_is_whole : FnScope ["_law_thing", "_law_least", "_law_most"] ["_law_thing", "_law_least", "_law_most"] (defScope s__law_is_whole) := ⟨rfl, rfl, rfl, by decide +kernel, rfl, by decide +kernel, by decide +kernel⟩
abbrev s__law_is_letters : Stmt := top 44
theorem sc__law_is_letters : FnScope ["_law_thing", "_law_most", "_law_sign"] ["_law_thing", "_law_most"] (defScope s__law_is_letters) := ⟨rfl, rfl, rfl, by decide +kernel, rfl, by decide +kernel, by decide +kernel⟩
abbrev s__law_is_name : Stmt := top 45
theorem sc__law_is_name : FnScope ["_law_thing"] ["_law_thing"] (defScope s__law_is_name) := ⟨rfl, rfl, rfl, by decide +kernel, rfl, by decide +kernel, by decide +kernel⟩
abbrev s__law_sizes : Stmt := top 46
theorem sc__law_sizes : FnScope ["_law_thing", "_law_word_here", "_law_is_right", "_law_many", "_law_deep", "_law_parts", "_law_one", "_law_sizes_here"] ["_law_thing"] (defScope s__law_sizes) := ⟨rfl, rfl, rfl, by decide +kernel, rfl, by decide +kernel, by decide +kernel⟩
abbrev s__law_is_expression : Stmt := top 47
theorem sc__law_is_expression : FnScope ["_law_thing", "_law_sizes_here"] ["_law_thing"] (defScope s__law_is_expression) := ⟨rfl, rfl, rfl, by decide +kernel, rfl, by decide +kernel, by decide +kernel⟩
abbrev s__law_are_parts : Stmt := top 48
theorem sc__law_are_parts : FnScope ["_law_parts", "_law_kinds_here", "_law_k"] ["_law_parts", "_law_kinds_here"] (defScope s__law_are_parts) := ⟨rfl, rfl, rfl, by decide +kernel, rfl, by decide +kernel, by decide +kernel⟩
abbrev s__law_kinds : Stmt := top 49
theorem sc__law_kinds : FnScope ["_law_word_here", "_law_plain_here"] ["_law_word_here"] (defScope s__law_kinds) := ⟨rfl, rfl, rfl, by decide +kernel, rfl, by decide +kernel, by decide +kernel⟩
abbrev s__law_is_own : Stmt := top 50
theorem sc__law_is_own : FnScope ["_law_thing", "_law_deep", "_law_kinds_here"] ["_law_thing", "_law_deep"] (defScope s__law_is_own) := ⟨rfl, rfl, rfl, by decide +kernel, rfl, by decide +kernel, by decide +kernel⟩
abbrev s__law_first_bad : Stmt := top 51
theorem sc__law_first_bad : FnScope ["_law_block_here", "_law_waiting", "_law_k", "_law_many", "_law_turn", "_law_thing", "_law_place", "_law_deep", "_law_kinds_here", "_law_blocks", "_law_back", "_law_side", "_law_one"] ["_law_block_here"] (defScope s__law_first_bad) := ⟨rfl, rfl, rfl, by decide +kernel, rfl, by decide +kernel, by decide +kernel⟩
abbrev s__law_made : Stmt := top 52
theorem sc__law_made : FnScope ["_law_block_here", "_law_found", "e"] ["_law_block_here"] (defScope s__law_made) := ⟨rfl, rfl, rfl, by decide +kernel, rfl, by decide +kernel, by decide +kernel⟩
abbrev s__law_is_place : Stmt := top 53
theorem sc__law_is_place : FnScope ["_law_told", "_law_due", "_law_one"] ["_law_told", "_law_due"] (defScope s__law_is_place) := ⟨rfl, rfl, rfl, by decide +kernel, rfl, by decide +kernel, by decide +kernel⟩
abbrev s_law : Stmt := top 54
theorem sc_law : FnScope ["_law_script", "_law_bag_here", "_law_names_here", "_law_room", "_law_aim", "_law_block_here", "_law_thing", "_law_told", "_law_due", "_law_program", "_law_again", "_law_other"] ["_law_script"] (defScope s_law) := ⟨rfl, rfl, rfl, by decide +kernel, rfl, by decide +kernel, by decide +kernel⟩
abbrev s_BadProgram___init__ : Stmt := inClass (top 9) 0
theorem sc_BadProgram___init__ : FnScope ["self", "place"] ["self", "place"] (defScope s_BadProgram___init__) := ⟨rfl, rfl, rfl, by decide +kernel, rfl, by decide +kernel, by decide +kernel⟩
def ownCs : List Str := ["Program"]
def chks (K : PySem.W.Frag) : List Bool := [
  (He.Fa.free "abs").ok K,
  (He.Fa.free "all").ok K,
  (He.Fa.free "any").ok K,
  (He.Fa.free "bool").ok K,
  (He.Fa.free "enumerate").ok K,
  (He.Fa.free "int").ok K,
  (He.Fa.free "isinstance").ok K,
  (He.Fa.free "len").ok K,
  (He.Fa.free "list").ok K,
  (He.Fa.free "max").ok K,
  (He.Fa.free "range").ok K,
  (He.Fa.free "repr").ok K,
  (He.Fa.free "str").ok K,
  (He.Fa.free "sum").ok K,
  (He.Fa.free "tuple").ok K,
  (He.Fa.glo "is_integer").ok K,
  (He.Fa.glo "is_within").ok K,
  (He.Fa.glo "is_key").ok K,
  (He.Fa.glo "is_name").ok K,
  (He.Fa.glo "parts_in").ok K,
  (He.Fa.glo "is_expression").ok K,
  (He.Fa.glo "is_plain_statement").ok K,
  (He.Fa.glo "has_own_parts").ok K,
  (He.Fa.glo "blocks_of").ok K,
  (He.Fa.glo "first_bad").ok K,
  (He.Fa.glo "statements_in").ok K,
  (He.Fa.glo "_law_mixed").ok K,
  (He.Fa.glo "_law_bag").ok K,
  (He.Fa.glo "_law_draw").ok K,
  (He.Fa.glo "_law_word").ok K,
  (He.Fa.glo "_law_kept_words").ok K,
  (He.Fa.glo "_law_names").ok K,
  (He.Fa.glo "_law_leaf").ok K,
  (He.Fa.glo "_law_expression").ok K,
  (He.Fa.glo "_law_plain").ok K,
  (He.Fa.glo "_law_strange").ok K,
  (He.Fa.glo "_law_spoiled").ok K,
  (He.Fa.glo "_law_statement").ok K,
  (He.Fa.glo "_law_block").ok K,
  (He.Fa.glo "_law_is_whole").ok K,
  (He.Fa.glo "_law_is_letters").ok K,
  (He.Fa.glo "_law_is_name").ok K,
  (He.Fa.glo "_law_sizes").ok K,
  (He.Fa.glo "_law_is_expression").ok K,
  (He.Fa.glo "_law_are_parts").ok K,
  (He.Fa.glo "_law_kinds").ok K,
  (He.Fa.glo "_law_is_own").ok K,
  (He.Fa.glo "_law_first_bad").ok K,
  (He.Fa.glo "_law_made").ok K,
  (He.Fa.glo "_law_is_place").ok K,
  (He.Fa.glo "law").ok K,
  conB K "LETTERS" gd_LETTERS,
  conB K "MOST_BLOCKS" gd_MOST_BLOCKS,
  conB K "MOST_DEEP" gd_MOST_DEEP,
  conB K "MOST_LETTERS" gd_MOST_LETTERS,
  conB K "MOST_NAME" gd_MOST_NAME,
  conB K "MOST_PARTS" gd_MOST_PARTS,
  conB K "MOST_ROUNDS" gd_MOST_ROUNDS,
  conB K "MOST_STATEMENTS" gd_MOST_STATEMENTS,
  conB K "MOST_WORTH" gd_MOST_WORTH,
  conB K "SIGNS" gd_SIGNS,
  conB K "WORDS" gd_WORDS,
  ownCs.all (clsKB K),
  (He.Fa.glo "BadProgram").ok K,
  (He.Fa.glo "Program").ok K,
  (He.Fa.glo "StoreError").ok K,
  clsKB K "Program",
  (He.Fa.mkr "Program").ok K,
  isiB K "Program" ans_Program ownCs,
  (He.Fa.noat "Program" "block").ok K,
  eqcB K "Program" ok_eq_Program ownCs,
  xcB K "BadProgram" "place",
  xisB K "StoreError" ans_StoreError ["BadProgram"],
  xexB K "BadProgram" exm_BadProgram ["BadProgram"]]
def fns : List He.DefD := [
  dd "is_integer" s_is_integer,
  dd "is_within" s_is_within,
  dd "is_key" s_is_key,
  dd "is_name" s_is_name,
  dd "parts_in" s_parts_in,
  dd "is_expression" s_is_expression,
  dd "is_plain_statement" s_is_plain_statement,
  dd "has_own_parts" s_has_own_parts,
  dd "blocks_of" s_blocks_of,
  dd "first_bad" s_first_bad,
  dd "statements_in" s_statements_in,
  dm "Program" "__init__" "Program.__init__" s_Program___init__,
  dm "Program" "__eq__" "Program.__eq__" s_Program___eq__,
  dd "_law_mixed" s__law_mixed,
  dd "_law_bag" s__law_bag,
  dd "_law_draw" s__law_draw,
  dd "_law_word" s__law_word,
  dd "_law_kept_words" s__law_kept_words,
  dd "_law_names" s__law_names,
  dd "_law_leaf" s__law_leaf,
  dd "_law_expression" s__law_expression,
  dd "_law_plain" s__law_plain,
  dd "_law_strange" s__law_strange,
  dd "_law_spoiled" s__law_spoiled,
  dd "_law_statement" s__law_statement,
  dd "_law_block" s__law_block,
  dd "_law_is_whole" s__law_is_whole,
  dd "_law_is_letters" s__law_is_letters,
  dd "_law_is_name" s__law_is_name,
  dd "_law_sizes" s__law_sizes,
  dd "_law_is_expression" s__law_is_expression,
  dd "_law_are_parts" s__law_are_parts,
  dd "_law_kinds" s__law_kinds,
  dd "_law_is_own" s__law_is_own,
  dd "_law_first_bad" s__law_first_bad,
  dd "_law_made" s__law_made,
  dd "_law_is_place" s__law_is_place,
  dd "law" s_law,
  dm "BadProgram" "__init__" "BadProgram.__init__" s_BadProgram___init__]
abbrev Tx := TxG chks fns
section
variable {K : PySem.W.Frag} {mg : Str → Option Value}
theorem Tx.f_abs (Z : Tx K mg) : mg "abs" = none := TxG.free Z 0
theorem Tx.f_all (Z : Tx K mg) : mg "all" = none := TxG.free Z 1
theorem Tx.f_any (Z : Tx K mg) : mg "any" = none := TxG.free Z 2
theorem Tx.f_bool (Z : Tx K mg) : mg "bool" = none := TxG.free Z 3
theorem Tx.f_enumerate (Z : Tx K mg) : mg "enumerate" = none := TxG.free Z 4
theorem Tx.f_int (Z : Tx K mg) : mg "int" = none := TxG.free Z 5
theorem Tx.f_isinstance (Z : Tx K mg) : mg "isinstance" = none := TxG.free Z 6
theorem Tx.f_len (Z : Tx K mg) : mg "len" = none := TxG.free Z 7
theorem Tx.f_list (Z : Tx K mg) : mg "list" = none := TxG.free Z 8
theorem Tx.f_max (Z : Tx K mg) : mg "max" = none := TxG.free Z 9
theorem Tx.f_range (Z : Tx K mg) : mg "range" = none := TxG.free Z 10
theorem Tx.f_repr (Z : Tx K mg) : mg "repr" = none := TxG.free Z 11
theorem Tx.f_str (Z : Tx K mg) : mg "str" = none := TxG.free Z 12
theorem Tx.f_sum (Z : Tx K mg) : mg "sum" = none := TxG.free Z 13
theorem Tx.f_tuple (Z : Tx K mg) : mg "tuple" = none := TxG.free Z 14
theorem Tx.g_LETTERS (Z : Tx K mg) : ∃ v u, mg "LETTERS" = some u ∧ RelV v u ∧ ∀ ρ H, IsV K mg ρ H gd_LETTERS v := TxG.con Z 51
theorem Tx.g_MOST_BLOCKS (Z : Tx K mg) : ∃ v u, mg "MOST_BLOCKS" = some u ∧ RelV v u ∧ ∀ ρ H, IsV K mg ρ H gd_MOST_BLOCKS v := TxG.con Z 52
theorem Tx.g_MOST_DEEP (Z : Tx K mg) : ∃ v u, mg "MOST_DEEP" = some u ∧ RelV v u ∧ ∀ ρ H, IsV K mg ρ H gd_MOST_DEEP v := TxG.con Z 53
theorem Tx.g_MOST_LETTERS (Z : Tx K mg) : ∃ v u, mg "MOST_LETTERS" = some u ∧ RelV v u ∧ ∀ ρ H, IsV K mg ρ H gd_MOST_LETTERS v := TxG.con Z 54
theorem Tx.g_MOST_NAME (Z : Tx K mg) : ∃ v u, mg "MOST_NAME" = some u ∧ RelV v u ∧ ∀ ρ H, IsV K mg ρ H gd_MOST_NAME v := TxG.con Z 55
theorem Tx.g_MOST_PARTS (Z : Tx K mg) : ∃ v u, mg "MOST_PARTS" = some u ∧ RelV v u ∧ ∀ ρ H, IsV K mg ρ H gd_MOST_PARTS v := TxG.con Z 56
theorem Tx.g_MOST_ROUNDS (Z : Tx K mg) : ∃ v u, mg "MOST_ROUNDS" = some u ∧ RelV v u ∧ ∀ ρ H, IsV K mg ρ H gd_MOST_ROUNDS v := TxG.con Z 57
theorem Tx.g_MOST_STATEMENTS (Z : Tx K mg) : ∃ v u, mg "MOST_STATEMENTS" = some u ∧ RelV v u ∧ ∀ ρ H, IsV K mg ρ H gd_MOST_STATEMENTS v := TxG.con Z 58
theorem Tx.g_MOST_WORTH (Z : Tx K mg) : ∃ v u, mg "MOST_WORTH" = some u ∧ RelV v u ∧ ∀ ρ H, IsV K mg ρ H gd_MOST_WORTH v := TxG.con Z 59
theorem Tx.g_SIGNS (Z : Tx K mg) : ∃ v u, mg "SIGNS" = some u ∧ RelV v u ∧ ∀ ρ H, IsV K mg ρ H gd_SIGNS v := TxG.con Z 60
theorem Tx.g_WORDS (Z : Tx K mg) : ∃ v u, mg "WORDS" = some u ∧ RelV v u ∧ ∀ ρ H, IsV K mg ρ H gd_WORDS v := TxG.con Z 61
theorem Tx.d_is_integer (Z : Tx K mg) : DefF K mg "is_integer" s_is_integer := TxG.defF Z 15 0
theorem Tx.d_is_within (Z : Tx K mg) : DefF K mg "is_within" s_is_within := TxG.defF Z 16 1
theorem Tx.d_is_key (Z : Tx K mg) : DefF K mg "is_key" s_is_key := TxG.defF Z 17 2
theorem Tx.d_is_name (Z : Tx K mg) : DefF K mg "is_name" s_is_name := TxG.defF Z 18 3
theorem Tx.d_parts_in (Z : Tx K mg) : DefF K mg "parts_in" s_parts_in := TxG.defF Z 19 4
theorem Tx.d_is_expression (Z : Tx K mg) : DefF K mg "is_expression" s_is_expression := TxG.defF Z 20 5
theorem Tx.d_is_plain_statement (Z : Tx K mg) : DefF K mg "is_plain_statement" s_is_plain_statement := TxG.defF Z 21 6
theorem Tx.d_has_own_parts (Z : Tx K mg) : DefF K mg "has_own_parts" s_has_own_parts := TxG.defF Z 22 7
theorem Tx.d_blocks_of (Z : Tx K mg) : DefF K mg "blocks_of" s_blocks_of := TxG.defF Z 23 8
theorem Tx.d_first_bad (Z : Tx K mg) : DefF K mg "first_bad" s_first_bad := TxG.defF Z 24 9
theorem Tx.d_statements_in (Z : Tx K mg) : DefF K mg "statements_in" s_statements_in := TxG.defF Z 25 10
theorem Tx.d_Program___init__ (Z : Tx K mg) : ∃ fd, Fun K "__init__" "Program.__init__" s_Program___init__ (He.ma K (He.ga K "Program") "__init__") fd := TxG.meth Z 11
theorem Tx.d_Program___eq__ (Z : Tx K mg) : ∃ fd, Fun K "__eq__" "Program.__eq__" s_Program___eq__ (He.ma K (He.ga K "Program") "__eq__") fd := TxG.meth Z 12
theorem Tx.d__law_mixed (Z : Tx K mg) : DefF K mg "_law_mixed" s__law_mixed := TxG.defF Z 26 13
theorem Tx.d__law_bag (Z : Tx K mg) : DefF K mg "_law_bag" s__law_bag := TxG.defF Z 27 14
theorem Tx.d__law_draw (Z : Tx K mg) : DefF K mg "_law_draw" s__law_draw := TxG.defF Z 28 15
theorem Tx.d__law_word (Z : Tx K mg) : DefF K mg "_law_word" s__law_word := TxG.defF Z 29 16
theorem Tx.d__law_kept_words (Z : Tx K mg) : DefF K mg "_law_kept_words" s__law_kept_words := TxG.defF Z 30 17
theorem Tx.d__law_names (Z : Tx K mg) : DefF K mg "_law_names" s__law_names := TxG.defF Z 31 18
theorem Tx.d__law_leaf (Z : Tx K mg) : DefF K mg "_law_leaf" s__law_leaf := TxG.defF Z 32 19
theorem Tx.d__law_expression (Z : Tx K mg) : DefF K mg "_law_expression" s__law_expression := TxG.defF Z 33 20
theorem Tx.d__law_plain (Z : Tx K mg) : DefF K mg "_law_plain" s__law_plain := TxG.defF Z 34 21
theorem Tx.d__law_strange (Z : Tx K mg) : DefF K mg "_law_strange" s__law_strange := TxG.defF Z 35 22
theorem Tx.d__law_spoiled (Z : Tx K mg) : DefF K mg "_law_spoiled" s__law_spoiled := TxG.defF Z 36 23
theorem Tx.d__law_statement (Z : Tx K mg) : DefF K mg "_law_statement" s__law_statement := TxG.defF Z 37 24
theorem Tx.d__law_block (Z : Tx K mg) : DefF K mg "_law_block" s__law_block := TxG.defF Z 38 25
theorem Tx.d__law_is_whole (Z : Tx K mg) : DefF K mg "_law_is_whole" s__law_is_whole := TxG.defF Z 39 26
theorem Tx.d__law_is_letters (Z : Tx K mg) : DefF K mg "_law_is_letters" s__law_is_letters := TxG.defF Z 40 27
theorem Tx.d__law_is_name (Z : Tx K mg) : DefF K mg "_law_is_name" s__law_is_name := TxG.defF Z 41 28
theorem Tx.d__law_sizes (Z : Tx K mg) : DefF K mg "_law_sizes" s__law_sizes := TxG.defF Z 42 29
theorem Tx.d__law_is_expression (Z : Tx K mg) : DefF K mg "_law_is_expression" s__law_is_expression := TxG.defF Z 43 30
theorem Tx.d__law_are_parts (Z : Tx K mg) : DefF K mg "_law_are_parts" s__law_are_parts := TxG.defF Z 44 31
theorem Tx.d__law_kinds (Z : Tx K mg) : DefF K mg "_law_kinds" s__law_kinds := TxG.defF Z 45 32
theorem Tx.d__law_is_own (Z : Tx K mg) : DefF K mg "_law_is_own" s__law_is_own := TxG.defF Z 46 33
theorem Tx.d__law_first_bad (Z : Tx K mg) : DefF K mg "_law_first_bad" s__law_first_bad := TxG.defF Z 47 34
theorem Tx.d__law_made (Z : Tx K mg) : DefF K mg "_law_made" s__law_made := TxG.defF Z 48 35
theorem Tx.d__law_is_place (Z : Tx K mg) : DefF K mg "_law_is_place" s__law_is_place := TxG.defF Z 49 36
theorem Tx.d_law (Z : Tx K mg) : DefF K mg "law" s_law := TxG.defF Z 50 37
theorem Tx.d_BadProgram___init__ (Z : Tx K mg) : ∃ fd, Fun K "__init__" "BadProgram.__init__" s_BadProgram___init__ (He.ma K (He.ga K "BadProgram") "__init__") fd := TxG.meth Z 38
theorem Tx.h_BadProgram (Z : Tx K mg) : mg "BadProgram" = some (.ref (He.ga K "BadProgram")) := TxG.glo Z 63
theorem Tx.h_Program (Z : Tx K mg) : mg "Program" = some (.ref (He.ga K "Program")) := TxG.glo Z 64
theorem Tx.h_StoreError (Z : Tx K mg) : mg "StoreError" = some (.ref (He.ga K "StoreError")) := TxG.glo Z 65
theorem Tx.i_Program (Z : Tx K mg) : ∃ C, mg "Program" = some (.ref C) ∧ Isi K mg ans_Program (.ref C) (.ref C) := by
  obtain ⟨h, X, G⟩ := Z.ex
  exact isi_ok X G (TxG.nth Z 62) (TxG.nth Z 64) (fun k hk => by
    by_cases e : k = "Program"
    · simp [e, ownCs]
    · simp [ans_Program, e] at hk) (TxG.nth Z 68)
theorem Tx.a_Program_block (Z : Tx K mg) : FldC K mg "Program" "block" := by
  obtain ⟨h, X, G⟩ := Z.ex
  exact fld_ok X G (TxG.nth Z 66) (TxG.nth Z 69)
theorem Tx.x_BadProgram_place (Z : Tx K mg) : XfF K mg "BadProgram" "place" := by
  obtain ⟨h, X, G⟩ := Z.ex
  exact xf_ok X G (TxG.nth Z 71)
theorem Tx.is_StoreError (Z : Tx K mg) : XIs K mg ans_StoreError (.ref (He.ga K "StoreError")) (.ref (He.ga K "StoreError")) := by
  obtain ⟨h, X, G⟩ := Z.ex
  exact xis_ok (cs := ["BadProgram"]) X G (fun k hk => by
    by_cases e : k = "BadProgram"
    · subst e; exact List.mem_cons_self
    · simp [ans_StoreError, e] at hk) (TxG.nth Z 72)
theorem Tx.exm_BadProgram (Z : Tx K mg) : XExm K mg (.ref (He.ga K "BadProgram")) exm_BadProgram := by
  obtain ⟨h, X, G⟩ := Z.ex
  exact xex_ok (cs := ["BadProgram"]) X G (fun k hk => by
    by_cases e : k = "BadProgram"
    · subst e; exact List.mem_cons_self
    · exact absurd hk (by unfold K87.exm_BadProgram; rw [if_neg e]; decide)) (TxG.nth Z 73)
end
theorem mono_or {A B C D : Prop} (h : A → B) (k : C → D) : A ∨ C → B ∨ D := Or.imp h k
local macro_rules | `(tactic| walk_at "mono") => `(tactic| (repeat' first
    | assumption
    | exact id
    | refine Exists.imp fun _ => ?_
    | refine And.imp ?_ ?_
    | refine Or.imp ?_ ?_
    | refine forall_imp fun _ => ?_))
def fz (Fd : Nat → Fn) : Nat → Fn
  | 0 => fun _ _ _ _ => False
  | d + 1 => Fd d
theorem mono_Fd_parts (d : Nat) (ds : List D) : MonoD (Fd_parts d ds) := by
  intro st Q Q' X X' hQ hX
  have hQ' : ∀ a s, Q a s → Q' a s := hQ
  unfold Fd_parts
  repeat' first
    | exact hQ _ _
    | exact hX _ _
    | exact id
    | refine Exists.imp fun _ => ?_
    | refine And.imp ?_ ?_
    | refine Or.imp ?_ ?_
    | refine forall_imp fun _ => ?_
theorem mono_Fd_first_bad (d : Nat) (ds : List D) : MonoD (Fd_first_bad d ds) := by
  intro st Q Q' X X' hQ hX
  have hQ' : ∀ a s, Q a s → Q' a s := hQ
  unfold Fd_first_bad
  repeat' first
    | exact hQ _ _
    | exact hX _ _
    | exact id
    | refine Exists.imp fun _ => ?_
    | refine And.imp ?_ ?_
    | refine Or.imp ?_ ?_
    | refine forall_imp fun _ => ?_
theorem mono_Fd_statements_in (d : Nat) (ds : List D) : MonoD (Fd_statements_in d ds) := by
  intro st Q Q' X X' hQ hX
  have hQ' : ∀ a s, Q a s → Q' a s := hQ
  unfold Fd_statements_in
  repeat' first
    | exact hQ _ _
    | exact hX _ _
    | exact id
    | refine Exists.imp fun _ => ?_
    | refine And.imp ?_ ?_
    | refine Or.imp ?_ ?_
    | refine forall_imp fun _ => ?_
theorem mono_Fd_expr (d : Nat) (ds : List D) : MonoD (Fd_expr d ds) := by
  intro st Q Q' X X' hQ hX
  have hQ' : ∀ a s, Q a s → Q' a s := hQ
  unfold Fd_expr Out
  repeat' first
    | exact hQ _ _
    | exact hX _ _
    | exact id
    | refine Exists.imp fun _ => ?_
    | refine And.imp ?_ ?_
    | refine Or.imp ?_ ?_
    | refine forall_imp fun _ => ?_
theorem mono_Fd_sizes (d : Nat) (ds : List D) : MonoD (Fd_sizes d ds) := by
  intro st Q Q' X X' hQ hX
  have hQ' : ∀ a s, Q a s → Q' a s := hQ
  unfold Fd_sizes
  repeat' first
    | exact hQ _ _
    | exact hX _ _
    | exact id
    | refine Exists.imp fun _ => ?_
    | refine And.imp ?_ ?_
    | refine Or.imp ?_ ?_
    | refine forall_imp fun _ => ?_
theorem mono_Fd_stmt (d : Nat) (ds : List D) : MonoD (Fd_stmt d ds) := by
  intro st Q Q' X X' hQ hX
  have hQ' : ∀ a s, Q a s → Q' a s := hQ
  unfold Fd_stmt Out3
  repeat' first
    | exact hQ _ _
    | exact hX _ _
    | exact id
    | refine Exists.imp fun _ => ?_
    | refine And.imp ?_ ?_
    | refine Or.imp ?_ ?_
    | refine forall_imp fun _ => ?_
theorem mono_Fd_block (d : Nat) (ds : List D) : MonoD (Fd_block d ds) := by
  intro st Q Q' X X' hQ hX
  have hQ' : ∀ a s, Q a s → Q' a s := hQ
  unfold Fd_block Out3
  repeat' first
    | exact hQ _ _
    | exact hX _ _
    | exact id
    | refine Exists.imp fun _ => ?_
    | refine And.imp ?_ ?_
    | refine Or.imp ?_ ?_
    | refine forall_imp fun _ => ?_
theorem mono_F_is_integer (ds : List D) : MonoD (F_is_integer ds) := by
  intro st Q Q' X X' hQ hX
  have hQ' : ∀ a s, Q a s → Q' a s := hQ
  unfold F_is_integer
  repeat' first
    | exact hQ _ _
    | exact hX _ _
    | exact id
    | refine Exists.imp fun _ => ?_
    | refine And.imp ?_ ?_
    | refine Or.imp ?_ ?_
    | refine forall_imp fun _ => ?_
theorem mono_F_is_within (ds : List D) : MonoD (F_is_within ds) := by
  intro st Q Q' X X' hQ hX
  have hQ' : ∀ a s, Q a s → Q' a s := hQ
  unfold F_is_within
  repeat' first
    | exact hQ _ _
    | exact hX _ _
    | exact id
    | refine Exists.imp fun _ => ?_
    | refine And.imp ?_ ?_
    | refine Or.imp ?_ ?_
    | refine forall_imp fun _ => ?_
theorem mono_F_is_key (ds : List D) : MonoD (F_is_key ds) := by
  intro st Q Q' X X' hQ hX
  have hQ' : ∀ a s, Q a s → Q' a s := hQ
  unfold F_is_key
  repeat' first
    | exact hQ _ _
    | exact hX _ _
    | exact id
    | refine Exists.imp fun _ => ?_
    | refine And.imp ?_ ?_
    | refine Or.imp ?_ ?_
    | refine forall_imp fun _ => ?_
theorem mono_F_is_name (ds : List D) : MonoD (F_is_name ds) := by
  intro st Q Q' X X' hQ hX
  have hQ' : ∀ a s, Q a s → Q' a s := hQ
  unfold F_is_name
  repeat' first
    | exact hQ _ _
    | exact hX _ _
    | exact id
    | refine Exists.imp fun _ => ?_
    | refine And.imp ?_ ?_
    | refine Or.imp ?_ ?_
    | refine forall_imp fun _ => ?_
theorem mono_F_is_expression (ds : List D) : MonoD (F_is_expression ds) := by
  intro st Q Q' X X' hQ hX
  have hQ' : ∀ a s, Q a s → Q' a s := hQ
  unfold F_is_expression
  repeat' first
    | exact hQ _ _
    | exact hX _ _
    | exact id
    | refine Exists.imp fun _ => ?_
    | refine And.imp ?_ ?_
    | refine Or.imp ?_ ?_
    | refine forall_imp fun _ => ?_
theorem mono_F_is_plain_statement (ds : List D) : MonoD (F_is_plain_statement ds) := by
  intro st Q Q' X X' hQ hX
  have hQ' : ∀ a s, Q a s → Q' a s := hQ
  unfold F_is_plain_statement
  repeat' first
    | exact hQ _ _
    | exact hX _ _
    | exact id
    | refine Exists.imp fun _ => ?_
    | refine And.imp ?_ ?_
    | refine Or.imp ?_ ?_
    | refine forall_imp fun _ => ?_
theorem mono_F_has_own_parts (ds : List D) : MonoD (F_has_own_parts ds) := by
  intro st Q Q' X X' hQ hX
  have hQ' : ∀ a s, Q a s → Q' a s := hQ
  unfold F_has_own_parts
  repeat' first
    | exact hQ _ _
    | exact hX _ _
    | exact id
    | refine Exists.imp fun _ => ?_
    | refine And.imp ?_ ?_
    | refine Or.imp ?_ ?_
    | refine forall_imp fun _ => ?_
theorem mono_F_blocks_of (ds : List D) : MonoD (F_blocks_of ds) := by
  intro st Q Q' X X' hQ hX
  have hQ' : ∀ a s, Q a s → Q' a s := hQ
  unfold F_blocks_of
  repeat' first
    | exact hQ _ _
    | exact hX _ _
    | exact id
    | refine Exists.imp fun _ => ?_
    | refine And.imp ?_ ?_
    | refine Or.imp ?_ ?_
    | refine forall_imp fun _ => ?_
theorem mono_F_Program___init__ (ds : List D) : MonoD (F_Program___init__ ds) := by
  intro st Q Q' X X' hQ hX
  have hQ' : ∀ a s, Q a s → Q' a s := hQ
  unfold F_Program___init__
  repeat' first
    | exact hQ _ _
    | exact hX _ _
    | exact id
    | refine Exists.imp fun _ => ?_
    | refine And.imp ?_ ?_
    | refine Or.imp ?_ ?_
    | refine forall_imp fun _ => ?_
theorem mono_F_Program___eq__ (ds : List D) : MonoD (F_Program___eq__ ds) := by
  intro st Q Q' X X' hQ hX
  have hQ' : ∀ a s, Q a s → Q' a s := hQ
  unfold F_Program___eq__
  repeat' first
    | exact hQ _ _
    | exact hX _ _
    | exact id
    | refine Exists.imp fun _ => ?_
    | refine And.imp ?_ ?_
    | refine Or.imp ?_ ?_
    | refine forall_imp fun _ => ?_
theorem mono_F__law_mixed (ds : List D) : MonoD (F__law_mixed ds) := by
  intro st Q Q' X X' hQ hX
  have hQ' : ∀ a s, Q a s → Q' a s := hQ
  unfold F__law_mixed
  repeat' first
    | exact hQ _ _
    | exact hX _ _
    | exact id
    | refine Exists.imp fun _ => ?_
    | refine And.imp ?_ ?_
    | refine Or.imp ?_ ?_
    | refine forall_imp fun _ => ?_
theorem mono_F__law_bag (ds : List D) : MonoD (F__law_bag ds) := by
  intro st Q Q' X X' hQ hX
  have hQ' : ∀ a s, Q a s → Q' a s := hQ
  unfold F__law_bag
  repeat' first
    | exact hQ _ _
    | exact hX _ _
    | exact id
    | refine Exists.imp fun _ => ?_
    | refine And.imp ?_ ?_
    | refine Or.imp ?_ ?_
    | refine forall_imp fun _ => ?_
theorem mono_F__law_draw (ds : List D) : MonoD (F__law_draw ds) := by
  intro st Q Q' X X' hQ hX
  have hQ' : ∀ a s, Q a s → Q' a s := hQ
  unfold F__law_draw
  repeat' first
    | exact hQ _ _
    | exact hX _ _
    | exact id
    | refine Exists.imp fun _ => ?_
    | refine And.imp ?_ ?_
    | refine Or.imp ?_ ?_
    | refine forall_imp fun _ => ?_
theorem mono_F__law_word (ds : List D) : MonoD (F__law_word ds) := by
  intro st Q Q' X X' hQ hX
  have hQ' : ∀ a s, Q a s → Q' a s := hQ
  unfold F__law_word
  repeat' first
    | exact hQ _ _
    | exact hX _ _
    | exact id
    | refine Exists.imp fun _ => ?_
    | refine And.imp ?_ ?_
    | refine Or.imp ?_ ?_
    | refine forall_imp fun _ => ?_
theorem mono_F__law_kept_words (ds : List D) : MonoD (F__law_kept_words ds) := by
  intro st Q Q' X X' hQ hX
  have hQ' : ∀ a s, Q a s → Q' a s := hQ
  unfold F__law_kept_words
  repeat' first
    | exact hQ _ _
    | exact hX _ _
    | exact id
    | refine Exists.imp fun _ => ?_
    | refine And.imp ?_ ?_
    | refine Or.imp ?_ ?_
    | refine forall_imp fun _ => ?_
theorem mono_F__law_names (ds : List D) : MonoD (F__law_names ds) := by
  intro st Q Q' X X' hQ hX
  have hQ' : ∀ a s, Q a s → Q' a s := hQ
  unfold F__law_names
  repeat' first
    | exact hQ _ _
    | exact hX _ _
    | exact id
    | refine Exists.imp fun _ => ?_
    | refine And.imp ?_ ?_
    | refine Or.imp ?_ ?_
    | refine forall_imp fun _ => ?_
theorem mono_F__law_leaf (ds : List D) : MonoD (F__law_leaf ds) := by
  intro st Q Q' X X' hQ hX
  have hQ' : ∀ a s, Q a s → Q' a s := hQ
  unfold F__law_leaf Out
  repeat' first
    | exact hQ _ _
    | exact hX _ _
    | exact id
    | refine Exists.imp fun _ => ?_
    | refine And.imp ?_ ?_
    | refine Or.imp ?_ ?_
    | refine forall_imp fun _ => ?_
theorem mono_F__law_plain (ds : List D) : MonoD (F__law_plain ds) := by
  intro st Q Q' X X' hQ hX
  have hQ' : ∀ a s, Q a s → Q' a s := hQ
  unfold F__law_plain Out
  repeat' first
    | exact hQ _ _
    | exact hX _ _
    | exact id
    | refine Exists.imp fun _ => ?_
    | refine And.imp ?_ ?_
    | refine Or.imp ?_ ?_
    | refine forall_imp fun _ => ?_
theorem mono_F__law_strange (ds : List D) : MonoD (F__law_strange ds) := by
  intro st Q Q' X X' hQ hX
  have hQ' : ∀ a s, Q a s → Q' a s := hQ
  unfold F__law_strange Out
  repeat' first
    | exact hQ _ _
    | exact hX _ _
    | exact id
    | refine Exists.imp fun _ => ?_
    | refine And.imp ?_ ?_
    | refine Or.imp ?_ ?_
    | refine forall_imp fun _ => ?_
theorem mono_F__law_spoiled (ds : List D) : MonoD (F__law_spoiled ds) := by
  intro st Q Q' X X' hQ hX
  have hQ' : ∀ a s, Q a s → Q' a s := hQ
  unfold F__law_spoiled Out
  repeat' first
    | exact hQ _ _
    | exact hX _ _
    | exact id
    | refine Exists.imp fun _ => ?_
    | refine And.imp ?_ ?_
    | refine Or.imp ?_ ?_
    | refine forall_imp fun _ => ?_
theorem mono_F__law_is_whole (ds : List D) : MonoD (F__law_is_whole ds) := by
  intro st Q Q' X X' hQ hX
  have hQ' : ∀ a s, Q a s → Q' a s := hQ
  unfold F__law_is_whole
  repeat' first
    | exact hQ _ _
    | exact hX _ _
    | exact id
    | refine Exists.imp fun _ => ?_
    | refine And.imp ?_ ?_
    | refine Or.imp ?_ ?_
    | refine forall_imp fun _ => ?_
theorem mono_F__law_is_letters (ds : List D) : MonoD (F__law_is_letters ds) := by
  intro st Q Q' X X' hQ hX
  have hQ' : ∀ a s, Q a s → Q' a s := hQ
  unfold F__law_is_letters
  repeat' first
    | exact hQ _ _
    | exact hX _ _
    | exact id
    | refine Exists.imp fun _ => ?_
    | refine And.imp ?_ ?_
    | refine Or.imp ?_ ?_
    | refine forall_imp fun _ => ?_
theorem mono_F__law_is_name (ds : List D) : MonoD (F__law_is_name ds) := by
  intro st Q Q' X X' hQ hX
  have hQ' : ∀ a s, Q a s → Q' a s := hQ
  unfold F__law_is_name
  repeat' first
    | exact hQ _ _
    | exact hX _ _
    | exact id
    | refine Exists.imp fun _ => ?_
    | refine And.imp ?_ ?_
    | refine Or.imp ?_ ?_
    | refine forall_imp fun _ => ?_
theorem mono_F__law_is_expression (ds : List D) : MonoD (F__law_is_expression ds) := by
  intro st Q Q' X X' hQ hX
  have hQ' : ∀ a s, Q a s → Q' a s := hQ
  unfold F__law_is_expression
  repeat' first
    | exact hQ _ _
    | exact hX _ _
    | exact id
    | refine Exists.imp fun _ => ?_
    | refine And.imp ?_ ?_
    | refine Or.imp ?_ ?_
    | refine forall_imp fun _ => ?_
theorem mono_F__law_are_parts (ds : List D) : MonoD (F__law_are_parts ds) := by
  intro st Q Q' X X' hQ hX
  have hQ' : ∀ a s, Q a s → Q' a s := hQ
  unfold F__law_are_parts
  repeat' first
    | exact hQ _ _
    | exact hX _ _
    | exact id
    | refine Exists.imp fun _ => ?_
    | refine And.imp ?_ ?_
    | refine Or.imp ?_ ?_
    | refine forall_imp fun _ => ?_
theorem mono_F__law_kinds (ds : List D) : MonoD (F__law_kinds ds) := by
  intro st Q Q' X X' hQ hX
  have hQ' : ∀ a s, Q a s → Q' a s := hQ
  unfold F__law_kinds
  repeat' first
    | exact hQ _ _
    | exact hX _ _
    | exact id
    | refine Exists.imp fun _ => ?_
    | refine And.imp ?_ ?_
    | refine Or.imp ?_ ?_
    | refine forall_imp fun _ => ?_
theorem mono_F__law_is_own (ds : List D) : MonoD (F__law_is_own ds) := by
  intro st Q Q' X X' hQ hX
  have hQ' : ∀ a s, Q a s → Q' a s := hQ
  unfold F__law_is_own
  repeat' first
    | exact hQ _ _
    | exact hX _ _
    | exact id
    | refine Exists.imp fun _ => ?_
    | refine And.imp ?_ ?_
    | refine Or.imp ?_ ?_
    | refine forall_imp fun _ => ?_
theorem mono_F__law_first_bad (ds : List D) : MonoD (F__law_first_bad ds) := by
  intro st Q Q' X X' hQ hX
  have hQ' : ∀ a s, Q a s → Q' a s := hQ
  unfold F__law_first_bad
  repeat' first
    | exact hQ _ _
    | exact hX _ _
    | exact id
    | refine Exists.imp fun _ => ?_
    | refine And.imp ?_ ?_
    | refine Or.imp ?_ ?_
    | refine forall_imp fun _ => ?_
theorem mono_F__law_made (ds : List D) : MonoD (F__law_made ds) := by
  intro st Q Q' X X' hQ hX
  have hQ' : ∀ a s, Q a s → Q' a s := hQ
  unfold F__law_made MadeQ
  repeat' first
    | exact hQ _ _
    | exact hX _ _
    | exact id
    | refine Exists.imp fun _ => ?_
    | refine And.imp ?_ ?_
    | refine Or.imp ?_ ?_
    | refine forall_imp fun _ => ?_
theorem mono_F__law_is_place (ds : List D) : MonoD (F__law_is_place ds) := by
  intro st Q Q' X X' hQ hX
  have hQ' : ∀ a s, Q a s → Q' a s := hQ
  unfold F__law_is_place
  repeat' first
    | exact hQ _ _
    | exact hX _ _
    | exact id
    | refine Exists.imp fun _ => ?_
    | refine And.imp ?_ ?_
    | refine Or.imp ?_ ?_
    | refine forall_imp fun _ => ?_
theorem mono_F_law (ds : List D) : MonoD (F_law ds) := by
  intro st Q Q' X X' hQ hX
  have hQ' : ∀ a s, Q a s → Q' a s := hQ
  unfold F_law
  repeat' first
    | exact hQ _ _
    | exact hX _ _
    | exact id
    | refine Exists.imp fun _ => ?_
    | refine And.imp ?_ ?_
    | refine Or.imp ?_ ?_
    | refine forall_imp fun _ => ?_
theorem mono_fz {Fd : Nat → Fn} (h : ∀ d ds, MonoD (Fd d ds)) : ∀ d ds, MonoD (fz Fd d ds)
  | 0, _ => fun _ _ _ _ _ _ _ h => h.elim
  | d + 1, ds => h d ds
section
variable {P : Program} {w : World} {K : PySem.W.Frag} {mg : Str → Option Value} {base : Heap}
theorem ok_is_integer (Z : Tx K mg) : Cal P w K mg base "is_integer" 1 1 F_is_integer := by
  obtain ⟨f, fd, hg, Fu⟩ := Z.d_is_integer
  refine mk_fn (k := 0) Fu hg sc_is_integer rfl (Fu.binds fun _ _ _ _ _ _ us hl => match us, hl with | [_], _ => rfl) mono_F_is_integer (fun cdv A outer s H E hr => ?_) (fun ds s Q X _ h => p_is_integer ds s Q X h)
  have D : ∃ t m, DSs (CxF P w K mg base ["thing"] "is_integer" s_is_integer f cdv A outer s H E) (WF E) (defBody s_is_integer) t m ∧ m = m_is_integer := ⟨_, _, (dss_one (ds_ret (de_and (de_isi Z.f_isinstance isi_int (pe_tyv Z.f_int (by decide +kernel)) (de_var 0)) (de_one (de_not (de_isi Z.f_isinstance isi_bool (pe_tyv Z.f_bool (by decide +kernel)) (de_var 0))))))), rfl⟩
  obtain ⟨t, m, hD, rfl⟩ := D
  exact ⟨t, hD⟩
theorem ok_is_within (Z : Tx K mg) : Cal P w K mg base "is_within" 2 3 F_is_within := by
  obtain ⟨f, fd, hg, Fu⟩ := Z.d_is_within
  refine mk_fn (k := 1) Fu hg sc_is_within rfl (Fu.binds fun _ _ _ _ _ _ us hl => match us, hl with | [_, _, _], _ => rfl) mono_F_is_within (fun cdv A outer s H E hr => ?_) (fun ds s Q X _ h => p_is_within ds s Q X h)
  have D : ∃ t m, DSs (CxF P w K mg base ["thing", "least", "most"] "is_within" s_is_within f cdv A outer s H E) (WF E) (defBody s_is_within) t m ∧ m = m_is_within := ⟨_, _, (dss_one (ds_ret (de_and (de_call (ok_is_integer Z) hr takesF (da_cons (de_var 0) da_nil)) (de_one (de_le_le (de_var 1) (de_var 0) (de_var 2)))))), rfl⟩
  obtain ⟨t, m, hD, rfl⟩ := D
  exact ⟨t, hD⟩
theorem ok_is_key (Z : Tx K mg) : Cal P w K mg base "is_key" 1 1 F_is_key := by
  obtain ⟨v_LETTERS, u_LETTERS, g_LETTERS⟩ := Z.g_LETTERS
  obtain ⟨v_MOST_LETTERS, u_MOST_LETTERS, g_MOST_LETTERS⟩ := Z.g_MOST_LETTERS
  obtain ⟨f, fd, hg, Fu⟩ := Z.d_is_key
  refine mk_fn (k := 0) Fu hg sc_is_key rfl (Fu.binds fun _ _ _ _ _ _ us hl => match us, hl with | [_], _ => rfl) mono_F_is_key (fun cdv A outer s H E hr => ?_) (fun ds s Q X _ h => p_is_key ds s Q X h)
  have D : ∃ t m, DSs (CxF P w K mg base ["thing", "sign"] "is_key" s_is_key f cdv A outer s H E) (WF E) (defBody s_is_key) t m ∧ m = m_is_key := ⟨_, _, (dss_cons (ds_if (DW.dt (dw_or (dt_not (dt_of (de_isi Z.f_isinstance isi_str (pe_tyv Z.f_str (by decide +kernel)) (de_var 0)))) (dw_or1 (dt_not (dt_le_le de_int (de_len Z.f_len (de_var 0)) (de_glob g_MOST_LETTERS))))))
    (dss_one (ds_ret de_bl))
    dss_nil)
    (dss_one (ds_ret (de_all Z.f_all rfl (de_lcF (own := [("sign", 1)]) rfl sc_is_key.nd (di_seq (de_var 0)) (blkOk_by (N := ["thing", "sign"]) (sc := defScope s_is_key) (by decide +kernel)) (fun _ _ _ _ _ => (dg_name (i := 1) sc_is_key.nd rfl (.inl rfl))) (fun _ _ _ _ _ => dts_nil) (fun _ _ _ _ _ => (de_in hr (de_var 1) (de_glob g_LETTERS)))))))), rfl⟩
  obtain ⟨t, m, hD, rfl⟩ := D
  exact ⟨t, hD⟩
theorem ok_is_name (Z : Tx K mg) : Cal P w K mg base "is_name" 1 1 F_is_name := by
  obtain ⟨v_LETTERS, u_LETTERS, g_LETTERS⟩ := Z.g_LETTERS
  obtain ⟨v_MOST_NAME, u_MOST_NAME, g_MOST_NAME⟩ := Z.g_MOST_NAME
  obtain ⟨v_WORDS, u_WORDS, g_WORDS⟩ := Z.g_WORDS
  obtain ⟨f, fd, hg, Fu⟩ := Z.d_is_name
  refine mk_fn (k := 0) Fu hg sc_is_name rfl (Fu.binds fun _ _ _ _ _ _ us hl => match us, hl with | [_], _ => rfl) mono_F_is_name (fun cdv A outer s H E hr => ?_) (fun ds s Q X _ h => p_is_name ds s Q X h)
  have D : ∃ t m, DSs (CxF P w K mg base ["thing", "sign"] "is_name" s_is_name f cdv A outer s H E) (WF E) (defBody s_is_name) t m ∧ m = m_is_name := ⟨_, _, (dss_cons (ds_if (DW.dt (dw_or (dt_not (dt_of (de_isi Z.f_isinstance isi_str (pe_tyv Z.f_str (by decide +kernel)) (de_var 0)))) (dw_or (dt_not (dt_le_le de_int (de_len Z.f_len (de_var 0)) (de_glob g_MOST_NAME))) (dw_or1 (dt_in hr (de_var 0) (de_glob g_WORDS))))))
    (dss_one (ds_ret de_bl))
    dss_nil)
    (dss_one (ds_ret (de_all Z.f_all rfl (de_lcF (own := [("sign", 1)]) rfl sc_is_name.nd (di_seq (de_var 0)) (blkOk_by (N := ["thing", "sign"]) (sc := defScope s_is_name) (by decide +kernel)) (fun _ _ _ _ _ => (dg_name (i := 1) sc_is_name.nd rfl (.inl rfl))) (fun _ _ _ _ _ => dts_nil) (fun _ _ _ _ _ => (de_in hr (de_var 1) (de_glob g_LETTERS)))))))), rfl⟩
  obtain ⟨t, m, hD, rfl⟩ := D
  exact ⟨t, hD⟩
theorem rec_parts_in (Z : Tx K mg) (d : Nat) (Cr : Cal P w K mg base "parts_in" (2 + d) 2 (fz Fd_parts d)) : Cal P w K mg base "parts_in" (2 + d + 1) 2 (Fd_parts d) := by
  obtain ⟨v_MOST_WORTH, u_MOST_WORTH, g_MOST_WORTH⟩ := Z.g_MOST_WORTH
  obtain ⟨v_SIGNS, u_SIGNS, g_SIGNS⟩ := Z.g_SIGNS
  obtain ⟨f, fd, hg, Fu⟩ := Z.d_parts_in
  refine mk_fn (k := 2 + d) Fu hg sc_parts_in rfl (Fu.binds fun _ _ _ _ _ _ us hl => match us, hl with | [_, _], _ => rfl) (mono_Fd_parts d) (fun cdv A outer s H E hr => ?_) (fun ds s Q X _ h => p_parts d (fz Fd_parts d) (fun d' e => by subst e; rfl) ds s Q X h)
  have D : ∃ t m, DSs (CxF P w K mg base ["thing", "deep", "found", "part", "many"] "parts_in" s_parts_in f cdv A outer s H E) (WF E) (defBody s_parts_in) t m ∧ m = m_parts_in (fz Fd_parts d) := ⟨_, _, (dss_cons (ds_if (DW.dt (dw_or (dt_not (dt_of (de_isi Z.f_isinstance isi_tuple (pe_tyv Z.f_tuple (by decide +kernel)) (de_var 0)))) (dw_or (dt_lt (de_len Z.f_len (de_var 0)) de_int) (dw_or (dt_not (dt_of (de_isi Z.f_isinstance isi_str (pe_tyv Z.f_str (by decide +kernel)) (de_ix (de_var 0) de_int)))) (dw_or1 (dt_eq hr (de_var 1) de_int))))))
    (dss_one (ds_ret de_non))
    dss_nil)
    (dss_cons (ds_if (DW.dt (dw_and (dt_eq hr (de_len Z.f_len (de_var 0)) de_int) (dw_and1 (dt_eq hr (de_ix (de_var 0) de_int) de_str))))
    (dss_one (ds_ret (de_if (dt_of (de_call (ok_is_within Z) hr takesF (da_cons (de_ix (de_var 0) de_int) (da_cons (de_neg' (de_glob g_MOST_WORTH)) (da_cons (de_glob g_MOST_WORTH) da_nil))) (hkj := (by omega)))) de_int de_non)))
    dss_nil)
    (dss_cons (ds_if (DW.dt (dw_and (dt_eq hr (de_len Z.f_len (de_var 0)) de_int) (dw_and1 (dt_eq hr (de_ix (de_var 0) de_int) de_str))))
    (dss_one (ds_ret (de_if (dt_of (de_call (ok_is_key Z) hr takesF (da_cons (de_ix (de_var 0) de_int) da_nil) (hkj := (by omega)))) de_int de_non)))
    dss_nil)
    (dss_cons (ds_if (DW.dt (dw_and (dt_eq hr (de_len Z.f_len (de_var 0)) de_int) (dw_and1 (dt_eq hr (de_ix (de_var 0) de_int) de_str))))
    (dss_one (ds_ret (de_if (dt_of (de_call (ok_is_name Z) hr takesF (da_cons (de_ix (de_var 0) de_int) da_nil) (hkj := (by omega)))) de_int de_non)))
    dss_nil)
    (dss_cons (ds_if (DW.dt (dw_or (DW.dt (dw_and (dt_ne hr (de_ix (de_var 0) de_int) de_str) (dw_and1 (dt_ni hr (de_ix (de_var 0) de_int) (de_glob g_SIGNS))))) (dw_or1 (dt_ne hr (de_len Z.f_len (de_var 0)) (de_if (dt_eq hr (de_ix (de_var 0) de_int) de_str) de_int de_int)))))
    (dss_one (ds_ret de_non))
    dss_nil)
    (dss_cons (ds_set (i := 2) sc_parts_in.nd rfl (.inl rfl) de_int)
    (dss_cons (ds_for passesF rfl (di_seq (de_sl (de_var 0) (do_some de_int) do_none)) (dg_name (i := 3) sc_parts_in.nd rfl (.inl rfl))
    (dss_cons (ds_set (i := 4) sc_parts_in.nd rfl (.inl rfl) (de_call Cr hr takesF (da_cons (de_var 3) (da_cons (de_sub (de_var 1) de_int) da_nil)) (hkj := (by omega))))
    (dss_cons (ds_if (dt_isN (de_var 4))
    (dss_one (ds_ret de_non))
    dss_nil)
    (dss_one (ds_aug (i := 2) sc_parts_in.nd rfl (.inl rfl) ip_add opm_ipadd (de_var 4))))))
    (dss_one (ds_ret (de_var 2)))))))))), rfl⟩
  obtain ⟨t, m, hD, rfl⟩ := D
  exact ⟨t, hD⟩
theorem recs_parts_in (Z : Tx K mg) : ∀ d, Cal P w K mg base "parts_in" (2 + d) 2 (fz Fd_parts d)
  | 0 => cal_none (ps := ["thing", "deep"]) Z.d_parts_in (fun _ _ _ _ h => h) (fun f fd Fu => (Fu.binds fun _ _ _ _ _ _ us hl => match us, hl with | [_, _], _ => rfl))
  | d + 1 => rec_parts_in Z d (recs_parts_in Z d)
theorem ok_parts_in (Z : Tx K mg) : Cal P w K mg base "parts_in" 11 2 F_parts_in := recs_parts_in Z 9
theorem ok_is_expression (Z : Tx K mg) : Cal P w K mg base "is_expression" 12 1 F_is_expression := by
  obtain ⟨v_MOST_DEEP, u_MOST_DEEP, g_MOST_DEEP⟩ := Z.g_MOST_DEEP
  obtain ⟨v_MOST_PARTS, u_MOST_PARTS, g_MOST_PARTS⟩ := Z.g_MOST_PARTS
  obtain ⟨f, fd, hg, Fu⟩ := Z.d_is_expression
  refine mk_fn (k := 11) Fu hg sc_is_expression rfl (Fu.binds fun _ _ _ _ _ _ us hl => match us, hl with | [_], _ => rfl) mono_F_is_expression (fun cdv A outer s H E hr => ?_) (fun ds s Q X _ h => p_is_expression ds s Q X h)
  have D : ∃ t m, DSs (CxF P w K mg base ["thing", "many"] "is_expression" s_is_expression f cdv A outer s H E) (WF E) (defBody s_is_expression) t m ∧ m = m_is_expression := ⟨_, _, (dss_cons (ds_set (i := 1) sc_is_expression.nd rfl (.inl rfl) (de_call (ok_parts_in Z) hr takesF (da_cons (de_var 0) (da_cons (de_glob g_MOST_DEEP) da_nil))))
    (dss_one (ds_ret (de_and (de_notN (de_var 1)) (de_one (de_le (de_var 1) (de_glob g_MOST_PARTS))))))), rfl⟩
  obtain ⟨t, m, hD, rfl⟩ := D
  exact ⟨t, hD⟩
theorem ok_is_plain_statement (Z : Tx K mg) : Cal P w K mg base "is_plain_statement" 13 1 F_is_plain_statement := by
  obtain ⟨f, fd, hg, Fu⟩ := Z.d_is_plain_statement
  refine mk_fn (k := 12) Fu hg sc_is_plain_statement rfl (Fu.binds fun _ _ _ _ _ _ us hl => match us, hl with | [_], _ => rfl) mono_F_is_plain_statement (fun cdv A outer s H E hr => ?_) (fun ds s Q X _ h => p_is_plain_statement ds s Q X h)
  have D : ∃ t m, DSs (CxF P w K mg base ["thing", "word"] "is_plain_statement" s_is_plain_statement f cdv A outer s H E) (WF E) (defBody s_is_plain_statement) t m ∧ m = m_is_plain_statement := ⟨_, _, (dss_cons (ds_set (i := 1) sc_is_plain_statement.nd rfl (.inl rfl) (de_ix (de_var 0) de_int))
    (dss_cons (ds_if (DW.dt (dw_or (dt_eq hr (de_var 1) de_str) (dw_or1 (dt_eq hr (de_var 1) de_str))))
    (dss_one (ds_ret (de_and (de_eq hr (de_len Z.f_len (de_var 0)) de_int) (de_and (de_call (ok_is_name Z) hr takesF (da_cons (de_ix (de_var 0) de_int) da_nil)) (de_one (de_call (ok_is_expression Z) hr takesF (da_cons (de_ix (de_var 0) de_int) da_nil)))))))
    dss_nil)
    (dss_cons (ds_if (dt_eq hr (de_var 1) de_str)
    (dss_one (ds_ret (de_and (de_eq hr (de_len Z.f_len (de_var 0)) de_int) (de_and (de_call (ok_is_expression Z) hr takesF (da_cons (de_ix (de_var 0) de_int) da_nil)) (de_one (de_call (ok_is_expression Z) hr takesF (da_cons (de_ix (de_var 0) de_int) da_nil)))))))
    dss_nil)
    (dss_cons (ds_if (DW.dt (dw_or (dt_eq hr (de_var 1) de_str) (dw_or1 (dt_eq hr (de_var 1) de_str))))
    (dss_one (ds_ret (de_and (de_eq hr (de_len Z.f_len (de_var 0)) de_int) (de_one (de_call (ok_is_expression Z) hr takesF (da_cons (de_ix (de_var 0) de_int) da_nil))))))
    dss_nil)
    (dss_one (ds_ret (de_and (de_eq hr (de_var 1) de_str) (de_one (de_eq hr (de_len Z.f_len (de_var 0)) de_int))))))))), rfl⟩
  obtain ⟨t, m, hD, rfl⟩ := D
  exact ⟨t, hD⟩
theorem ok_has_own_parts (Z : Tx K mg) : Cal P w K mg base "has_own_parts" 13 1 F_has_own_parts := by
  obtain ⟨v_MOST_ROUNDS, u_MOST_ROUNDS, g_MOST_ROUNDS⟩ := Z.g_MOST_ROUNDS
  obtain ⟨f, fd, hg, Fu⟩ := Z.d_has_own_parts
  refine mk_fn (k := 12) Fu hg sc_has_own_parts rfl (Fu.binds fun _ _ _ _ _ _ us hl => match us, hl with | [_], _ => rfl) mono_F_has_own_parts (fun cdv A outer s H E hr => ?_) (fun ds s Q X _ h => p_has_own_parts ds s Q X h)
  have D : ∃ t m, DSs (CxF P w K mg base ["thing", "word"] "has_own_parts" s_has_own_parts f cdv A outer s H E) (WF E) (defBody s_has_own_parts) t m ∧ m = m_has_own_parts := ⟨_, _, (dss_cons (ds_set (i := 1) sc_has_own_parts.nd rfl (.inl rfl) (de_ix (de_var 0) de_int))
    (dss_cons (ds_if (dt_eq hr (de_var 1) de_str)
    (dss_cons (ds_if (DW.dt (dw_or (dt_ne hr (de_len Z.f_len (de_var 0)) de_int) (dw_or (dt_not (dt_of (de_call (ok_is_name Z) hr takesF (da_cons (de_ix (de_var 0) de_int) da_nil)))) (dw_or1 (dt_not (dt_of (de_call (ok_is_name Z) hr takesF (da_cons (de_ix (de_var 0) de_int) da_nil))))))))
    (dss_one (ds_ret de_bl))
    dss_nil)
    (dss_one (ds_ret (de_and (de_call (ok_is_expression Z) hr takesF (da_cons (de_ix (de_var 0) de_int) da_nil)) (de_one (de_call (ok_is_expression Z) hr takesF (da_cons (de_ix (de_var 0) de_int) da_nil)))))))
    dss_nil)
    (dss_cons (ds_if (dt_eq hr (de_var 1) de_str)
    (dss_one (ds_ret (de_and (de_eq hr (de_len Z.f_len (de_var 0)) de_int) (de_one (de_call (ok_is_expression Z) hr takesF (da_cons (de_ix (de_var 0) de_int) da_nil))))))
    dss_nil)
    (dss_one (ds_ret (de_and (de_eq hr (de_var 1) de_str) (de_and (de_eq hr (de_len Z.f_len (de_var 0)) de_int) (de_and (de_call (ok_is_expression Z) hr takesF (da_cons (de_ix (de_var 0) de_int) da_nil)) (de_one (de_call (ok_is_within Z) hr takesF (da_cons (de_ix (de_var 0) de_int) (da_cons de_int (da_cons (de_glob g_MOST_ROUNDS) da_nil))))))))))))), rfl⟩
  obtain ⟨t, m, hD, rfl⟩ := D
  exact ⟨t, hD⟩
theorem ok_blocks_of (Z : Tx K mg) : Cal P w K mg base "blocks_of" 1 1 F_blocks_of := by
  obtain ⟨f, fd, hg, Fu⟩ := Z.d_blocks_of
  refine mk_fn (k := 0) Fu hg sc_blocks_of rfl (Fu.binds fun _ _ _ _ _ _ us hl => match us, hl with | [_], _ => rfl) mono_F_blocks_of (fun cdv A outer s H E hr => ?_) (fun ds s Q X _ h => p_blocks_of ds s Q X h)
  have D : ∃ t m, DSs (CxF P w K mg base ["statement"] "blocks_of" s_blocks_of f cdv A outer s H E) (WF E) (defBody s_blocks_of) t m ∧ m = m_blocks_of := ⟨_, _, (dss_cons (ds_if (dt_eq hr (de_ix (de_var 0) de_int) de_str)
    (dss_one (ds_ret (de_sl (de_var 0) (do_some de_int) do_none)))
    dss_nil)
    (dss_cons (ds_if (dt_eq hr (de_ix (de_var 0) de_int) de_str)
    (dss_one (ds_ret (de_sl (de_var 0) (do_some de_int) do_none)))
    dss_nil)
    (dss_one (ds_ret (de_if (dt_eq hr (de_ix (de_var 0) de_int) de_str) (de_sl (de_var 0) (do_some de_int) do_none) (de_tup da_nil)))))), rfl⟩
  obtain ⟨t, m, hD, rfl⟩ := D
  exact ⟨t, hD⟩
theorem rec_first_bad (Z : Tx K mg) (d : Nat) (Cr : Cal P w K mg base "first_bad" (13 + d) 2 (fz Fd_first_bad d)) : Cal P w K mg base "first_bad" (13 + d + 1) 2 (Fd_first_bad d) := by
  obtain ⟨v_MOST_BLOCKS, u_MOST_BLOCKS, g_MOST_BLOCKS⟩ := Z.g_MOST_BLOCKS
  obtain ⟨f, fd, hg, Fu⟩ := Z.d_first_bad
  refine mk_fn (k := 13 + d) Fu hg sc_first_bad rfl (Fu.binds fun _ _ _ _ _ _ us hl => match us, hl with | [_, _], _ => rfl) (mono_Fd_first_bad d) (fun cdv A outer s H E hr => ?_) (fun ds s Q X _ h => p_first_bad d (fz Fd_first_bad d) (fun d' e => by subst e; rfl) ds s Q X h)
  have D : ∃ t m, DSs (CxF P w K mg base ["block", "deep", "number", "thing", "one", "side", "found"] "first_bad" s_first_bad f cdv A outer s H E) (WF E) (defBody s_first_bad) t m ∧ m = m_first_bad (fz Fd_first_bad d) := ⟨_, _, (dss_cons (ds_for passesF rfl (di_enum Z.f_enumerate (de_var 0)) (dgt rfl (dgs_cons (dg_name (i := 2) sc_first_bad.nd rfl (.inl rfl)) (dgs_cons (dg_name (i := 3) sc_first_bad.nd rfl (.inl rfl)) dgs_nil)))
    (dss_cons (ds_if (DW.dt (dw_or (dt_not (dt_of (de_isi Z.f_isinstance isi_tuple (pe_tyv Z.f_tuple (by decide +kernel)) (de_var 3)))) (dw_or (dt_eq hr (de_len Z.f_len (de_var 3)) de_int) (dw_or1 (dt_not (dt_of (de_isi Z.f_isinstance isi_str (pe_tyv Z.f_str (by decide +kernel)) (de_ix (de_var 3) de_int))))))))
    (dss_one (ds_ret (de_tup (da_cons (de_var 2) da_nil))))
    dss_nil)
    (dss_one (ds_if (dt_not (dt_of (de_call (ok_is_plain_statement Z) hr takesF (da_cons (de_var 3) da_nil) (hkj := (by omega)))))
    (dss_cons (ds_if (DW.dt (dw_or (dt_not (dt_of (de_call (ok_has_own_parts Z) hr takesF (da_cons (de_var 3) da_nil) (hkj := (by omega))))) (dw_or1 (dt_eq hr (de_var 1) (de_glob g_MOST_BLOCKS)))))
    (dss_one (ds_ret (de_tup (da_cons (de_var 2) da_nil))))
    dss_nil)
    (dss_cons (ds_if (dt_not (dt_of (de_all Z.f_all rfl (de_lcF (own := [("one", 4)]) rfl sc_first_bad.nd (di_seq (de_call (ok_blocks_of Z) hr takesF (da_cons (de_var 3) da_nil) (hkj := (by omega)))) (blkOk_by (N := ["block", "deep", "number", "thing", "one", "side", "found"]) (sc := defScope s_first_bad) (by decide +kernel)) (fun _ _ _ _ _ => (dg_name (i := 4) sc_first_bad.nd rfl (.inl rfl))) (fun _ _ _ _ _ => dts_nil) (fun _ _ _ _ _ => (de_isi Z.f_isinstance isi_tuple (pe_tyv Z.f_tuple (by decide +kernel)) (de_var 4)))))))
    (dss_one (ds_ret (de_tup (da_cons (de_var 2) da_nil))))
    dss_nil)
    (dss_one (ds_for passesF rfl (di_enum Z.f_enumerate (de_call (ok_blocks_of Z) hr takesF (da_cons (de_var 3) da_nil) (hkj := (by omega)))) (dgt rfl (dgs_cons (dg_name (i := 5) sc_first_bad.nd rfl (.inl rfl)) (dgs_cons (dg_name (i := 4) sc_first_bad.nd rfl (.inl rfl)) dgs_nil)))
    (dss_cons (ds_set (i := 6) sc_first_bad.nd rfl (.inl rfl) (de_call Cr hr takesF (da_cons (de_var 4) (da_cons (de_add (de_var 1) de_int) da_nil)) (hkj := (by omega))))
    (dss_one (ds_if (dt_notN (de_var 6))
    (dss_one (ds_ret (de_add (de_tup (da_cons (de_var 2) (da_cons (de_var 5) da_nil))) (de_var 6))))
    dss_nil)))))))
    dss_nil))))
    (dss_one (ds_ret de_non))), rfl⟩
  obtain ⟨t, m, hD, rfl⟩ := D
  exact ⟨t, hD⟩
theorem recs_first_bad (Z : Tx K mg) : ∀ d, Cal P w K mg base "first_bad" (13 + d) 2 (fz Fd_first_bad d)
  | 0 => cal_none (ps := ["block", "deep"]) Z.d_first_bad (fun _ _ _ _ h => h) (fun f fd Fu => (Fu.binds fun _ _ _ _ _ _ us hl => match us, hl with | [_, _], _ => rfl))
  | d + 1 => rec_first_bad Z d (recs_first_bad Z d)
theorem ok_first_bad (Z : Tx K mg) : Cal P w K mg base "first_bad" 18 2 F_first_bad := recs_first_bad Z 5
theorem rec_statements_in (Z : Tx K mg) (d : Nat) (Cr : Cal P w K mg base "statements_in" (1 + d) 1 (fz Fd_statements_in d)) : Cal P w K mg base "statements_in" (1 + d + 1) 1 (Fd_statements_in d) := by
  obtain ⟨f, fd, hg, Fu⟩ := Z.d_statements_in
  refine mk_fn (k := 1 + d) Fu hg sc_statements_in rfl (Fu.binds fun _ _ _ _ _ _ us hl => match us, hl with | [_], _ => rfl) (mono_Fd_statements_in d) (fun cdv A outer s H E hr => ?_) (fun ds s Q X _ h => p_statements_in d (fz Fd_statements_in d) (fun d' e => by subst e; rfl) ds s Q X h)
  have D : ∃ t m, DSs (CxF P w K mg base ["block", "found", "statement", "one"] "statements_in" s_statements_in f cdv A outer s H E) (WF E) (defBody s_statements_in) t m ∧ m = m_statements_in (fz Fd_statements_in d) := ⟨_, _, (dss_cons (ds_set (i := 1) sc_statements_in.nd rfl (.inl rfl) (de_len Z.f_len (de_var 0)))
    (dss_cons (ds_for passesF rfl (di_seq (de_var 0)) (dg_name (i := 2) sc_statements_in.nd rfl (.inl rfl))
    (dss_one (ds_aug (i := 1) sc_statements_in.nd rfl (.inl rfl) ip_add opm_ipadd (de_sum Z.f_sum rfl (de_lcF (own := [("one", 3)]) rfl sc_statements_in.nd (di_seq (de_call (ok_blocks_of Z) hr takesF (da_cons (de_var 2) da_nil) (hkj := (by omega)))) (blkOk_by (N := ["block", "found", "statement", "one"]) (sc := defScope s_statements_in) (by decide +kernel)) (fun _ _ _ _ _ => (dg_name (i := 3) sc_statements_in.nd rfl (.inl rfl))) (fun _ _ _ _ _ => dts_nil) (fun _ _ _ _ _ => (de_call Cr hr takes0 (da_cons (de_var 3) da_nil) (hkj := (by omega)))))))))
    (dss_one (ds_ret (de_var 1))))), rfl⟩
  obtain ⟨t, m, hD, rfl⟩ := D
  exact ⟨t, hD⟩
theorem recs_statements_in (Z : Tx K mg) : ∀ d, Cal P w K mg base "statements_in" (1 + d) 1 (fz Fd_statements_in d)
  | 0 => cal_none (ps := ["block"]) Z.d_statements_in (fun _ _ _ _ h => h) (fun f fd Fu => (Fu.binds fun _ _ _ _ _ _ us hl => match us, hl with | [_], _ => rfl))
  | d + 1 => rec_statements_in Z d (recs_statements_in Z d)
theorem ok_statements_in (Z : Tx K mg) : Cal P w K mg base "statements_in" 6 1 F_statements_in := recs_statements_in Z 5
theorem xc_BadProgram (Z : Tx K mg) : XC P w K mg base "BadProgram" "place" 1 := by
  obtain ⟨h, X, G⟩ := Z.ex
  obtain ⟨fd, Fu⟩ := Z.d_BadProgram___init__
  exact xc_ok X G (TxG.nth Z 71) Fu (Fu.binds fun _ _ _ _ _ _ us hl => match us, hl with | [_, _], _ => rfl) sc_BadProgram___init__ rfl fun cdv A outer s H E => ps_ost (pv 0) (pv 1)
theorem fo_Program___init__ (Z : Tx K mg) : ∃ fd ps, Binds K fd ps [] ∧ FnOk P w K mg base (L2.CX P w) 19 (He.ma K (He.ga K "Program") "__init__") fd ps (spM K mg 2 F_Program___init__) := by
  obtain ⟨v_MOST_STATEMENTS, u_MOST_STATEMENTS, g_MOST_STATEMENTS⟩ := Z.g_MOST_STATEMENTS
  obtain ⟨fd, Fu⟩ := Z.d_Program___init__
  refine ⟨fd, _, (Fu.binds fun _ _ _ _ _ _ us hl => match us, hl with | [_, _], _ => rfl), mk_ok (k := 18) Fu sc_Program___init__ rfl (fun cdv A outer s H E hr => ?_) (fun ds s Q X _ h => p_Program_init ds s Q X h)⟩
  have D : ∃ t m, DSs (CxF P w K mg base ["self", "block", "found"] "Program.__init__" s_Program___init__ (He.ma K (He.ga K "Program") "__init__") cdv A outer s H E) (WF E) (defBody s_Program___init__) t m ∧ m = m_Program___init__ := ⟨_, _, (dss_cons (ds_if (dt_not (dt_of (de_isi Z.f_isinstance isi_tuple (pe_tyv Z.f_tuple (by decide +kernel)) (de_var 1))))
    (dss_one (ds_raise1 (xc_BadProgram Z) hr rfl takesF (de_tup da_nil)))
    dss_nil)
    (dss_cons (ds_set (i := 2) sc_Program___init__.nd rfl (.inl rfl) (de_call (ok_first_bad Z) hr takesF (da_cons (de_var 1) (da_cons de_int da_nil))))
    (dss_cons (ds_if (dt_notN (de_var 2))
    (dss_one (ds_raise1 (xc_BadProgram Z) hr rfl takesF (de_var 2)))
    dss_nil)
    (dss_cons (ds_if (dt_gt (de_call (ok_statements_in Z) hr takesF (da_cons (de_var 1) da_nil)) (de_glob g_MOST_STATEMENTS))
    (dss_one (ds_raise1 (xc_BadProgram Z) hr rfl takesF (de_tup da_nil)))
    dss_nil)
    (dss_one (ds_setF Z.a_Program_block (de_var 0) (de_var 1))))))), rfl⟩
  obtain ⟨t, m, hD, rfl⟩ := D
  exact ⟨t, hD⟩
theorem mk_Program (Z : Tx K mg) : Mke P w K mg base "Program" 19 1 F_Program___init__ := by
  obtain ⟨h, X, G⟩ := Z.ex
  obtain ⟨fd, ps, b, f⟩ := fo_Program___init__ (P := P) (w := w) (base := base) Z
  exact mke_ok X G (TxG.nth Z 64) (TxG.nth Z 67) b f mono_F_Program___init__
theorem fo_Program___eq__ (Z : Tx K mg) : ∃ fd ps, Binds K fd ps [] ∧ FnOk P w K mg base (L2.CX P w) 1 (He.ma K (He.ga K "Program") "__eq__") fd ps (spM K mg 2 F_Program___eq__) := by
  obtain ⟨C_Program, h_Program, i_Program⟩ := Z.i_Program
  obtain ⟨fd, Fu⟩ := Z.d_Program___eq__
  refine ⟨fd, _, (Fu.binds fun _ _ _ _ _ _ us hl => match us, hl with | [_, _], _ => rfl), mk_ok (k := 0) Fu sc_Program___eq__ rfl (fun cdv A outer s H E hr => ?_) (fun ds s Q X _ h => p_Program_eq ds s Q X h)⟩
  have D : ∃ t m, DSs (CxF P w K mg base ["self", "other"] "Program.__eq__" s_Program___eq__ (He.ma K (He.ga K "Program") "__eq__") cdv A outer s H E) (WF E) (defBody s_Program___eq__) t m ∧ m = m_Program___eq__ := ⟨_, _, (dss_one (ds_ret (de_and (de_isi Z.f_isinstance i_Program (pe_clv h_Program) (de_var 1)) (de_one (de_eq hr (de_fld Z.a_Program_block (de_var 0)) (de_fld Z.a_Program_block (de_var 1))))))), rfl⟩
  obtain ⟨t, m, hD, rfl⟩ := D
  exact ⟨t, hD⟩
theorem eq_Program (Z : Tx K mg) : EqM P w K mg base "Program" 1 ok_eq_Program F_Program___eq__ := by
  obtain ⟨h, X, G⟩ := Z.ex
  obtain ⟨fd, ps, b, f⟩ := fo_Program___eq__ (P := P) (w := w) (base := base) Z
  exact eqc_ok X G (TxG.nth Z 62) (fun k hk => by
    by_cases e : k = "Program"
    · simp [e, ownCs]
    · simp [ok_eq_Program, e] at hk) (TxG.nth Z 70) b f mono_F_Program___eq__
theorem ok__law_mixed (Z : Tx K mg) : Cal P w K mg base "_law_mixed" 1 2 F__law_mixed := by
  obtain ⟨f, fd, hg, Fu⟩ := Z.d__law_mixed
  refine mk_fn (k := 0) Fu hg sc__law_mixed rfl (Fu.binds fun _ _ _ _ _ _ us hl => match us, hl with | [_, _], _ => rfl) mono_F__law_mixed (fun cdv A outer s H E hr => ?_) (fun ds s Q X _ h => p_mixed ds s Q X h)
  have D : ∃ t m, DSs (CxF P w K mg base ["_law_cell", "_law_turn", "_law_number"] "_law_mixed" s__law_mixed f cdv A outer s H E) (WF E) (defBody s__law_mixed) t m ∧ m = m__law_mixed := ⟨_, _, (dss_cons (ds_set (i := 2) sc__law_mixed.nd rfl (.inl rfl) (de_mod (de_mulI (de_add (de_add (de_mod (de_intc Z.f_int (de_var 0)) de_int) (de_mulI de_int (de_var 1))) de_int) de_int) de_int))
    (dss_cons (ds_set (i := 2) sc__law_mixed.nd rfl (.inl rfl) (de_mod (de_mulI (de_var 2) (de_add (de_fdiv (de_var 2) de_int) de_int)) de_int))
    (dss_one (ds_ret (de_fdiv (de_mod (de_mulI (de_var 2) (de_add (de_fdiv (de_var 2) de_int) de_int)) de_int) de_int))))), rfl⟩
  obtain ⟨t, m, hD, rfl⟩ := D
  exact ⟨t, hD⟩
theorem ok__law_bag (Z : Tx K mg) : Cal P w K mg base "_law_bag" 1 1 F__law_bag := by
  obtain ⟨f, fd, hg, Fu⟩ := Z.d__law_bag
  refine mk_fn (k := 0) Fu hg sc__law_bag rfl (Fu.binds fun _ _ _ _ _ _ us hl => match us, hl with | [_], _ => rfl) mono_F__law_bag (fun cdv A outer s H E hr => ?_) (fun ds s Q X _ h => p_bag ds s Q X h)
  have D : ∃ t m, DSs (CxF P w K mg base ["_law_script", "_law_cell"] "_law_bag" s__law_bag f cdv A outer s H E) (WF E) (defBody s__law_bag) t m ∧ m = m__law_bag := ⟨_, _, (dss_one (ds_ret (de_lstR (da_cons (de_lcF (own := [("_law_cell", 1)]) rfl sc__law_bag.nd (di_seq (de_sl (de_var 0) do_none (do_some de_int))) (blkOk_by (N := ["_law_script", "_law_cell"]) (sc := defScope s__law_bag) (by decide +kernel)) (fun _ _ _ _ _ => (dg_name (i := 1) sc__law_bag.nd rfl (.inl rfl))) (fun _ _ _ _ _ => dts_nil) (fun _ _ _ _ _ => (de_intc Z.f_int (de_var 1)))) (da_cons de_int (da_cons de_int (da_cons de_int da_nil))))))), rfl⟩
  obtain ⟨t, m, hD, rfl⟩ := D
  exact ⟨t, hD⟩
theorem ok__law_draw (Z : Tx K mg) : Cal P w K mg base "_law_draw" 2 2 F__law_draw := by
  obtain ⟨f, fd, hg, Fu⟩ := Z.d__law_draw
  refine mk_fn (k := 1) Fu hg sc__law_draw rfl (Fu.binds fun _ _ _ _ _ _ us hl => match us, hl with | [_, _], _ => rfl) mono_F__law_draw (fun cdv A outer s H E hr => ?_) (fun ds s Q X _ h => p_draw ds s Q X h)
  have D : ∃ t m, DSs (CxF P w K mg base ["_law_bag_here", "_law_many", "_law_found", "_law_cells", "_law_at", "_law_cell"] "_law_draw" s__law_draw f cdv A outer s H E) (WF E) (defBody s__law_draw) t m ∧ m = m__law_draw := ⟨_, _, (dss_cons (dsub (de_add (de_ix (de_var 0) de_int) de_int) (de_var 0) de_int)
    (dss_cons (ds_if (dt_gt (de_ix (de_var 0) de_int) de_int)
    (dss_cons (ds_set (i := 2) sc__law_draw.nd rfl (.inl rfl) (de_mod (de_intc Z.f_int (de_ix (de_var 0) de_int)) (de_var 1)))
    (dss_cons (dsub (de_fdiv (de_ix (de_var 0) de_int) (de_var 1)) (de_var 0) de_int)
    (dss_one (ds_ret (de_var 2)))))
    dss_nil)
    (dss_cons (ds_set (i := 3) sc__law_draw.nd rfl (.inl rfl) (de_ix (de_var 0) de_int))
    (dss_cons (ds_if (dt_eq hr (de_len Z.f_len (de_var 3)) de_int)
    (dss_one (ds_ret (de_mod (de_call (ok__law_mixed Z) hr takesF (da_cons de_int (da_cons (de_ix (de_var 0) de_int) da_nil))) (de_var 1))))
    dss_nil)
    (dss_cons (ds_set (i := 4) sc__law_draw.nd rfl (.inl rfl) (de_ix (de_var 0) de_int))
    (dss_cons (dsub (de_add (de_var 4) de_int) (de_var 0) de_int)
    (dss_cons (ds_set (i := 5) sc__law_draw.nd rfl (.inl rfl) (de_ix (de_var 3) (de_mod (de_intc Z.f_int (de_var 4)) (de_len Z.f_len (de_var 3)))))
    (dss_cons (ds_if (DW.dt (dw_and (dt_lt (de_var 4) (de_len Z.f_len (de_var 3))) (dw_and1 (dt_ge (de_abs Z.f_abs (de_var 5)) (de_pow de_int de_int)))))
    (dss_cons (dsub (de_fdiv (de_abs Z.f_abs (de_var 5)) (de_var 1)) (de_var 0) de_int)
    (dss_one (ds_ret (de_mod (de_intc Z.f_int (de_abs Z.f_abs (de_var 5))) (de_var 1)))))
    dss_nil)
    (dss_one (ds_ret (de_mod (de_call (ok__law_mixed Z) hr takesF (da_cons (de_var 5) (da_cons (de_ix (de_var 0) de_int) da_nil))) (de_var 1)))))))))))), rfl⟩
  obtain ⟨t, m, hD, rfl⟩ := D
  exact ⟨t, hD⟩
theorem ok__law_word (Z : Tx K mg) : Cal P w K mg base "_law_word" 3 2 F__law_word := by
  obtain ⟨f, fd, hg, Fu⟩ := Z.d__law_word
  refine mk_fn (k := 2) Fu hg sc__law_word rfl (Fu.binds fun _ _ _ _ _ _ us hl => match us, hl with | [_, _], _ => rfl) mono_F__law_word (fun cdv A outer s H E hr => ?_) (fun ds s Q X _ h => p_word ds s Q X h)
  have D : ∃ t m, DSs (CxF P w K mg base ["_law_bag_here", "_law_most", "_law_letters", "_law_found", "_law_k"] "_law_word" s__law_word f cdv A outer s H E) (WF E) (defBody s__law_word) t m ∧ m = m__law_word := ⟨_, _, (dss_cons (ds_set (i := 2) sc__law_word.nd rfl (.inl rfl) de_str)
    (dss_cons (ds_set (i := 3) sc__law_word.nd rfl (.inl rfl) de_str)
    (dss_cons (ds_for passesF rfl (di_range1 Z.f_range (de_add de_int (de_call (ok__law_draw Z) hr takesF (da_cons (de_var 0) (da_cons (de_var 1) da_nil))))) (dg_name (i := 4) sc__law_word.nd rfl (.inl rfl))
    (dss_one (ds_set (i := 3) sc__law_word.nd rfl (.inl rfl) (de_add (de_var 3) (de_ix (de_var 2) (de_call (ok__law_draw Z) hr takesF (da_cons (de_var 0) (da_cons de_int da_nil))))))))
    (dss_one (ds_ret (de_var 3)))))), rfl⟩
  obtain ⟨t, m, hD, rfl⟩ := D
  exact ⟨t, hD⟩
theorem ok__law_kept_words (Z : Tx K mg) : Cal P w K mg base "_law_kept_words" 1 0 F__law_kept_words := by
  obtain ⟨f, fd, hg, Fu⟩ := Z.d__law_kept_words
  refine mk_fn (k := 0) Fu hg sc__law_kept_words rfl (Fu.binds fun _ _ _ _ _ _ us hl => match us, hl with | [], _ => rfl) mono_F__law_kept_words (fun cdv A outer s H E hr => ?_) (fun ds s Q X _ h => p_kept ds s Q X h)
  have D : ∃ t m, DSs (CxF P w K mg base ["_law_found"] "_law_kept_words" s__law_kept_words f cdv A outer s H E) (WF E) (defBody s__law_kept_words) t m ∧ m = m__law_kept_words := ⟨_, _, (dss_cons (ds_set (i := 0) sc__law_kept_words.nd rfl (.inl rfl) (de_lst (da_cons de_str (da_cons de_str (da_cons de_str (da_cons de_str (da_cons de_str (da_cons de_str (da_cons de_str (da_cons de_str (da_cons de_str (da_cons de_str (da_cons de_str (da_cons de_str (da_cons de_str (da_cons de_str (da_cons de_str da_nil)))))))))))))))))
    (dss_one (ds_ret (de_add (de_var 0) (de_lst (da_cons de_str (da_cons de_str (da_cons de_str (da_cons de_str da_nil))))))))), rfl⟩
  obtain ⟨t, m, hD, rfl⟩ := D
  exact ⟨t, hD⟩
theorem ok__law_names (Z : Tx K mg) : Cal P w K mg base "_law_names" 4 1 F__law_names := by
  obtain ⟨f, fd, hg, Fu⟩ := Z.d__law_names
  refine mk_fn (k := 3) Fu hg sc__law_names rfl (Fu.binds fun _ _ _ _ _ _ us hl => match us, hl with | [_], _ => rfl) mono_F__law_names (fun cdv A outer s H E hr => ?_) (fun ds s Q X _ h => p_names ds s Q X h)
  have D : ∃ t m, DSs (CxF P w K mg base ["_law_bag_here", "_law_found", "_law_k", "_law_name"] "_law_names" s__law_names f cdv A outer s H E) (WF E) (defBody s__law_names) t m ∧ m = m__law_names := ⟨_, _, (dss_cons (ds_set (i := 1) sc__law_names.nd rfl (.inl rfl) (de_lstR da_nil))
    (dss_cons (ds_for passesF rfl (di_range1 Z.f_range de_int) (dg_name (i := 2) sc__law_names.nd rfl (.inl rfl))
    (dss_cons (ds_set (i := 3) sc__law_names.nd rfl (.inl rfl) (de_call (ok__law_word Z) hr takesF (da_cons (de_var 0) (da_cons de_int da_nil))))
    (dss_cons (ds_if (dt_in hr (de_var 3) (de_call0 (ok__law_kept_words Z) hr takesF))
    (dss_one (ds_set (i := 3) sc__law_names.nd rfl (.inl rfl) (de_add (de_var 3) de_str)))
    dss_nil)
    (dss_one (ds_expr (de_append (de_var 1) (de_var 3)))))))
    (dss_one (ds_ret (de_var 1))))), rfl⟩
  obtain ⟨t, m, hD, rfl⟩ := D
  exact ⟨t, hD⟩
theorem ok__law_leaf (Z : Tx K mg) : Cal P w K mg base "_law_leaf" 4 2 F__law_leaf := by
  obtain ⟨f, fd, hg, Fu⟩ := Z.d__law_leaf
  refine mk_fn (k := 3) Fu hg sc__law_leaf rfl (Fu.binds fun _ _ _ _ _ _ us hl => match us, hl with | [_, _], _ => rfl) mono_F__law_leaf (fun cdv A outer s H E hr => ?_) (fun ds s Q X _ h => p_leaf0 ds s Q X h)
  have D : ∃ t m, DSs (CxF P w K mg base ["_law_bag_here", "_law_names_here", "_law_kind"] "_law_leaf" s__law_leaf f cdv A outer s H E) (WF E) (defBody s__law_leaf) t m ∧ m = m__law_leaf := ⟨_, _, (dss_cons (ds_set (i := 2) sc__law_leaf.nd rfl (.inl rfl) (de_call (ok__law_draw Z) hr takesF (da_cons (de_var 0) (da_cons de_int da_nil))))
    (dss_cons (ds_if (dt_eq hr (de_var 2) de_int)
    (dss_one (ds_ret (de_tup (da_cons de_str (da_cons (de_call (ok__law_word Z) hr takesF (da_cons (de_var 0) (da_cons de_int da_nil))) da_nil)))))
    dss_nil)
    (dss_cons (ds_if (dt_eq hr (de_var 2) de_int)
    (dss_one (ds_ret (de_tup (da_cons de_str (da_cons (de_ix (de_lst (da_cons de_int (da_cons (de_neg' de_int) (da_cons (de_pow de_int de_int) (da_cons (de_neg' (de_pow de_int de_int)) (da_cons de_int da_nil)))))) (de_call (ok__law_draw Z) hr takesF (da_cons (de_var 0) (da_cons de_int da_nil)))) da_nil)))))
    dss_nil)
    (dss_cons (ds_if (dt_eq hr (de_var 2) de_int)
    (dss_one (ds_ret (de_tup (da_cons de_str (da_cons (de_sub (de_call (ok__law_draw Z) hr takesF (da_cons (de_var 0) (da_cons (de_pow de_int de_int) da_nil))) (de_mulI de_int (de_pow de_int de_int))) da_nil)))))
    dss_nil)
    (dss_one (ds_ret (de_tup (da_cons de_str (da_cons (de_ix (de_var 1) (de_call (ok__law_draw Z) hr takesF (da_cons (de_var 0) (da_cons (de_len Z.f_len (de_var 1)) da_nil)))) da_nil))))))))), rfl⟩
  obtain ⟨t, m, hD, rfl⟩ := D
  exact ⟨t, hD⟩
theorem rec__law_expression (Z : Tx K mg) (d : Nat) (Cr : Cal P w K mg base "_law_expression" (4 + d) 5 (fz Fd_expr d)) : Cal P w K mg base "_law_expression" (4 + d + 1) 5 (Fd_expr d) := by
  obtain ⟨f, fd, hg, Fu⟩ := Z.d__law_expression
  refine mk_fn (k := 4 + d) Fu hg sc__law_expression rfl (Fu.binds fun _ _ _ _ _ _ us hl => match us, hl with | [_, _, _, _, _], _ => rfl) (mono_Fd_expr d) (fun cdv A outer s H E hr => ?_) (fun ds s Q X _ h => p_expr d (fz Fd_expr d) (fun d' e => by subst e; rfl) ds s Q X h)
  have D : ∃ t m, DSs (CxF P w K mg base ["_law_bag_here", "_law_names_here", "_law_room", "_law_deep", "_law_shape", "_law_left", "_law_sign", "_law_one"] "_law_expression" s__law_expression f cdv A outer s H E) (WF E) (defBody s__law_expression) t m ∧ m = m__law_expression (fz Fd_expr d) := ⟨_, _, (dss_cons (ds_if (DW.dt (dw_or (dt_le (de_var 2) de_int) (dw_or1 (dt_le (de_var 3) de_int))))
    (dss_one (ds_ret (de_call (ok__law_leaf Z) hr takesF (da_cons (de_var 0) (da_cons (de_var 1) da_nil)) (hkj := (by omega)))))
    dss_nil)
    (dss_cons (ds_if (DW.dt (dw_or (dt_eq hr (de_var 2) de_int) (dw_or1 (DW.dt (dw_and (dt_eq hr (de_var 4) de_int) (dw_and1 (dt_eq hr (de_call (ok__law_draw Z) hr takesF (da_cons (de_var 0) (da_cons de_int da_nil)) (hkj := (by omega))) de_int)))))))
    (dss_one (ds_ret (de_tup (da_cons de_str (da_cons (de_call Cr hr takesF (da_cons (de_var 0) (da_cons (de_var 1) (da_cons (de_sub (de_var 2) de_int) (da_cons (de_sub (de_var 3) de_int) (da_cons (de_var 4) da_nil))))) (hkj := (by omega))) da_nil)))))
    dss_nil)
    (dss_cons (ds_set (i := 5) sc__law_expression.nd rfl (.inl rfl) (de_add de_int (de_call (ok__law_draw Z) hr takesF (da_cons (de_var 0) (da_cons (de_sub (de_var 2) de_int) da_nil)) (hkj := (by omega)))))
    (dss_cons (ds_if (dt_eq hr (de_var 4) de_int)
    (dss_one (ds_set (i := 5) sc__law_expression.nd rfl (.inl rfl) (de_fdiv (de_sub (de_var 2) de_int) de_int)))
    dss_nil)
    (dss_cons (ds_if (dt_eq hr (de_var 4) de_int)
    (dss_one (ds_set (i := 5) sc__law_expression.nd rfl (.inl rfl) (de_sub (de_var 2) de_int)))
    dss_nil)
    (dss_cons (ds_set (i := 6) sc__law_expression.nd rfl (.inl rfl) (de_ix (de_lst (da_cons de_str (da_cons de_str (da_cons de_str (da_cons de_str (da_cons de_str (da_cons de_str (da_cons de_str (da_cons de_str (da_cons de_str da_nil)))))))))) (de_call (ok__law_draw Z) hr takesF (da_cons (de_var 0) (da_cons de_int da_nil)) (hkj := (by omega)))))
    (dss_cons (ds_set (i := 7) sc__law_expression.nd rfl (.inl rfl) (de_call Cr hr takesF (da_cons (de_var 0) (da_cons (de_var 1) (da_cons (de_var 5) (da_cons (de_sub (de_var 3) de_int) (da_cons (de_var 4) da_nil))))) (hkj := (by omega))))
    (dss_one (ds_ret (de_tup (da_cons (de_var 6) (da_cons (de_var 7) (da_cons (de_call Cr hr takesF (da_cons (de_var 0) (da_cons (de_var 1) (da_cons (de_sub (de_sub (de_var 2) de_int) (de_var 5)) (da_cons (de_sub (de_var 3) de_int) (da_cons (de_var 4) da_nil))))) (hkj := (by omega))) da_nil))))))))))))), rfl⟩
  obtain ⟨t, m, hD, rfl⟩ := D
  exact ⟨t, hD⟩
theorem recs__law_expression (Z : Tx K mg) : ∀ d, Cal P w K mg base "_law_expression" (4 + d) 5 (fz Fd_expr d)
  | 0 => cal_none (ps := ["_law_bag_here", "_law_names_here", "_law_room", "_law_deep", "_law_shape"]) Z.d__law_expression (fun _ _ _ _ h => h) (fun f fd Fu => (Fu.binds fun _ _ _ _ _ _ us hl => match us, hl with | [_, _, _, _, _], _ => rfl))
  | d + 1 => rec__law_expression Z d (recs__law_expression Z d)
theorem ok__law_expression (Z : Tx K mg) : Cal P w K mg base "_law_expression" 15 5 F__law_expression := recs__law_expression Z 11
theorem ok__law_plain (Z : Tx K mg) : Cal P w K mg base "_law_plain" 16 3 F__law_plain := by
  obtain ⟨f, fd, hg, Fu⟩ := Z.d__law_plain
  refine mk_fn (k := 15) Fu hg sc__law_plain rfl (Fu.binds fun _ _ _ _ _ _ us hl => match us, hl with | [_, _, _], _ => rfl) mono_F__law_plain (fun cdv A outer s H E hr => ?_) (fun ds s Q X _ h => p_plain ds s Q X h)
  have D : ∃ t m, DSs (CxF P w K mg base ["_law_bag_here", "_law_names_here", "_law_is_wild", "_law_room"] "_law_plain" s__law_plain f cdv A outer s H E) (WF E) (defBody s__law_plain) t m ∧ m = m__law_plain := ⟨_, _, (dss_cons (ds_if (dt_of (de_var 2))
    (dss_cons (ds_set (i := 3) sc__law_plain.nd rfl (.inl rfl) (de_ix (de_lst (da_cons de_int (da_cons de_int (da_cons de_int (da_cons de_int (da_cons de_int (da_cons de_int da_nil))))))) (de_call (ok__law_draw Z) hr takesF (da_cons (de_var 0) (da_cons de_int da_nil)))))
    (dss_one (ds_ret (de_call (ok__law_expression Z) hr takesF (da_cons (de_var 0) (da_cons (de_var 1) (da_cons (de_var 3) (da_cons (de_add de_int (de_call (ok__law_draw Z) hr takesF (da_cons (de_var 0) (da_cons de_int da_nil)))) (da_cons (de_call (ok__law_draw Z) hr takesF (da_cons (de_var 0) (da_cons de_int da_nil))) da_nil)))))))))
    dss_nil)
    (dss_one (ds_ret (de_call (ok__law_expression Z) hr takesF (da_cons (de_var 0) (da_cons (de_var 1) (da_cons (de_ix (de_lst (da_cons de_int (da_cons de_int (da_cons de_int (da_cons de_int (da_cons de_int (da_cons de_int da_nil))))))) (de_call (ok__law_draw Z) hr takesF (da_cons (de_var 0) (da_cons de_int da_nil)))) (da_cons de_int (da_cons (de_call (ok__law_draw Z) hr takesF (da_cons (de_var 0) (da_cons de_int da_nil))) da_nil))))))))), rfl⟩
  obtain ⟨t, m, hD, rfl⟩ := D
  exact ⟨t, hD⟩
theorem ok__law_strange (Z : Tx K mg) : Cal P w K mg base "_law_strange" 3 1 F__law_strange := by
  obtain ⟨f, fd, hg, Fu⟩ := Z.d__law_strange
  refine mk_fn (k := 2) Fu hg sc__law_strange rfl (Fu.binds fun _ _ _ _ _ _ us hl => match us, hl with | [_], _ => rfl) mono_F__law_strange (fun cdv A outer s H E hr => ?_) (fun ds s Q X _ h => p_strange ds s Q X h)
  have D : ∃ t m, DSs (CxF P w K mg base ["_law_bag_here", "_law_kind", "_law_one", "_law_wrong"] "_law_strange" s__law_strange f cdv A outer s H E) (WF E) (defBody s__law_strange) t m ∧ m = m__law_strange := ⟨_, _, (dss_cons (ds_set (i := 1) sc__law_strange.nd rfl (.inl rfl) (de_call (ok__law_draw Z) hr takesF (da_cons (de_var 0) (da_cons de_int da_nil))))
    (dss_cons (ds_set (i := 2) sc__law_strange.nd rfl (.inl rfl) (de_tup (da_cons de_str (da_cons de_int da_nil))))
    (dss_cons (ds_if (dt_eq hr (de_var 1) de_int)
    (dss_one (ds_ret (de_ix (de_lst (da_cons de_non (da_cons de_bl (da_cons de_int (da_cons de_str (da_cons de_str (da_cons (de_tup da_nil) (da_cons (de_lst da_nil) (da_cons de_dnew (da_cons de_int (da_cons de_int (da_cons de_int (da_cons de_str (da_cons de_str (da_cons de_str da_nil))))))))))))))) (de_call (ok__law_draw Z) hr takesF (da_cons (de_var 0) (da_cons de_int da_nil))))))
    dss_nil)
    (dss_cons (ds_if (dt_eq hr (de_var 1) de_int)
    (dss_cons (ds_set (i := 3) sc__law_strange.nd rfl (.inl rfl) (de_lst (da_cons de_bl (da_cons (de_add (de_pow de_int de_int) de_int) (da_cons (de_sub (de_neg' (de_pow de_int de_int)) de_int) (da_cons de_str (da_cons de_non (da_cons (de_tup da_nil) (da_cons de_bl da_nil)))))))))
    (dss_one (ds_ret (de_tup (da_cons de_str (da_cons (de_ix (de_var 3) (de_call (ok__law_draw Z) hr takesF (da_cons (de_var 0) (da_cons de_int da_nil)))) da_nil))))))
    dss_nil)
    (dss_cons (ds_if (dt_eq hr (de_var 1) de_int)
    (dss_cons (ds_set (i := 3) sc__law_strange.nd rfl (.inl rfl) (de_lst (da_cons (de_tup (da_cons de_str (da_cons de_str da_nil))) (da_cons (de_tup (da_cons de_str (da_cons de_str da_nil))) (da_cons (de_tup (da_cons de_str (da_cons de_str da_nil))) (da_cons (de_tup (da_cons de_str (da_cons de_str da_nil))) (da_cons (de_tup (da_cons de_str (da_cons de_int da_nil))) (da_cons (de_tup (da_cons de_str (da_cons de_str da_nil))) da_nil))))))))
    (dss_cons (ds_set (i := 3) sc__law_strange.nd rfl (.inl rfl) (de_add (de_var 3) (de_lst (da_cons (de_tup (da_cons de_str (da_cons de_str da_nil))) (da_cons (de_tup (da_cons de_str (da_cons de_str da_nil))) (da_cons (de_tup (da_cons de_str (da_cons de_str da_nil))) (da_cons (de_tup (da_cons de_str (da_cons de_str da_nil))) (da_cons (de_tup (da_cons de_str (da_cons de_non da_nil))) da_nil))))))))
    (dss_one (ds_ret (de_ix (de_var 3) (de_call (ok__law_draw Z) hr takesF (da_cons (de_var 0) (da_cons de_int da_nil))))))))
    dss_nil)
    (dss_cons (ds_set (i := 3) sc__law_strange.nd rfl (.inl rfl) (de_lst (da_cons (de_lst (da_cons de_str (da_cons de_int da_nil))) (da_cons (de_tup (da_cons de_str (da_cons (de_var 2) da_nil))) (da_cons (de_tup (da_cons de_str (da_cons (de_var 2) (da_cons (de_var 2) da_nil)))) (da_cons (de_tup (da_cons de_str (da_cons (de_var 2) (da_cons (de_var 2) da_nil)))) (da_cons (de_tup (da_cons de_str (da_cons (de_var 2) da_nil))) (da_cons (de_tup (da_cons (de_var 2) da_nil)) (da_cons (de_tup (da_cons de_str da_nil)) (da_cons (de_tup (da_cons de_str (da_cons de_int (da_cons de_int da_nil)))) da_nil))))))))))
    (dss_cons (ds_set (i := 3) sc__law_strange.nd rfl (.inl rfl) (de_add (de_var 3) (de_lst (da_cons (de_tup (da_cons de_str (da_cons de_bl da_nil))) (da_cons (de_tup (da_cons (de_tup (da_cons de_str da_nil)) (da_cons de_int da_nil))) (da_cons (de_tup (da_cons (de_tup (da_cons de_str da_nil)) da_nil)) (da_cons (de_tup (da_cons de_str (da_cons (de_var 2) (da_cons (de_var 2) (da_cons (de_var 2) da_nil))))) (da_cons (de_tup (da_cons de_str (da_cons de_int da_nil))) (da_cons (de_tup (da_cons de_str (da_cons de_str (da_cons de_str da_nil)))) da_nil)))))))))
    (dss_one (ds_ret (de_ix (de_var 3) (de_call (ok__law_draw Z) hr takesF (da_cons (de_var 0) (da_cons de_int da_nil))))))))))))), rfl⟩
  obtain ⟨t, m, hD, rfl⟩ := D
  exact ⟨t, hD⟩
theorem ok__law_spoiled (Z : Tx K mg) : Cal P w K mg base "_law_spoiled" 4 2 F__law_spoiled := by
  obtain ⟨f, fd, hg, Fu⟩ := Z.d__law_spoiled
  refine mk_fn (k := 3) Fu hg sc__law_spoiled rfl (Fu.binds fun _ _ _ _ _ _ us hl => match us, hl with | [_, _], _ => rfl) mono_F__law_spoiled (fun cdv A outer s H E hr => ?_) (fun ds s Q X _ h => p_spoiled ds s Q X h)
  have D : ∃ t m, DSs (CxF P w K mg base ["_law_bag_here", "_law_made_here", "_law_kind", "_law_here"] "_law_spoiled" s__law_spoiled f cdv A outer s H E) (WF E) (defBody s__law_spoiled) t m ∧ m = m__law_spoiled := ⟨_, _, (dss_cons (ds_set (i := 2) sc__law_spoiled.nd rfl (.inl rfl) (de_call (ok__law_draw Z) hr takesF (da_cons (de_var 0) (da_cons de_int da_nil))))
    (dss_cons (ds_set (i := 3) sc__law_spoiled.nd rfl (.inl rfl) (de_call (ok__law_draw Z) hr takesF (da_cons (de_var 0) (da_cons (de_len Z.f_len (de_var 1)) da_nil))))
    (dss_cons (ds_if (dt_eq hr (de_var 2) de_int)
    (dss_one (ds_ret (de_list Z.f_list (de_var 1))))
    dss_nil)
    (dss_cons (ds_if (dt_eq hr (de_var 2) de_int)
    (dss_one (ds_ret (de_sl (de_var 1) do_none (do_some (de_var 3)))))
    dss_nil)
    (dss_cons (ds_if (dt_eq hr (de_var 2) de_int)
    (dss_one (ds_ret (de_add (de_var 1) (de_tup (da_cons (de_call (ok__law_strange Z) hr takesF (da_cons (de_var 0) da_nil)) da_nil)))))
    dss_nil)
    (dss_cons (ds_if (dt_eq hr (de_var 2) de_int)
    (dss_one (ds_ret (de_add (de_tup (da_cons (de_ix (de_lst (da_cons de_str (da_cons de_str (da_cons de_str (da_cons de_str (da_cons de_str (da_cons de_int (da_cons de_non (da_cons (de_tup da_nil) da_nil))))))))) (de_call (ok__law_draw Z) hr takesF (da_cons (de_var 0) (da_cons de_int da_nil)))) da_nil)) (de_sl (de_var 1) (do_some de_int) do_none))))
    dss_nil)
    (dss_one (ds_ret (de_add (de_add (de_sl (de_var 1) do_none (do_some (de_var 3))) (de_tup (da_cons (de_call (ok__law_strange Z) hr takesF (da_cons (de_var 0) da_nil)) da_nil))) (de_sl (de_var 1) (do_some (de_add (de_var 3) de_int)) do_none)))))))))), rfl⟩
  obtain ⟨t, m, hD, rfl⟩ := D
  exact ⟨t, hD⟩
theorem rec__law_statement (Z : Tx K mg) (d : Nat) (Cr : Cal P w K mg base "_law_block" (16 + 2 * d) 5 (fz Fd_block d)) : Cal P w K mg base "_law_statement" (16 + 2 * d + 1) 5 (Fd_stmt d) := by
  obtain ⟨f, fd, hg, Fu⟩ := Z.d__law_statement
  refine mk_fn (k := 16 + 2 * d) Fu hg sc__law_statement rfl (Fu.binds fun _ _ _ _ _ _ us hl => match us, hl with | [_, _, _, _, _], _ => rfl) (mono_Fd_stmt d) (fun cdv A outer s H E hr => ?_) (fun ds s Q X _ h => p_statement d (fz Fd_block d) (fun d' e => by subst e; rfl) ds s Q X h)
  have D : ∃ t m, DSs (CxF P w K mg base ["_law_bag_here", "_law_names_here", "_law_inner", "_law_deep", "_law_aim", "_law_here", "_law_is_wild", "_law_kind", "_law_first", "_law_name", "_law_some", "_law_block_here", "_law_made_here", "_law_other"] "_law_statement" s__law_statement f cdv A outer s H E) (WF E) (defBody s__law_statement) t m ∧ m = m__law_statement (fz Fd_block d) := ⟨_, _, (dss_cons (ds_set (i := 5) sc__law_statement.nd rfl (.inl rfl) (de_ix (de_var 4) de_int))
    (dss_cons (dsub (de_add (de_var 5) de_int) (de_var 4) de_int)
    (dss_cons (ds_set (i := 6) sc__law_statement.nd rfl (.inl rfl) (de_and (de_eq hr (de_var 5) (de_ix (de_var 4) de_int)) (de_one (de_eq hr (de_ix (de_var 4) de_int) de_int))))
    (dss_cons (ds_set (i := 7) sc__law_statement.nd rfl (.inl rfl) (de_call (ok__law_draw Z) hr takesF (da_cons (de_var 0) (da_cons de_int da_nil)) (hkj := (by omega))))
    (dss_cons (ds_if (DW.dt (dw_or (dt_gt (de_var 2) de_int) (dw_or1 (DW.dt (dw_and (dt_lt (de_var 3) (de_ix (de_var 4) de_int)) (dw_and1 (dt_eq hr (de_call (ok__law_draw Z) hr takesF (da_cons (de_var 0) (da_cons de_int da_nil)) (hkj := (by omega))) de_int)))))))
    (dss_one (ds_set (i := 7) sc__law_statement.nd rfl (.inl rfl) (de_add de_int (de_call (ok__law_draw Z) hr takesF (da_cons (de_var 0) (da_cons de_int da_nil)) (hkj := (by omega))))))
    dss_nil)
    (dss_cons (ds_set (i := 8) sc__law_statement.nd rfl (.inl rfl) (de_call (ok__law_plain Z) hr takesF (da_cons (de_var 0) (da_cons (de_var 1) (da_cons (de_var 6) da_nil))) (hkj := (by omega))))
    (dss_cons (ds_set (i := 9) sc__law_statement.nd rfl (.inl rfl) (de_ix (de_var 1) (de_call (ok__law_draw Z) hr takesF (da_cons (de_var 0) (da_cons (de_len Z.f_len (de_var 1)) da_nil)) (hkj := (by omega)))))
    (dss_cons (ds_if (dt_eq hr (de_var 7) de_int)
    (dss_cons (ds_set (i := 10) sc__law_statement.nd rfl (.inl rfl) (de_call (ok__law_draw Z) hr takesF (da_cons (de_var 0) (da_cons (de_add (de_var 2) de_int) da_nil)) (hkj := (by omega))))
    (dss_cons (ds_set (i := 11) sc__law_statement.nd rfl (.inl rfl) (de_call Cr hr takesF (da_cons (de_var 0) (da_cons (de_var 1) (da_cons (de_var 10) (da_cons (de_add (de_var 3) de_int) (da_cons (de_var 4) da_nil))))) (hkj := (by omega))))
    (dss_one (ds_set (i := 12) sc__law_statement.nd rfl (.inl rfl) (de_tup (da_cons de_str (da_cons (de_var 8) (da_cons (de_var 11) (da_cons (de_call Cr hr takesF (da_cons (de_var 0) (da_cons (de_var 1) (da_cons (de_sub (de_var 2) (de_var 10)) (da_cons (de_add (de_var 3) de_int) (da_cons (de_var 4) da_nil))))) (hkj := (by omega))) da_nil)))))))))
    (dss_one (ds_if (dt_eq hr (de_var 7) de_int)
    (dss_one (ds_set (i := 12) sc__law_statement.nd rfl (.inl rfl) (de_tup (da_cons de_str (da_cons (de_var 8) (da_cons (de_ix (de_lst (da_cons de_int (da_cons de_int (da_cons de_int (da_cons de_int da_nil))))) (de_call (ok__law_draw Z) hr takesF (da_cons (de_var 0) (da_cons de_int da_nil)) (hkj := (by omega)))) (da_cons (de_call Cr hr takesF (da_cons (de_var 0) (da_cons (de_var 1) (da_cons (de_var 2) (da_cons (de_add (de_var 3) de_int) (da_cons (de_var 4) da_nil))))) (hkj := (by omega))) da_nil)))))))
    (dss_one (ds_if (dt_eq hr (de_var 7) de_int)
    (dss_cons (ds_set (i := 13) sc__law_statement.nd rfl (.inl rfl) (de_call (ok__law_plain Z) hr takesF (da_cons (de_var 0) (da_cons (de_var 1) (da_cons de_bl da_nil))) (hkj := (by omega))))
    (dss_one (ds_set (i := 12) sc__law_statement.nd rfl (.inl rfl) (de_tup (da_cons de_str (da_cons (de_var 9) (da_cons (de_ix (de_var 1) de_int) (da_cons (de_var 8) (da_cons (de_var 13) (da_cons (de_call Cr hr takesF (da_cons (de_var 0) (da_cons (de_var 1) (da_cons (de_var 2) (da_cons (de_add (de_var 3) de_int) (da_cons (de_var 4) da_nil))))) (hkj := (by omega))) da_nil))))))))))
    (dss_one (ds_if (dt_eq hr (de_var 7) de_int)
    (dss_one (ds_set (i := 12) sc__law_statement.nd rfl (.inl rfl) (de_tup (da_cons de_str (da_cons (de_var 8) (da_cons (de_call (ok__law_plain Z) hr takesF (da_cons (de_var 0) (da_cons (de_var 1) (da_cons de_bl da_nil))) (hkj := (by omega))) da_nil))))))
    (dss_one (ds_if (dt_lt (de_var 7) de_int)
    (dss_one (ds_set (i := 12) sc__law_statement.nd rfl (.inl rfl) (de_tup (da_cons (de_ix (de_lst (da_cons de_str (da_cons de_str da_nil))) (de_sub (de_var 7) de_int)) (da_cons (de_var 9) (da_cons (de_var 8) da_nil))))))
    (dss_one (ds_if (dt_lt (de_var 7) de_int)
    (dss_one (ds_set (i := 12) sc__law_statement.nd rfl (.inl rfl) (de_tup (da_cons (de_ix (de_lst (da_cons de_str (da_cons de_str da_nil))) (de_sub (de_var 7) de_int)) (da_cons (de_var 8) da_nil)))))
    (dss_one (ds_set (i := 12) sc__law_statement.nd rfl (.inl rfl) (de_tup (da_cons de_str da_nil)))))))))))))))
    (dss_cons (ds_if (DW.dt (dw_and (dt_eq hr (de_var 5) (de_ix (de_var 4) de_int)) (dw_and1 (dt_gt (de_ix (de_var 4) de_int) de_int))))
    (dss_one (ds_ret (de_call (ok__law_spoiled Z) hr takesF (da_cons (de_var 0) (da_cons (de_var 12) da_nil)) (hkj := (by omega)))))
    dss_nil)
    (dss_one (ds_ret (de_var 12)))))))))))), rfl⟩
  obtain ⟨t, m, hD, rfl⟩ := D
  exact ⟨t, hD⟩
theorem rec__law_block (Z : Tx K mg) (d : Nat) (Cr : Cal P w K mg base "_law_statement" (16 + 2 * d + 1) 5 (Fd_stmt d)) : Cal P w K mg base "_law_block" (16 + 2 * d + 2) 5 (Fd_block d) := by
  obtain ⟨f, fd, hg, Fu⟩ := Z.d__law_block
  refine mk_fn (k := 16 + 2 * d + 1) Fu hg sc__law_block rfl (Fu.binds fun _ _ _ _ _ _ us hl => match us, hl with | [_, _, _, _, _], _ => rfl) (mono_Fd_block d) (fun cdv A outer s H E hr => ?_) (fun ds s Q X _ h => p_block d ds s Q X h)
  have D : ∃ t m, DSs (CxF P w K mg base ["_law_bag_here", "_law_names_here", "_law_room", "_law_deep", "_law_aim", "_law_found", "_law_left", "_law_k", "_law_inner"] "_law_block" s__law_block f cdv A outer s H E) (WF E) (defBody s__law_block) t m ∧ m = m__law_block (Fd_stmt d) := ⟨_, _, (dss_cons (ds_set (i := 5) sc__law_block.nd rfl (.inl rfl) (de_lstR da_nil))
    (dss_cons (ds_set (i := 6) sc__law_block.nd rfl (.inl rfl) (de_var 2))
    (dss_cons (ds_for passesF rfl (di_range1 Z.f_range (de_var 2)) (dg_name (i := 7) sc__law_block.nd rfl (.inl rfl))
    (dss_cons (ds_if (dt_le (de_var 6) de_int)
    (dss_one ds_break')
    dss_nil)
    (dss_cons (ds_set (i := 8) sc__law_block.nd rfl (.inl rfl) de_int)
    (dss_cons (ds_if (DW.dt (dw_and (dt_lt (de_var 3) (de_ix (de_var 4) de_int)) (dw_and1 (dt_eq hr (de_call (ok__law_draw Z) hr takesF (da_cons (de_var 0) (da_cons de_int da_nil)) (hkj := (by omega))) de_int))))
    (dss_one (ds_set (i := 8) sc__law_block.nd rfl (.inl rfl) (de_call (ok__law_draw Z) hr takesF (da_cons (de_var 0) (da_cons (de_var 6) da_nil)) (hkj := (by omega)))))
    dss_nil)
    (dss_cons (ds_expr (de_append (de_var 5) (de_call Cr hr takesF (da_cons (de_var 0) (da_cons (de_var 1) (da_cons (de_var 8) (da_cons (de_var 3) (da_cons (de_var 4) da_nil))))) (hkj := (by omega)))))
    (dss_one (ds_set (i := 6) sc__law_block.nd rfl (.inl rfl) (de_sub (de_sub (de_var 6) de_int) (de_var 8)))))))))
    (dss_one (ds_ret (de_tuple Z.f_tuple (de_var 5))))))), rfl⟩
  obtain ⟨t, m, hD, rfl⟩ := D
  exact ⟨t, hD⟩
theorem recs__law_block (Z : Tx K mg) : ∀ d, Cal P w K mg base "_law_block" (16 + 2 * d) 5 (fz Fd_block d)
  | 0 => cal_none (ps := ["_law_bag_here", "_law_names_here", "_law_room", "_law_deep", "_law_aim"]) Z.d__law_block (fun _ _ _ _ h => h) (fun f fd Fu => (Fu.binds fun _ _ _ _ _ _ us hl => match us, hl with | [_, _, _, _, _], _ => rfl))
  | d + 1 => rec__law_block Z d (rec__law_statement Z d (recs__law_block Z d))
theorem ok__law_block (Z : Tx K mg) : Cal P w K mg base "_law_block" 28 5 F__law_block := recs__law_block Z 6
theorem ok__law_is_whole (Z : Tx K mg) : Cal P w K mg base "_law_is_whole" 1 3 F__law_is_whole := by
  obtain ⟨f, fd, hg, Fu⟩ := Z.d__law_is_whole
  refine mk_fn (k := 0) Fu hg sc__law_is_whole rfl (Fu.binds fun _ _ _ _ _ _ us hl => match us, hl with | [_, _, _], _ => rfl) mono_F__law_is_whole (fun cdv A outer s H E hr => ?_) (fun ds s Q X _ h => p_is_whole ds s Q X h)
  have D : ∃ t m, DSs (CxF P w K mg base ["_law_thing", "_law_least", "_law_most"] "_law_is_whole" s__law_is_whole f cdv A outer s H E) (WF E) (defBody s__law_is_whole) t m ∧ m = m__law_is_whole := ⟨_, _, (dss_one (ds_ret (de_and (de_isi Z.f_isinstance isi_int (pe_tyv Z.f_int (by decide +kernel)) (de_var 0)) (de_and (de_not (de_isi Z.f_isinstance isi_bool (pe_tyv Z.f_bool (by decide +kernel)) (de_var 0))) (de_one (de_le_le (de_var 1) (de_var 0) (de_var 2))))))), rfl⟩
  obtain ⟨t, m, hD, rfl⟩ := D
  exact ⟨t, hD⟩
theorem ok__law_is_letters (Z : Tx K mg) : Cal P w K mg base "_law_is_letters" 1 2 F__law_is_letters := by
  obtain ⟨f, fd, hg, Fu⟩ := Z.d__law_is_letters
  refine mk_fn (k := 0) Fu hg sc__law_is_letters rfl (Fu.binds fun _ _ _ _ _ _ us hl => match us, hl with | [_, _], _ => rfl) mono_F__law_is_letters (fun cdv A outer s H E hr => ?_) (fun ds s Q X _ h => p_is_letters ds s Q X h)
  have D : ∃ t m, DSs (CxF P w K mg base ["_law_thing", "_law_most", "_law_sign"] "_law_is_letters" s__law_is_letters f cdv A outer s H E) (WF E) (defBody s__law_is_letters) t m ∧ m = m__law_is_letters := ⟨_, _, (dss_cons (ds_if (DW.dt (dw_or (dt_not (dt_of (de_isi Z.f_isinstance isi_str (pe_tyv Z.f_str (by decide +kernel)) (de_var 0)))) (dw_or1 (dt_not (dt_le_le de_int (de_len Z.f_len (de_var 0)) (de_var 1))))))
    (dss_one (ds_ret de_bl))
    dss_nil)
    (dss_one (ds_ret (de_all Z.f_all rfl (de_lcF (own := [("_law_sign", 2)]) rfl sc__law_is_letters.nd (di_seq (de_var 0)) (blkOk_by (N := ["_law_thing", "_law_most", "_law_sign"]) (sc := defScope s__law_is_letters) (by decide +kernel)) (fun _ _ _ _ _ => (dg_name (i := 2) sc__law_is_letters.nd rfl (.inl rfl))) (fun _ _ _ _ _ => dts_nil) (fun _ _ _ _ _ => (de_in hr (de_var 2) de_str))))))), rfl⟩
  obtain ⟨t, m, hD, rfl⟩ := D
  exact ⟨t, hD⟩
theorem ok__law_is_name (Z : Tx K mg) : Cal P w K mg base "_law_is_name" 2 1 F__law_is_name := by
  obtain ⟨f, fd, hg, Fu⟩ := Z.d__law_is_name
  refine mk_fn (k := 1) Fu hg sc__law_is_name rfl (Fu.binds fun _ _ _ _ _ _ us hl => match us, hl with | [_], _ => rfl) mono_F__law_is_name (fun cdv A outer s H E hr => ?_) (fun ds s Q X _ h => p_is_name2 ds s Q X h)
  have D : ∃ t m, DSs (CxF P w K mg base ["_law_thing"] "_law_is_name" s__law_is_name f cdv A outer s H E) (WF E) (defBody s__law_is_name) t m ∧ m = m__law_is_name := ⟨_, _, (dss_one (ds_ret (de_and (de_call (ok__law_is_letters Z) hr takesF (da_cons (de_var 0) (da_cons de_int da_nil))) (de_one (de_ni hr (de_var 0) (de_call0 (ok__law_kept_words Z) hr takesF)))))), rfl⟩
  obtain ⟨t, m, hD, rfl⟩ := D
  exact ⟨t, hD⟩
theorem rec__law_sizes (Z : Tx K mg) (d : Nat) (Cr : Cal P w K mg base "_law_sizes" (2 + d) 1 (fz Fd_sizes d)) : Cal P w K mg base "_law_sizes" (2 + d + 1) 1 (Fd_sizes d) := by
  obtain ⟨f, fd, hg, Fu⟩ := Z.d__law_sizes
  refine mk_fn (k := 2 + d) Fu hg sc__law_sizes rfl (Fu.binds fun _ _ _ _ _ _ us hl => match us, hl with | [_], _ => rfl) (mono_Fd_sizes d) (fun cdv A outer s H E hr => ?_) (fun ds s Q X _ h => p_sizes d (fz Fd_sizes d) (fun d' e => by subst e; rfl) ds s Q X h)
  have D : ∃ t m, DSs (CxF P w K mg base ["_law_thing", "_law_word_here", "_law_is_right", "_law_many", "_law_deep", "_law_parts", "_law_one", "_law_sizes_here"] "_law_sizes" s__law_sizes f cdv A outer s H E) (WF E) (defBody s__law_sizes) t m ∧ m = m__law_sizes (fz Fd_sizes d) := ⟨_, _, (dss_cons (ds_if (DW.dt (dw_or (dt_not (dt_of (de_isi Z.f_isinstance isi_tuple (pe_tyv Z.f_tuple (by decide +kernel)) (de_var 0)))) (dw_or (dt_lt (de_len Z.f_len (de_var 0)) de_int) (dw_or1 (dt_not (dt_of (de_isi Z.f_isinstance isi_str (pe_tyv Z.f_str (by decide +kernel)) (de_ix (de_var 0) de_int))))))))
    (dss_one (ds_ret de_non))
    dss_nil)
    (dss_cons (ds_set (i := 1) sc__law_sizes.nd rfl (.inl rfl) (de_ix (de_var 0) de_int))
    (dss_cons (ds_if (dt_in hr (de_var 1) (de_lst (da_cons de_str (da_cons de_str (da_cons de_str da_nil)))))
    (dss_cons (ds_if (dt_ne hr (de_len Z.f_len (de_var 0)) de_int)
    (dss_one (ds_ret de_non))
    dss_nil)
    (dss_cons (ds_set (i := 2) sc__law_sizes.nd rfl (.inl rfl) (de_and (de_eq hr (de_var 1) de_str) (de_one (de_call (ok__law_is_whole Z) hr takesF (da_cons (de_ix (de_var 0) de_int) (da_cons (de_neg' (de_pow de_int de_int)) (da_cons (de_pow de_int de_int) da_nil))) (hkj := (by omega))))))
    (dss_cons (ds_set (i := 2) sc__law_sizes.nd rfl (.inl rfl) (de_or (de_var 2) (de_one (de_and (de_eq hr (de_var 1) de_str) (de_one (de_call (ok__law_is_letters Z) hr takesF (da_cons (de_ix (de_var 0) de_int) (da_cons de_int da_nil)) (hkj := (by omega))))))))
    (dss_cons (ds_if (DW.dt (dw_or (dt_of (de_var 2)) (dw_or1 (DW.dt (dw_and (dt_eq hr (de_var 1) de_str) (dw_and1 (dt_of (de_call (ok__law_is_name Z) hr takesF (da_cons (de_ix (de_var 0) de_int) da_nil) (hkj := (by omega))))))))))
    (dss_one (ds_ret (de_tup (da_cons de_int (da_cons de_int da_nil)))))
    dss_nil)
    (dss_one (ds_ret de_non))))))
    dss_nil)
    (dss_cons (ds_set (i := 3) sc__law_sizes.nd rfl (.inl rfl) (de_add de_int (de_intc Z.f_int (de_in hr (de_var 1) (de_lst (da_cons de_str (da_cons de_str (da_cons de_str (da_cons de_str (da_cons de_str (da_cons de_str (da_cons de_str (da_cons de_str (da_cons de_str da_nil))))))))))))))
    (dss_cons (ds_if (DW.dt (dw_or (DW.dt (dw_and (dt_eq hr (de_var 3) de_int) (dw_and1 (dt_ne hr (de_var 1) de_str)))) (dw_or1 (dt_ne hr (de_len Z.f_len (de_var 0)) (de_var 3)))))
    (dss_one (ds_ret de_non))
    dss_nil)
    (dss_cons (ds_asg (de_tup (da_cons de_int (da_cons de_int da_nil))) (dgt rfl (dgs_cons (dg_name (i := 4) sc__law_sizes.nd rfl (.inl rfl)) (dgs_cons (dg_name (i := 5) sc__law_sizes.nd rfl (.inl rfl)) dgs_nil))))
    (dss_cons (ds_for passesF rfl (di_seq (de_sl (de_var 0) (do_some de_int) do_none)) (dg_name (i := 6) sc__law_sizes.nd rfl (.inl rfl))
    (dss_cons (ds_set (i := 7) sc__law_sizes.nd rfl (.inl rfl) (de_call Cr hr takesF (da_cons (de_var 6) da_nil) (hkj := (by omega))))
    (dss_cons (ds_if (dt_isN (de_var 7))
    (dss_one (ds_ret de_non))
    dss_nil)
    (dss_one (ds_par (i := 4) (j := 5) rfl sc__law_sizes.nd rfl rfl (by decide) rfl rfl (da_cons (de_max2 Z.f_max rfl (de_var 4) (de_ix (de_var 7) de_int)) (da_cons (de_add (de_var 5) (de_ix (de_var 7) de_int)) da_nil)))))))
    (dss_one (ds_ret (de_tup (da_cons (de_add (de_var 4) de_int) (da_cons (de_var 5) da_nil)))))))))))), rfl⟩
  obtain ⟨t, m, hD, rfl⟩ := D
  exact ⟨t, hD⟩
theorem recs__law_sizes (Z : Tx K mg) : ∀ d, Cal P w K mg base "_law_sizes" (2 + d) 1 (fz Fd_sizes d)
  | 0 => cal_none (ps := ["_law_thing"]) Z.d__law_sizes (fun _ _ _ _ h => h) (fun f fd Fu => (Fu.binds fun _ _ _ _ _ _ us hl => match us, hl with | [_], _ => rfl))
  | d + 1 => rec__law_sizes Z d (recs__law_sizes Z d)
theorem ok__law_sizes (Z : Tx K mg) : Cal P w K mg base "_law_sizes" 33 1 F__law_sizes := recs__law_sizes Z 31
theorem ok__law_is_expression (Z : Tx K mg) : Cal P w K mg base "_law_is_expression" 34 1 F__law_is_expression := by
  obtain ⟨f, fd, hg, Fu⟩ := Z.d__law_is_expression
  refine mk_fn (k := 33) Fu hg sc__law_is_expression rfl (Fu.binds fun _ _ _ _ _ _ us hl => match us, hl with | [_], _ => rfl) mono_F__law_is_expression (fun cdv A outer s H E hr => ?_) (fun ds s Q X _ h => p_is_expression2 ds s Q X h)
  have D : ∃ t m, DSs (CxF P w K mg base ["_law_thing", "_law_sizes_here"] "_law_is_expression" s__law_is_expression f cdv A outer s H E) (WF E) (defBody s__law_is_expression) t m ∧ m = m__law_is_expression := ⟨_, _, (dss_cons (ds_set (i := 1) sc__law_is_expression.nd rfl (.inl rfl) (de_call (ok__law_sizes Z) hr takesF (da_cons (de_var 0) da_nil)))
    (dss_one (ds_ret (de_and (de_notN (de_var 1)) (de_and (de_le (de_ix (de_var 1) de_int) de_int) (de_one (de_le (de_ix (de_var 1) de_int) de_int))))))), rfl⟩
  obtain ⟨t, m, hD, rfl⟩ := D
  exact ⟨t, hD⟩
theorem ok__law_are_parts (Z : Tx K mg) : Cal P w K mg base "_law_are_parts" 35 2 F__law_are_parts := by
  obtain ⟨f, fd, hg, Fu⟩ := Z.d__law_are_parts
  refine mk_fn (k := 34) Fu hg sc__law_are_parts rfl (Fu.binds fun _ _ _ _ _ _ us hl => match us, hl with | [_, _], _ => rfl) mono_F__law_are_parts (fun cdv A outer s H E hr => ?_) (fun ds s Q X _ h => p_are_parts ds s Q X h)
  have D : ∃ t m, DSs (CxF P w K mg base ["_law_parts", "_law_kinds_here", "_law_k"] "_law_are_parts" s__law_are_parts f cdv A outer s H E) (WF E) (defBody s__law_are_parts) t m ∧ m = m__law_are_parts := ⟨_, _, (dss_cons (ds_if (dt_ne hr (de_len Z.f_len (de_var 0)) (de_len Z.f_len (de_var 1)))
    (dss_one (ds_ret de_bl))
    dss_nil)
    (dss_cons (ds_for passesF rfl (di_range1 Z.f_range (de_len Z.f_len (de_var 1))) (dg_name (i := 2) sc__law_are_parts.nd rfl (.inl rfl))
    (dss_cons (ds_if (DW.dt (dw_and (dt_eq hr (de_ix (de_var 1) (de_var 2)) de_str) (dw_and1 (dt_not (dt_of (de_call (ok__law_is_expression Z) hr takesF (da_cons (de_ix (de_var 0) (de_var 2)) da_nil)))))))
    (dss_one (ds_ret de_bl))
    dss_nil)
    (dss_cons (ds_if (DW.dt (dw_and (dt_eq hr (de_ix (de_var 1) (de_var 2)) de_str) (dw_and1 (dt_not (dt_of (de_call (ok__law_is_name Z) hr takesF (da_cons (de_ix (de_var 0) (de_var 2)) da_nil)))))))
    (dss_one (ds_ret de_bl))
    dss_nil)
    (dss_cons (ds_if (DW.dt (dw_and (dt_eq hr (de_ix (de_var 1) (de_var 2)) de_str) (dw_and1 (dt_not (dt_of (de_isi Z.f_isinstance isi_tuple (pe_tyv Z.f_tuple (by decide +kernel)) (de_ix (de_var 0) (de_var 2))))))))
    (dss_one (ds_ret de_bl))
    dss_nil)
    (dss_one (ds_if (DW.dt (dw_and (dt_eq hr (de_ix (de_var 1) (de_var 2)) de_str) (dw_and1 (dt_not (dt_of (de_call (ok__law_is_whole Z) hr takesF (da_cons (de_ix (de_var 0) (de_var 2)) (da_cons de_int (da_cons de_int da_nil)))))))))
    (dss_one (ds_ret de_bl))
    dss_nil))))))
    (dss_one (ds_ret de_bl)))), rfl⟩
  obtain ⟨t, m, hD, rfl⟩ := D
  exact ⟨t, hD⟩
theorem ok__law_kinds (Z : Tx K mg) : Cal P w K mg base "_law_kinds" 1 1 F__law_kinds := by
  obtain ⟨f, fd, hg, Fu⟩ := Z.d__law_kinds
  refine mk_fn (k := 0) Fu hg sc__law_kinds rfl (Fu.binds fun _ _ _ _ _ _ us hl => match us, hl with | [_], _ => rfl) mono_F__law_kinds (fun cdv A outer s H E hr => ?_) (fun ds s Q X _ h => p_kinds ds s Q X h)
  have D : ∃ t m, DSs (CxF P w K mg base ["_law_word_here", "_law_plain_here"] "_law_kinds" s__law_kinds f cdv A outer s H E) (WF E) (defBody s__law_kinds) t m ∧ m = m__law_kinds := ⟨_, _, (dss_cons (ds_set (i := 1) sc__law_kinds.nd rfl (.inl rfl) (de_disp (dp_str de_str (dp_str de_str (dp_str de_str (dp_str de_str (dp_str de_str (dp_str de_str dp_nil))))))))
    (dss_one (ds_ret (de_get2 hr (de_var 1) (de_var 0) (de_get1 hr (de_disp (dp_str de_str (dp_str de_str (dp_str de_str dp_nil)))) (de_var 0)))))), rfl⟩
  obtain ⟨t, m, hD, rfl⟩ := D
  exact ⟨t, hD⟩
theorem ok__law_is_own (Z : Tx K mg) : Cal P w K mg base "_law_is_own" 36 2 F__law_is_own := by
  obtain ⟨f, fd, hg, Fu⟩ := Z.d__law_is_own
  refine mk_fn (k := 35) Fu hg sc__law_is_own rfl (Fu.binds fun _ _ _ _ _ _ us hl => match us, hl with | [_, _], _ => rfl) mono_F__law_is_own (fun cdv A outer s H E hr => ?_) (fun ds s Q X _ h => p_is_own ds s Q X h)
  have D : ∃ t m, DSs (CxF P w K mg base ["_law_thing", "_law_deep", "_law_kinds_here"] "_law_is_own" s__law_is_own f cdv A outer s H E) (WF E) (defBody s__law_is_own) t m ∧ m = m__law_is_own := ⟨_, _, (dss_cons (ds_if (DW.dt (dw_or (dt_not (dt_of (de_isi Z.f_isinstance isi_tuple (pe_tyv Z.f_tuple (by decide +kernel)) (de_var 0)))) (dw_or (dt_eq hr (de_len Z.f_len (de_var 0)) de_int) (dw_or1 (dt_not (dt_of (de_isi Z.f_isinstance isi_str (pe_tyv Z.f_str (by decide +kernel)) (de_ix (de_var 0) de_int))))))))
    (dss_one (ds_ret de_bl))
    dss_nil)
    (dss_cons (ds_set (i := 2) sc__law_is_own.nd rfl (.inl rfl) (de_call (ok__law_kinds Z) hr takesF (da_cons (de_ix (de_var 0) de_int) da_nil)))
    (dss_cons (ds_if (DW.dt (dw_or (dt_isN (de_var 2)) (dw_or1 (DW.dt (dw_and (dt_eq hr (de_sl (de_var 2) (do_some (de_neg' de_int)) do_none) de_str) (dw_and1 (dt_eq hr (de_var 1) de_int)))))))
    (dss_one (ds_ret de_bl))
    dss_nil)
    (dss_one (ds_ret (de_call (ok__law_are_parts Z) hr takesF (da_cons (de_sl (de_var 0) (do_some de_int) do_none) (da_cons (de_var 2) da_nil)))))))), rfl⟩
  obtain ⟨t, m, hD, rfl⟩ := D
  exact ⟨t, hD⟩
theorem ok__law_first_bad (Z : Tx K mg) : Cal P w K mg base "_law_first_bad" 37 1 F__law_first_bad := by
  obtain ⟨f, fd, hg, Fu⟩ := Z.d__law_first_bad
  refine mk_fn (k := 36) Fu hg sc__law_first_bad rfl (Fu.binds fun _ _ _ _ _ _ us hl => match us, hl with | [_], _ => rfl) mono_F__law_first_bad (fun cdv A outer s H E hr => ?_) (fun ds s Q X _ h => p_law_first_bad ds s Q X h)
  have D : ∃ t m, DSs (CxF P w K mg base ["_law_block_here", "_law_waiting", "_law_k", "_law_many", "_law_turn", "_law_thing", "_law_place", "_law_deep", "_law_kinds_here", "_law_blocks", "_law_back", "_law_side", "_law_one"] "_law_first_bad" s__law_first_bad f cdv A outer s H E) (WF E) (defBody s__law_first_bad) t m ∧ m = m__law_first_bad := ⟨_, _, (dss_cons (ds_set (i := 1) sc__law_first_bad.nd rfl (.inl rfl) (de_revR (de_lcF (own := [("_law_k", 2)]) rfl sc__law_first_bad.nd (di_range1 Z.f_range (de_len Z.f_len (de_var 0))) (blkOk_by (N := ["_law_block_here", "_law_waiting", "_law_k", "_law_many", "_law_turn", "_law_thing", "_law_place", "_law_deep", "_law_kinds_here", "_law_blocks", "_law_back", "_law_side", "_law_one"]) (sc := defScope s__law_first_bad) (by decide +kernel)) (fun _ _ _ _ _ => (dg_name (i := 2) sc__law_first_bad.nd rfl (.inl rfl))) (fun _ _ _ _ _ => dts_nil) (fun _ _ _ _ _ => (de_tup (da_cons (de_ix (de_var 0) (de_var 2)) (da_cons (de_tup (da_cons (de_var 2) da_nil)) (da_cons de_int da_nil))))))))
    (dss_cons (ds_set (i := 3) sc__law_first_bad.nd rfl (.inl rfl) de_int)
    (dss_cons (ds_for passesF rfl (di_range1 Z.f_range de_int) (dg_name (i := 4) sc__law_first_bad.nd rfl (.inl rfl))
    (dss_cons (ds_if (dt_eq hr (de_len Z.f_len (de_var 1)) de_int)
    (dss_one ds_break')
    dss_nil)
    (dss_cons (ds_asg (de_pop' (de_var 1)) (dgt rfl (dgs_cons (dg_name (i := 5) sc__law_first_bad.nd rfl (.inr rfl)) (dgs_cons (dg_name (i := 6) sc__law_first_bad.nd rfl (.inr rfl)) (dgs_cons (dg_name (i := 7) sc__law_first_bad.nd rfl (.inr rfl)) dgs_nil)))))
    (dss_cons (ds_set (i := 3) sc__law_first_bad.nd rfl (.inl rfl) (de_add (de_var 3) de_int))
    (dss_cons (ds_if (dt_not (dt_of (de_call (ok__law_is_own Z) hr takesF (da_cons (de_var 5) (da_cons (de_var 7) da_nil)))))
    (dss_one (ds_ret (de_var 6)))
    dss_nil)
    (dss_cons (ds_set (i := 8) sc__law_first_bad.nd rfl (.inr rfl) (de_call (ok__law_kinds Z) hr takesF (da_cons (de_ix (de_var 5) de_int) da_nil)))
    (dss_cons (ds_setLc (i := 9) rfl rfl (own := [("_law_k", 2)]) rfl sc__law_first_bad.nd (di_range1 Z.f_range (de_len Z.f_len (de_var 8))) (blkOk_by (N := ["_law_block_here", "_law_waiting", "_law_k", "_law_many", "_law_turn", "_law_thing", "_law_place", "_law_deep", "_law_kinds_here", "_law_blocks", "_law_back", "_law_side", "_law_one"]) (sc := defScope s__law_first_bad) (by decide +kernel)) (fun _ _ _ _ _ => (dg_name (i := 2) sc__law_first_bad.nd rfl (.inl rfl))) (fun _ _ _ _ _ => (dts_one (dt_eq hr (de_ix (de_var 8) (de_var 2)) de_str))) (fun _ _ _ _ _ => (de_ix (de_var 5) (de_add (de_var 2) de_int))))
    (dss_one (ds_for passesF rfl (di_range1 Z.f_range (de_len Z.f_len (de_var 9))) (dg_name (i := 10) sc__law_first_bad.nd rfl (.inl rfl))
    (dss_cons (ds_set (i := 11) sc__law_first_bad.nd rfl (.inr rfl) (de_sub (de_sub (de_len Z.f_len (de_var 9)) de_int) (de_var 10)))
    (dss_cons (ds_set (i := 12) sc__law_first_bad.nd rfl (.inr rfl) (de_ix (de_var 9) (de_var 11)))
    (dss_one (ds_expr (de_extend (de_var 1) (de_rev (de_lcF (own := [("_law_k", 2)]) rfl sc__law_first_bad.nd (di_range1 Z.f_range (de_len Z.f_len (de_var 12))) (blkOk_by (N := ["_law_block_here", "_law_waiting", "_law_k", "_law_many", "_law_turn", "_law_thing", "_law_place", "_law_deep", "_law_kinds_here", "_law_blocks", "_law_back", "_law_side", "_law_one"]) (sc := defScope s__law_first_bad) (by decide +kernel)) (fun _ _ _ _ _ => (dg_name (i := 2) sc__law_first_bad.nd rfl (.inl rfl))) (fun _ _ _ _ _ => dts_nil) (fun _ _ _ _ _ => (de_tup (da_cons (de_ix (de_var 12) (de_var 2)) (da_cons (de_add (de_var 6) (de_tup (da_cons (de_var 11) (da_cons (de_var 2) da_nil)))) (da_cons (de_add (de_var 7) de_int) da_nil)))))))))))))))))))))
    (dss_cons (ds_if (dt_gt (de_var 3) de_int)
    (dss_one (ds_ret (de_tup da_nil)))
    dss_nil)
    (dss_one (ds_ret de_non)))))), rfl⟩
  obtain ⟨t, m, hD, rfl⟩ := D
  exact ⟨t, hD⟩
theorem ok__law_made (Z : Tx K mg) : Cal P w K mg base "_law_made" 21 1 F__law_made := by
  obtain ⟨f, fd, hg, Fu⟩ := Z.d__law_made
  refine mk_fn (k := 20) Fu hg sc__law_made rfl (Fu.binds fun _ _ _ _ _ _ us hl => match us, hl with | [_], _ => rfl) mono_F__law_made (fun cdv A outer s H E hr => ?_) (fun ds s Q X _ h => p_law_made ds s Q X h)
  have D : ∃ t m, DSs (CxF P w K mg base ["_law_block_here", "_law_found", "e"] "_law_made" s__law_made f cdv A outer s H E) (WF E) (defBody s__law_made) t m ∧ m = m__law_made := ⟨_, _, (dss_cons (ds_tryF (i := 2) rfl rfl sc__law_made.nd rfl rfl (names_of Z.h_BadProgram) takesF Z.exm_BadProgram (fun W pn xe tk => (dss_one (ds_set (i := 1) sc__law_made.nd rfl (.inl rfl) (de_tup (da_cons de_str (da_cons (de_make (mk_Program Z) hr tk (da_cons (de_var 0) da_nil)) da_nil))))))
    (dx_set (j := 1) sc__law_made.nd rfl (.inl rfl) (ex_tup (exa_cons (ex_of fun _ _ _ => de_str) (exa_cons (ex_fld Z.x_BadProgram_place ⟨_, Z.h_BadProgram⟩ (fun _ _ _ => pe_var (i := 2) rfl (.inl rfl))) (exa_cons (ex_isi Z.f_isinstance Z.is_StoreError (fun _ _ _ => pe_var (i := 2) rfl (.inl rfl)) (fun _ _ _ => pe_clv Z.h_StoreError)) exa_nil))))))
    (dss_one (ds_ret (de_var 1)))), rfl⟩
  obtain ⟨t, m, hD, rfl⟩ := D
  exact ⟨t, hD⟩
theorem ok__law_is_place (Z : Tx K mg) : Cal P w K mg base "_law_is_place" 1 2 F__law_is_place := by
  obtain ⟨f, fd, hg, Fu⟩ := Z.d__law_is_place
  refine mk_fn (k := 0) Fu hg sc__law_is_place rfl (Fu.binds fun _ _ _ _ _ _ us hl => match us, hl with | [_, _], _ => rfl) mono_F__law_is_place (fun cdv A outer s H E hr => ?_) (fun ds s Q X _ h => p_law_is_place ds s Q X h)
  have D : ∃ t m, DSs (CxF P w K mg base ["_law_told", "_law_due", "_law_one"] "_law_is_place" s__law_is_place f cdv A outer s H E) (WF E) (defBody s__law_is_place) t m ∧ m = m__law_is_place := ⟨_, _, (dss_cons (ds_if (DW.dt (dw_or (dt_not (dt_of (de_isi Z.f_isinstance isi_tuple (pe_tyv Z.f_tuple (by decide +kernel)) (de_var 0)))) (dw_or1 (dt_ne hr (de_var 0) (de_var 1)))))
    (dss_one (ds_ret de_bl))
    dss_nil)
    (dss_one (ds_ret (de_not (de_any Z.f_any rfl (de_lcF (own := [("_law_one", 2)]) rfl sc__law_is_place.nd (di_seq (de_var 0)) (blkOk_by (N := ["_law_told", "_law_due", "_law_one"]) (sc := defScope s__law_is_place) (by decide +kernel)) (fun _ _ _ _ _ => (dg_name (i := 2) sc__law_is_place.nd rfl (.inl rfl))) (fun _ _ _ _ _ => dts_nil) (fun _ _ _ _ _ => (de_isi Z.f_isinstance isi_bool (pe_tyv Z.f_bool (by decide +kernel)) (de_var 2))))))))), rfl⟩
  obtain ⟨t, m, hD, rfl⟩ := D
  exact ⟨t, hD⟩
theorem at_law (Z : Tx K mg) : ∃ fa fd, mg "law" = some (.ref fa) ∧ (∀ (s : Shared) (u : Value), BindsTo s fd ⟨[u], []⟩ [("_law_script", u)]) ∧ ∀ (P : Program) (w : World) (base : Heap), AtCaller P w K mg base fa fd "_law_script" (spM K mg 1 F_law) := by
  obtain ⟨fd, Fd⟩ := Z.fd 37 _ rfl
  have hg := Z.glo 50 (x := "law")
  have Fu : Fun K "law" "law" s_law _ fd := fun_of Fd
  refine ⟨_, fd, hg, fun s u => FunD.bindsA (ps := ["_law_script"]) Fd (fun _ _ _ _ _ _ us hl => match us, hl with | [_], _ => rfl) s [u] rfl, fun P w base => ?_⟩
  refine at_caller (k := 38) Fu sc_law ⟨rfl, by decide, by decide⟩ (fun cdv s H E hr => ?_) (fun ds s Q X _ h => p_law ds s Q X h)
  have D : ∃ t m, DSs (CxF P w K mg base ["_law_script", "_law_bag_here", "_law_names_here", "_law_room", "_law_aim", "_law_block_here", "_law_thing", "_law_told", "_law_due", "_law_program", "_law_again", "_law_other"] "law" s_law _ cdv callerA [] s H E) (WF E) (defBody s_law) t m ∧ m = m_law := ⟨_, _, (dss_cons (ds_set (i := 1) sc_law.nd rfl (.inl rfl) (de_call (ok__law_bag Z) hr takesF (da_cons (de_var 0) da_nil)))
    (dss_cons (ds_set (i := 2) sc_law.nd rfl (.inl rfl) (de_call (ok__law_names Z) hr takesF (da_cons (de_var 1) da_nil)))
    (dss_cons (ds_set (i := 3) sc_law.nd rfl (.inl rfl) (de_ix (de_lst (da_cons de_int (da_cons de_int (da_cons de_int (da_cons de_int (da_cons de_int (da_cons de_int (da_cons de_int (da_cons de_int (da_cons de_int da_nil)))))))))) (de_call (ok__law_draw Z) hr takesF (da_cons (de_var 1) (da_cons de_int da_nil)))))
    (dss_cons (ds_set (i := 4) sc_law.nd rfl (.inl rfl) (de_lstR (da_cons de_int (da_cons (de_call (ok__law_draw Z) hr takesF (da_cons (de_var 1) (da_cons (de_add (de_add (de_var 3) (de_fdiv (de_var 3) de_int)) de_int) da_nil))) (da_cons (de_call (ok__law_draw Z) hr takesF (da_cons (de_var 1) (da_cons de_int da_nil))) (da_cons de_int da_nil))))))
    (dss_cons (ds_if (dt_eq hr (de_call (ok__law_draw Z) hr takesF (da_cons (de_var 1) (da_cons de_int da_nil))) de_int)
    (dss_one (dsub de_int (de_var 4) de_int))
    dss_nil)
    (dss_cons (ds_set (i := 5) sc_law.nd rfl (.inl rfl) (de_call (ok__law_block Z) hr takesF (da_cons (de_var 1) (da_cons (de_var 2) (da_cons (de_var 3) (da_cons de_int (da_cons (de_var 4) da_nil)))))))
    (dss_cons (ds_for passesF rfl (di_seq (de_lst (da_cons (de_list Z.f_list (de_var 5)) (da_cons de_non (da_cons de_str (da_cons de_dnew (da_cons de_int (da_cons de_bl da_nil)))))))) (dg_name (i := 6) sc_law.nd rfl (.inl rfl))
    (dss_cons (ds_set (i := 7) sc_law.nd rfl (.inl rfl) (de_call (ok__law_made Z) hr takesF (da_cons (de_var 6) da_nil)))
    (dss_one (ds_if (DW.dt (dw_or (dt_ne hr (de_ix (de_var 7) de_int) de_str) (dw_or (dt_notBl (de_ix (de_var 7) de_int) de_bl) (dw_or1 (dt_not (dt_of (de_call (ok__law_is_place Z) hr takesF (da_cons (de_ix (de_var 7) de_int) (da_cons (de_tup da_nil) da_nil)))))))))
    (dss_one (ds_ret de_bl))
    dss_nil))))
    (dss_cons (ds_set (i := 8) sc_law.nd rfl (.inl rfl) (de_call (ok__law_first_bad Z) hr takesF (da_cons (de_var 5) da_nil)))
    (dss_cons (ds_set (i := 7) sc_law.nd rfl (.inl rfl) (de_call (ok__law_made Z) hr takesF (da_cons (de_var 5) da_nil)))
    (dss_cons (ds_if (dt_notN (de_var 8))
    (dss_one (ds_ret (de_and (de_eq hr (de_ix (de_var 7) de_int) de_str) (de_and (de_isBl (de_ix (de_var 7) de_int) de_bl) (de_one (de_call (ok__law_is_place Z) hr takesF (da_cons (de_ix (de_var 7) de_int) (da_cons (de_var 8) da_nil))))))))
    dss_nil)
    (dss_cons (ds_if (DW.dt (dw_or (dt_ne hr (de_ix (de_var 7) de_int) de_str) (dw_or (dt_not (dt_of (de_isi Z.f_isinstance isi_tuple (pe_tyv Z.f_tuple (by decide +kernel)) (de_fld Z.a_Program_block (de_ix (de_var 7) de_int))))) (dw_or1 (dt_ne hr (de_fld Z.a_Program_block (de_ix (de_var 7) de_int)) (de_var 5))))))
    (dss_one (ds_ret de_bl))
    dss_nil)
    (dss_cons (ds_set (i := 9) sc_law.nd rfl (.inl rfl) (de_ix (de_var 7) de_int))
    (dss_cons (ds_set (i := 10) sc_law.nd rfl (.inl rfl) (de_make (mk_Program Z) hr takesF (da_cons (de_tuple Z.f_tuple (de_list Z.f_list (de_var 5))) da_nil)))
    (dss_cons (ds_set (i := 11) sc_law.nd rfl (.inl rfl) (de_make (mk_Program Z) hr takesF (da_cons (de_sl (de_var 5) do_none (do_some (de_neg' de_int))) da_nil)))
    (dss_cons (ds_if (DW.dt (dw_or (dt_not (dt_eqI (eq_Program Z) hr takesF (de_var 9) (de_var 10))) (dw_or (dt_neI (eq_Program Z) hr takesF (de_var 9) (de_var 10)) (dw_or (dt_eqI (eq_Program Z) hr takesF (de_var 9) (de_var 11)) (dw_or1 (dt_not (dt_neI (eq_Program Z) hr takesF (de_var 9) (de_var 11))))))))
    (dss_one (ds_ret de_bl))
    dss_nil)
    (dss_one (ds_ret (de_and (de_not (de_eqI (eq_Program Z) hr takesF (de_var 9) (de_var 5))) (de_and (de_not (de_eqI (eq_Program Z) hr takesF (de_var 9) de_non)) (de_and (de_not (de_eqI (eq_Program Z) hr takesF (de_var 9) (de_repr hr rfl Z.f_repr (de_var 5)))) (de_one (de_eq hr (de_fld Z.a_Program_block (de_var 9)) (de_fld Z.a_Program_block (de_var 10)))))))))))))))))))))))), rfl⟩
  obtain ⟨t, m, hD, rfl⟩ := D
  exact ⟨t, hD⟩
end
end K87

set_option Elab.async false
set_option linter.all false
set_option maxRecDepth 100000
set_option maxHeartbeats 0
namespace K87
open PySem PySem.Spec PyProof.Rows L2 Mir
def nms0 : List PySem.Str := ["LETTERS", "MOST_LETTERS", "MOST_WORTH", "is_integer", "is_within", "is_key", "StoreError", "BadProgram", "STATED", "WORDS", "SIGNS", "MOST_NAME"]
def nms1 : List PySem.Str := ["MOST_DEEP", "MOST_PARTS", "MOST_BLOCKS", "MOST_STATEMENTS", "MOST_ROUNDS", "is_name", "parts_in", "is_expression", "is_plain_statement", "has_own_parts", "blocks_of", "first_bad"]
def nms2 : List PySem.Str := ["statements_in", "Program", "_law_mixed", "_law_bag", "_law_draw", "_law_word", "_law_kept_words", "_law_names", "_law_leaf", "_law_expression", "_law_plain", "_law_strange"]
def nms3 : List PySem.Str := ["_law_spoiled", "_law_statement", "_law_block", "_law_is_whole", "_law_is_letters", "_law_is_name", "_law_sizes", "_law_is_expression", "_law_are_parts", "_law_kinds", "_law_is_own", "_law_first_bad"]
def nms4 : List PySem.Str := ["_law_made", "_law_is_place"]
def nms : List PySem.Str := nms0 ++ nms1 ++ nms2 ++ nms3 ++ nms4
abbrev R : PySem.W.OpenRow := PySem.W.OpenLaw.row PySem.Challenge.rw_wholecommits_k87_whole_programs_judged
abbrev hk : PySem.W.Hook := hookM 6 (fun K => (chks K).all id) fns
def ob (s : PySem.W.SharedT) : AlM := obsMG 6 (fun K => (chks K).all id) fns (HandSHeadRun.getT s)
theorem ob_eq (s : PySem.W.SharedT) : ob s = hk.obs s.abs := obsMG_eq (HandSHeadRun.getT_eq s)
theorem run (w : World) : HandSHeadRun.RunEq R (PySem.W.view R.prog [54]) hk ob 20000 nms w := by
  intro os
  kernel_rfl
theorem sp_law {K : PySem.W.Frag} {mg : Str → Option Value} {H : Hp} {a : Addr} {ns : List Int} (hl : ns.length ≤ 63) (hO : ∀ b, H b = none ∨ ∃ o xs, H b = some (.frz o (.lst xs))) (hS : SqF K H a (ns.map V.int)) :
    spM K mg 1 F_law [.ref a] H (fun v _ => v = .bl true) fun _ _ _ => False := by
  have il : ∀ l : List Int, IsL K mg ⟨[], []⟩ H (l.map .int) (l.map .int) := fun l => by
    induction l with
    | nil => rfl
    | cons i r ih => exact ⟨_, _, rfl, rfl, ih⟩
  refine ⟨⟨[], []⟩, [], [.sq (ns.map .int)], ⟨rfl, .nil, fun n a ob h => by simp at h, fun a h => by simp at h⟩, ⟨.ref a, [], rfl, ⟨a, _, rfl, hS, il ns⟩, rfl⟩, rfl, ns, rfl, hl, fun st' v ρ' H' _ _ i => i⟩
end K87
open PySem PySem.W PySem.Calls PyProof.Rows
theorem PySem.Challenge.cw_wholecommits_k87_whole_programs_judged_holds : PySem.Challenge.rw_wholecommits_k87_whole_programs_judged.Holds := by
  w_on; o_law
  refine HandSHeadRun.head_any (r := OpenLaw.row PySem.Challenge.rw_wholecommits_k87_whole_programs_judged) (q := view (OpenLaw.row PySem.Challenge.rw_wholecommits_k87_whole_programs_judged).prog [54]) (H := K87.hk) (ob := K87.ob) (M := 20000) (loose := K87.nms) (d := HandSHeadRun.topDef (OpenLaw.row PySem.Challenge.rw_wholecommits_k87_whole_programs_judged).prog 54) (kwd := []) K87.ob_eq
    (by kernel_rfl) (fun s => by kernel_rfl) K87.run (by kernel_rfl) (by kernel_rfl) (by kernel_rfl) (by rfl) (by first | assumption | decide +kernel) (by decide +kernel) ⟨rfl, rfl, rfl, rfl, rfl, by decide +kernel⟩ ?hw ?hc
  case hw => w_witness2
  case hc =>
    refine Mir.walk_at (l := PySem.Challenge.rw_wholecommits_k87_whole_programs_judged) (n := 63) (x := "_law_script") rfl (by decide) (by kernel_rfl) ?F
    intro w mg fa h Y G hmg0
    obtain ⟨K, KX, c⟩ := Y
    have hmg : mg ("law" : PySem.Str) = some (.ref fa) := by
      have e : (HandSHeadRun.topDef (OpenLaw.row PySem.Challenge.rw_wholecommits_k87_whole_programs_judged).prog 54).name = ("law" : PySem.Str) := by kernel_rfl
      rw [← e]
      exact hmg0
    have Z : K87.Tx K mg := Mir.TxG.of KX G c
    obtain ⟨fa', fd, hg, hb, hF⟩ := K87.at_law Z
    rw [hmg] at hg
    cases hg
    exact ⟨K, fd, Mir.spM K mg 1 K87.F_law, KX, hb, fun H a ns hl hO hS => K87.sp_law hl hO hS, fun base _ => hF _ w base⟩
