import PyProof.Rows.All
import Wide.All
import OpenK.AllK
import Wide.FinOn
import HandS.ForMost
import HandS.ForExc
import HandS.ExcOwn
import HandS.Deep
import HandS.TupAny
import HandS.Text
import HandS.Defaults
import HandS.CallSlots
import HandS.TupLe
import HandS.IsInst
import KE.SortData
import KE.DataMinMax
import HandS.Dict
import HandS.TupLen
import HandS.TryMany
import HandS.RaiseMore
import HandS.Conv
import HandS.ExcInit
import HandS.ExcField
import HandS.SetBool
import HandS.DictComp
import HandS.Strs
import KE.GoesEnum
import KE.GoesMore
import HandS.TupMul
import HandS.NoneIn
import PySem.Challenge.RW_unmetcells_k02_whole_histories_and_books
set_option Elab.async false
set_option linter.all false
set_option maxRecDepth 100000
set_option maxHeartbeats 1000000
/-! VS1: values as plain trees; a def's body as a plain function on a row of slots. The core: what stands for what, outcomes, readings. -/
namespace VS
open PySem L2 PyProof.Rows

/-- a plain value -/
inductive PV where
  | non | bl (b : Bool) | int (i : Int) | str (x : Str)
  | tup (xs : List PV) | lst (xs : List PV) | scr (xs : List PV) | obj (C : Addr) (fs : List (Str × PV)) | ad (a : Addr) | any
  | dk (kvs : List (Key × PV)) | dt (kvs : List (List Key × PV)) | ktp (xs : List PV)

/-- a slot: nothing, a value that no one changes any more, a thing that this slot alone holds -/
inductive Sl where
  | un | fz (d : PV) | own (d : PV)
abbrev Fr := List Sl

/-- a list that stays as it is -/
def FrzL (H : Hp) (a : Addr) (xs : List V) : Prop := ∃ o, H a = some (.frz o (.lst xs))
theorem FrzL.sq {K : PySem.W.Frag} {H : Hp} {a : Addr} {xs : List V} (h : FrzL H a xs) : SqL K H a xs := .inl (.inr h)
/-- .. or one of the written part: the script -/
def FrzS (K : PySem.W.Frag) (H : Hp) (a : Addr) (xs : List V) : Prop :=
  (∃ o, H a = some (.frz o (.lst xs))) ∨
    ∃ (o : Obj) (its : Array Value) (n : Nat), K.lookup a = some o ∧ o.cls = .type "list" ∧ o.dict = none ∧ o.data = .seq its n ∧ its.size ≤ sizeLine ∧ Vals xs its.toList
theorem FrzS.sq {K : PySem.W.Frag} {H : Hp} {a : Addr} {xs : List V} (h : FrzS K H a xs) : SqL K H a xs := by
  rcases h with h | h
  · exact .inl (.inr h)
  · exact .inr h
/-- a tuple of the written part -/
def KTup (K : PySem.W.Frag) (a : Addr) (xs : List V) : Prop := ∃ o its n, K.lookup a = some o ∧ o.cls = .type "tuple" ∧ o.data = .seq its n ∧ its.size ≤ sizeLine ∧ Vals xs its.toList
/-- nothing that is fixed changes -/
structure HLe (H H' : Hp) : Prop where
  tup : ∀ a xs, H a = some (.tup xs) → H' a = some (.tup xs)
  frz : ∀ a o u, H a = some (.frz o u) → H' a = some (.frz o u)
  alive : ∀ a o, H a = some o → ∃ o', H' a = some o'
theorem HLe.refl (H : Hp) : HLe H H := ⟨fun _ _ h => h, fun _ _ _ h => h, fun _ o h => ⟨o, h⟩⟩
theorem HLe.trans {H H1 H2 : Hp} (a : HLe H H1) (b : HLe H1 H2) : HLe H H2 :=
  ⟨fun c x h => b.tup c x (a.tup c x h), fun c o u h => b.frz c o u (a.frz c o u h), fun c o h => let ⟨o', h'⟩ := a.alive c o h; b.alive c o' h'⟩
theorem HLe.same {H H' : Hp} (h : ∀ b o, H b = some o → H' b = some o) : HLe H H' := ⟨fun _ _ e => h _ _ e, fun _ _ _ e => h _ _ e, fun _ o e => ⟨o, h _ _ e⟩⟩
theorem HLe.alloc {H : Hp} {p : Addr} {o : HO} (h : H p = none) : HLe H (upd H p o) := .same fun b u e => by
  rw [upd_ne (ne_of_none e h)]; exact e
/-- an object is written that is no tuple and not fixed -/
theorem HLe.write {H : Hp} {p : Addr} {o u : HO} (h : H p = some u) (h1 : ∀ xs, u ≠ .tup xs) (h2 : ∀ o v, u ≠ .frz o v) : HLe H (upd H p o) :=
  ⟨fun a xs e => by rw [upd_ne (ne_of e h (fun z => h1 xs z.symm))]; exact e, fun a o' v e => by rw [upd_ne (ne_of e h (fun z => h2 o' v z.symm))]; exact e,
   fun a o' e => by
    by_cases q : a = p
    · subst q; exact ⟨o, upd_same⟩
    · exact ⟨o', by rw [upd_ne q]; exact e⟩⟩
theorem HLe.none {H H' : Hp} {a : Addr} (h : HLe H H') (e : H' a = none) : H a = none := by
  cases q : H a with
  | none => rfl
  | some o => obtain ⟨o', z⟩ := h.alive a o q; rw [z] at e; cases e

mutual
/-- v stands for d, and it stays so -/
inductive Fz (K : PySem.W.Frag) (H : Hp) : V → PV → Prop
  | non : Fz K H .non .non
  | bl (b : Bool) : Fz K H (.bl b) (.bl b)
  | int (i : Int) : Fz K H (.int i) (.int i)
  | str (x : Str) : Fz K H (.str x) (.str x)
  | tup {a : Addr} {xs : List V} {ds : List PV} : H a = some (.tup xs) → FzA K H xs ds → Fz K H (.ref a) (.tup ds)
  | lst {a : Addr} {xs : List V} {ds : List PV} : FrzL H a xs → FzA K H xs ds → Fz K H (.ref a) (.lst ds)
  | scr {a : Addr} {xs : List V} {ds : List PV} : FrzS K H a xs → FzA K H xs ds → Fz K H (.ref a) (.scr ds)
  | obj {a C dx : Addr} {o : Obj} {fs : List (Str × V)} {ds : List (Str × PV)} : H a = some (.frz o (.ins C dx fs)) → FzF K H fs ds → Fz K H (.ref a) (.obj C ds)
  | ad (a : Addr) : Fz K H (.ref a) (.ad a)
  | any (v : V) : Fz K H v .any
  | dk {a : Addr} {o : Obj} {fs : List (Key × V)} {ds : List (Key × PV)} : H a = some (.frz o (.dK fs)) → FzK K H fs ds → Fz K H (.ref a) (.dk ds)
  | dt {a : Addr} {o : Obj} {fs : List (List Key × V)} {ds : List (List Key × PV)} : H a = some (.frz o (.dT fs)) → FzT K H fs ds → Fz K H (.ref a) (.dt ds)
  | ktp {a : Addr} {xs : List V} {ds : List PV} : KTup K a xs → FzA K H xs ds → Fz K H (.ref a) (.ktp ds)
inductive FzA (K : PySem.W.Frag) (H : Hp) : List V → List PV → Prop
  | nil : FzA K H [] []
  | cons {v : V} {d : PV} {vs : List V} {ds : List PV} : Fz K H v d → FzA K H vs ds → FzA K H (v :: vs) (d :: ds)
inductive FzF (K : PySem.W.Frag) (H : Hp) : List (Str × V) → List (Str × PV) → Prop
  | nil : FzF K H [] []
  | cons {n : Str} {v : V} {d : PV} {vs : List (Str × V)} {ds : List (Str × PV)} : Fz K H v d → FzF K H vs ds → FzF K H ((n, v) :: vs) ((n, d) :: ds)
inductive FzK (K : PySem.W.Frag) (H : Hp) : List (Key × V) → List (Key × PV) → Prop
  | nil : FzK K H [] []
  | cons {n : Key} {v : V} {d : PV} {vs : List (Key × V)} {ds : List (Key × PV)} : Fz K H v d → FzK K H vs ds → FzK K H ((n, v) :: vs) ((n, d) :: ds)
inductive FzT (K : PySem.W.Frag) (H : Hp) : List (List Key × V) → List (List Key × PV) → Prop
  | nil : FzT K H [] []
  | cons {n : List Key} {v : V} {d : PV} {vs : List (List Key × V)} {ds : List (List Key × PV)} : Fz K H v d → FzT K H vs ds → FzT K H ((n, v) :: vs) ((n, d) :: ds)
end
theorem SqT.le {K : PySem.W.Frag} {H H' : Hp} (l : HLe H H') {a : Addr} {xs : List V} (h : SqT K H a xs) : SqT K H' a xs := by
  rcases h with (h | ⟨o, h⟩) | h
  · exact .inl (.inl (l.tup _ _ h))
  · exact .inl (.inr ⟨o, l.frz _ _ _ h⟩)
  · exact .inr h
theorem FrzL.le {H H' : Hp} (l : HLe H H') {a : Addr} {xs : List V} (h : FrzL H a xs) : FrzL H' a xs := let ⟨o, e⟩ := h; ⟨o, l.frz _ _ _ e⟩
theorem FrzS.le {K : PySem.W.Frag} {H H' : Hp} (l : HLe H H') {a : Addr} {xs : List V} (h : FrzS K H a xs) : FrzS K H' a xs := by
  rcases h with ⟨o, h⟩ | h
  · exact .inl ⟨o, l.frz _ _ _ h⟩
  · exact .inr h
mutual
theorem Fz.le {K : PySem.W.Frag} {H H' : Hp} (l : HLe H H') : ∀ {v : V} {d : PV}, Fz K H v d → Fz K H' v d
  | _, _, .non => .non
  | _, _, .bl b => .bl b
  | _, _, .int b => .int b
  | _, _, .str b => .str b
  | _, _, .tup h q => .tup (l.tup _ _ h) (FzA.le l q)
  | _, _, .lst h q => .lst (FrzL.le l h) (FzA.le l q)
  | _, _, .scr h q => .scr (FrzS.le l h) (FzA.le l q)
  | _, _, .obj h q => .obj (l.frz _ _ _ h) (FzF.le l q)
  | _, _, .ad a => .ad a
  | _, _, .any v => .any v
  | _, _, .dk h q => .dk (l.frz _ _ _ h) (FzK.le l q)
  | _, _, .dt h q => .dt (l.frz _ _ _ h) (FzT.le l q)
  | _, _, .ktp h q => .ktp h (FzA.le l q)
theorem FzA.le {K : PySem.W.Frag} {H H' : Hp} (l : HLe H H') : ∀ {v : List V} {d : List PV}, FzA K H v d → FzA K H' v d
  | _, _, .nil => .nil
  | _, _, .cons h q => .cons (Fz.le l h) (FzA.le l q)
theorem FzF.le {K : PySem.W.Frag} {H H' : Hp} (l : HLe H H') : ∀ {v : List (Str × V)} {d : List (Str × PV)}, FzF K H v d → FzF K H' v d
  | _, _, .nil => .nil
  | _, _, .cons h q => .cons (Fz.le l h) (FzF.le l q)
theorem FzK.le {K : PySem.W.Frag} {H H' : Hp} (l : HLe H H') : ∀ {v : List (Key × V)} {d : List (Key × PV)}, FzK K H v d → FzK K H' v d
  | _, _, .nil => .nil
  | _, _, .cons h q => .cons (Fz.le l h) (FzK.le l q)
theorem FzT.le {K : PySem.W.Frag} {H H' : Hp} (l : HLe H H') : ∀ {v : List (List Key × V)} {d : List (List Key × PV)}, FzT K H v d → FzT K H' v d
  | _, _, .nil => .nil
  | _, _, .cons h q => .cons (Fz.le l h) (FzT.le l q)
end
theorem FzA.length {K : PySem.W.Frag} {H : Hp} : ∀ {v : List V} {d : List PV}, FzA K H v d → v.length = d.length
  | _, _, .nil => rfl
  | _, _, .cons _ q => by simp [FzA.length q]
theorem FzA.get {K : PySem.W.Frag} {H : Hp} : ∀ {v : List V} {d : List PV} {i : Nat} {x : PV}, FzA K H v d → d[i]? = some x → ∃ y, v[i]? = some y ∧ Fz K H y x
  | _, _, _, _, .nil, e => by simp at e
  | _, _, 0, _, .cons h _, e => by simp at e; subst e; exact ⟨_, rfl, h⟩
  | _, _, i + 1, _, .cons _ q, e => by simpa using FzA.get (i := i) q (by simpa using e)
theorem FzA.get' {K : PySem.W.Frag} {H : Hp} : ∀ {v : List V} {d : List PV} {i : Nat} {y : V}, FzA K H v d → v[i]? = some y → ∃ x, d[i]? = some x ∧ Fz K H y x
  | _, _, _, _, .nil, e => by simp at e
  | _, _, 0, _, .cons h _, e => by simp at e; subst e; exact ⟨_, rfl, h⟩
  | _, _, i + 1, _, .cons _ q, e => by simpa using FzA.get' (i := i) q (by simpa using e)
theorem FzA.append {K : PySem.W.Frag} {H : Hp} : ∀ {v w : List V} {d e : List PV}, FzA K H v d → FzA K H w e → FzA K H (v ++ w) (d ++ e)
  | _, _, _, _, .nil, r => r
  | _, _, _, _, .cons h q, r => .cons h (FzA.append q r)
theorem FzA.set {K : PySem.W.Frag} {H : Hp} {y : V} {x : PV} (h : Fz K H y x) : ∀ {v : List V} {d : List PV} (i : Nat), FzA K H v d → FzA K H (v.set i y) (d.set i x)
  | _, _, _, .nil => .nil
  | _, _, 0, .cons _ q => .cons h q
  | _, _, i + 1, .cons g q => .cons g (FzA.set h i q)
theorem FzA.take {K : PySem.W.Frag} {H : Hp} : ∀ {v : List V} {d : List PV} (n : Nat), FzA K H v d → FzA K H (v.take n) (d.take n)
  | _, _, 0, _ => .nil
  | _, _, _ + 1, .nil => .nil
  | _, _, n + 1, .cons h q => .cons h (FzA.take n q)
theorem FzA.drop {K : PySem.W.Frag} {H : Hp} : ∀ {v : List V} {d : List PV} (n : Nat), FzA K H v d → FzA K H (v.drop n) (d.drop n)
  | _, _, 0, r => r
  | _, _, _ + 1, .nil => .nil
  | _, _, n + 1, .cons _ q => FzA.drop n q
theorem FzF.lookup {K : PySem.W.Frag} {H : Hp} {f : Str} : ∀ {fs : List (Str × V)} {ds : List (Str × PV)} {x : PV}, FzF K H fs ds → ds.lookup f = some x → ∃ y, fs.lookup f = some y ∧ Fz K H y x
  | _, _, _, .nil, e => by simp at e
  | (n, v) :: fs, _ :: _, _, .cons h q, e => by
    by_cases z : f = n
    · subst z; simp at e; subst e; exact ⟨v, by simp, h⟩
    · have zz : (f == n) = false := by simpa using z
      simp only [List.lookup, zz] at e ⊢
      exact FzF.lookup q e
theorem FzF.lookup_none {K : PySem.W.Frag} {H : Hp} {f : Str} : ∀ {fs : List (Str × V)} {ds : List (Str × PV)}, FzF K H fs ds → ds.lookup f = none → fs.lookup f = none
  | _, _, .nil, _ => rfl
  | (n, v) :: fs, _ :: _, .cons h q, e => by
    by_cases z : f = n
    · subst z; simp at e
    · have zz : (f == n) = false := by simpa using z
      simp only [List.lookup, zz] at e ⊢
      exact FzF.lookup_none q e
def putP (f : Str) (v : PV) : List (Str × PV) → List (Str × PV)
  | [] => [(f, v)]
  | (g, u) :: r => if g = f then (g, v) :: r else (g, u) :: putP f v r
theorem FzF.put {K : PySem.W.Frag} {H : Hp} {f : Str} {y : V} {x : PV} (h : Fz K H y x) : ∀ {fs : List (Str × V)} {ds : List (Str × PV)}, FzF K H fs ds → FzF K H (putF f y fs) (putP f x ds)
  | _, _, .nil => .cons h .nil
  | (n, v) :: fs, _ :: _, .cons g q => by
    unfold putF putP
    by_cases z : n = f
    · rw [if_pos z, if_pos z]; exact .cons h q
    · rw [if_neg z, if_neg z]; exact .cons g (FzF.put h q)
theorem FzF.length {K : PySem.W.Frag} {H : Hp} : ∀ {v : List (Str × V)} {d : List (Str × PV)}, FzF K H v d → v.length = d.length
  | _, _, .nil => rfl
  | _, _, .cons _ q => by simp [FzF.length q]

/-- a thing held alone -/
def Ow (K : PySem.W.Frag) (H : Hp) (a : Addr) : PV → Prop
  | .lst ds => ∃ xs, H a = some (.lst xs) ∧ FzA K H xs ds
  | .obj C ds => ∃ dx fs, H a = some (.ins C dx fs) ∧ FzF K H fs ds
  | .dk ds => ∃ fs, H a = some (.dK fs) ∧ FzK K H fs ds
  | .dt ds => ∃ fs, H a = some (.dT fs) ∧ FzT K H fs ds
  | _ => False
theorem Ow.le {K : PySem.W.Frag} {H H' : Hp} (l : HLe H H') {a : Addr} {d : PV} (e : H' a = H a) (h : Ow K H a d) : Ow K H' a d := by
  cases d with
  | lst ds => obtain ⟨xs, h1, h2⟩ := h; exact ⟨xs, e.trans h1, h2.le l⟩
  | obj C ds => obtain ⟨dx, fs, h1, h2⟩ := h; exact ⟨dx, fs, e.trans h1, h2.le l⟩
  | dk ds => obtain ⟨fs, h1, h2⟩ := h; exact ⟨fs, e.trans h1, h2.le l⟩
  | dt ds => obtain ⟨fs, h1, h2⟩ := h; exact ⟨fs, e.trans h1, h2.le l⟩
  | _ => exact h.elim
/-- it is a list or an instance -/
theorem Ow.at {K : PySem.W.Frag} {H : Hp} {a : Addr} {d : PV} (h : Ow K H a d) : ∃ u, H a = some u ∧ (∀ xs, u ≠ .tup xs) ∧ ∀ o v, u ≠ .frz o v := by
  cases d with
  | lst ds => obtain ⟨xs, h1, h2⟩ := h; exact ⟨_, h1, fun _ z => (nomatch z), fun _ _ z => (nomatch z)⟩
  | obj C ds => obtain ⟨dx, fs, h1, h2⟩ := h; exact ⟨_, h1, fun _ z => (nomatch z), fun _ _ z => (nomatch z)⟩
  | dk ds => obtain ⟨fs, h1, h2⟩ := h; exact ⟨_, h1, fun _ z => (nomatch z), fun _ _ z => (nomatch z)⟩
  | dt ds => obtain ⟨fs, h1, h2⟩ := h; exact ⟨_, h1, fun _ z => (nomatch z), fun _ _ z => (nomatch z)⟩
  | _ => exact h.elim

/-- the slots e are what σ and H hold. P: what stood at H0 and may be written; B: the parameters held alone -/
structure VI (K : PySem.W.Frag) (np : Nat) (P : Addr → Prop) (B : List (Nat × Addr)) (H0 : Hp) (e : Fr) (σ : L2.St) (H : Hp) : Prop where
  len : e.length = σ.length
  fz : ∀ (i : Nat) d, e[i]? = some (.fz d) → ∃ v, σ[i]? = some (some v) ∧ Fz K H v d
  ow : ∀ (i : Nat) d, e[i]? = some (.own d) → ∃ a, σ[i]? = some (some (.ref a)) ∧ Ow K H a d ∧ (P a ∨ H0 a = none)
  dj : ∀ (i j : Nat) d d' a, e[i]? = some (.own d) → e[j]? = some (.own d') → σ[i]? = some (some (.ref a)) → σ[j]? = some (some (.ref a)) → i = j
  pin : ∀ i a, (i, a) ∈ B → i < np ∧ σ[i]? = some (some (.ref a)) ∧ ∃ d, e[i]? = some (.own d)
  keep : ∀ b o, H0 b = some o → ¬ P b → H b = some o
  al : ∀ b o, H0 b = some o → ∃ o', H b = some o'
section
variable {K : PySem.W.Frag} {np : Nat} {P : Addr → Prop} {B : List (Nat × Addr)} {H0 H H' : Hp} {e : Fr} {σ : L2.St}
/-- all that stood stands -/
theorem VI.same (I : VI K np P B H0 e σ H) (h : ∀ b o, H b = some o → H' b = some o) : VI K np P B H0 e σ H' where
  len := I.len
  fz := fun i d q => let ⟨v, a, b⟩ := I.fz i d q; ⟨v, a, b.le (.same h)⟩
  ow := fun i d q => let ⟨a, x, y, z⟩ := I.ow i d q; ⟨a, x, y.le (.same h) (by obtain ⟨u, e, _⟩ := y.at; rw [e, h _ _ e]), z⟩
  dj := I.dj
  pin := I.pin
  keep := fun b o q n => h _ _ (I.keep b o q n)
  al := fun b o q => let ⟨o', z⟩ := I.al b o q; ⟨o', h _ _ z⟩
theorem VI.alloc (I : VI K np P B H0 e σ H) {p : Addr} {o : HO} (h : H p = none) : VI K np P B H0 e σ (upd H p o) := I.same fun b u q => by rw [upd_ne (ne_of_none q h)]; exact q
theorem VI.fresh (I : VI K np P B H0 e σ H) {p : Addr} (h : H p = none) : H0 p = none := by
  cases q : H0 p with
  | none => rfl
  | some o => obtain ⟨o', z⟩ := I.al p o q; rw [z] at h; cases h
/-- the addresses held alone -/
def Owned (e : Fr) (σ : L2.St) (a : Addr) : Prop := ∃ (i : Nat) (d : PV), e[i]? = some (.own d) ∧ σ[i]? = some (some (.ref a))
/-- .. seen from here -/
theorem VI.base (I : VI K np P B H0 e σ H) : VI K np (Owned e σ) B H e σ H where
  len := I.len
  fz := I.fz
  ow := fun i d q => let ⟨a, x, y, _⟩ := I.ow i d q; ⟨a, x, y, .inl ⟨i, d, q, x⟩⟩
  dj := I.dj
  pin := I.pin
  keep := fun _ _ q _ => q
  al := fun _ o q => ⟨o, q⟩
/-- .. and back -/
theorem VI.back (I : VI K np P B H0 e σ H) {e' : Fr} {σ' : L2.St} (J : VI K np (Owned e σ) B H e' σ' H') : VI K np P B H0 e' σ' H' where
  len := J.len
  fz := J.fz
  ow := fun i d q => by
    obtain ⟨a, x, y, z⟩ := J.ow i d q
    refine ⟨a, x, y, ?_⟩
    rcases z with ⟨j, d', q', x'⟩ | z
    · obtain ⟨a', x2, _, z2⟩ := I.ow j d' q'
      rw [x'] at x2; cases x2
      exact z2
    · exact .inr (I.fresh z)
  dj := J.dj
  pin := J.pin
  keep := fun b o q n => J.keep b o (I.keep b o q n) fun ⟨j, d', q', x'⟩ => by
    obtain ⟨a', x2, _, z2⟩ := I.ow j d' q'
    rw [x'] at x2; cases x2
    rcases z2 with z2 | z2
    · exact n z2
    · rw [q] at z2; cases z2
  al := fun b o q => let ⟨o', z⟩ := I.al b o q; J.al b o' z
/-- a thing held alone at slot i is written -/
theorem VI.write (I : VI K np P B H0 e σ H) {i : Nat} {d d' : PV} {a : Addr} {o : HO} (h : e[i]? = some (.own d)) (hs : σ[i]? = some (some (.ref a))) (hw : Ow K (upd H a o) a d') :
    VI K np P B H0 (e.set i (.own d')) σ (upd H a o) := by
  obtain ⟨a', x, y, z⟩ := I.ow i d h
  rw [hs] at x; cases x
  obtain ⟨u, hu, u1, u2⟩ := y.at
  have le : HLe H (upd H a o) := .write hu u1 u2
  have hi : i < e.length := (List.getElem?_eq_some_iff.mp h).1
  have key : ∀ (j : Nat) (s : Sl), (e.set i (.own d'))[j]? = some s → (j = i ∧ s = .own d') ∨ (j ≠ i ∧ e[j]? = some s) := fun j s q => by
    by_cases hj : i = j
    · subst hj; rw [List.getElem?_set_self hi] at q; exact .inl ⟨rfl, (Option.some.inj q).symm⟩
    · rw [List.getElem?_set_ne hj] at q; exact .inr ⟨fun z => hj z.symm, q⟩
  refine ⟨by simpa using I.len, fun j dd q => ?_, fun j dd q => ?_, fun j k dd dd' b q1 q2 s1 s2 => ?_, fun j b q => ?_, fun b ob q n => ?_, fun b ob q => ?_⟩
  · rcases key j _ q with ⟨_, z⟩ | ⟨_, q⟩
    · cases z
    · obtain ⟨v, s1, s2⟩ := I.fz j dd q
      exact ⟨v, s1, s2.le le⟩
  · rcases key j _ q with ⟨rfl, zz⟩ | ⟨ne, q⟩
    · cases zz; exact ⟨a, hs, hw, z⟩
    · obtain ⟨b, s1, s2, s3⟩ := I.ow j dd q
      refine ⟨b, s1, s2.le le ?_, s3⟩
      rw [upd_ne]
      rintro rfl
      exact ne (I.dj _ _ _ _ _ q h s1 hs)
  · have f : ∀ (j : Nat) dd, (e.set i (.own d'))[j]? = some (.own dd) → ∃ dd', e[j]? = some (.own dd') := fun j dd q => by
      rcases key j _ q with ⟨rfl, zz⟩ | ⟨ne, q⟩
      · exact ⟨d, h⟩
      · exact ⟨dd, q⟩
    obtain ⟨_, r1⟩ := f j _ q1
    obtain ⟨_, r2⟩ := f k _ q2
    exact I.dj _ _ _ _ _ r1 r2 s1 s2
  · obtain ⟨h1, h2, dd, h3⟩ := I.pin j b q
    refine ⟨h1, h2, ?_⟩
    by_cases hj : i = j
    · subst hj; exact ⟨d', by rw [List.getElem?_set_self hi]⟩
    · exact ⟨dd, by rw [List.getElem?_set_ne hj]; exact h3⟩
  · rw [upd_ne]
    · exact I.keep b ob q n
    · rintro rfl
      rcases z with z | z
      · exact n z
      · rw [q] at z; cases z
  · obtain ⟨o', q'⟩ := I.al b ob q
    exact le.alive b o' q'
/-- a thing held alone at slot i, no parameter, is given away: from now on it stays as it is -/
theorem VI.freeze (I : VI K np P B H0 e σ H) {i : Nat} {d d' : PV} {a : Addr} {o : HO} (hn : np ≤ i) (h : e[i]? = some (.own d)) (hs : σ[i]? = some (some (.ref a))) (hw : Fz K (upd H a o) (.ref a) d') :
    VI K np P B H0 (e.set i (.fz d')) σ (upd H a o) := by
  obtain ⟨a', x, y, z⟩ := I.ow i d h
  rw [hs] at x; cases x
  obtain ⟨u, hu, u1, u2⟩ := y.at
  have le : HLe H (upd H a o) := .write hu u1 u2
  have hi : i < e.length := (List.getElem?_eq_some_iff.mp h).1
  have key : ∀ (j : Nat) (s : Sl), (e.set i (.fz d'))[j]? = some s → (j = i ∧ s = .fz d') ∨ (j ≠ i ∧ e[j]? = some s) := fun j s q => by
    by_cases hj : i = j
    · subst hj; rw [List.getElem?_set_self hi] at q; exact .inl ⟨rfl, (Option.some.inj q).symm⟩
    · rw [List.getElem?_set_ne hj] at q; exact .inr ⟨fun z => hj z.symm, q⟩
  refine ⟨by simpa using I.len, fun j dd q => ?_, fun j dd q => ?_, fun j k dd dd' b q1 q2 s1 s2 => ?_, fun j b q => ?_, fun b ob q n => ?_, fun b ob q => ?_⟩
  · rcases key j _ q with ⟨rfl, z⟩ | ⟨_, q⟩
    · cases z; exact ⟨_, hs, hw⟩
    · obtain ⟨v, s1, s2⟩ := I.fz j dd q
      exact ⟨v, s1, s2.le le⟩
  · rcases key j _ q with ⟨_, zz⟩ | ⟨ne, q⟩
    · cases zz
    · obtain ⟨b, s1, s2, s3⟩ := I.ow j dd q
      refine ⟨b, s1, s2.le le ?_, s3⟩
      rw [upd_ne]
      rintro rfl
      exact ne (I.dj _ _ _ _ _ q h s1 hs)
  · rcases key j _ q1 with ⟨_, zz⟩ | ⟨_, r1⟩
    · cases zz
    rcases key k _ q2 with ⟨_, zz⟩ | ⟨_, r2⟩
    · cases zz
    exact I.dj _ _ _ _ _ r1 r2 s1 s2
  · obtain ⟨h1, h2, dd, h3⟩ := I.pin j b q
    refine ⟨h1, h2, ?_⟩
    have hj : i ≠ j := by omega
    exact ⟨dd, by rw [List.getElem?_set_ne hj]; exact h3⟩
  · rw [upd_ne]
    · exact I.keep b ob q n
    · rintro rfl
      rcases z with z | z
      · exact n z
      · rw [q] at z; cases z
  · obtain ⟨o', q'⟩ := I.al b ob q
    exact le.alive b o' q'
/-- a slot that is no parameter held alone is stored -/
theorem VI.store (I : VI K np P B H0 e σ H) {i : Nat} {v : V} {s : Sl} (hn : np ≤ i ∨ ∀ d, e[i]? ≠ some (.own d))
    (hz : ∀ d, s = .fz d → Fz K H v d) (ho : ∀ d, s = .own d → np ≤ i ∧ ∃ a, v = .ref a ∧ Ow K H a d ∧ (P a ∨ H0 a = none) ∧ ∀ (j : Nat) d', j ≠ i → e[j]? = some (.own d') → σ[j]? ≠ some (some (.ref a))) :
    VI K np P B H0 (e.set i s) (σ.set i (some v)) H := by
  by_cases hi : i < e.length
  case neg =>
    have h1 : e.set i s = e := List.set_eq_of_length_le (by omega)
    have h2 : σ.set i (some v) = σ := List.set_eq_of_length_le (by have := I.len; omega)
    rw [h1, h2]; exact I
  have hi' : i < σ.length := by have := I.len; omega
  have key : ∀ (j : Nat) (t : Sl), (e.set i s)[j]? = some t → (j = i ∧ t = s) ∨ (j ≠ i ∧ e[j]? = some t) := fun j t q => by
    by_cases hj : i = j
    · subst hj; rw [List.getElem?_set_self hi] at q; exact .inl ⟨rfl, (Option.some.inj q).symm⟩
    · rw [List.getElem?_set_ne hj] at q; exact .inr ⟨fun z => hj z.symm, q⟩
  have kσ : ∀ (j : Nat), j ≠ i → (σ.set i (some v))[j]? = σ[j]? := fun j hj => List.getElem?_set_ne (Ne.symm hj)
  have kσ' : (σ.set i (some v))[i]? = some (some v) := List.getElem?_set_self hi'
  refine ⟨by simpa using I.len, fun j dd q => ?_, fun j dd q => ?_, fun j k dd dd' b q1 q2 s1 s2 => ?_, fun j b q => ?_, I.keep, I.al⟩
  · rcases key j _ q with ⟨rfl, z⟩ | ⟨ne, q⟩
    · exact ⟨v, kσ', hz dd z.symm⟩
    · obtain ⟨v', s1, s2⟩ := I.fz j dd q
      exact ⟨v', by rw [kσ j ne]; exact s1, s2⟩
  · rcases key j _ q with ⟨rfl, z⟩ | ⟨ne, q⟩
    · obtain ⟨_, a, rfl, h1, h2, _⟩ := ho dd z.symm
      exact ⟨a, kσ', h1, h2⟩
    · obtain ⟨b, s1, s2⟩ := I.ow j dd q
      exact ⟨b, by rw [kσ j ne]; exact s1, s2⟩
  · rcases key j _ q1 with ⟨rfl, z1⟩ | ⟨ne1, r1⟩
    · rcases key k _ q2 with ⟨rfl, z2⟩ | ⟨ne2, r2⟩
      · rfl
      · obtain ⟨_, a, rfl, h1, h2, h3⟩ := ho dd z1.symm
        rw [kσ'] at s1; cases s1
        rw [kσ k ne2] at s2
        exact absurd s2 (h3 k _ ne2 r2)
    · rcases key k _ q2 with ⟨rfl, z2⟩ | ⟨ne2, r2⟩
      · obtain ⟨_, a, rfl, h1, h2, h3⟩ := ho dd' z2.symm
        rw [kσ'] at s2; cases s2
        rw [kσ j ne1] at s1
        exact absurd s1 (h3 j _ ne1 r1)
      · rw [kσ j ne1] at s1
        rw [kσ k ne2] at s2
        exact I.dj _ _ _ _ _ r1 r2 s1 s2
  · obtain ⟨h1, h2, dd, h3⟩ := I.pin j b q
    have hj : j ≠ i := by
      rintro rfl
      rcases hn with z | z
      · omega
      · exact z dd h3
    exact ⟨h1, by rw [kσ j hj]; exact h2, dd, by rw [List.getElem?_set_ne (Ne.symm hj)]; exact h3⟩
end
end VS

set_option Elab.async false
set_option linter.all false
set_option maxRecDepth 100000
set_option maxHeartbeats 1000000
/-! VS2: outcomes, the judgements, expressions. -/
namespace VS
open PySem L2 PyProof.Rows

inductive Out (α : Type) where
  | ok (a : α) (e : Fr) | exc (C : Addr) (ds : List (Str × PV)) (e : Fr) | stuck
abbrev Mo (α : Type) := Fr → Out α
def mB {α β : Type} (m : Mo α) (k : α → Mo β) : Mo β := fun e => match m e with
  | .ok a e' => k a e'
  | .exc C ds e' => .exc C ds e'
  | .stuck => .stuck
def mR {α : Type} (a : α) : Mo α := fun e => .ok a e
def mO {α : Type} (o : Option α) : Mo α := fun e => match o with
  | some a => .ok a e
  | none => .stuck

/-- an exception's own dict -/
def ExD (K : PySem.W.Frag) (H : Hp) (x : Option Addr) (ds : List (Str × PV)) : Prop := match x with
  | none => ds = []
  | some a => ∃ fs, H a = some (.xd fs) ∧ FzF K H fs ds

abbrev RelR (α β : Type) := (Addr → Prop) → α → Fr → L2.St → Hp → β → Prop
section
variable (K : PySem.W.Frag) (np : Nat) (W : WX)
def PostG {α β : Type} (P : Addr → Prop) (B : List (Nat × Addr)) (H0 : Hp) (R : RelR α β) (σ : L2.St) (H : Hp) (o : Out α) (Q : β → Hp → Prop) : Prop := match o with
  | .ok a e' => ∀ b H', VI K np P B H0 e' σ H' → R (fun a => P a ∨ H0 a = none) a e' σ H' b → HLe H H' → Q b H'
  | .exc C ds e' => ∀ x H', VI K np P B H0 e' σ H' → ExD K H' x ds → HLe H H' → W (.ref C) x σ H'
  | .stuck => False
def tG {α β : Type} (R : RelR α β) (m : Mo α) : L2.St → Hp → (β → Hp → Prop) → Prop := fun σ H Q => ∃ P B H0 e, VI K np P B H0 e σ H ∧ PostG K np W P B H0 R σ H (m e) Q
end
section
variable {K : PySem.W.Frag} {np : Nat} {W : WX}
theorem PostG.le {α β : Type} {P : Addr → Prop} {B : List (Nat × Addr)} {H0 : Hp} {R : RelR α β} {σ : L2.St} {H H1 : Hp} {o : Out α} {Q : β → Hp → Prop} (l : HLe H H1) (h : PostG K np W P B H0 R σ H o Q) : PostG K np W P B H0 R σ H1 o Q := by
  cases o with
  | ok a e' => exact fun b H' I r l' => h b H' I r (l.trans l')
  | exc C ds e' => exact fun x H' I r l' => h x H' I r (l.trans l')
  | stuck => exact h
/-- THE STEP: m first, then k -/
theorem tG.bind {α α' β β' : Type} {R : RelR α β} {R' : RelR α' β'} {m : Mo α} {k : α → Mo α'} {σ : L2.St} {H : Hp} {Q : β → Hp → Prop} {Q' : β' → Hp → Prop} (h : tG K np W R' (mB m k) σ H Q')
    (hk : ∀ P B H0 a e1 b H1, VI K np P B H0 e1 σ H1 → R (fun a => P a ∨ H0 a = none) a e1 σ H1 b → HLe H H1 → PostG K np W P B H0 R' σ H1 (k a e1) Q' → Q b H1) : tG K np W R m σ H Q := by
  obtain ⟨P, B, H0, e, I, h⟩ := h
  refine ⟨P, B, H0, e, I, ?_⟩
  unfold mB at h
  generalize m e = o at h ⊢
  cases o with
  | ok a e' => exact fun b H' I' r l' => hk P B H0 a e' b H' I' r l' (PostG.le l' h)
  | exc C ds e' => exact h
  | stuck => exact h
theorem tG.of {α β : Type} {R : RelR α β} {m : Mo α} {σ : L2.St} {H : Hp} {Q : β → Hp → Prop} {P : Addr → Prop} {B : List (Nat × Addr)} {H0 : Hp} {e : Fr} (I : VI K np P B H0 e σ H) (h : PostG K np W P B H0 R σ H (m e) Q) : tG K np W R m σ H Q := ⟨P, B, H0, e, I, h⟩
end

/-! ### what a result stands for -/
/-- a value that stays -/
def rE (K : PySem.W.Frag) : RelR PV V := fun _ d _ _ H v => Fz K H v d
/-- a value that stays, or one that nothing else holds -/
def rS (K : PySem.W.Frag) : RelR Sl V := fun Z s e σ H v => match s with
  | .un => False
  | .fz d => Fz K H v d
  | .own d => ∃ a, v = .ref a ∧ Ow K H a d ∧ Z a ∧ ∀ (j : Nat) d', e[j]? = some (.own d') → σ[j]? ≠ some (some (.ref a))
/-- an operand: a value that stays, or what a slot holds at the time of use -/
inductive Opd where
  | val (d : PV) | pl (i : Nat)
def rO (K : PySem.W.Frag) : RelR Opd V := fun _ o e σ H v => match o with
  | .val d => Fz K H v d
  | .pl i => σ[i]? = some (some v) ∧ ∃ s, e[i]? = some s ∧ s ≠ .un
def rB : RelR Bool Bool := fun _ b _ _ _ c => c = b
def rA (K : PySem.W.Frag) : RelR (List PV) (List V) := fun _ ds _ _ H vs => FzA K H vs ds
/-- what may be read as d -/
def Rr (K : PySem.W.Frag) (H : Hp) (v : V) (d : PV) : Prop := Fz K H v d ∨ ∃ a, v = .ref a ∧ Ow K H a d
def Opd.get (o : Opd) (e : Fr) : Option PV := match o with
  | .val d => some d
  | .pl i => match e[i]? with
    | some (.fz d) => some d
    | some (.own d) => some d
    | _ => none
section
variable {K : PySem.W.Frag} {np : Nat} {P : Addr → Prop} {B : List (Nat × Addr)} {H0 H H' : Hp} {e : Fr} {σ : L2.St}
theorem rO.rr {Z : Addr → Prop} {o : Opd} {v : V} {d : PV} (I : VI K np P B H0 e σ H) (r : rO K Z o e σ H v) (g : o.get e = some d) : Rr K H v d := by
  cases o with
  | val d' => cases g; exact .inl r
  | pl i =>
    obtain ⟨h1, s, h2, h3⟩ := r
    unfold Opd.get at g
    simp only [h2] at g
    cases s with
    | un => exact absurd rfl h3
    | fz d' =>
      cases g
      obtain ⟨v', a, b⟩ := I.fz i d h2
      rw [h1] at a; cases a; exact .inl b
    | own d' =>
      cases g
      obtain ⟨a, x, y, _⟩ := I.ow i d h2
      rw [h1] at x; cases x; exact .inr ⟨a, rfl, y⟩
theorem rO.le {Z Z' : Addr → Prop} {o : Opd} {v : V} {e' : Fr} (l : HLe H H') (r : rO K Z o e σ H v) (h : ∀ i, o = .pl i → ∃ s, e'[i]? = some s ∧ s ≠ .un) : rO K Z' o e' σ H' v := by
  cases o with
  | val d => exact Fz.le l r
  | pl i => exact ⟨r.1, h i rfl⟩
theorem Rr.int {v : V} {i : Int} (h : Rr K H v (.int i)) : v = .int i := by
  rcases h with h | ⟨a, _, h⟩
  · cases h; rfl
  · exact h.elim
theorem Rr.bl {v : V} {i : Bool} (h : Rr K H v (.bl i)) : v = .bl i := by
  rcases h with h | ⟨a, _, h⟩
  · cases h; rfl
  · exact h.elim
theorem Rr.str {v : V} {i : Str} (h : Rr K H v (.str i)) : v = .str i := by
  rcases h with h | ⟨a, _, h⟩
  · cases h; rfl
  · exact h.elim
theorem Rr.non {v : V} (h : Rr K H v .non) : v = .non := by
  rcases h with h | ⟨a, _, h⟩
  · cases h; rfl
  · exact h.elim
theorem Rr.tupE {v : V} {ds : List PV} (h : Rr K H v (.tup ds)) : ∃ a xs, v = .ref a ∧ H a = some (.tup xs) ∧ FzA K H xs ds := by
  rcases h with h | ⟨a, _, h⟩
  · cases h with | tup a b => exact ⟨_, _, rfl, a, b⟩
  · exact h.elim
theorem Rr.tup {v : V} {ds : List PV} (h : Rr K H v (.tup ds)) : ∃ a xs, v = .ref a ∧ SqT K H a xs ∧ FzA K H xs ds := by
  rcases h with h | ⟨a, _, h⟩
  · cases h with | tup a b => exact ⟨_, _, rfl, SqT.of a, b⟩
  · exact h.elim
theorem Rr.ktp {v : V} {ds : List PV} (h : Rr K H v (.ktp ds)) : ∃ a xs, v = .ref a ∧ SqT K H a xs ∧ FzA K H xs ds := by
  rcases h with h | ⟨a, _, h⟩
  · cases h with | ktp a b => exact ⟨_, _, rfl, .inr a, b⟩
  · exact h.elim
theorem Rr.lstR {v : V} {ds : List PV} (h : Rr K H v (.lst ds)) : ∃ a xs, v = .ref a ∧ Rd H a (.lst xs) ∧ FzA K H xs ds := by
  rcases h with h | ⟨a, rfl, h⟩
  · cases h with | lst a b => exact ⟨_, _, rfl, .inr a, b⟩
  · obtain ⟨xs, h1, h2⟩ := h
    exact ⟨a, xs, rfl, .inl h1, h2⟩
theorem Rr.lst {v : V} {ds : List PV} (h : Rr K H v (.lst ds)) : ∃ a xs, v = .ref a ∧ SqL K H a xs ∧ FzA K H xs ds := by
  obtain ⟨a, xs, h1, h2, h3⟩ := h.lstR
  exact ⟨a, xs, h1, .inl h2, h3⟩
theorem Rr.seq {v : V} {d : PV} {ds : List PV} (h : Rr K H v d) (e : d = .tup ds ∨ d = .lst ds) : ∃ a xs, v = .ref a ∧ (SqL K H a xs ∨ SqT K H a xs) ∧ FzA K H xs ds := by
  rcases e with rfl | rfl
  · obtain ⟨a, xs, h1, h2, h3⟩ := h.tup; exact ⟨a, xs, h1, .inr h2, h3⟩
  · obtain ⟨a, xs, h1, h2, h3⟩ := h.lst; exact ⟨a, xs, h1, .inl h2, h3⟩
/-- slots that are not empty stay so -/
def NE (e e' : Fr) : Prop := ∀ (i : Nat) s, e[i]? = some s → s ≠ .un → ∃ s', e'[i]? = some s' ∧ s' ≠ .un
end

theorem PEi {X : Cx} {e : Expr} {t t' : TE} (p : PE X e t) (f : ∀ σ H Q, t' σ H Q → t σ H Q) : PE X e t' := ⟨fun pins s σ H Q I h => p.run pins s σ H Q I (f σ H Q h)⟩
theorem PTi {X : Cx} {e : Expr} {t t' : TT} (p : PT X e t) (f : ∀ σ H Q, t' σ H Q → t σ H Q) : PT X e t' := ⟨fun pins s σ H Q I h => p.run pins s σ H Q I (f σ H Q h)⟩
theorem PWi {X : Cx} {e : Expr} {t t' : TT} (p : PW X e t) (f : ∀ σ H Q, t' σ H Q → t σ H Q) : PW X e t' := ⟨fun w pins s σ H Q I h => p.run w pins s σ H Q I (f σ H Q h)⟩
theorem PAi {X : Cx} {es : List Expr} {t t' : TA} (p : PA X es t) (f : ∀ σ H Q, t' σ H Q → t σ H Q) : PA X es t' := ⟨fun po pins s σ H Q I h => p.run po pins s σ H Q I (f σ H Q h)⟩

section
variable {X : Cx} {np : Nat} {W : WX} {a b c : Expr} {pos : Pos}
abbrev JS (X : Cx) (np : Nat) (W : WX) (e : Expr) (m : Mo Sl) : Prop := PE X e (tG X.K np W (rS X.K) m)
abbrev JE (X : Cx) (np : Nat) (W : WX) (e : Expr) (m : Mo PV) : Prop := PE X e (tG X.K np W (rE X.K) m)
abbrev JO (X : Cx) (np : Nat) (W : WX) (e : Expr) (m : Mo Opd) : Prop := PE X e (tG X.K np W (rO X.K) m)
abbrev JT (X : Cx) (np : Nat) (W : WX) (e : Expr) (m : Mo Bool) : Prop := PT X e (tG X.K np W rB m)
abbrev JW (X : Cx) (np : Nat) (W : WX) (e : Expr) (m : Mo Bool) : Prop := PW X e (tG X.K np W rB m)
abbrev JA (X : Cx) (np : Nat) (W : WX) (es : List Expr) (m : Mo (List PV)) : Prop := PA X es (tG X.K np W (rA X.K) m)

/-! ### constants, names -/
def mC (d : PV) : Mo Sl := fun e => .ok (.fz d) e
theorem js_c {e : Expr} {v : V} {d : PV} (h : PE X e (tC v)) (hd : ∀ H, Fz X.K H v d) : JS X np W e (mC d) :=
  PEi h fun σ H Q ⟨P, B, H0, e, I, h⟩ => h v H I (hd H) (.refl H)
theorem js_int {i j} : JS X np W (.Constant (.int i) j pos) (mC (.int i)) := js_c pe_int fun _ => .int i
theorem js_bl {i j} : JS X np W (.Constant (.bool i) j pos) (mC (.bl i)) := js_c pe_bl fun _ => .bl i
theorem js_non {j} : JS X np W (.Constant .none j pos) (mC .non) := js_c pe_non fun _ => .non
theorem js_str {x j} : JS X np W (.Constant (.str x) j pos) (mC (.str x)) := js_c pe_str fun _ => .str x
/-- a module's constant -/
theorem js_glob {x : Str} {v : V} {u : Value} {d : PV} (hg : Gl X x) (hm : X.mg x = some u) (r : RelV v u) (hd : ∀ H, Fz X.K H v d) (hdb : (x == ("__debug__" : Str)) = false := by decide) : JS X np W (.Name x pos) (mC d) := js_c (pe_glob hg hm r hdb) hd

/-- a name as an operand -/
def oN (i : Nat) : Mo Opd := fun e => match e[i]? with
  | some (.fz _) => .ok (.pl i) e
  | some (.own _) => .ok (.pl i) e
  | _ => .stuck
theorem jo_n (i : Nat) {x : Str} (h : PE X (.Name x pos) (tVar i)) : JO X np W (.Name x pos) (oN i) := by
  refine PEi h fun σ H Q ⟨P, B, H0, e, I, h⟩ => ?_
  unfold oN at h
  generalize he : e[i]? = s at h
  match s, h with
  | some (.fz d), h =>
    obtain ⟨v, h1, h2⟩ := I.fz i d he
    exact ⟨v, h1, h v H I ⟨h1, _, he, by simp⟩ (.refl H)⟩
  | some (.own d), h =>
    obtain ⟨v, h1, h2⟩ := I.ow i d he
    exact ⟨_, h1, h _ H I ⟨h1, _, he, by simp⟩ (.refl H)⟩
  | some .un, h => exact h.elim
  | none, h => exact h.elim

/-! ### giving away -/
/-- what may be fixed -/
def CanFrz : HO → Prop
  | .lst _ => True
  | .ins _ _ _ => True
  | .dK _ => True
  | .dT _ => True
  | _ => False
theorem Inv.freeze {pins : List (Addr × Obj)} {σ : L2.St} {H : Hp} {s : Shared} {a : Addr} {u : HO} (I : Inv X pins σ H s) (h : H a = some u) (hu : CanFrz u) :
    ∃ o, Inv X pins σ (upd H a (.frz o u)) s := by
  obtain ⟨o, ho⟩ : ∃ o, s.heap.get? a = some o := objOk_get (I.hok a u h)
  have n1 : ∀ b xs, H b = some (.tup xs) → b ≠ a := fun b xs e z => by
    subst z; rw [h] at e; cases e; exact hu
  have n2 : ∀ b o v, H b = some (.frz o v) → b ≠ a := fun b o v e z => by
    subst z; rw [h] at e; cases e; exact hu
  have n3 : ∀ b x, H b = some (.own x) → b ≠ a := fun b o e z => by
    subst z; rw [h] at e; cases e; exact hu
  have n4 : ∀ b x, H b = some (.tbl x) → b ≠ a := fun b o e z => by
    subst z; rw [h] at e; cases e; exact hu
  have n5 : ∀ b, H b = none → b ≠ a := fun b e z => by
    subst z; rw [h] at e; cases e
  have un : Un X.fs [] H (upd H a (.frz o u)) s.heap s.heap :=
    ⟨fun b ob q _ _ _ => q, fun b ob q _ _ _ => ⟨ob.slots, q⟩, fun b ob q n _ => by rw [upd_ne (n5 b n)]; exact n, fun b ob q _ => ⟨ob, q⟩,
     fun b xs e => by rw [upd_ne (n1 b xs e)]; exact e, fun b o xs e => by rw [upd_ne (n2 b o xs e)]; exact e, fun b ps e => ⟨#[], by rw [upd_ne (n4 b ps e), e]; simp⟩⟩
  refine ⟨o, I.un (t' := s.toks) un fun b v e => ?_⟩
  by_cases hb : b = a
  · subst hb
    rw [upd_same] at e; cases e
    exact ⟨ho, (I.hok b u h).stay (fun c w _ q => q) (fun c q => by rw [upd_ne (n3 c _ q)]; exact q) fun c xs q => by rw [upd_ne (n1 c xs q)]; exact q⟩
  · rw [upd_ne hb] at e
    exact (I.hok b v e).stay (fun c w _ q => q) (fun c q => by rw [upd_ne (n3 c _ q)]; exact q) fun c xs q => by rw [upd_ne (n1 c xs q)]; exact q
/-- behind an expression a thing may be fixed -/
theorem pe_fix {e : Expr} {t : TE} (h : PE X e t) : PE X e (fun σ H Q => t σ H fun v H' => Q v H' ∨ ∃ a u, H' a = some u ∧ CanFrz u ∧ ∀ o, Q v (upd H' a (.frz o u))) := by
  refine ⟨fun pins s σ H Q I hq => thn (h.run pins s σ H _ I hq) fun v s1 ⟨x, H1, I1, r1, q1⟩ => ?_⟩
  rcases q1 with q1 | ⟨a, u, h1, h2, q1⟩
  · exact ⟨x, H1, I1, r1, q1⟩
  · obtain ⟨o, J⟩ := Inv.freeze I1 h1 h2
    exact ⟨x, _, J, r1, q1 o⟩
def Sl.pv : Sl → Option PV
  | .un => none
  | .fz d => some d
  | .own d => some d
theorem Ow.frz {K : PySem.W.Frag} {H : Hp} {a : Addr} {d : PV} (h : Ow K H a d) : ∃ u, H a = some u ∧ CanFrz u ∧ ∀ o, Fz K (upd H a (.frz o u)) (.ref a) d := by
  obtain ⟨v, hv, v1, v2⟩ := h.at
  cases d with
  | lst ds =>
    obtain ⟨xs, h1, h2⟩ := h
    exact ⟨_, h1, True.intro, fun o => .lst ⟨o, upd_same⟩ (h2.le (.write hv v1 v2))⟩
  | obj C ds =>
    obtain ⟨dx, fs, h1, h2⟩ := h
    exact ⟨_, h1, True.intro, fun o => .obj upd_same (h2.le (.write hv v1 v2))⟩
  | dk ds =>
    obtain ⟨fs, h1, h2⟩ := h
    exact ⟨_, h1, True.intro, fun o => .dk upd_same (h2.le (.write hv v1 v2))⟩
  | dt ds =>
    obtain ⟨fs, h1, h2⟩ := h
    exact ⟨_, h1, True.intro, fun o => .dt upd_same (h2.le (.write hv v1 v2))⟩
  | _ => exact h.elim
/-- a thing that no slot holds is written or fixed -/
theorem VI.other {K : PySem.W.Frag} {P : Addr → Prop} {B : List (Nat × Addr)} {H0 H : Hp} {e : Fr} {σ : L2.St} (I : VI K np P B H0 e σ H) {a : Addr} {u o : HO} (h : H a = some u) (u1 : ∀ xs, u ≠ .tup xs) (u2 : ∀ o v, u ≠ .frz o v) (hz : P a ∨ H0 a = none)
    (hn : ∀ (j : Nat) d', e[j]? = some (.own d') → σ[j]? ≠ some (some (.ref a))) : VI K np P B H0 e σ (upd H a o) := by
  have le : HLe H (upd H a o) := .write h u1 u2
  refine ⟨I.len, fun i d q => let ⟨v, x, y⟩ := I.fz i d q; ⟨v, x, y.le le⟩, fun i d q => ?_, I.dj, I.pin, fun b ob q n => ?_, fun b ob q => let ⟨o', z⟩ := I.al b ob q; le.alive b o' z⟩
  · obtain ⟨b, x, y, z⟩ := I.ow i d q
    refine ⟨b, x, y.le le ?_, z⟩
    rw [upd_ne]
    rintro rfl
    exact hn i d q x
  · rw [upd_ne]
    · exact I.keep b ob q n
    · rintro rfl
      rcases hz with z | z
      · exact n z
      · rw [q] at z; cases z
/-- what comes is given away -/
def mFz (m : Mo Sl) : Mo PV := mB m fun s => mO s.pv
theorem je_s {e : Expr} {m : Mo Sl} (h : JS X np W e m) : JE X np W e (mFz m) := by
  refine PEi (pe_fix h) fun σ H Q h => tG.bind h fun P B H0 s e1 v H1 I r l h => ?_
  cases s with
  | un => exact h.elim
  | fz d => exact .inl (h v H1 I r (.refl _))
  | own d =>
    obtain ⟨a, rfl, ow, z, hn⟩ := r
    obtain ⟨u, hu, hk, hf⟩ := ow.frz
    obtain ⟨u', hu', u1, u2⟩ := ow.at
    rw [hu] at hu'; cases hu'
    exact .inr ⟨a, u, hu, hk, fun o => h _ _ (I.other hu u1 u2 z hn) (hf o) (.write hu u1 u2)⟩
def oV (m : Mo PV) : Mo Opd := mB m fun d => mR (.val d)
theorem jo_e {e : Expr} {m : Mo PV} (h : JE X np W e m) : JO X np W e (oV m) :=
  PEi h fun σ H Q h => tG.bind h fun P B H0 s e1 v H1 I r l h => h v H1 I r (.refl _)
theorem jo_s {e : Expr} {m : Mo Sl} (h : JS X np W e m) : JO X np W e (oV (mFz m)) := jo_e (je_s h)
def mFZ (m : Mo PV) : Mo Sl := mB m fun d => mR (.fz d)
theorem js_e {e : Expr} {m : Mo PV} (h : JE X np W e m) : JS X np W e (mFZ m) :=
  PEi h fun σ H Q h => tG.bind h fun P B H0 s e1 v H1 I r l h => h v H1 I r (.refl _)
/-- a name as a value: what it held alone is given away -/
def mN (np i : Nat) : Mo Sl := fun e => match e[i]? with
  | some (.fz d) => .ok (.fz d) e
  | some (.own d) => if np ≤ i then .ok (.fz d) (e.set i (.fz d)) else .stuck
  | _ => .stuck
theorem js_n (i : Nat) {x : Str} (h : PE X (.Name x pos) (tVar i)) : JS X np W (.Name x pos) (mN np i) := by
  refine PEi (pe_fix h) fun σ H Q ⟨P, B, H0, e, I, h⟩ => ?_
  unfold mN at h
  generalize he : e[i]? = s at h
  match s, h with
  | some (.fz d), h =>
    obtain ⟨v, h1, h2⟩ := I.fz i d he
    exact ⟨v, h1, .inl (h v H I h2 (.refl H))⟩
  | some (.own d), h =>
    by_cases hn : np ≤ i
    · dsimp only at h
      rw [if_pos hn] at h
      obtain ⟨a, h1, ow, z⟩ := I.ow i d he
      obtain ⟨u, hu, hk, hf⟩ := ow.frz
      obtain ⟨u', hu', u1, u2⟩ := ow.at
      rw [hu] at hu'; cases hu'
      exact ⟨_, h1, .inr ⟨a, u, hu, hk, fun o => h _ _ (I.freeze hn he h1 (hf o)) (hf o) (.write hu u1 u2)⟩⟩
    · dsimp only at h
      rw [if_neg hn] at h; exact h.elim
  | some .un, h => exact h.elim
  | none, h => exact h.elim
/-- a name, moved out: for return -/
def mV (np i : Nat) : Mo Sl := fun e => match e[i]? with
  | some (.fz d) => .ok (.fz d) e
  | some (.own d) => if np ≤ i then .ok (.own d) (e.set i .un) else .stuck
  | _ => .stuck
theorem VI.drop {K : PySem.W.Frag} {P : Addr → Prop} {B : List (Nat × Addr)} {H0 H : Hp} {e : Fr} {σ : L2.St} (I : VI K np P B H0 e σ H) {i : Nat} (hn : np ≤ i) : VI K np P B H0 (e.set i .un) σ H := by
  have key : ∀ (j : Nat) (s : Sl), s ≠ .un → (e.set i .un)[j]? = some s → j ≠ i ∧ e[j]? = some s := fun j s ns q => by
    by_cases hj : i = j
    · subst hj
      by_cases hi : i < e.length
      · rw [List.getElem?_set_self hi] at q; exact absurd (Option.some.inj q).symm ns
      · rw [List.getElem?_eq_none (by simpa using hi)] at q; cases q
    · rw [List.getElem?_set_ne hj] at q; exact ⟨fun z => hj z.symm, q⟩
  refine ⟨by simpa using I.len, fun j d q => I.fz j d (key j _ (by simp) q).2, fun j d q => I.ow j d (key j _ (by simp) q).2, fun j k d d' a q1 q2 => I.dj j k d d' a (key j _ (by simp) q1).2 (key k _ (by simp) q2).2, fun j a q => ?_, I.keep, I.al⟩
  obtain ⟨h1, h2, d, h3⟩ := I.pin j a q
  exact ⟨h1, h2, d, by rw [List.getElem?_set_ne (by omega)]; exact h3⟩
theorem js_v (i : Nat) {x : Str} (h : PE X (.Name x pos) (tVar i)) : JS X np W (.Name x pos) (mV np i) := by
  refine PEi h fun σ H Q ⟨P, B, H0, e, I, h⟩ => ?_
  unfold mV at h
  generalize he : e[i]? = s at h
  match s, h with
  | some (.fz d), h =>
    obtain ⟨v, h1, h2⟩ := I.fz i d he
    exact ⟨v, h1, h v H I h2 (.refl H)⟩
  | some (.own d), h =>
    by_cases hn : np ≤ i
    · dsimp only at h
      rw [if_pos hn] at h
      obtain ⟨a, h1, ow, z⟩ := I.ow i d he
      refine ⟨_, h1, h _ _ (I.drop hn) ⟨a, rfl, ow, z, fun j d' q z => ?_⟩ (.refl H)⟩
      by_cases hj : i = j
      · subst hj
        rw [List.getElem?_set_self (List.getElem?_eq_some_iff.mp he).1] at q; cases q
      · rw [List.getElem?_set_ne hj] at q
        exact hj (I.dj _ _ _ _ _ he q h1 z)
    · dsimp only at h
      rw [if_neg hn] at h; exact h.elim
  | some .un, h => exact h.elim
  | none, h => exact h.elim
end
end VS

set_option Elab.async false
set_option linter.all false
set_option maxRecDepth 100000
set_option maxHeartbeats 1000000
/-! VS3: operators, comparisons, subscripts, displays, calls of built-ins. -/
namespace VS
open PySem L2 PyProof.Rows

/-- what an operation on values gives: the heap grows by new objects alone -/
def Res (K : PySem.W.Frag) (H : Hp) (s : Sl) (Q : VK) : Prop := match s with
  | .un => False
  | .fz d => ∀ v H', (∀ b o, H b = some o → H' b = some o) → Fz K H' v d → Q v H'
  | .own d => ∀ a H', (∀ b o, H b = some o → H' b = some o) → Ow K H' a d → H a = none → Q (.ref a) H'
section
variable {K : PySem.W.Frag} {np : Nat} {P : Addr → Prop} {B : List (Nat × Addr)} {H0 H H' H1 H2 : Hp} {e e1 e2 : Fr} {σ : L2.St}
theorem rO.rr' {Z : Addr → Prop} {o : Opd} {v : V} {d : PV} (I : VI K np P B H0 e2 σ H2) (r : rO K Z o e1 σ H1 v) (l : HLe H1 H2) (g : o.get e2 = some d) : Rr K H2 v d := by
  cases o with
  | val d' => cases g; exact .inl (Fz.le l r)
  | pl i =>
    obtain ⟨h1, _⟩ := r
    cases he : e2[i]? with
    | none => simp [Opd.get, he] at g
    | some s =>
      cases s with
      | un => simp [Opd.get, he] at g
      | fz d' =>
        simp [Opd.get, he] at g
        subst g
        obtain ⟨v', a, b⟩ := I.fz i _ he
        rw [h1] at a; cases a; exact .inl b
      | own d' =>
        simp [Opd.get, he] at g
        subst g
        obtain ⟨a, x, y, _⟩ := I.ow i _ he
        rw [h1] at x; cases x; exact .inr ⟨a, rfl, y⟩
theorem Res.of {W : WX} {s : Sl} {Q : VK} (I : VI K np P B H0 e σ H) (h : PostG K np W P B H0 (rS K) σ H (.ok s e) Q) : Res K H s Q ∨ s = .un := by
  cases s with
  | un => exact .inr rfl
  | fz d => exact .inl fun v H' k f => h v H' (I.same k) f (.same k)
  | own d =>
    refine .inl fun a H' k f n => h _ H' (I.same k) ⟨a, rfl, f, .inr (I.fresh n), fun j d' q z => ?_⟩ (.same k)
    obtain ⟨b, x, y, _⟩ := I.ow j d' q
    rw [z] at x; cases x
    obtain ⟨u, hu, _⟩ := y.at
    rw [hu] at n; cases n
end

/-- f says what r gives -/
def F2 (K : PySem.W.Frag) (r : R2) (f : PV → PV → Option Sl) : Prop := ∀ H x y d1 d2 s Q, Rr K H x d1 → Rr K H y d2 → f d1 d2 = some s → s ≠ .un → Res K H s Q → r x y H Q
def sl? (o : Option Sl) : Mo Sl := fun e => match o with
  | some .un => .stuck
  | some s => .ok s e
  | none => .stuck
def mOp2 (f : PV → PV → Option Sl) (ma mb : Mo Opd) : Mo Sl := mB ma fun a => mB mb fun b e => sl? ((a.get e).bind fun x => (b.get e).bind fun y => f x y) e
def mOp1 (f : PV → Option Sl) (ma : Mo Opd) : Mo Sl := mB ma fun a e => sl? ((a.get e).bind f) e
def mT (m : Mo Sl) : Mo Bool := mB m fun s => match s with
  | .fz (.bl c) => mR c
  | _ => fun _ => .stuck
section
variable {X : Cx} {np : Nat} {W : WX} {a b c : Expr} {pos : Pos} {ma mb mc : Mo Opd} {f : PV → PV → Option Sl}
theorem op2_of {r : R2} (hf : F2 X.K r f) {σ : L2.St} {H : Hp} {Q : VK} (h : tG X.K np W (rS X.K) (mOp2 f ma mb) σ H Q) : tOp r (tG X.K np W (rO X.K) ma) (tG X.K np W (rO X.K) mb) σ H Q := by
  refine tG.bind h fun P B H0 x e1 v H1 I1 r1 l1 h => ?_
  refine tG.bind (tG.of I1 h) fun P B H0 y e2 u H2 I2 r2 l2 h => ?_
  try dsimp only at h
  generalize h3 : x.get e2 = d1 at h
  generalize h4 : y.get e2 = d2 at h
  cases d1 with
  | none => exact h.elim
  | some d1 =>
    cases d2 with
    | none => exact h.elim
    | some d2 =>
      simp only [Option.bind_some] at h
      generalize h5 : f d1 d2 = o at h
      match o, h with
      | none, h => exact h.elim
      | some .un, h => exact h.elim
      | some (.fz d), h =>
        rcases Res.of I2 h with q | q
        · exact hf H2 v u d1 d2 _ Q (rO.rr' I2 r1 l2 h3) (rO.rr' I2 r2 (.refl _) h4) h5 (by simp) q
        · cases q
      | some (.own d), h =>
        rcases Res.of I2 h with q | q
        · exact hf H2 v u d1 d2 _ Q (rO.rr' I2 r1 l2 h3) (rO.rr' I2 r2 (.refl _) h4) h5 (by simp) q
        · cases q
theorem js_op {op : Operator} {r : R2} (ho : OpR X (binaryOp op) r) (hf : F2 X.K r f) (ha : JO X np W a ma) (hb : JO X np W b mb) : JS X np W (.BinOp a op b pos) (mOp2 f ma mb) :=
  PEi (pe_op ho ha hb) fun _ _ _ h => op2_of hf h
theorem js_ix {r : R2} (ho : IxR X r) (hf : F2 X.K r f) (ha : JO X np W a ma) (hb : JO X np W b mb) (hs : PlainIx b := by exact fun _ _ => rfl) : JS X np W (.Subscript a b pos) (mOp2 f ma mb) :=
  PEi (pe_ix ho ha hb hs) fun _ _ _ h => op2_of hf h
theorem js_cmp {op : CmpOp} {r : R2} (ho : OpR X (compareOp op) r) (hf : F2 X.K r f) (ha : JO X np W a ma) (hb : JO X np W b mb) (hm : behindInMarks op b = false) : JS X np W (.Compare a [op] [b] pos) (mOp2 f ma mb) :=
  PEi (pe_cmpR ho ha hb hm) fun _ _ _ h => op2_of hf h
theorem tT_of {m : Mo Sl} {σ : L2.St} {H : Hp} {Q : Bool → Hp → Prop} (h : tG X.K np W rB (mT m) σ H Q) : tG X.K np W (rS X.K) m σ H (fun v H' => ∃ k, v = .bl k ∧ Q k H') := by
  refine tG.bind h fun P B H0 s e1 v H1 I r l h => ?_
  match s, h with
  | .fz (.bl k), h =>
    have z : Fz X.K H1 v (.bl k) := r
    cases z
    exact ⟨k, rfl, h k H1 I rfl (.refl _)⟩
  | .un, h => exact h.elim
  | .own _, h => exact h.elim
  | .fz .non, h => exact h.elim
  | .fz (.int _), h => exact h.elim
  | .fz (.str _), h => exact h.elim
  | .fz (.tup _), h => exact h.elim
  | .fz (.lst _), h => exact h.elim
  | .fz (.scr _), h => exact h.elim
  | .fz (.obj _ _), h => exact h.elim
  | .fz (.ad _), h => exact h.elim
  | .fz .any, h => exact h.elim
theorem jt_cmp {op : CmpOp} {r : R2} (ho : OpR X (compareOp op) r) (hf : F2 X.K r f) (ha : JO X np W a ma) (hb : JO X np W b mb) (hm : behindInMarks op b = false) : JT X np W (.Compare a [op] [b] pos) (mT (mOp2 f ma mb)) :=
  PTi (pt_cmpR ho ha hb hm) fun _ _ _ h => op2_of hf (tT_of h)
/-- a value that is a bool, as a test -/
theorem jt_val {e : Expr} {m : Mo Sl} (h : JS X np W e m) (he : ∀ whole, isTrue e X.env whole = (do let v ← whole; standAt e.pos; holding [v] (truthy v)) := by intro _; rfl) : JT X np W e (mT m) :=
  PTi (pt_val h he) fun _ _ _ h => tT_of h

/-! ### and, or, not, if else -/
def mAnd (a b : Mo Bool) : Mo Bool := mB a fun c => if c then b else mR false
def mOr (a b : Mo Bool) : Mo Bool := mB a fun c => if c then mR true else b
def mNot (a : Mo Bool) : Mo Bool := mB a fun c => mR !c
variable {ta tb : Mo Bool} {rest : List Expr}
theorem jw_and1 (h : JT X np W a ta) : JW X np W (.BoolOp .And [a] pos) ta := pw_and1 h
theorem jw_or1 (h : JT X np W a ta) : JW X np W (.BoolOp .Or [a] pos) ta := pw_or1 h
theorem jw_and (ha : JT X np W a ta) (hb : JW X np W (.BoolOp .And (b :: rest) pos) tb) : JW X np W (.BoolOp .And (a :: b :: rest) pos) (mAnd ta tb) := by
  refine PWi (pw_and ha hb) fun σ H Q h => tG.bind h fun P B H0 x e1 v H1 I r l h => ?_
  cases r
  cases x with
  | true => exact tG.of I h
  | false => exact h false H1 I rfl (.refl _)
theorem jw_or (ha : JT X np W a ta) (hb : JW X np W (.BoolOp .Or (b :: rest) pos) tb) : JW X np W (.BoolOp .Or (a :: b :: rest) pos) (mOr ta tb) := by
  refine PWi (pw_or ha hb) fun σ H Q h => tG.bind h fun P B H0 x e1 v H1 I r l h => ?_
  cases r
  cases x with
  | false => exact tG.of I h
  | true => exact h true H1 I rfl (.refl _)
theorem jt_w {e : Expr} {m : Mo Bool} (h : JW X np W e m) : JT X np W e m := PW.pt h
theorem jt_not (ha : JT X np W a ta) : JT X np W (.UnaryOp .Not a pos) (mNot ta) := by
  refine PTi (pt_not ha) fun σ H Q h => tG.bind h fun P B H0 x e1 v H1 I r l h => ?_
  cases r
  exact h _ H1 I rfl (.refl _)
/-- as values: bools -/
def mAndV (a b : Mo Sl) : Mo Sl := mB (mT a) fun c => if c then b else mR (.fz (.bl false))
def mOrV (a b : Mo Sl) : Mo Sl := mB (mT a) fun c => if c then mR (.fz (.bl true)) else b
def mNotV (a : Mo Sl) : Mo Sl := mB (mT a) fun c => mR (.fz (.bl !c))
variable {sa sb : Mo Sl}
theorem mTB {α : Type} {m : Mo Sl} {k : Bool → Mo α} {β : Type} {R : RelR α β} {σ : L2.St} {H : Hp} {Q : β → Hp → Prop} {Q' : V → Hp → Prop} (h : tG X.K np W R (mB (mT m) k) σ H Q)
    (hk : ∀ P B H0 c e1 H1, VI X.K np P B H0 e1 σ H1 → HLe H H1 → PostG X.K np W P B H0 R σ H1 (k c e1) Q → Q' (.bl c) H1) : tG X.K np W (rS X.K) m σ H Q' := by
  have h' : tG X.K np W R (mB m fun s => mB (match s with | .fz (.bl c) => mR c | _ => fun _ => .stuck) k) σ H Q := by
    obtain ⟨P, B, H0, e, I, h⟩ := h
    refine ⟨P, B, H0, e, I, ?_⟩
    unfold mT mB at h
    unfold mB
    generalize m e = o at h ⊢
    cases o <;> exact h
  refine tG.bind h' fun P B H0 s e1 v H1 I r l h => ?_
  match s, h with
  | .fz (.bl c), h =>
    have z : Fz X.K H1 v (.bl c) := r
    cases z
    exact hk P B H0 c e1 H1 I l h
  | .un, h => exact h.elim
  | .own _, h => exact h.elim
  | .fz .non, h => exact h.elim
  | .fz (.int _), h => exact h.elim
  | .fz (.str _), h => exact h.elim
  | .fz (.tup _), h => exact h.elim
  | .fz (.lst _), h => exact h.elim
  | .fz (.scr _), h => exact h.elim
  | .fz (.obj _ _), h => exact h.elim
  | .fz (.ad _), h => exact h.elim
  | .fz .any, h => exact h.elim
theorem js_one {op} {m : Mo Sl} (h : JS X np W a m) : JS X np W (.BoolOp op [a] pos) m := pe_one h
theorem js_and (ha : JS X np W a sa) (hb : JS X np W (.BoolOp .And (b :: rest) pos) sb) : JS X np W (.BoolOp .And (a :: b :: rest) pos) (mAndV sa sb) := by
  refine PEi (pe_and ha hb) fun σ H Q h => mTB h fun P B H0 c e1 H1 I l h => ⟨c, rfl, ?_⟩
  cases c with
  | true => exact tG.of I h
  | false => exact h _ H1 I (.bl false) (.refl _)
theorem js_or (ha : JS X np W a sa) (hb : JS X np W (.BoolOp .Or (b :: rest) pos) sb) : JS X np W (.BoolOp .Or (a :: b :: rest) pos) (mOrV sa sb) := by
  refine PEi (pe_or ha hb) fun σ H Q h => mTB h fun P B H0 c e1 H1 I l h => ⟨c, rfl, ?_⟩
  cases c with
  | false => exact tG.of I h
  | true => exact h _ H1 I (.bl true) (.refl _)
theorem js_not (ha : JS X np W a sa) : JS X np W (.UnaryOp .Not a pos) (mNotV sa) := by
  refine PEi (pe_not ha) fun σ H Q h => mTB h fun P B H0 c e1 H1 I l h => ⟨c, rfl, ?_⟩
  exact h _ H1 I (.bl _) (.refl _)
def mIf (t : Mo Bool) (a b : Mo Sl) : Mo Sl := mB t fun c => if c then a else b
theorem js_if {c : Expr} {t : Mo Bool} (hc : JT X np W c t) (ha : JS X np W a sa) (hb : JS X np W b sb) : JS X np W (.IfExp c a b pos) (mIf t sa sb) := by
  refine PEi (pe_ifExp hc ha hb) fun σ H Q h => tG.bind h fun P B H0 x e1 v H1 I r l h => ?_
  cases r
  cases x with
  | true => exact tG.of I h
  | false => exact tG.of I h

/-! ### argument lists, displays -/
def mNil : Mo (List PV) := mR []
def mCons (m : Mo PV) (r : Mo (List PV)) : Mo (List PV) := mB m fun d => mB r fun ds => mR (d :: ds)
theorem ja_nil : JA X np W [] mNil := PAi pa_nil fun σ H Q ⟨P, B, H0, e, I, h⟩ => h [] H I .nil (.refl H)
theorem ja_cons {e : Expr} {es : List Expr} {m : Mo PV} {r : Mo (List PV)} (ha : JE X np W e m) (hr : JA X np W es r) (hs : starEach (e :: es) X.env = (false, eval e X.env) :: starEach es X.env := by rfl) : JA X np W (e :: es) (mCons m r) := by
  refine PAi (pa_cons ha hr hs) fun σ H Q h => tG.bind h fun P B H0 x e1 v H1 I r l h => ?_
  refine tG.bind (tG.of I h) fun P B H0 y e2 u H2 I2 r2 l2 h => ?_
  exact h _ H2 I2 (.cons (Fz.le l2 r) r2) (.refl _)
def mTup (m : Mo (List PV)) : Mo Sl := mB m fun ds => if ds.length ≤ sizeLine then mR (.fz (.tup ds)) else fun _ => .stuck
def mLst (m : Mo (List PV)) : Mo Sl := mB m fun ds => if ds.length ≤ sizeLine then mR (.own (.lst ds)) else fun _ => .stuck
theorem js_tup {es : List Expr} {x1} {m : Mo (List PV)} (h : JA X np W es m) : JS X np W (.Tuple es x1 pos) (mTup m) := by
  refine PEi (pe_tup h) fun σ H Q h => tG.bind h fun P B H0 ds e1 vs H1 I r l h => ?_
  have hl : vs.length = ds.length := FzA.length r
  by_cases hz : ds.length ≤ sizeLine
  · rw [if_pos hz] at h
    refine ⟨by omega, fun p hp => h _ _ (I.alloc hp) ?_ (.alloc hp)⟩
    exact .tup upd_same (FzA.le (.alloc hp) r)
  · rw [if_neg hz] at h; exact h.elim
theorem js_lst {es : List Expr} {m : Mo (List PV)} (h : JA X np W es m) : JS X np W (.List es pos) (mLst m) := by
  refine PEi (pe_lst h) fun σ H Q h => tG.bind h fun P B H0 ds e1 vs H1 I r l h => ?_
  have hl : vs.length = ds.length := FzA.length r
  by_cases hz : ds.length ≤ sizeLine
  · rw [if_pos hz] at h
    refine ⟨by omega, fun p hp => ?_⟩
    rcases Res.of I h with q | q
    · exact q p _ (fun b u z => by rw [upd_ne (ne_of_none z hp)]; exact z) ⟨_, upd_same, FzA.le (.alloc hp) r⟩ hp
    · cases q
  · rw [if_neg hz] at h; exact h.elim

/-! ### calls of built-ins: operands in a row -/
def rOs (K : PySem.W.Frag) : RelR (List Opd) (List V) := fun Z os e σ H vs => Paired (fun o v => rO K Z o e σ H v) os vs
def gets (os : List Opd) (e : Fr) : Option (List PV) := match os with
  | [] => some []
  | o :: r => (o.get e).bind fun d => (gets r e).map fun ds => d :: ds
/-- one operand -/
def F1 (K : PySem.W.Frag) (r : List V → Hp → VK → Prop) (f : PV → Option Sl) : Prop := ∀ H x d1 s Q, Rr K H x d1 → f d1 = some s → s ≠ .un → Res K H s Q → r [x] H Q
theorem op1_of {r : List V → Hp → VK → Prop} {f : PV → Option Sl} (hf : F1 X.K r f) {σ : L2.St} {H : Hp} {Q : VK} (h : tG X.K np W (rS X.K) (mOp1 f ma) σ H Q) : tG X.K np W (rO X.K) ma σ H (fun v H1 => r [v] H1 Q) := by
  refine tG.bind h fun P B H0 x e1 v H1 I1 r1 l1 h => ?_
  try dsimp only at h
  generalize h3 : x.get e1 = d1 at h
  cases d1 with
  | none => exact h.elim
  | some d1 =>
    simp only [Option.bind_some] at h
    generalize h5 : f d1 = o at h
    match o, h with
    | none, h => exact h.elim
    | some .un, h => exact h.elim
    | some (.fz d), h =>
      rcases Res.of I1 h with q | q
      · exact hf H1 v d1 _ Q (rO.rr' I1 r1 (.refl _) h3) h5 (by simp) q
      · cases q
    | some (.own d), h =>
      rcases Res.of I1 h with q | q
      · exact hf H1 v d1 _ Q (rO.rr' I1 r1 (.refl _) h3) h5 (by simp) q
      · cases q
theorem js_b1 {x : Str} {id : String} {p : Pos} {r : List V → Hp → VK → Prop} {f : PV → Option Sl} (hc : CallR X (.builtin id) r) (hf : F1 X.K r f) (ha : JO X np W a ma) (hm : X.mg x = none) (hv : bootBuiltins x = some (.builtin id)) (hg : Gl X x := by rfl) (hn : x ≠ "__name__" := by decide) (hdb : (x == ("__debug__" : Str)) = false := by decide)
    (he : starEach [a] X.env = (false, eval a X.env) :: starEach [] X.env := by rfl) (hpl : (backTo pos (starEach [] X.env)).any (·.1) = false := by rfl) : JS X np W (.Call (.Name x p) [a] [] pos) (mOp1 f ma) :=
  PEi (pe_callB hc hg hm hv (pa_cons ha pa_nil he) hn hdb he hpl) fun _ _ _ h => op1_of hf h
theorem js_t1 {x : Str} {T : String} {p : Pos} {r : List V → Hp → VK → Prop} {f : PV → Option Sl} (hc : CallR X (.type T) r) (hf : F1 X.K r f) (ha : JO X np W a ma) (hm : X.mg x = none) (hv : bootBuiltins x = some (.type T)) (hg : Gl X x := by rfl) (hn : x ≠ "__name__" := by decide) (hdb : (x == ("__debug__" : Str)) = false := by decide)
    (he : starEach [a] X.env = (false, eval a X.env) :: starEach [] X.env := by rfl) (hpl : (backTo pos (starEach [] X.env)).any (·.1) = false := by rfl) : JS X np W (.Call (.Name x p) [a] [] pos) (mOp1 f ma) :=
  PEi (pe_callTy hc hg hm hv (pa_cons ha pa_nil he) hn hdb he hpl) fun _ _ _ h => op1_of hf h
end
end VS

set_option Elab.async false
set_option linter.all false
set_option maxRecDepth 100000
set_option maxHeartbeats 1000000
/-! VS4: statements, targets, what is walked, loops, list comprehensions. -/
namespace VS
open PySem L2 PyProof.Rows

inductive OutS where
  | nx (e : Fr) | ret (s : Sl) (e : Fr) | brk (e : Fr) | cont (e : Fr) | exc (C : Addr) (ds : List (Str × PV)) (e : Fr) | stuck
abbrev MS := Fr → OutS
section
variable (K : PySem.W.Frag) (np : Nat) (W : WX)
def PostS (P : Addr → Prop) (B : List (Nat × Addr)) (H0 : Hp) (H : Hp) (o : OutS) (D : Ends) : Prop := match o with
  | .nx e' => ∀ σ' H', VI K np P B H0 e' σ' H' → HLe H H' → D.nx σ' H'
  | .brk e' => ∀ σ' H', VI K np P B H0 e' σ' H' → HLe H H' → D.bk σ' H'
  | .cont e' => ∀ σ' H', VI K np P B H0 e' σ' H' → HLe H H' → D.ct σ' H'
  | .ret s e' => ∀ v σ' H', VI K np P B H0 e' σ' H' → rS K (fun a => P a ∨ H0 a = none) s e' σ' H' v → HLe H H' → D.rt v H'
  | .exc C ds e' => ∀ x σ' H', VI K np P B H0 e' σ' H' → ExD K H' x ds → HLe H H' → W (.ref C) x σ' H'
  | .stuck => False
def tS (m : MS) : TS := fun D σ H => ∃ P B H0 e, VI K np P B H0 e σ H ∧ PostS K np W P B H0 H (m e) D
end
section
variable {K : PySem.W.Frag} {np : Nat} {W : WX}
theorem PostS.le {P : Addr → Prop} {B : List (Nat × Addr)} {H0 H H1 : Hp} {o : OutS} {D : Ends} (l : HLe H H1) (h : PostS K np W P B H0 H o D) : PostS K np W P B H0 H1 o D := by
  cases o with
  | nx e' => exact fun σ' H' I l' => h σ' H' I (l.trans l')
  | brk e' => exact fun σ' H' I l' => h σ' H' I (l.trans l')
  | cont e' => exact fun σ' H' I l' => h σ' H' I (l.trans l')
  | ret s e' => exact fun v σ' H' I r l' => h v σ' H' I r (l.trans l')
  | exc C ds e' => exact fun x σ' H' I r l' => h x σ' H' I r (l.trans l')
  | stuck => exact h
def mS {α : Type} (m : Mo α) (k : α → MS) : MS := fun e => match m e with
  | .ok a e' => k a e'
  | .exc C ds e' => .exc C ds e'
  | .stuck => .stuck
theorem tS.bind {α β : Type} {R : RelR α β} {m : Mo α} {k : α → MS} {σ : L2.St} {H : Hp} {D : Ends} {Q : β → Hp → Prop} (h : tS K np W (mS m k) D σ H)
    (hk : ∀ P B H0 a e1 b H1, VI K np P B H0 e1 σ H1 → R (fun a => P a ∨ H0 a = none) a e1 σ H1 b → HLe H H1 → PostS K np W P B H0 H1 (k a e1) D → Q b H1) : tG K np W R m σ H Q := by
  obtain ⟨P, B, H0, e, I, h⟩ := h
  refine ⟨P, B, H0, e, I, ?_⟩
  unfold mS at h
  generalize m e = o at h ⊢
  cases o with
  | ok a e' => exact fun b H' I' r l' => hk P B H0 a e' b H' I' r l' (PostS.le l' h)
  | exc C ds e' => exact fun x H' I' r l' => h x σ H' I' r l'
  | stuck => exact h
theorem tS.of {m : MS} {σ : L2.St} {H : Hp} {D : Ends} {P : Addr → Prop} {B : List (Nat × Addr)} {H0 : Hp} {e : Fr} (I : VI K np P B H0 e σ H) (h : PostS K np W P B H0 H (m e) D) : tS K np W m D σ H := ⟨P, B, H0, e, I, h⟩
end
theorem PSi {X : Cx} {st : Stmt} {t t' : TS} (p : PS X st t) (f : ∀ D σ H, t' D σ H → t D σ H) : PS X st t' := ⟨fun pins s σ H D I h => p.run pins s σ H D I (f D σ H h)⟩
theorem PSsi {X : Cx} {st : List Stmt} {t t' : TS} (p : PSs X st t) (f : ∀ D σ H, t' D σ H → t D σ H) : PSs X st t' := ⟨fun pins s σ H D I h => p.run pins s σ H D I (f D σ H h)⟩
abbrev JSt (X : Cx) (np : Nat) (W : WX) (st : Stmt) (m : MS) : Prop := PS X st (tS X.K np W m)
abbrev JB (X : Cx) (np : Nat) (W : WX) (st : List Stmt) (m : MS) : Prop := PSs X st (tS X.K np W m)

section
variable {X : Cx} {np : Nat} {W : WX} {a b c : Expr} {pos : Pos} {st : Stmt} {rest : List Stmt} {m m' : MS}
def sNx : MS := fun e => .nx e
def sSq (a b : MS) : MS := fun e => match a e with
  | .nx e' => b e'
  | o => o
theorem jb_nil : JB X np W [] sNx := PSsi pss_nil fun D σ H ⟨P, B, H0, e, I, h⟩ => h σ H I (.refl H)
theorem jb_cons (h1 : JSt X np W st m) (h2 : JB X np W rest m') : JB X np W (st :: rest) (sSq m m') := by
  refine PSsi (pss_cons h1 h2) fun D σ H ⟨P, B, H0, e, I, h⟩ => ⟨P, B, H0, e, I, ?_⟩
  unfold sSq at h
  generalize m e = o at h ⊢
  cases o with
  | nx e' => exact fun σ' H' I' l => tS.of I' (PostS.le l h)
  | ret s e' => exact h
  | brk e' => exact h
  | cont e' => exact h
  | exc C ds e' => exact h
  | stuck => exact h
theorem jb_one (h1 : JSt X np W st m) : JB X np W [st] m := pss_one h1
theorem jst_pass : JSt X np W (.Pass pos) sNx := PSi ps_pass fun D σ H ⟨P, B, H0, e, I, h⟩ => h σ H I (.refl H)
theorem jst_doc {x j pos'} : JSt X np W (.Expr (.Constant (.str x) j pos) pos') sNx := PSi ps_doc fun D σ H ⟨P, B, H0, e, I, h⟩ => h σ H I (.refl H)
def sBrk : MS := fun e => .brk e
def sCont : MS := fun e => .cont e
theorem jst_break : JSt X np W (.Break pos) sBrk := PSi ps_break fun D σ H ⟨P, B, H0, e, I, h⟩ => h σ H I (.refl H)
theorem jst_continue : JSt X np W (.Continue pos) sCont := PSi ps_continue fun D σ H ⟨P, B, H0, e, I, h⟩ => h σ H I (.refl H)
/-- a statement that the run does not come to -/
def sNo : MS := fun _ => .stuck
theorem jst_no : JSt X np W st sNo := PSi ps_never fun D σ H ⟨P, B, H0, e, I, h⟩ => h
theorem jb_no : JB X np W rest sNo := PSsi pss_never fun D σ H ⟨P, B, H0, e, I, h⟩ => h
def sDrop (m : Mo Sl) : MS := mS m fun _ => sNx
theorem jst_expr {m : Mo Sl} (h : JS X np W a m) (hs : swapsWith a none pos.line X.env = pure false := by rfl) : JSt X np W (.Expr a pos) (sDrop m) :=
  PSi (ps_expr h hs) fun D σ H h => tS.bind h fun P B H0 s e1 v H1 I r l h => h σ H1 I (.refl _)
def sRet (m : Mo Sl) : MS := mS m fun s e => .ret s e
theorem jst_ret {m : Mo Sl} (h : JS X np W a m) : JSt X np W (.Return (some a) pos) (sRet m) :=
  PSi (ps_ret h) fun D σ H h => tS.bind h fun P B H0 s e1 v H1 I r l h => h v σ H1 I r (.refl _)
def sRetN : MS := fun e => .ret (.fz .non) e
theorem jst_retN : JSt X np W (.Return none pos) sRetN := PSi ps_retN fun D σ H ⟨P, B, H0, e, I, h⟩ => h .non σ H I .non (.refl H)
def sIf (t : Mo Bool) (a b : MS) : MS := mS t fun c => if c then a else b
theorem jst_if {t : Mo Bool} {x y : List Stmt} (hc : JT X np W c t) (ha : JB X np W x m) (hb : JB X np W y m') : JSt X np W (.If c x y pos) (sIf t m m') := by
  refine PSi (ps_if hc ha hb) fun D σ H h => tS.bind h fun P B H0 v e1 d H1 I r l h => ?_
  cases r
  cases v with
  | true => exact tS.of I h
  | false => exact tS.of I h

/-- name = value -/
def sPut (np i : Nat) (s : Sl) : MS := fun e => match s with
  | .un => .stuck
  | .fz d => if np ≤ i then .nx (e.set i (.fz d)) else match e[i]? with
    | some (.fz _) => .nx (e.set i (.fz d))
    | _ => .stuck
  | .own d => if np ≤ i then .nx (e.set i (.own d)) else .stuck
theorem put_ok {P : Addr → Prop} {B : List (Nat × Addr)} {H0 H : Hp} {e : Fr} {σ : L2.St} {i : Nat} {s : Sl} {v : V} {D : Ends} (I : VI X.K np P B H0 e σ H) (r : rS X.K (fun a => P a ∨ H0 a = none) s e σ H v)
    (h : PostS X.K np W P B H0 H (sPut np i s e) D) : D.nx (σ.set i (some v)) H := by
  cases s with
  | un => exact h.elim
  | fz d =>
    unfold sPut at h
    by_cases hn : np ≤ i
    · dsimp only at h
      rw [if_pos hn] at h
      exact h _ _ (I.store (.inl hn) (fun d' z => by cases z; exact r) (fun d' z => nomatch z)) (.refl _)
    · dsimp only at h
      rw [if_neg hn] at h
      generalize he : e[i]? = q at h
      match q, h with
      | some (.fz d'), h => exact h _ _ (I.store (.inr fun d z => by rw [he] at z; cases z) (fun d' z => by cases z; exact r) (fun d' z => nomatch z)) (.refl _)
      | some .un, h => exact h.elim
      | some (.own _), h => exact h.elim
      | none, h => exact h.elim
  | own d =>
    unfold sPut at h
    by_cases hn : np ≤ i
    · dsimp only at h
      rw [if_pos hn] at h
      obtain ⟨a, rfl, ow, z, hh⟩ := r
      exact h _ _ (I.store (.inl hn) (fun d' z => nomatch z) (fun d' zz => by cases zz; exact ⟨hn, a, rfl, ow, z, fun j d' _ q => hh j d' q⟩)) (.refl _)
    · dsimp only at h
      rw [if_neg hn] at h; exact h.elim
def sSet (np i : Nat) (m : Mo Sl) : MS := mS m (sPut np i)
theorem jst_set {i : Nat} {x : Str} {m : Mo Sl} {pos' : Pos} (hN : X.N.Nodup) (h : JS X np W a m) (hi : X.N[i]? = some x := by rfl) (hx : Loc X.env.scope x := by first | exact Or.inl rfl | exact Or.inr rfl) (hs : swapsWith a (some (.Name x pos')) pos.line X.env = pure false := by rfl)
    (hf : X.fn x = true ∨ X.env.scope.names.lookup x = some .local := by first | exact .inl rfl | exact .inr rfl) : JSt X np W (.Assign [.Name x pos'] a pos) (sSet np i m) :=
  PSi (ps_set hN hi hx h hs hf) fun D σ H h => tS.bind h fun P B H0 s e1 v H1 I r l h => put_ok I r h

/-! ### targets -/
def Diff (ws : List Nat) (σ σ' : L2.St) : Prop := σ'.length = σ.length ∧ ∀ j, j ∉ ws → σ'[j]? = σ[j]?
abbrev MG := PV → Fr → Option Fr
def tTg (K : PySem.W.Frag) (np : Nat) (mg : MG) (ws : List Nat) : TG := fun v σ H Q => ∃ P B H0 e d, VI K np P B H0 e σ H ∧ Fz K H v d ∧ match mg d e with
  | some e' => ∀ σ', VI K np P B H0 e' σ' H → Diff ws σ σ' → Q σ' H
  | none => False
abbrev JG (X : Cx) (np : Nat) (tg : Expr) (mg : MG) (ws : List Nat) : Prop := PG X tg (tTg X.K np mg ws)
def gN (np i : Nat) : MG := fun d e => if np ≤ i then some (e.set i (.fz d)) else none
theorem PGi {X : Cx} {tg : Expr} {t t' : TG} (p : PG X tg t) (f : ∀ v σ H Q, t' v σ H Q → t v σ H Q) : PG X tg t' := ⟨fun pins s σ H v u Q I r h => p.run pins s σ H v u Q I r (f v σ H Q h)⟩
theorem jg_n {i : Nat} {x : Str} (hN : X.N.Nodup) (hi : X.N[i]? = some x := by rfl) (hx : Loc X.env.scope x := by first | exact Or.inl rfl | exact Or.inr rfl) (hf : X.fn x = true ∨ X.env.scope.names.lookup x = some .local := by first | exact .inl rfl | exact .inr rfl) : JG X np (.Name x pos) (gN np i) [i] := by
  refine PGi (pg_name hN hi hx hf) fun v σ H Q ⟨P, B, H0, e, d, I, f, h⟩ => ?_
  unfold gN at h
  by_cases hn : np ≤ i
  · rw [if_pos hn] at h
    refine h _ (I.store (.inl hn) (fun d' z => by cases z; exact f) (fun d' z => nomatch z)) ⟨by simp, fun j hj => ?_⟩
    exact List.getElem?_set_ne (fun z => hj (by simp [z]))
  · rw [if_neg hn] at h; exact h.elim
abbrev MGs := List PV → Fr → Option Fr
def tTgs (K : PySem.W.Frag) (np : Nat) (mg : MGs) (ws : List Nat) : TGs := fun vs σ H Q => ∃ P B H0 e ds, VI K np P B H0 e σ H ∧ FzA K H vs ds ∧ match mg ds e with
  | some e' => ∀ σ', VI K np P B H0 e' σ' H → Diff ws σ σ' → Q σ' H
  | none => False
abbrev JGs (X : Cx) (np : Nat) (tgs : List Expr) (mg : MGs) (ws : List Nat) : Prop := PGs X tgs (tTgs X.K np mg ws)
theorem PGsi {X : Cx} {tg : List Expr} {t t' : TGs} (p : PGs X tg t) (f : ∀ v σ H Q, t' v σ H Q → t v σ H Q) : PGs X tg t' := ⟨fun pins s σ H v u Q I r h => p.run pins s σ H v u Q I r (f v σ H Q h)⟩
def gNl : MGs := fun ds e => match ds with
  | [] => some e
  | _ => none
def gCn (g : MG) (r : MGs) : MGs := fun ds e => match ds with
  | [] => none
  | d :: ds => match g d e with
    | some e' => r ds e'
    | none => none
theorem jgs_nil : JGs X np [] gNl [] := by
  refine PGsi pgs_nil fun v σ H Q ⟨P, B, H0, e, d, I, f, h⟩ => ?_
  cases f with
  | nil => exact ⟨rfl, h σ I ⟨rfl, fun _ _ => rfl⟩⟩
  | cons _ _ => exact h.elim
theorem jgs_cons {e : Expr} {es : List Expr} {g : MG} {r : MGs} {w1 w2 : List Nat} (h1 : JG X np e g w1) (h2 : JGs X np es r w2)
    (hs : (assignEach (e :: es) X.env).map (·.2) = assign e X.env :: (assignEach es X.env).map (·.2) := by rfl) : JGs X np (e :: es) (gCn g r) (w1 ++ w2) := by
  refine PGsi (pgs_cons h1 h2 hs) fun v σ H Q ⟨P, B, H0, e, ds, I, f, h⟩ => ?_
  cases f with
  | nil => exact h.elim
  | @cons v d vs ds f1 f2 =>
    refine ⟨v, vs, rfl, P, B, H0, e, d, I, f1, ?_⟩
    unfold gCn at h
    dsimp only at h
    generalize g d e = o at h ⊢
    cases o with
    | none => exact h.elim
    | some e1 =>
      refine fun σ1 I1 df => ⟨P, B, H0, e1, ds, I1, f2, ?_⟩
      dsimp only at h
      generalize r ds e1 = o2 at h ⊢
      cases o2 with
      | none => exact h.elim
      | some e2 =>
        refine fun σ2 I2 df2 => h σ2 I2 ⟨df2.1.trans df.1, fun j hj => ?_⟩
        rw [df2.2 j fun z => hj (List.mem_append_right _ z), df.2 j fun z => hj (List.mem_append_left _ z)]
def gTp (n : Nat) (r : MGs) : MG := fun d e => match d with
  | .tup ds => if ds.length = n then r ds e else none
  | _ => none
theorem jg_tup {es : List Expr} {k : Nat} {r : MGs} {n : Nat} {ws : List Nat} (hc : X.calm = true) (h : JGs X np es r ws)
    (hn : (assignEach es X.env).length = n := by rfl) (hst : (assignEach es X.env).findIdx? (·.1) = none := by rfl) : JG X np (.Tuple es k pos) (gTp n r) ws := by
  refine PGi (pg_tup hc h hn hst) fun v σ H Q ⟨P, B, H0, e, d, I, f, h⟩ => ?_
  cases f with
  | @tup a xs ds hq hf =>
    unfold gTp at h
    dsimp only at h
    by_cases hl : ds.length = n
    · rw [if_pos hl] at h
      exact ⟨a, xs, rfl, SqT.of hq, by rw [hf.length, hl], P, B, H0, e, ds, I, hf, h⟩
    · rw [if_neg hl] at h; exact h.elim
  | _ => exact h.elim
/-- target = value, for a row of targets -/
def sTgt (g : MG) (m : Mo PV) : MS := mS m fun d e => match g d e with
  | some e' => .nx e'
  | none => .stuck
theorem jst_tgt {tg : Expr} {g : MG} {ws : List Nat} {m : Mo PV} (he : JE X np W a m) (hg : JG X np tg g ws) (hs : swapsWithSole [tg] a pos.line X.env = pure false := by rfl) (hw : swappedStores [tg] a X.env = pure none := by rfl)
    (h1 : (assignEach [tg] X.env).map (·.2) = [assign tg X.env] := by rfl) : JSt X np W (.Assign [tg] a pos) (sTgt g m) := by
  refine PSi (ps_asg he hg hs hw h1) fun D σ H h => tS.bind h fun P B H0 d e1 v H1 I r l h => ⟨P, B, H0, e1, d, I, r, ?_⟩
  generalize g d e1 = o at h ⊢
  cases o with
  | none => exact h.elim
  | some e2 => exact fun σ2 I2 _ => h σ2 H1 I2 (.refl _)

/-! ### what is walked -/
/-- J hands out ds, one after another, whatever new things come meanwhile -/
def ItOk (K : PySem.W.Frag) (J : It) (ds : List PV) (H : Hp) : Prop := ∀ i H', HLe H H' →
  (∀ d, ds[i]? = some d → J.go i H' ∧ ∀ x H'', J.yld i H' x H'' → Fz K H'' x d ∧ ∀ b o, H' b = some o → H'' b = some o) ∧ (ds.length ≤ i → J.stop i H')
def rI (K : PySem.W.Frag) : RelR (List PV) It := fun _ ds _ _ H J => ItOk K J ds H
abbrev JI (X : Cx) (np : Nat) (W : WX) (tg iter : Expr) (mi : Mo (List PV)) : Prop := PI X tg iter (tG X.K np W (rI X.K) mi)
theorem PIi {X : Cx} {tg iter : Expr} {t t' : TI} (p : PI X tg iter t) (f : ∀ σ H R, t' σ H R → t σ H R) : PI X tg iter t' := ⟨fun pins s σ H R I h => p.run pins s σ H R I (f σ H R h)⟩
def iL (m : Mo PV) : Mo (List PV) := mB m fun d => match d with
  | .lst ds => mR ds
  | .scr ds => mR ds
  | _ => fun _ => .stuck
def iT (m : Mo PV) : Mo (List PV) := mB m fun d => match d with
  | .tup ds => mR ds
  | .ktp ds => mR ds
  | _ => fun _ => .stuck
variable {tg : Expr}
theorem ji_list {m : Mo PV} (h : JE X np W a m) : JI X np W tg a (iL m) := by
  refine PIi (pi_list h) fun σ H R h => tG.bind h fun P B H0 d e1 v H1 I r l h => ?_
  cases d with
  | lst ds =>
    cases r with
    | @lst a xs _ h1 h2 =>
      refine ⟨a, rfl, ⟨xs, h1.sq⟩, h _ H1 I (fun i H' l' => ?_) (.refl _)⟩
      refine ⟨fun d e => ?_, fun e => ⟨xs, (h1.le l').sq, by rw [h2.length]; exact e⟩⟩
      obtain ⟨y, e1, e2⟩ := h2.get e
      refine ⟨⟨xs, y, (h1.le l').sq, e1⟩, fun x H'' ⟨e3, e4⟩ => ?_⟩
      subst e3
      have e5 := e4 xs (h1.le l').sq
      rw [e1] at e5; cases e5
      exact ⟨e2.le l', fun _ _ z => z⟩
  | scr ds =>
    cases r with
    | @scr a xs _ h1 h2 =>
      refine ⟨a, rfl, ⟨xs, h1.sq⟩, h _ H1 I (fun i H' l' => ?_) (.refl _)⟩
      refine ⟨fun d e => ?_, fun e => ⟨xs, (h1.le l').sq, by rw [h2.length]; exact e⟩⟩
      obtain ⟨y, e1, e2⟩ := h2.get e
      refine ⟨⟨xs, y, (h1.le l').sq, e1⟩, fun x H'' ⟨e3, e4⟩ => ?_⟩
      subst e3
      have e5 := e4 xs (h1.le l').sq
      rw [e1] at e5; cases e5
      exact ⟨e2.le l', fun _ _ z => z⟩
  | _ => exact h.elim
theorem ji_tup {m : Mo PV} (h : JE X np W a m) : JI X np W tg a (iT m) := by
  refine PIi (pi_tup h) fun σ H R h => tG.bind h fun P B H0 d e1 v H1 I r l h => ?_
  cases d with
  | tup ds =>
    cases r with
    | @tup a xs _ h1 h2 =>
      refine ⟨a, rfl, ⟨xs, SqT.of h1⟩, h _ H1 I (fun i H' l' => ?_) (.refl _)⟩
      refine ⟨fun d e => ?_, fun e => ⟨xs, SqT.le l' (SqT.of h1), by rw [h2.length]; exact e⟩⟩
      obtain ⟨y, e1, e2⟩ := h2.get e
      refine ⟨⟨xs, y, SqT.le l' (SqT.of h1), e1⟩, fun x H'' ⟨e3, e4⟩ => ?_⟩
      subst e3
      have e5 := e4 xs (SqT.le l' (SqT.of h1))
      rw [e1] at e5; cases e5
      exact ⟨e2.le l', fun _ _ z => z⟩
  | ktp ds =>
    cases r with
    | @ktp a xs _ h1 h2 =>
      have sq : ∀ H', SqT X.K H' a xs := fun H' => .inr h1
      refine ⟨a, rfl, ⟨xs, sq _⟩, h _ H1 I (fun i H' l' => ?_) (.refl _)⟩
      refine ⟨fun d e => ?_, fun e => ⟨xs, sq _, by rw [h2.length]; exact e⟩⟩
      obtain ⟨y, e1, e2⟩ := h2.get e
      refine ⟨⟨xs, y, sq _, e1⟩, fun x H'' ⟨e3, e4⟩ => ?_⟩
      subst e3
      have e5 := e4 xs (sq _)
      rw [e1] at e5; cases e5
      exact ⟨e2.le l', fun _ _ z => z⟩
  | _ => exact h.elim
def rangeL (lo hi : Int) : List PV := (List.range (hi - lo).toNat).map fun (k : Nat) => .int (lo + (k : Int))
theorem rangeL_get {lo hi : Int} {i : Nat} {d : PV} (h : (rangeL lo hi)[i]? = some d) : i < (hi - lo).toNat ∧ d = .int (lo + i) := by
  unfold rangeL at h
  rw [List.getElem?_map] at h
  cases e : (List.range (hi - lo).toNat)[i]? with
  | none => rw [e] at h; cases h
  | some k =>
    rw [e] at h; cases h
    obtain ⟨h1, h2⟩ := List.getElem?_eq_some_iff.mp e
    simp at h1 h2
    subst h2
    exact ⟨by omega, rfl⟩
theorem rangeL_len (lo hi : Int) : (rangeL lo hi).length = (hi - lo).toNat := by simp [rangeL]
theorem ItOk.range {K : PySem.W.Frag} {lo hi : Int} {H : Hp} : ItOk K (Itr lo (hi - lo).toNat) (rangeL lo hi) H := fun i H' l => by
  refine ⟨fun d e => ?_, fun e => by rw [rangeL_len] at e; exact e⟩
  obtain ⟨h1, rfl⟩ := rangeL_get e
  exact ⟨h1, fun x H'' ⟨e1, e2⟩ => by subst e1; subst e2; exact ⟨.int _, fun _ _ z => z⟩⟩
def inR (i : Int) : Bool := decide (-(2 ^ 62) ≤ i) && decide (i < 2 ^ 62)
def iR1 (m : Mo PV) : Mo (List PV) := mB m fun d => match d with
  | .int j => if inR j then mR (rangeL 0 j) else fun _ => .stuck
  | _ => fun _ => .stuck
def iR2 (m m2 : Mo PV) : Mo (List PV) := mB m fun d => mB m2 fun d2 => match d, d2 with
  | .int i, .int j => if inR i && inR j then mR (rangeL i j) else fun _ => .stuck
  | _, _ => fun _ => .stuck
theorem inR_of {i : Int} (h : inR i = true) : -(2 ^ 62) ≤ i ∧ i < 2 ^ 62 := by
  unfold inR at h
  rw [Bool.and_eq_true] at h
  exact ⟨of_decide_eq_true h.1, of_decide_eq_true h.2⟩
theorem ji_range1 {p : Pos} {m : Mo PV} (hm : X.mg "range" = none) (h : JE X np W a m) (hg : Gl X "range" := by rfl) (hs : starEach [a] X.env = [(false, eval a X.env)] := by rfl) : JI X np W tg (.Call (.Name "range" p) [a] [] pos) (iR1 m) := by
  refine PIi (pi_range1 hg hm (pa_cons h pa_nil hs) hs) fun σ H R h => tG.bind h fun P B H0 d e1 v H1 I r l h => ?_
  cases d with
  | int j =>
    cases r
    dsimp only at h
    by_cases hj : inR j = true
    · rw [if_pos hj] at h
      obtain ⟨h1, h2⟩ := inR_of hj
      refine ⟨j, rfl, h1, h2, ?_⟩
      have z := h (Itr 0 (j - 0).toNat) H1 I ItOk.range (.refl _)
      simpa using z
    · rw [if_neg hj] at h; exact h.elim
  | _ => exact h.elim
theorem ji_range2 {p : Pos} {m m2 : Mo PV} (hm : X.mg "range" = none) (h : JE X np W a m) (h2 : JE X np W b m2) (hg : Gl X "range" := by rfl) (hs : starEach [a, b] X.env = [(false, eval a X.env), (false, eval b X.env)] := by rfl) (hs2 : starEach [b] X.env = [(false, eval b X.env)] := by rfl)
    (hs3 : starEach (a :: [b]) X.env = (false, eval a X.env) :: starEach [b] X.env := by rfl) : JI X np W tg (.Call (.Name "range" p) [a, b] [] pos) (iR2 m m2) := by
  refine PIi (pi_range2 hg hm (pa_cons h (pa_cons h2 pa_nil hs2) hs3) hs hs2) fun σ H R h => tG.bind h fun P B H0 d e1 v H1 I r l h => ?_
  refine tG.bind (tG.of I h) fun P B H0 d2 e2 v2 H2 I2 r2 l2 h => ?_
  cases d with
  | int i =>
    cases d2 with
    | int j =>
      cases r
      cases r2
      dsimp only at h
      by_cases hj : (inR i && inR j) = true
      · rw [if_pos hj] at h
        rw [Bool.and_eq_true] at hj
        obtain ⟨h1, h2⟩ := inR_of hj.1
        obtain ⟨h3, h4⟩ := inR_of hj.2
        exact ⟨i, j, rfl, ⟨h1, h2, h3, h4⟩, h (Itr i (j - i).toNat) H2 I2 ItOk.range (.refl _)⟩
      · rw [if_neg hj] at h; exact h.elim
    | _ => exact h.elim
  | _ => exact h.elim

/-! ### for -/
def forRun (g : MG) (mb : MS) : List PV → MS
  | [], e => .nx e
  | d :: ds, e => match g d e with
    | none => .stuck
    | some e1 => match mb e1 with
      | .nx e2 => forRun g mb ds e2
      | .cont e2 => forRun g mb ds e2
      | .brk e2 => .nx e2
      | .ret s e2 => .ret s e2
      | .exc C es e2 => .exc C es e2
      | .stuck => .stuck
def sFor (mi : Mo (List PV)) (g : MG) (mb : MS) : MS := mS mi fun ds => forRun g mb ds
theorem jst_for {iter : Expr} {body : List Stmt} {mi : Mo (List PV)} {g : MG} {ws : List Nat} {mb : MS} (hp : PassesOwn (model X.prog X.w) X.A X.env X.xe) (hc : X.calm = true) (hi : JI X np W tg iter mi) (hg : JG X np tg g ws) (hb : JB X np W body mb)
    (hs : ∀ x, foldedSetIterable iter X.env x = pure x := by intro _; rfl) : JSt X np W (.For tg iter body [] pos) (sFor mi g mb) := by
  refine PSi (ps_for hp hc hi hg hb hs) fun D σ H h => tS.bind h fun P B H0 ds e1 J H1 I r l h => ?_
  refine ⟨fun i m σ' H' => m = ds.length - i ∧ ∃ e, VI X.K np P B H0 e σ' H' ∧ HLe H1 H' ∧ i ≤ ds.length ∧ PostS X.K np W P B H0 H' (forRun g mb (ds.drop i) e) D, ⟨_, rfl, e1, I, .refl _, Nat.zero_le _, h⟩, ?_⟩
  rintro i m σ2 H2 ⟨rfl, e2, I2, l2, hle, h2⟩
  by_cases hlt : i < ds.length
  · obtain ⟨gi, yi⟩ := (r i H2 l2).1 ds[i] (by simp [hlt])
    have ed : ds.drop i = ds[i] :: ds.drop (i + 1) := (List.getElem_cons_drop hlt).symm
    rw [ed] at h2
    unfold forRun at h2
    refine .inr ⟨gi, fun σ3 H3 => ∃ e3, VI X.K np P B H0 e3 σ3 H3 ∧ HLe H1 H3 ∧ PostS X.K np W P B H0 H3 (forRun g mb (ds.drop (i + 1)) e3) D, fun σ3 H3 ⟨e3, I3, l3, h3⟩ => ⟨ds.length - (i + 1), by omega, rfl, e3, I3, l3, hlt, h3⟩, fun x H3 y => ?_⟩
    obtain ⟨fx, k⟩ := yi x H3 y
    refine ⟨P, B, H0, e2, ds[i], I2.same k, fx, ?_⟩
    generalize g ds[i] e2 = o at h2 ⊢
    cases o with
    | none => exact h2.elim
    | some e3 =>
      refine fun σ3 I3 _ => ⟨P, B, H0, e3, I3, ?_⟩
      dsimp only at h2
      have lk : HLe H2 H3 := .same k
      generalize mb e3 = o2 at h2 ⊢
      cases o2 with
      | nx e4 => exact fun σ4 H4 I4 l4 => ⟨e4, I4, l2.trans (lk.trans l4), PostS.le (lk.trans l4) h2⟩
      | cont e4 => exact fun σ4 H4 I4 l4 => ⟨e4, I4, l2.trans (lk.trans l4), PostS.le (lk.trans l4) h2⟩
      | brk e4 => exact fun σ4 H4 I4 l4 => h2 σ4 H4 I4 (lk.trans l4)
      | ret s e4 => exact fun v σ4 H4 I4 r4 l4 => h2 v σ4 H4 I4 r4 (lk.trans l4)
      | exc C es e4 => exact fun v σ4 H4 I4 r4 l4 => h2 v σ4 H4 I4 r4 (lk.trans l4)
      | stuck => exact h2
  · have e : i = ds.length := by omega
    subst e
    rw [List.drop_length] at h2
    exact .inl ⟨(r _ H2 l2).2 (Nat.le_refl _), h2 σ2 H2 I2 (.refl _)⟩

/-! ### while -/
def whileRun (t : Mo Bool) (mb : MS) : Nat → MS
  | 0, _ => .stuck
  | n + 1, e => match t e with
    | .ok true e1 => match mb e1 with
      | .nx e2 => whileRun t mb n e2
      | .cont e2 => whileRun t mb n e2
      | .brk e2 => .nx e2
      | .ret s e2 => .ret s e2
      | .exc C es e2 => .exc C es e2
      | .stuck => .stuck
    | .ok false e1 => .nx e1
    | .exc C es e1 => .exc C es e1
    | .stuck => .stuck
def sWhile (n : Fr → Nat) (t : Mo Bool) (mb : MS) : MS := fun e => whileRun t mb (n e) e
theorem jst_while (n : Fr → Nat) {body : List Stmt} {t : Mo Bool} {mb : MS} (hp : PassesOwn (model X.prog X.w) X.A X.env X.xe) (hc : JT X np W c t) (hb : JB X np W body mb) : JSt X np W (.While c body [] pos) (sWhile n t mb) := by
  refine PSi (ps_while hp hc hb) fun D σ H ⟨P, B, H0, e, I, h⟩ => ?_
  refine ⟨fun m σ' H' => ∃ e, VI X.K np P B H0 e σ' H' ∧ PostS X.K np W P B H0 H' (whileRun t mb m e) D, ⟨_, e, I, h⟩, ?_⟩
  rintro m σ1 H1 ⟨e1, I1, h1⟩
  cases m with
  | zero => exact h1.elim
  | succ m =>
    unfold whileRun at h1
    refine ⟨P, B, H0, e1, I1, ?_⟩
    generalize t e1 = o at h1 ⊢
    cases o with
    | stuck => exact h1
    | exc C es e2 => exact fun x H2 I2 r2 l2 => h1 x σ1 H2 I2 r2 l2
    | ok b e2 =>
      intro b' H2 I2 r2 l2
      cases r2
      cases b with
      | false => exact h1 σ1 H2 I2 l2
      | true =>
        rw [if_pos rfl]
        refine ⟨fun σ3 H3 => ∃ e3, VI X.K np P B H0 e3 σ3 H3 ∧ PostS X.K np W P B H0 H3 (whileRun t mb m e3) D, fun σ3 H3 z => ⟨m, Nat.lt_succ_self _, z⟩, P, B, H0, e2, I2, ?_⟩
        dsimp only at h1
        generalize mb e2 = o2 at h1 ⊢
        cases o2 with
        | nx e4 => exact fun σ4 H4 I4 l4 => ⟨e4, I4, PostS.le (l2.trans l4) h1⟩
        | cont e4 => exact fun σ4 H4 I4 l4 => ⟨e4, I4, PostS.le (l2.trans l4) h1⟩
        | brk e4 => exact fun σ4 H4 I4 l4 => h1 σ4 H4 I4 (l2.trans l4)
        | ret s e4 => exact fun v σ4 H4 I4 r4 l4 => h1 v σ4 H4 I4 r4 (l2.trans l4)
        | exc C es e4 => exact fun v σ4 H4 I4 r4 l4 => h1 v σ4 H4 I4 r4 (l2.trans l4)
        | stuck => exact h1
end
end VS

set_option Elab.async false
set_option linter.all false
set_option maxRecDepth 100000
set_option maxHeartbeats 1000000
/-! VS5: list comprehensions, append, stores into a list; defs and their calls. -/
namespace VS
open PySem L2 PyProof.Rows

def wipeE (e : Fr) : List Nat → Fr
  | [] => e
  | v :: vs => (wipeE e vs).set v .un
theorem wipe_out' {σ : L2.St} {i : Nat} : ∀ {vs : List Nat}, i ∉ vs → (wipe σ vs)[i]? = σ[i]?
  | [], _ => rfl
  | v :: vs, h => by
    unfold wipe
    rw [List.getElem?_set_ne (fun z => h (by simp [z]))]
    exact wipe_out' fun z => h (List.mem_cons_of_mem _ z)
theorem wipe_in {σ : L2.St} {i : Nat} : ∀ {vs : List Nat}, i ∈ vs → i < σ.length → (wipe σ vs)[i]? = some none
  | v :: vs, h, hl => by
    unfold wipe
    by_cases e : v = i
    · subst e; rw [List.getElem?_set_self (by rw [wipe_length]; exact hl)]
    · rw [List.getElem?_set_ne e]
      refine wipe_in ?_ hl
      rcases List.mem_cons.mp h with z | z
      · exact absurd z.symm e
      · exact z
theorem wipe_diff {σ σ' : L2.St} {ws vs : List Nat} (d : Diff ws (wipe σ vs) σ') (h : ∀ v ∈ ws, v ∈ vs) : wipe σ' vs = wipe σ vs := by
  have hl : σ'.length = σ.length := d.1.trans (wipe_length σ vs)
  refine List.ext_getElem? fun j => ?_
  by_cases hj : j ∈ vs
  · by_cases hb : j < σ.length
    · rw [wipe_in hj (by omega), wipe_in hj hb]
    · rw [List.getElem?_eq_none (by rw [wipe_length]; omega), List.getElem?_eq_none (by rw [wipe_length]; omega)]
  · rw [wipe_out' hj, d.2 j fun z => hj (h j z)]
section
variable {K : PySem.W.Frag} {np : Nat} {P : Addr → Prop} {B : List (Nat × Addr)} {H0 H H' : Hp} {e : Fr} {σ : L2.St}
theorem VI.wipe1 (I : VI K np P B H0 e σ H) {i : Nat} (hn : np ≤ i) : VI K np P B H0 (e.set i .un) (σ.set i none) H := by
  have J := I.drop hn
  have key : ∀ (j : Nat) (s : Sl), s ≠ .un → (e.set i .un)[j]? = some s → j ≠ i := fun j s ns q z => by
    subst z
    by_cases hi : j < e.length
    · rw [List.getElem?_set_self hi] at q; exact ns (Option.some.inj q).symm
    · rw [List.getElem?_eq_none (by simpa using hi)] at q; cases q
  have kσ : ∀ (j : Nat), j ≠ i → (σ.set i none)[j]? = σ[j]? := fun j hj => List.getElem?_set_ne (Ne.symm hj)
  refine ⟨by simpa using I.len, fun j d q => ?_, fun j d q => ?_, fun j k d d' a q1 q2 s1 s2 => ?_, fun j a q => ?_, I.keep, I.al⟩
  · rw [kσ j (key j _ (by simp) q)]; exact J.fz j d q
  · rw [kσ j (key j _ (by simp) q)]; exact J.ow j d q
  · rw [kσ j (key j _ (by simp) q1)] at s1
    rw [kσ k (key k _ (by simp) q2)] at s2
    exact J.dj j k d d' a q1 q2 s1 s2
  · obtain ⟨h1, h2, h3⟩ := J.pin j a q
    exact ⟨h1, by rw [kσ j (by omega)]; exact h2, h3⟩
theorem VI.wipe (I : VI K np P B H0 e σ H) : ∀ {vs : List Nat}, (∀ v ∈ vs, np ≤ v) → VI K np P B H0 (wipeE e vs) (L2.wipe σ vs) H
  | [], _ => I
  | v :: vs, h => VI.wipe1 (VI.wipe I fun w hw => h w (List.mem_cons_of_mem _ hw)) (h v List.mem_cons_self)
theorem VI.unwipe {vs : List Nat} (I : VI K np P B H0 e (L2.wipe σ vs) H) : VI K np P B H0 e σ H where
  len := I.len.trans (wipe_length σ vs)
  fz := fun i d q => let ⟨v, x, y⟩ := I.fz i d q; ⟨v, (wipe_some x).1, y⟩
  ow := fun i d q => let ⟨a, x, y⟩ := I.ow i d q; ⟨a, (wipe_some x).1, y⟩
  dj := fun i j d d' a q1 q2 s1 s2 => by
    obtain ⟨b, x, _⟩ := I.ow i d q1
    obtain ⟨c, y, _⟩ := I.ow j d' q2
    have x' := (wipe_some x).1
    have y' := (wipe_some y).1
    rw [s1] at x'; cases x'
    rw [s2] at y'; cases y'
    exact I.dj i j d d' _ q1 q2 x y
  pin := fun i a q => let ⟨h1, h2, h3⟩ := I.pin i a q; ⟨h1, (wipe_some h2).1, h3⟩
  keep := I.keep
  al := I.al
theorem wipeE_own {vs : List Nat} {j : Nat} {s : Sl} (hs : s ≠ .un) (h : (wipeE e vs)[j]? = some s) : e[j]? = some s := by
  induction vs with
  | nil => exact h
  | cons v vs ih =>
    unfold wipeE at h
    by_cases hv : v = j
    · subst hv
      by_cases hi : v < (wipeE e vs).length
      · rw [List.getElem?_set_self hi] at h; exact absurd (Option.some.inj h).symm hs
      · rw [List.getElem?_eq_none (by simpa using hi)] at h; cases h
    · rw [List.getElem?_set_ne hv] at h; exact ih h
end

def compRun (vs : List Nat) (g : MG) (mt : Mo Bool) (me : Mo PV) : List PV → List PV → Fr → Out Sl
  | [], acc, e => .ok (.own (.lst acc)) e
  | d :: ds, acc, e => match g d e with
    | none => .stuck
    | some e1 => match mt e1 with
      | .ok false e2 => compRun vs g mt me ds acc (wipeE e2 vs)
      | .ok true e2 => match me e2 with
        | .ok x e3 => if acc.length < sizeLine then compRun vs g mt me ds (acc ++ [x]) (wipeE e3 vs) else .stuck
        | _ => .stuck
      | _ => .stuck
def mComp (vs : List Nat) (mi : Mo (List PV)) (g : MG) (mt : Mo Bool) (me : Mo PV) : Mo Sl := mB mi fun ds e => compRun vs g mt me ds [] (wipeE e vs)
def WF : WX := fun _ _ _ _ => False
def CInv (K : PySem.W.Frag) (np : Nat) (W : WX) (P : Addr → Prop) (B : List (Nat × Addr)) (H0 : Hp) (σ : L2.St) (vs : List Nat) (H1 : Hp) (D : Addr) (g : MG) (mt : Mo Bool) (me : Mo PV) (Q : VK) (ds : List PV) (H : Hp) : Prop :=
  ∃ e acc xs, VI K np P B H0 e (wipe σ vs) H ∧ HLe H1 H ∧ H D = some (.lst xs) ∧ FzA K H xs acc ∧ (∀ (j : Nat) d', e[j]? = some (.own d') → (wipe σ vs)[j]? ≠ some (some (.ref D))) ∧
    PostG K np W P B H0 (rS K) σ H (compRun vs g mt me ds acc e) Q
section
variable {X : Cx} {np : Nat} {W : WX} {pos : Pos}
abbrev JTs (X : Cx) (np : Nat) (W : WX) (ifs : List Expr) (m : Mo Bool) : Prop := PTs X ifs (tG X.K np W rB m)
theorem jts_nil : JTs X np W [] (mR true) := ⟨fun pins s σ H Q I ⟨P, B, H0, e, J, h⟩ => pts_nil.run pins s σ H Q I (h true H J rfl (.refl H))⟩
theorem jts_one {c : Expr} {m : Mo Bool} (h : JT X np W c m) : JTs X np W [c] m := pts_one h
theorem comp_of {ws vs : List Nat} {mi : Mo (List PV)} {g : MG} {mt : Mo Bool} {me : Mo PV} (hw : ∀ v ∈ ws, v ∈ vs) (hn : ∀ v ∈ vs, np ≤ v) {σ : L2.St} {H : Hp} {Q : VK} (h : tG X.K np W (rS X.K) (mComp vs mi g mt me) σ H Q) :
    tLc (tG X.K np W (rI X.K) mi) (tTg X.K np g ws) (tG X.K np WF rB mt) (tG X.K np WF (rE X.K) me) vs σ H Q := by
  refine tG.bind h fun P B H0 ds e1 J H1 I r l h D hD => ?_
  have hD0 : H0 D = none := I.fresh hD
  refine ⟨fun i m H' => m = ds.length - i ∧ i ≤ ds.length ∧ CInv X.K np W P B H0 σ vs H1 D g mt me Q (ds.drop i) H', ⟨_, rfl, Nat.zero_le _, wipeE e1 vs, [], [], (I.alloc hD).wipe hn, .alloc hD, upd_same, .nil, fun j d' q z => ?_, PostG.le (.alloc hD) h⟩, ?_⟩
  · obtain ⟨a, x, y, _⟩ := (I.wipe hn).ow j d' q
    rw [z] at x; cases x
    obtain ⟨u, hu, _⟩ := y.at
    rw [hD] at hu; cases hu
  rintro i m H2 ⟨rfl, hle, e2, acc, xs, I2, l2, d2, f2, o2, h2⟩
  by_cases hlt : i < ds.length
  case neg =>
    have e : i = ds.length := by omega
    subst e
    rw [List.drop_length] at h2
    refine .inl ⟨(r _ H2 l2).2 (Nat.le_refl _), ?_⟩
    have I3 := I2.unwipe
    refine h2 _ H2 I3 ⟨D, rfl, ⟨xs, d2, f2⟩, .inr hD0, fun j d' q z => ?_⟩ (.refl _)
    obtain ⟨a, x, y, _⟩ := I2.ow j d' q
    have x' := (wipe_some x).1
    rw [z] at x'; cases x'
    exact o2 j d' q x
  obtain ⟨gi, yi⟩ := (r i H2 l2).1 ds[i] (by simp [hlt])
  have ed : ds.drop i = ds[i] :: ds.drop (i + 1) := (List.getElem_cons_drop hlt).symm
  rw [ed] at h2
  unfold compRun at h2
  refine .inr ⟨gi, CInv X.K np W P B H0 σ vs H1 D g mt me Q (ds.drop (i + 1)), fun H' z => ⟨ds.length - (i + 1), by omega, rfl, hlt, z⟩, fun x H3 y => ?_⟩
  obtain ⟨fx, k⟩ := yi x H3 y
  have J := I2.base
  have nD : ¬ Owned e2 (wipe σ vs) D := fun ⟨j, d', q, z⟩ => o2 j d' q z
  refine ⟨_, B, H2, e2, ds[i], J.same k, fx, ?_⟩
  generalize g ds[i] e2 = o at h2 ⊢
  cases o with
  | none => exact h2.elim
  | some e3 =>
    intro σ3 J3 df
    have hws := wipe_diff df hw
    refine ⟨hws, _, B, H2, e3, J3, ?_⟩
    dsimp only at h2
    -- the turn's end
    have fin : ∀ {e' : Fr} {H' : Hp} {acc' : List PV} {xs' : List V}, VI X.K np (Owned e2 (wipe σ vs)) B H2 e' σ3 H' → HLe H2 H' → ∀ (xs' : List V), FzA X.K H' xs' acc' → (xs' = xs ∨ True) →
        PostG X.K np W P B H0 (rS X.K) σ H2 (compRun vs g mt me (ds.drop (i + 1)) acc' (wipeE e' vs)) Q → CInv X.K np W P B H0 σ vs H1 D g mt me Q (ds.drop (i + 1)) (upd H' D (.lst xs')) := by
      intro e' H' acc' _ Je le xs' fa _ hp
      have hD' : H' D = some (.lst xs) := Je.keep D _ d2 nD
      have Jb := I2.back Je
      have no : ∀ (j : Nat) d', e'[j]? = some (.own d') → σ3[j]? ≠ some (some (.ref D)) := fun j d' q z => by
        obtain ⟨a, x, y, zz⟩ := Je.ow j d' q
        rw [z] at x; cases x
        rcases zz with zz | zz
        · exact nD zz
        · rw [d2] at zz; cases zz
      have lw : HLe H' (upd H' D (.lst xs')) := .write hD' (fun _ z => nomatch z) (fun _ _ z => nomatch z)
      have Jw := (Jb.other (o := .lst xs') hD' (fun _ z => nomatch z) (fun _ _ z => nomatch z) (.inr hD0) no).wipe hn
      rw [hws] at Jw
      refine ⟨wipeE e' vs, acc', xs', Jw, l2.trans (le.trans lw), upd_same, FzA.le lw fa, fun j d' q z => ?_, PostG.le (le.trans lw) hp⟩
      have q' := wipeE_own (by simp) q
      rw [← hws] at z
      exact no j d' q' (wipe_some z).1
    have lk : HLe H2 H3 := .same k
    generalize mt e3 = o3 at h2 ⊢
    cases o3 with
    | stuck => exact h2.elim
    | exc C es e4 => exact h2.elim
    | ok b e4 =>
      intro b' H4 J4 r4 l4
      cases r4
      cases b with
      | false =>
        dsimp only at h2
        rw [if_neg Bool.false_ne_true]
        have hD' : H4 D = some (.lst xs) := J4.keep D _ d2 nD
        have z := fin J4 (lk.trans l4) xs (f2.le (lk.trans l4)) (.inl rfl) h2 (xs' := xs)
        have e : upd H4 D (.lst xs) = H4 := by
          funext b
          by_cases hb : b = D
          · subst hb; rw [upd_same, hD']
          · rw [upd_ne hb]
        rw [e] at z
        exact z
      | true =>
        dsimp only at h2
        rw [if_pos rfl]
        refine ⟨_, B, H2, e4, J4, ?_⟩
        generalize me e4 = o4 at h2 ⊢
        cases o4 with
        | stuck => exact h2.elim
        | exc C es e5 => exact h2.elim
        | ok xv e5 =>
          intro v H5 J5 r5 l5
          have hD' : H5 D = some (.lst xs) := J5.keep D _ d2 nD
          dsimp only at h2
          by_cases hz : acc.length < sizeLine
          · rw [if_pos hz] at h2
            have lq : HLe H2 H5 := lk.trans (l4.trans l5)
            refine ⟨xs, hD', by rw [f2.length]; exact hz, fin J5 lq (xs ++ [v]) (FzA.append (f2.le lq) (.cons r5 .nil)) (.inr trivial) h2 (xs' := xs)⟩
          · rw [if_neg hz] at h2; exact h2.elim
theorem js_comp {elt tg iter : Expr} {ifs : List Expr} {scope : Scope} {own : List (Str × Nat)} {ws : List Nat} {mi : Mo (List PV)} {g : MG} {mt : Mo Bool} {me : Mo PV} (hc : X.calm = true) (hN : X.N.Nodup) (hi : JI X np W tg iter mi) (ok : BlkOk X.N X.env.scope scope own)
    (hg : ∀ (s : Shared) (H : Hp) (C : Addr) (cl : List (Str × Addr)) (fp : List Addr), JG (X.blk s H scope (compEnvC scope cl C X.env) fp) np tg g ws) (ht : ∀ (s : Shared) (H : Hp) (C : Addr) (cl : List (Str × Addr)) (fp : List Addr), JTs (X.blk s H scope (compEnvC scope cl C X.env) fp) np WF ifs mt)
    (he : ∀ (s : Shared) (H : Hp) (C : Addr) (cl : List (Str × Addr)) (fp : List Addr), JE (X.blk s H scope (compEnvC scope cl C X.env) fp) np WF elt me)
    (hw : ∀ v ∈ ws, v ∈ own.map (·.2) := by decide) (hn : ∀ v ∈ own.map (·.2), np ≤ v := by decide) (hs : ∀ x, foldedSetIterable iter X.env x = pure x := by intro _; rfl) :
    JS X np W (.ListComp elt [⟨tg, iter, ifs, 0⟩] scope pos) (mComp (own.map (·.2)) mi g mt me) :=
  PEi (pe_lc (pos := pos) (te := tG X.K np WF (rE X.K) me) (tt := tG X.K np WF rB mt) (g := tTg X.K np g ws) hc hN hi ok hg ht he hs) fun σ H Q h => comp_of hw hn h
/-- where the statement stores the list as it comes -/
theorem jst_comp {i : Nat} {y : Str} {py spos : Pos} {elt tg iter : Expr} {ifs : List Expr} {scope : Scope} {own : List (Str × Nat)} {ws : List Nat} {mi : Mo (List PV)} {g : MG} {mt : Mo Bool} {me : Mo PV} (hc : X.calm = true) (hN : X.N.Nodup)
    (hsw : swapsWith (.ListComp elt [⟨tg, iter, ifs, 0⟩] scope pos) (some (.Name y py)) spos.line X.env = pure true) (hi : JI X np W tg iter mi) (ok : BlkOk X.N X.env.scope scope own)
    (hg : ∀ (s : Shared) (H : Hp) (C : Addr) (cl : List (Str × Addr)) (fp : List Addr), JG (X.blk s H scope (compEnvC scope cl C X.env) fp) np tg g ws) (ht : ∀ (s : Shared) (H : Hp) (C : Addr) (cl : List (Str × Addr)) (fp : List Addr), JTs (X.blk s H scope (compEnvC scope cl C X.env) fp) np WF ifs mt)
    (he : ∀ (s : Shared) (H : Hp) (C : Addr) (cl : List (Str × Addr)) (fp : List Addr), JE (X.blk s H scope (compEnvC scope cl C X.env) fp) np WF elt me)
    (hy : X.N[i]? = some y := by rfl) (hyl : X.env.scope.names.lookup y = some .local := by rfl)
    (hw : ∀ v ∈ ws, v ∈ own.map (·.2) := by decide) (hn : ∀ v ∈ own.map (·.2), np ≤ v := by decide) (hs : ∀ x, foldedSetIterable iter X.env x = pure x := by intro _; rfl) :
    JSt X np W (.Assign [.Name y py] (.ListComp elt [⟨tg, iter, ifs, 0⟩] scope pos) spos) (sSet np i (mComp (own.map (·.2)) mi g mt me)) := by
  have q := ps_setLc (i := i) (py := py) (spos := spos) (pos := pos) (te := tG X.K np WF (rE X.K) me) (tt := tG X.K np WF rB mt) (g := tTg X.K np g ws) hc hN hy hyl hsw hi ok hg ht he hs
  exact PSi q fun D σ H h => comp_of hw hn (tS.bind h fun P B H0 s e1 v H1 I r l h => put_ok I r h)
end
end VS

set_option Elab.async false
set_option linter.all false
set_option maxRecDepth 100000
set_option maxHeartbeats 1000000
/-! VS6: a def as a function on rows of slots; its call. -/
namespace VS
open PySem L2 PyProof.Rows

inductive OutF where
  | ret (s : Sl) (as : List Sl) | exc (C : Addr) (ds : List (Str × PV)) (as : List Sl) | stuck
abbrev MF := List Sl → OutF
/-- the arguments -/
abbrev AI (K : PySem.W.Frag) (H0 : Hp) (vs : List V) (as0 as : List Sl) (H : Hp) : Prop := VI K 0 (Owned as0 (vs.map some)) [] H0 as (vs.map some) H
def rF (K : PySem.W.Frag) (H H' : Hp) (s : Sl) (v : V) : Prop := match s with
  | .un => False
  | .fz d => Fz K H' v d
  | .own d => ∃ a, v = .ref a ∧ Ow K H' a d ∧ H a = none
def PostF (K : PySem.W.Frag) (vs : List V) (as : List Sl) (H : Hp) (o : OutF) (Q : VK) (E : XK) : Prop := match o with
  | .ret s as' => ∀ v H', AI K H vs as as' H' → rF K H H' s v → HLe H H' → Q v H'
  | .exc C ds as' => ∀ x H', AI K H vs as as' H' → ExD K H' x ds → HLe H H' → E (.ref C) x H'
  | .stuck => False
/-- the promise that a function on rows of slots is -/
def spF (K : PySem.W.Frag) (n : Nat) (mf : MF) : Sp := fun vs H Q E => ∃ as, as.length = n ∧ AI K H vs as as H ∧ PostF K vs as H (mf as) Q E
def outA : List Sl → Fr → List Sl
  | [], _ => []
  | .own d :: as, e :: es => e :: outA as es
  | a :: as, _ :: es => a :: outA as es
  | as, [] => as
theorem outA_len : ∀ (as : List Sl) (e : Fr), (outA as e).length = as.length
  | [], _ => rfl
  | .own d :: as, e :: es => by simp [outA, outA_len as es]
  | .fz d :: as, e :: es => by simp [outA, outA_len as es]
  | .un :: as, e :: es => by simp [outA, outA_len as es]
  | _ :: as, [] => by simp [outA]
theorem outA_get : ∀ {as : List Sl} {e : Fr} {i : Nat} {s : Sl}, (∀ (i : Nat) d, as[i]? = some (.own d) → i < e.length) → (outA as e)[i]? = some s → (∃ d, as[i]? = some (.own d) ∧ e[i]? = some s) ∨ ((∀ d, as[i]? ≠ some (.own d)) ∧ as[i]? = some s)
  | [], _, _, _, _, h => by simp [outA] at h
  | .own d :: as, [], _, _, hl, _ => by have := hl 0 d rfl; simp at this
  | .fz d :: as, [], i, s, hl, h => .inr ⟨fun d z => by have := hl i d z; simp at this, by simpa [outA] using h⟩
  | .un :: as, [], i, s, hl, h => .inr ⟨fun d z => by have := hl i d z; simp at this, by simpa [outA] using h⟩
  | .own d :: as, e :: es, 0, s, hl, h => by simp [outA] at h; subst h; exact .inl ⟨d, rfl, rfl⟩
  | .fz d :: as, e :: es, 0, s, hl, h => by simp [outA] at h; subst h; exact .inr ⟨fun d z => by simp at z, rfl⟩
  | .un :: as, e :: es, 0, s, hl, h => by simp [outA] at h; subst h; exact .inr ⟨fun d z => by simp at z, rfl⟩
  | .own d :: as, e :: es, i + 1, s, hl, h => by simpa using outA_get (as := as) (e := es) (i := i) (fun j d z => by simpa using hl (j + 1) d (by simpa using z)) (by simpa [outA] using h)
  | .fz d :: as, e :: es, i + 1, s, hl, h => by simpa using outA_get (as := as) (e := es) (i := i) (fun j d z => by simpa using hl (j + 1) d (by simpa using z)) (by simpa [outA] using h)
  | .un :: as, e :: es, i + 1, s, hl, h => by simpa using outA_get (as := as) (e := es) (i := i) (fun j d z => by simpa using hl (j + 1) d (by simpa using z)) (by simpa [outA] using h)
def bodyRun (N : Nat) (m : MS) : MF := fun as => match m (as ++ List.replicate (N - as.length) .un) with
  | .nx e => .ret (.fz .non) (outA as e)
  | .ret s e => .ret s (outA as e)
  | .exc C ds e => .exc C ds (outA as e)
  | _ => .stuck
section
variable {P : Program} {w : World} {K : PySem.W.Frag} {mg : Str → Option Value} {base : Heap}
def ownB (as : List Sl) (vs : List V) : List (Nat × Addr) := (List.range as.length).filterMap fun (i : Nat) => match as[i]?, vs[i]? with
  | some (Sl.own _), some (V.ref a) => some (i, a)
  | _, _ => none
theorem mem_ownB {as : List Sl} {vs : List V} {i : Nat} {a : Addr} : (i, a) ∈ ownB as vs ↔ ∃ d, as[i]? = some (.own d) ∧ vs[i]? = some (.ref a) := by
  unfold ownB
  rw [List.mem_filterMap]
  constructor
  · rintro ⟨j, hj, h⟩
    split at h
    · rename_i d b h1 h2
      cases h
      exact ⟨d, h1, h2⟩
    · cases h
  · rintro ⟨d, h1, h2⟩
    refine ⟨i, ?_, ?_⟩
    · rw [List.mem_range]; exact (List.getElem?_eq_some_iff.mp h1).1
    · rw [h1, h2]
/-- a def of the text as it stands behind the top, dvs its defaults -/
abbrev FunG (K : PySem.W.Frag) (x qual : Str) (st : Stmt) (dvs : List V) (f : Addr) (fd : FuncData) : Prop := FunD K x qual (defArgs st) (defBody st) (defScope st) dvs [] f fd
theorem fn_ok {x qual : Str} {st : Stmt} {dvs : List V} {f : Addr} {fd : FuncData} {N ps : List Str} {k : Nat} {m : MS} (F : FunG K x qual st dvs f fd) (S : FnScope N ps (defScope st))
    (hbody : ∀ (cdv : Value) (A : Around) (outer : List Env) (s : Shared) (H : Hp) (E : XK), Room k (A.deeper (envOfC qual (defScope st) s.heap.objs.size f cdv)) →
      JB (cxOf (L2.CX P w) P w K mg base N qual (defScope st) f cdv A outer s H E) ps.length (fun cls d _ H => E cls d H) (defBody st) m) :
    FnOk P w K mg base (L2.CX P w) (k + 1) f fd ps (spF K ps.length (bodyRun N.length m)) := by
  refine FunD.ok F S (fun vs H Q E h => ?_) (fun cdv A outer s H vs Q E hr h => ?_)
  · obtain ⟨as, h1, h2, _⟩ := h
    have := h2.len
    simp at this
    omega
  · obtain ⟨as, h1, I, h⟩ := h
    refine ⟨_, hbody cdv A outer s H E hr, ?_⟩
    have hl : as.length = vs.length := by simpa using I.len
    have hN : ps.length ≤ N.length := by have := congrArg List.length S.pre; rw [List.length_take] at this; omega
    have ge : ∀ (i : Nat) s, s ≠ Sl.un → (as ++ List.replicate (N.length - as.length) Sl.un)[i]? = some s → as[i]? = some s := fun i s hs q => by
      by_cases hi : i < as.length
      · rw [List.getElem?_append_left hi] at q; exact q
      · rw [List.getElem?_append_right (by omega), List.getElem?_replicate] at q
        split at q
        · cases q; exact absurd rfl hs
        · cases q
    have gσ : ∀ (i : Nat) (v : V), (vs.map some)[i]? = some (some v) → (L2.start N vs)[i]? = some (some v) := fun i v q => by
      unfold L2.start
      rw [List.getElem?_append_left (List.getElem?_eq_some_iff.mp q).1]; exact q
    have gσ' : ∀ (i : Nat) (v : V), (L2.start N vs)[i]? = some (some v) → (vs.map some)[i]? = some (some v) := fun i v q => by
      unfold L2.start at q
      by_cases hi : i < (vs.map some).length
      · rw [List.getElem?_append_left hi] at q; exact q
      · rw [List.getElem?_append_right (by omega), List.getElem?_replicate] at q
        split at q <;> cases q
    refine ⟨Owned as (vs.map some), ownB as vs, H, as ++ List.replicate (N.length - as.length) .un, ⟨?_, fun i d q => ?_, fun i d q => ?_, fun i j d d' a q1 q2 s1 s2 => ?_, fun i a q => ?_, fun b o q _ => q, fun b o q => ⟨o, q⟩⟩, ?_⟩
    · unfold L2.start; simp; omega
    · obtain ⟨v, q1, q2⟩ := I.fz i d (ge i _ (by simp) q)
      exact ⟨v, gσ i v q1, q2⟩
    · obtain ⟨v, q1, q2⟩ := I.ow i d (ge i _ (by simp) q)
      exact ⟨v, gσ i _ q1, q2⟩
    · exact I.dj i j d d' a (ge i _ (by simp) q1) (ge j _ (by simp) q2) (gσ' _ _ s1) (gσ' _ _ s2)
    · obtain ⟨d, q1, q2⟩ := mem_ownB.mp q
      have hi := (List.getElem?_eq_some_iff.mp q1).1
      exact ⟨by omega, gσ i _ (by rw [List.getElem?_map, q2]; rfl), d, by rw [List.getElem?_append_left hi]; exact q1⟩
    -- the end
    have back : ∀ {e' : Fr} {σ' : L2.St} {H' : Hp}, VI K ps.length (Owned as (vs.map some)) (ownB as vs) H e' σ' H' → HLe H H' → AI K H vs as (outA as e') H' := fun {e' σ' H'} J l => by
      have hle : as.length ≤ e'.length ∨ True := .inr trivial
      have pin : ∀ (i : Nat) d, as[i]? = some (.own d) → ∃ a d', vs[i]? = some (.ref a) ∧ σ'[i]? = some (some (.ref a)) ∧ e'[i]? = some (.own d') := fun i d q => by
        obtain ⟨a, q1, q2, _⟩ := I.ow i d q
        rw [List.getElem?_map] at q1
        cases z : vs[i]? with
        | none => rw [z] at q1; cases q1
        | some v =>
          rw [z] at q1; cases q1
          obtain ⟨h1, h2, d', h3⟩ := J.pin i a (mem_ownB.mpr ⟨d, q, z⟩)
          exact ⟨a, d', rfl, h2, h3⟩
      have key : ∀ (i : Nat) s, (outA as e')[i]? = some s → (∃ d d' a, s = .own d' ∧ as[i]? = some (.own d) ∧ vs[i]? = some (.ref a) ∧ σ'[i]? = some (some (.ref a)) ∧ e'[i]? = some (.own d')) ∨ ((∀ d, as[i]? ≠ some (.own d)) ∧ as[i]? = some s) := by
        intro i s q
        rcases outA_get (fun j d z => let ⟨_, _, _, _, p⟩ := pin j d z; (List.getElem?_eq_some_iff.mp p).1) q with ⟨d, q1, q2⟩ | q
        · obtain ⟨a, d', p1, p2, p3⟩ := pin i d q1
          rw [q2] at p3; cases p3
          exact .inl ⟨d, d', a, rfl, q1, p1, p2, q2⟩
        · exact .inr q
      refine ⟨by rw [outA_len]; exact I.len, fun i d q => ?_, fun i d q => ?_, fun i j d d' a q1 q2 s1 s2 => ?_, fun i a q => (by cases q), J.keep, J.al⟩
      · rcases key i _ q with ⟨_, d', _, z, _⟩ | ⟨_, q⟩
        · cases z
        · obtain ⟨v, q1, q2⟩ := I.fz i d q
          exact ⟨v, q1, q2.le l⟩
      · rcases key i _ q with ⟨d0, d', a, z, p1, p2, p3, p4⟩ | ⟨n, q⟩
        · cases z
          obtain ⟨a', r1, r2, r3⟩ := J.ow i d p4
          rw [p3] at r1; cases r1
          exact ⟨a, by rw [List.getElem?_map, p2]; rfl, r2, r3⟩
        · exact absurd q (n d)
      · rcases key i _ q1 with ⟨d0, _, _, _, p1, _⟩ | ⟨n, q⟩
        · rcases key j _ q2 with ⟨d1, _, _, _, p2, _⟩ | ⟨n, q⟩
          · exact I.dj i j _ _ a p1 p2 s1 s2
          · exact absurd q (n _)
        · exact absurd q (n _)
    have res : ∀ {s : Sl} {e' : Fr} {σ' : L2.St} {H' : Hp} {v : V}, VI K ps.length (Owned as (vs.map some)) (ownB as vs) H e' σ' H' → rS K (fun a => Owned as (vs.map some) a ∨ H a = none) s e' σ' H' v → rF K H H' s v := fun {s e' σ' H' v} J r => by
      cases s with
      | un => exact r
      | fz d => exact r
      | own d =>
        obtain ⟨a, e1, e2, e3, e4⟩ := r
        refine ⟨a, e1, e2, ?_⟩
        rcases e3 with ⟨i, d', q, z⟩ | e3
        · rw [List.getElem?_map] at z
          cases zz : vs[i]? with
          | none => rw [zz] at z; cases z
          | some v' =>
            rw [zz] at z; cases z
            obtain ⟨h1, h2, d', h3⟩ := J.pin i a (mem_ownB.mpr ⟨_, q, zz⟩)
            exact absurd h2 (e4 i d' h3)
        · exact e3
    unfold bodyRun at h
    generalize m (as ++ List.replicate (N.length - as.length) .un) = o at h ⊢
    cases o with
    | nx e' => exact fun σ' H' J l => h .non H' (back J l) .non l
    | ret s e' => exact fun v σ' H' J r l => h v H' (back J l) (res J r) l
    | exc C ds e' => exact fun x σ' H' J r l => h x H' (back J l) r l
    | brk e' => exact h.elim
    | cont e' => exact h.elim
    | stuck => exact h.elim
end
end VS

set_option Elab.async false
set_option linter.all false
set_option maxRecDepth 100000
set_option maxHeartbeats 1000000
/-! VS7: calls of defs; append, pop, stores into lists. -/
namespace VS
open PySem L2 PyProof.Rows

def slO (o : Opd) (e : Fr) : Option Sl := match o with
  | .val d => some (.fz d)
  | .pl i => match e[i]? with
    | some (.fz d) => some (.fz d)
    | some (.own d) => some (.own d)
    | _ => none
def getA : List Opd → Fr → Option (List Sl)
  | [], _ => some []
  | o :: os, e => match slO o e, getA os e with
    | some s, some r => some (s :: r)
    | _, _ => none
/-- the slots whose things are handed on -/
def ownIx : List Opd → Fr → List Nat
  | [], _ => []
  | .val _ :: os, e => ownIx os e
  | .pl i :: os, e => match e[i]? with
    | some (.own _) => i :: ownIx os e
    | _ => ownIx os e
def putA : List Opd → List Sl → Fr → Fr → Option Fr
  | .val _ :: os, _ :: as, e0, e => putA os as e0 e
  | .pl i :: os, s :: as, e0, e => match e0[i]? with
    | some (.own _) => match s with
      | .own d => putA os as e0 (e.set i (.own d))
      | _ => none
    | _ => putA os as e0 e
  | _, _, _, e => some e
theorem getA_len : ∀ {os : List Opd} {e : Fr} {as : List Sl}, getA os e = some as → as.length = os.length
  | [], _, _, h => by simp [getA] at h; subst h; rfl
  | o :: os, e, as, h => by
    unfold getA at h
    split at h
    · rename_i s r h1 h2
      cases h
      simp [getA_len h2]
    · cases h
theorem getA_get : ∀ {os : List Opd} {e : Fr} {as : List Sl} {i : Nat} {s : Sl}, getA os e = some as → as[i]? = some s → ∃ o, os[i]? = some o ∧ slO o e = some s
  | [], _, _, _, _, h, q => by simp [getA] at h; subst h; simp at q
  | o :: os, e, as, i, s, h, q => by
    unfold getA at h
    split at h
    · rename_i s' r h1 h2
      cases h
      cases i with
      | zero => simp at q; subst q; exact ⟨o, rfl, h1⟩
      | succ i => simpa using getA_get h2 (by simpa using q)
    · cases h
theorem ownIx_mem : ∀ {os : List Opd} {e : Fr} {i j : Nat} {d : PV}, os[i]? = some (.pl j) → e[j]? = some (.own d) → j ∈ ownIx os e
  | .val _ :: os, e, 0, j, d, h, q => by simp at h
  | .pl k :: os, e, 0, j, d, h, q => by simp at h; subst h; unfold ownIx; rw [q]; exact List.mem_cons_self
  | .val _ :: os, e, i + 1, j, d, h, q => by unfold ownIx; exact ownIx_mem (i := i) (by simpa using h) q
  | .pl k :: os, e, i + 1, j, d, h, q => by
    unfold ownIx
    have z := ownIx_mem (os := os) (i := i) (by simpa using h) q
    split
    · exact List.mem_cons_of_mem _ z
    · exact z
  | [], _, _, _, _, h, _ => by simp at h
theorem ownIx_inj : ∀ {os : List Opd} {e : Fr} {i i' j : Nat} {d : PV}, (ownIx os e).Nodup → os[i]? = some (.pl j) → os[i']? = some (.pl j) → e[j]? = some (.own d) → i = i'
  | [], _, _, _, _, _, _, h, _, _ => by simp at h
  | o :: os, e, 0, 0, j, d, nd, h, h', q => rfl
  | o :: os, e, 0, i' + 1, j, d, nd, h, h', q => by
    simp at h; subst h
    unfold ownIx at nd
    rw [q] at nd
    exact absurd (ownIx_mem (os := os) (i := i') (by simpa using h') q) (List.nodup_cons.mp nd).1
  | o :: os, e, i + 1, 0, j, d, nd, h, h', q => by
    simp at h'; subst h'
    unfold ownIx at nd
    rw [q] at nd
    exact absurd (ownIx_mem (os := os) (i := i) (by simpa using h) q) (List.nodup_cons.mp nd).1
  | o :: os, e, i + 1, i' + 1, j, d, nd, h, h', q => by
    have nd' : (ownIx os e).Nodup := by
      cases o with
      | val _ => exact nd
      | pl k =>
        unfold ownIx at nd
        split at nd
        · exact (List.nodup_cons.mp nd).2
        · exact nd
    rw [ownIx_inj (os := os) (i := i) (i' := i') nd' (by simpa using h) (by simpa using h') q]
theorem putA_spec : ∀ {os : List Opd} {as : List Sl} {e0 e e2 : Fr}, putA os as e0 e = some e2 → os.length = as.length → e.length = e0.length → e2.length = e.length ∧
    ∀ (j : Nat), (∃ (i : Nat) (d d' : PV), os[i]? = some (.pl j) ∧ as[i]? = some (.own d') ∧ e0[j]? = some (.own d) ∧ e2[j]? = some (.own d')) ∨ ((∀ (i : Nat) d, os[i]? = some (.pl j) → e0[j]? ≠ some (.own d)) ∧ e2[j]? = e[j]?)
  | [], as, e0, e, e2, h, _, _ => by
    cases as with
    | nil => simp [putA] at h; subst h; exact ⟨rfl, fun j => .inr ⟨fun i d z => by simp at z, rfl⟩⟩
    | cons _ _ => simp [putA] at h; subst h; exact ⟨rfl, fun j => .inr ⟨fun i d z => by simp at z, rfl⟩⟩
  | _ :: _, [], _, _, _, _, hl, _ => by simp at hl
  | .val v :: os, s :: as, e0, e, e2, h, hl, hl2 => by
    unfold putA at h
    obtain ⟨h1, h2⟩ := putA_spec h (by simpa using hl) hl2
    refine ⟨h1, fun j => ?_⟩
    rcases h2 j with ⟨i, d, d', a, b, c, f⟩ | ⟨n, q⟩
    · exact .inl ⟨i + 1, d, d', by simpa using a, by simpa using b, c, f⟩
    · refine .inr ⟨fun i d z => ?_, q⟩
      cases i with
      | zero => simp at z
      | succ i => exact n i d (by simpa using z)
  | .pl k :: os, s :: as, e0, e, e2, h, hl, hl2 => by
    unfold putA at h
    split at h
    · rename_i dk hk
      cases s with
      | own d' =>
        dsimp only at h
        obtain ⟨h1, h2⟩ := putA_spec h (by simpa using hl) (by simpa using hl2)
        have hkl : k < e.length := by rw [hl2]; exact (List.getElem?_eq_some_iff.mp hk).1
        refine ⟨by simpa using h1, fun j => ?_⟩
        rcases h2 j with ⟨i, d, d', a, b, c, f⟩ | ⟨n, q⟩
        · exact .inl ⟨i + 1, d, d', by simpa using a, by simpa using b, c, f⟩
        · by_cases hj : k = j
          · subst hj
            rw [List.getElem?_set_self hkl] at q
            exact .inl ⟨0, dk, d', rfl, rfl, hk, q⟩
          · rw [List.getElem?_set_ne hj] at q
            refine .inr ⟨fun i d z => ?_, q⟩
            cases i with
            | zero => simp at z; exact absurd z hj
            | succ i => exact n i d (by simpa using z)
      | fz _ => cases h
      | un => cases h
    · rename_i hk
      obtain ⟨h1, h2⟩ := putA_spec h (by simpa using hl) hl2
      refine ⟨h1, fun j => ?_⟩
      rcases h2 j with ⟨i, d, d', a, b, c, f⟩ | ⟨n, q⟩
      · exact .inl ⟨i + 1, d, d', by simpa using a, by simpa using b, c, f⟩
      · refine .inr ⟨fun i d z => ?_, q⟩
        cases i with
        | zero => simp at z; subst z; exact fun zz => hk _ zz
        | succ i => exact n i d (by simpa using z)

section
variable {K : PySem.W.Frag} {np : Nat} {P : Addr → Prop} {B : List (Nat × Addr)} {H0 H H' : Hp} {e e2 : Fr} {σ : L2.St} {os : List Opd} {as as' : List Sl} {vs : List V} {Z : Addr → Prop}
theorem os_get {i : Nat} {o : Opd} (r : rOs K Z os e σ H vs) (h : os[i]? = some o) : ∃ v, vs[i]? = some v ∧ rO K Z o e σ H v := by
  have r' : Paired (fun o v => rO K Z o e σ H v) os vs := r
  clear r
  induction r' generalizing i with
  | nil => simp at h
  | cons a b ih =>
    cases i with
    | zero => simp at h; subst h; exact ⟨_, rfl, a⟩
    | succ i => simpa using ih (i := i) (by simpa using h)
theorem os_len (r : rOs K Z os e σ H vs) : os.length = vs.length := Paired.length r
theorem ai_of (I : VI K np P B H0 e σ H) (r : rOs K Z os e σ H vs) (g : getA os e = some as) (nd : (ownIx os e).Nodup) : AI K H vs as as H := by
  have hl : as.length = vs.length := (getA_len g).trans (os_len r)
  have own : ∀ (i : Nat) d, as[i]? = some (.own d) → ∃ (j : Nat) (a : Addr), os[i]? = some (.pl j) ∧ e[j]? = some (.own d) ∧ vs[i]? = some (.ref a) ∧ σ[j]? = some (some (.ref a)) ∧ Ow K H a d := fun i d q => by
    obtain ⟨o, h1, h2⟩ := getA_get g q
    cases o with
    | val d' => simp [slO] at h2
    | pl j =>
      obtain ⟨v, h3, h4⟩ := os_get r h1
      unfold slO at h2
      dsimp only at h2
      split at h2
      · cases h2
      · rename_i d' hj
        cases h2
        obtain ⟨a, x, y, _⟩ := I.ow j d hj
        have h5 := h4.1
        rw [x] at h5; cases h5
        exact ⟨j, a, h1, hj, h3, x, y⟩
      · cases h2
  refine ⟨by simpa using hl, fun i d q => ?_, fun i d q => ?_, fun i j d d' a q1 q2 s1 s2 => ?_, fun i a q => (by cases q), fun b o q _ => q, fun b o q => ⟨o, q⟩⟩
  · obtain ⟨o, h1, h2⟩ := getA_get g q
    obtain ⟨v, h3, h4⟩ := os_get r h1
    refine ⟨v, by rw [List.getElem?_map, h3]; rfl, ?_⟩
    cases o with
    | val d' => simp [slO] at h2; subst h2; exact h4
    | pl j =>
      unfold slO at h2
      dsimp only at h2
      split at h2
      · rename_i d' hj
        cases h2
        obtain ⟨v', x, y⟩ := I.fz j d hj
        have h5 := h4.1
        rw [x] at h5; cases h5
        exact y
      · cases h2
      · cases h2
  · obtain ⟨j, a, h1, h2, h3, h4, h5⟩ := own i d q
    exact ⟨a, by rw [List.getElem?_map, h3]; rfl, h5, .inl ⟨i, d, q, by rw [List.getElem?_map, h3]; rfl⟩⟩
  · obtain ⟨k, b, h1, h2, h3, h4, _⟩ := own i d q1
    obtain ⟨k', b', h1', h2', h3', h4', _⟩ := own j d' q2
    rw [List.getElem?_map, h3] at s1; cases s1
    rw [List.getElem?_map, h3'] at s2; cases s2
    have e := I.dj k k' _ _ _ h2 h2' h4 h4'
    subst e
    exact ownIx_inj nd h1 h1' h2
theorem ai_back (I : VI K np P B H0 e σ H) (r : rOs K Z os e σ H vs) (g : getA os e = some as) (nd : (ownIx os e).Nodup) (J : AI K H vs as as' H') (l : HLe H H') (hp : putA os as' e e = some e2) : VI K np P B H0 e2 σ H' := by
  have hl : as.length = vs.length := (getA_len g).trans (os_len r)
  have hl' : as'.length = vs.length := by simpa using J.len
  obtain ⟨pl, ps⟩ := putA_spec hp ((os_len r).trans hl'.symm) rfl
  -- an owner of the callee's is a slot of ours that was handed on
  have owner : ∀ b, Owned as (vs.map some) b → ∃ (i j : Nat) (d : PV), os[i]? = some (.pl j) ∧ e[j]? = some (.own d) ∧ σ[j]? = some (some (.ref b)) := fun b ⟨i, d, q, z⟩ => by
    obtain ⟨o, h1, h2⟩ := getA_get g q
    obtain ⟨v, h3, h4⟩ := os_get r h1
    rw [List.getElem?_map, h3] at z; cases z
    cases o with
    | val d' => simp [slO] at h2
    | pl j =>
      unfold slO at h2
      dsimp only at h2
      split at h2
      · cases h2
      · rename_i d' hj; exact ⟨i, j, d', h1, hj, h4.1⟩
      · cases h2
  have key : ∀ (j : Nat) d, e2[j]? = some (.own d) → ∃ d0 a, e[j]? = some (.own d0) ∧ σ[j]? = some (some (.ref a)) ∧ Ow K H' a d ∧ (P a ∨ H0 a = none) := fun j d q => by
    rcases ps j with ⟨i, d0, d', h1, h2, h3, h4⟩ | ⟨n, h⟩
    · rw [h4] at q; cases q
      obtain ⟨a, x, y, z⟩ := I.ow j d0 h3
      obtain ⟨v, h5, h6⟩ := os_get r h1
      have h7 := h6.1
      rw [x] at h7; cases h7
      obtain ⟨a', x', y', _⟩ := J.ow i _ h2
      rw [List.getElem?_map, h5] at x'; cases x'
      exact ⟨d0, a, h3, x, y', z⟩
    · rw [h] at q
      obtain ⟨a, x, y, z⟩ := I.ow j d q
      refine ⟨d, a, q, x, y.le l ?_, z⟩
      obtain ⟨u, hu, _⟩ := y.at
      rw [hu]
      refine J.keep a u hu fun w => ?_
      obtain ⟨i, j', d', h1, h2, h3⟩ := owner a w
      have e := I.dj j j' _ _ _ q h2 x h3
      subst e
      exact n i d' h1 h2
  refine ⟨pl.trans I.len, fun j d q => ?_, fun j d q => ?_, fun j k d d' a q1 q2 s1 s2 => ?_, fun j a q => ?_, fun b o q n => ?_, fun b o q => ?_⟩
  · rcases ps j with ⟨i, d0, d', h1, h2, h3, h4⟩ | ⟨n, h⟩
    · rw [h4] at q; cases q
    · rw [h] at q
      obtain ⟨v, x, y⟩ := I.fz j d q
      exact ⟨v, x, y.le l⟩
  · obtain ⟨d0, a, _, h2, h3, h4⟩ := key j d q
    exact ⟨a, h2, h3, h4⟩
  · obtain ⟨d0, _, h1, _⟩ := key j d q1
    obtain ⟨d1, _, h2, _⟩ := key k d' q2
    exact I.dj j k _ _ a h1 h2 s1 s2
  · obtain ⟨h1, h2, d, h3⟩ := I.pin j a q
    refine ⟨h1, h2, ?_⟩
    rcases ps j with ⟨i, d0, d', _, _, _, h4⟩ | ⟨n, h⟩
    · exact ⟨d', h4⟩
    · exact ⟨d, by rw [h]; exact h3⟩
  · refine J.keep b o (I.keep b o q n) fun w => ?_
    obtain ⟨i, j', d', h1, h2, h3⟩ := owner b w
    obtain ⟨a, x, _, z⟩ := I.ow j' d' h2
    rw [h3] at x; cases x
    rcases z with z | z
    · exact n z
    · rw [q] at z; cases z
  · obtain ⟨o', q'⟩ := I.al b o q
    exact l.alive b o' q'
end

/-- the call of a def that is mf -/
def mCall (mf : MF) (mos : Mo (List Opd)) : Mo Sl := mB mos fun os e => match getA os e with
  | none => .stuck
  | some as => if (ownIx os e).Nodup then match mf as with
      | .ret s as' => match putA os as' e e with
        | some e2 => .ok s e2
        | none => .stuck
      | .exc C ds as' => match putA os as' e e with
        | some e2 => .exc C ds e2
        | none => .stuck
      | .stuck => .stuck
    else .stuck
section
variable {X : Cx} {np : Nat} {W : WX} {a b c : Expr} {pos : Pos}
abbrev JAO (X : Cx) (np : Nat) (W : WX) (es : List Expr) (m : Mo (List Opd)) : Prop := PA X es (tG X.K np W (rOs X.K) m)
def mNilO : Mo (List Opd) := mR []
def mConsO (m : Mo Opd) (r : Mo (List Opd)) : Mo (List Opd) := mB m fun d => mB r fun ds => mR (d :: ds)
theorem jao_nil : JAO X np W [] mNilO := PAi pa_nil fun σ H Q ⟨P, B, H0, e, I, h⟩ => h [] H I .nil (.refl H)
theorem rO.ne {K : PySem.W.Frag} {Z Z' : Addr → Prop} {o : Opd} {v : V} {e e' : Fr} {σ : L2.St} {H H' : Hp} (l : HLe H H') (r : rO K Z o e σ H v) (h : NE e e') : rO K Z' o e' σ H' v := by
  cases o with
  | val d => exact Fz.le l r
  | pl i => obtain ⟨h1, s, h2, h3⟩ := r; exact ⟨h1, h i s h2 h3⟩
/-- operands in a row; the later ones leave no slot of the earlier ones empty -/
def neB (o : Opd) (e : Fr) : Bool := match o with
  | .val _ => true
  | .pl i => match e[i]? with
    | some (.fz _) => true
    | some (.own _) => true
    | _ => false
def mConsO' (m : Mo Opd) (r : Mo (List Opd)) : Mo (List Opd) := mB m fun d => mB r fun ds e => if neB d e then .ok (d :: ds) e else .stuck
theorem jao_cons {e : Expr} {es : List Expr} {m : Mo Opd} {r : Mo (List Opd)} (ha : JO X np W e m) (hr : JAO X np W es r) (hs : starEach (e :: es) X.env = (false, eval e X.env) :: starEach es X.env := by rfl) : JAO X np W (e :: es) (mConsO' m r) := by
  refine PAi (pa_cons ha hr hs) fun σ H Q h => tG.bind h fun P B H0 x e1 v H1 I r l h => ?_
  refine tG.bind (tG.of I h) fun P B H0 y e2 u H2 I2 r2 l2 h => ?_
  by_cases hn : neB x e2 = true
  · rw [if_pos hn] at h
    refine h _ H2 I2 (.cons ?_ r2) (.refl _)
    cases x with
    | val d => exact Fz.le l2 r
    | pl i =>
      refine ⟨r.1, ?_⟩
      unfold neB at hn
      dsimp only at hn
      split at hn
      · rename_i d hd; exact ⟨_, hd, by simp⟩
      · rename_i d hd; exact ⟨_, hd, by simp⟩
      · cases hn
  · rw [if_neg hn] at h; exact h.elim
theorem putA_own {os : List Opd} {as : List Sl} {e e2 : Fr} (h : putA os as e e = some e2) (hl : os.length = as.length) {j : Nat} {d : PV} (q : e2[j]? = some (.own d)) : ∃ d0, e[j]? = some (.own d0) := by
  rcases (putA_spec h hl rfl).2 j with ⟨i, d0, d', _, _, h3, _⟩ | ⟨_, h⟩
  · exact ⟨d0, h3⟩
  · exact ⟨d, by rw [← h]; exact q⟩
/-- f(e, ..), f a def of the text -/
theorem js_call {mf : MF} {mos : Mo (List Opd)} {n k : Nat} {f : Addr} {fd : FuncData} {ps : List Str} {x : Str} {p : Pos} {es : List Expr} {e : Expr} (hW : Takes X W) (F : FnOk X.prog X.w X.K X.mg X.base (L2.CX X.prog X.w) k f fd ps (spF X.K n mf)) (hr : Room k X.A)
    (hm : X.mg x = some (.ref f)) (hk : PySem.W.keepIn X.K (.ref f) = true) (hb : Binds X.K fd ps []) (ha : JAO X np W (e :: es) mos) (hn : (e :: es).length = n := by rfl) (hlen : ∀ e e' os, mos e = .ok os e' → os.length = n) (hg : Gl X x := by rfl)
    (hdb : (x == ("__debug__" : Str)) = false := by decide) (he : starEach (e :: es) X.env = (false, eval e X.env) :: starEach es X.env := by rfl) (hpl : (backTo pos (starEach es X.env)).any (·.1) = false := by rfl) :
    JS X np W (.Call (.Name x p) (e :: es) [] pos) (mCall mf mos) := by
  refine PEi (pe_callSD (dvs := []) (E := WE W) F hr hg hm hk hb .nil (fun σ => passAt hW σ) ha hdb he hpl) fun σ H Q h => ?_
  obtain ⟨P, B, H0, e0, I0, h⟩ := h
  refine ⟨P, B, H0, e0, I0, ?_⟩
  unfold mCall mB at h
  generalize hos : mos e0 = o at h ⊢
  cases o with
  | stuck => exact h
  | exc C ds e1 => exact h
  | ok os e1 =>
    intro vs H1 I1 r1 l1
    rw [List.append_nil]
    dsimp only at h
    generalize hg : getA os e1 = ga at h
    cases ga with
    | none => exact h.elim
    | some as =>
      dsimp only at h
      by_cases hnd : (ownIx os e1).Nodup
      case neg => rw [if_neg hnd] at h; exact h.elim
      rw [if_pos hnd] at h
      refine ⟨as, (getA_len hg).trans (hlen _ _ _ hos), ai_of I1 r1 hg hnd, ?_⟩
      generalize hmf : mf as = om at h ⊢
      cases om with
      | stuck => exact h.elim
      | ret s as' =>
        intro v H2 J rf l2
        dsimp only at h
        generalize hp : putA os as' e1 e1 = op at h
        cases op with
        | none => exact h.elim
        | some e2 =>
          have I2 := ai_back I1 r1 hg hnd J l2 hp
          refine h v H2 I2 ?_ (l1.trans l2)
          cases s with
          | un => exact rf.elim
          | fz d => exact rf
          | own d =>
            obtain ⟨b, rfl, ow, hn0⟩ := rf
            refine ⟨b, rfl, ow, .inr (I1.fresh hn0), fun j d' q z => ?_⟩
            have hl1 : os.length = as'.length := (os_len r1).trans (by simpa using J.len.symm)
            obtain ⟨d0, q0⟩ := putA_own hp hl1 q
            obtain ⟨b', x', y', z'⟩ := I1.ow j d0 q0
            rw [z] at x'; cases x'
            obtain ⟨u, hu, _⟩ := y'.at
            rw [hn0] at hu; cases hu
      | exc C ds as' =>
        intro xd H2 J rf l2
        dsimp only at h
        generalize hp : putA os as' e1 e1 = op at h
        cases op with
        | none => exact h.elim
        | some e2 => exact h xd H2 (ai_back I1 r1 hg hnd J l2 hp) rf (l1.trans l2)
end
end VS

set_option Elab.async false
set_option linter.all false
set_option maxRecDepth 100000
set_option maxHeartbeats 1000000
/-! VS8: the operations. -/
namespace VS
open PySem L2 PyProof.Rows

mutual
/-- as data; a thing that is none becomes a dict -/
def PV.toD : PV → PyData
  | .non => .none
  | .bl b => .bool b
  | .int i => .int i
  | .str x => .str x
  | .tup xs => .tuple (toDs xs)
  | .lst xs => .list (toDs xs)
  | .scr _ => .dict []
  | .obj _ _ => .dict []
  | .ad _ => .dict []
  | .any => .dict []
  | .dk _ => .dict []
  | .dt _ => .dict []
  | .ktp xs => .tuple (toDs xs)
def toDs : List PV → List PyData
  | [] => []
  | x :: xs => x.toD :: toDs xs
end
theorem toDs_map : ∀ xs : List PV, toDs xs = xs.map PV.toD
  | [] => rfl
  | x :: xs => by rw [toDs, toDs_map xs]; rfl
mutual
theorem Fz.dp {K : PySem.W.Frag} {H : Hp} : ∀ (d : PV) (v : V), Fz K H v d → d.toD.canLay0 = true → Dp K H v d.toD
  | .non, _, h, _ => by cases h; exact .non
  | .bl b, _, h, _ => by cases h; exact .bl b
  | .int i, _, h, _ => by cases h; exact .int i
  | .str i, _, h, _ => by cases h; exact .str i
  | .tup xs, _, h, c => by
    cases h with | tup h1 h2 => exact .tup (SqT.of h1) (FzA.dp xs _ h2 (by simpa [PV.toD, PyData.canLay0] using c))
  | .lst xs, _, h, c => by
    cases h with | lst h1 h2 => exact .lst h1.sq (FzA.dp xs _ h2 (by simpa [PV.toD, PyData.canLay0] using c))
  | .scr _, _, _, c => by simp [PV.toD, PyData.canLay0] at c
  | .obj _ _, _, _, c => by simp [PV.toD, PyData.canLay0] at c
  | .ad _, _, _, c => by simp [PV.toD, PyData.canLay0] at c
  | .any, _, _, c => by simp [PV.toD, PyData.canLay0] at c
  | .dk _, _, _, c => by simp [PV.toD, PyData.canLay0] at c
  | .dt _, _, _, c => by simp [PV.toD, PyData.canLay0] at c
  | .ktp xs, _, h, c => by
    cases h with | ktp h1 h2 => exact .tup (.inr h1) (FzA.dp xs _ h2 (by simpa [PV.toD, PyData.canLay0] using c))
theorem FzA.dp {K : PySem.W.Frag} {H : Hp} : ∀ (ds : List PV) (vs : List V), FzA K H vs ds → PyData.canLayAll0 (toDs ds) = true → DpAll K H vs (toDs ds)
  | [], _, h, _ => by cases h; exact .nil
  | d :: ds, _, h, c => by
    cases h with
    | cons h1 h2 =>
      have c' : (d.toD.canLay0 && PyData.canLayAll0 (toDs ds)) = true := c
      rw [Bool.and_eq_true] at c'
      exact .cons (Fz.dp d _ h1 c'.1) (FzA.dp ds _ h2 c'.2)
end
theorem Rr.dp {K : PySem.W.Frag} {H : Hp} {v : V} {d : PV} (h : Rr K H v d) (c : d.toD.canLay0 = true) : Dp K H v d.toD := by
  rcases h with h | ⟨a, rfl, h⟩
  · exact h.dp d v c
  · cases d with
    | lst ds =>
      obtain ⟨xs, h1, h2⟩ := h
      exact .lst (SqL.of h1) (FzA.dp ds xs h2 (by simpa [PV.toD, PyData.canLay0] using c))
    | obj _ _ => simp [PV.toD, PyData.canLay0] at c
    | dk _ => simp [PV.toD, PyData.canLay0] at c
    | dt _ => simp [PV.toD, PyData.canLay0] at c
    | _ => exact h.elim
/-- plain data of little depth -/
def okD (d : PV) : Bool := SeqAt.shaped d.toD
theorem okD.lay {d : PV} (h : okD d = true) : d.toD.canLay0 = true := SeqAt.canLay_of_shaped h

section
variable {K : PySem.W.Frag}
theorem Res.int {H : Hp} {i : Int} {Q : VK} (h : Res K H (.fz (.int i)) Q) : Q (.int i) H := h _ H (fun _ _ z => z) (.int i)
theorem Res.bl {H : Hp} {i : Bool} {Q : VK} (h : Res K H (.fz (.bl i)) Q) : Q (.bl i) H := h _ H (fun _ _ z => z) (.bl i)
theorem Res.str {H : Hp} {i : Str} {Q : VK} (h : Res K H (.fz (.str i)) Q) : Q (.str i) H := h _ H (fun _ _ z => z) (.str i)
theorem Res.non {H : Hp} {Q : VK} (h : Res K H (.fz .non) Q) : Q .non H := h _ H (fun _ _ z => z) .non

/-! ints -/
def fI (C : Int → Int → Bool) (g : Int → Int → PV) : PV → PV → Option Sl := fun x y => match x, y with
  | .int i, .int j => if C i j then some (.fz (g i j)) else none
  | _, _ => none
theorem f2I {C : Int → Int → Prop} {C' : Int → Int → Bool} {g : Int → Int → V} {g' : Int → Int → PV} (hC : ∀ i j, C' i j = true → C i j) (hg : ∀ H i j, Fz K H (g i j) (g' i j)) : F2 K (L2.rI C g) (fI C' g') := by
  intro H x y d1 d2 s Q r1 r2 h _ q
  unfold fI at h
  split at h
  · rename_i i j
    split at h
    · rename_i hc
      cases h
      exact ⟨i, j, r1.int, r2.int, hC i j hc, q _ H (fun _ _ z => z) (hg H i j)⟩
    · cases h
  · cases h
theorem f2I0 {g : Int → Int → V} {g' : Int → Int → PV} (hg : ∀ H i j, Fz K H (g i j) (g' i j)) : F2 K (rI0 g) (fI (fun _ _ => true) g') := by
  intro H x y d1 d2 s Q r1 r2 h _ q
  unfold fI at h
  split at h
  · rename_i i j
    rw [if_pos rfl] at h
    cases h
    exact ⟨i, j, r1.int, r2.int, q _ H (fun _ _ z => z) (hg H i j)⟩
  · cases h
def fSub := fI (fun _ _ => true) fun i j => .int (i - j)
theorem f2_sub : F2 K (rI0 fun i j => .int (i - j)) fSub := f2I0 fun _ _ _ => .int _
def mulB (i j : Int) : Bool := (decide (-(2 ^ 64) < i) && decide (i < 2 ^ 64)) || (decide (-(2 ^ 64) < j) && decide (j < 2 ^ 64))
def fMul := fI mulB fun i j => .int (i * j)
theorem f2_mul : F2 K (L2.rI CMul fun i j => .int (i * j)) fMul := f2I (fun i j h => by
  unfold mulB at h
  rw [Bool.or_eq_true, Bool.and_eq_true, Bool.and_eq_true, decide_eq_true_eq, decide_eq_true_eq, decide_eq_true_eq, decide_eq_true_eq] at h
  exact h) fun _ _ _ => .int _
def fDiv := fI (fun _ j => decide (0 < j) && decide (j < 1073741824)) fun i j => .int (i / j)
theorem f2_div : F2 K (L2.rI CDiv fun i j => .int (i / j)) fDiv := f2I (fun i j h => by
  rw [Bool.and_eq_true, decide_eq_true_eq, decide_eq_true_eq] at h; exact h) fun _ _ _ => .int _
def fMod := fI (fun _ j => decide (0 < j)) fun i j => .int (i % j)
theorem f2_mod : F2 K (L2.rI (fun _ j => 0 < j) fun i j => .int (i % j)) fMod := f2I (fun i j h => by
  rw [decide_eq_true_eq] at h; exact h) fun _ _ _ => .int _
def fAnd := fI (fun _ _ => true) fun i j => .int (Builtin.bitAnd i j)
theorem f2_and : F2 K (rI0 fun i j => .int (Builtin.bitAnd i j)) fAnd := f2I0 fun _ _ _ => .int _
def fShr := fI (fun _ j => decide (0 ≤ j)) fun i j => .int (i / 2 ^ j.toNat)
theorem f2_shr : F2 K (L2.rI (fun _ j => 0 ≤ j) fun i j => .int (i / 2 ^ j.toNat)) fShr := f2I (fun i j h => by
  rw [decide_eq_true_eq] at h; exact h) fun _ _ _ => .int _
def fPow := fI (fun i j => decide (0 ≤ j) && decide (j ≤ 1000000) && decide (i.natAbs < 2 ^ 64)) fun i j => .int (i ^ j.toNat)
theorem f2_pow : F2 K (L2.rI CPow fun i j => .int (i ^ j.toNat)) fPow := f2I (fun i j h => by
  rw [Bool.and_eq_true, Bool.and_eq_true, decide_eq_true_eq, decide_eq_true_eq, decide_eq_true_eq] at h; exact ⟨h.1.1, h.1.2, h.2⟩) fun _ _ _ => .int _
def fLt := fI (fun _ _ => true) fun i j => .bl (decide (i < j))
theorem f2_lt : F2 K (rI0 fun i j => .bl (decide (i < j))) fLt := f2I0 fun _ _ _ => .bl _
def fLe := fI (fun _ _ => true) fun i j => .bl (decide (i ≤ j))
theorem f2_le : F2 K (rI0 fun i j => .bl (decide (i ≤ j))) fLe := f2I0 fun _ _ _ => .bl _
def fGt := fI (fun _ _ => true) fun i j => .bl (decide (j < i))
theorem f2_gt : F2 K (rI0 fun i j => .bl (decide (j < i))) fGt := f2I0 fun _ _ _ => .bl _
def fGe := fI (fun _ _ => true) fun i j => .bl (decide (j ≤ i))
theorem f2_ge : F2 K (rI0 fun i j => .bl (decide (j ≤ i))) fGe := f2I0 fun _ _ _ => .bl _

/-! + -/
def rCatR : R2 := fun x y H Q => ∃ l b xs zs, x = .ref l ∧ y = .ref b ∧ Rd H l (.lst xs) ∧ Rd H b (.lst zs) ∧ xs.length + zs.length ≤ sizeLine ∧ ∀ p, H p = none → Q (.ref p) (upd H p (.lst (xs ++ zs)))
theorem rd_lst {X : Cx} {pins : List (Addr × Obj)} {σ : L2.St} {H : Hp} {s : Shared} {l : Addr} {xs : List V} (I : Inv X pins σ H s) (h : Rd H l (.lst xs)) : xs.length ≤ sizeLine ∧ ∃ (its : List Value) (n : Nat), Vals xs its ∧ s.heap.get? l = some { cls := .type "list", data := .seq its.toArray n } := by
  obtain ⟨z, its, n, r, e⟩ := h.ok I.hok
  exact ⟨z, its, n, r, e⟩
theorem op_catR {X : Cx} : OpR X (binaryOp .Add) rCatR := by
  intro pins s σ H x y v u Q I rx ry h
  obtain ⟨l, b, xs, zs, rfl, rfl, hH, hB, hz, q⟩ := h
  cases rx
  cases ry
  obtain ⟨z, its, n, r, e⟩ := rd_lst I hH
  obtain ⟨z2, its2, n2, r2, e2⟩ := rd_lst I hB
  have h1 := r.length
  have h2 := r2.length
  refine PySem.P.add_list e e2 ?_ (by rw [List.size_toArray, List.size_toArray]; omega)
  have ea : its.toArray ++ its2.toArray = (its ++ its2).toArray := by simp
  rw [ea]
  exact ⟨.ref _, _, I.lnew (t' := s.toks) (r.append r2) (by rw [List.length_append]; omega), rfl, q _ I.fresh⟩
def fAdd : PV → PV → Option Sl := fun x y => match x, y with
  | .int i, .int j => some (.fz (.int (i + j)))
  | .str i, .str j => if i.length + j.length ≤ sizeLine then some (.fz (.str (i ++ j))) else none
  | .tup xs, .tup ys => if xs.length + ys.length ≤ sizeLine then some (.fz (.tup (xs ++ ys))) else none
  | .lst xs, .lst ys => if xs.length + ys.length ≤ sizeLine then some (.own (.lst (xs ++ ys))) else none
  | _, _ => none
def rAddV (K : PySem.W.Frag) : R2 := fun x y H Q => (∃ i j, x = .int i ∧ y = .int j ∧ Q (.int (i + j)) H) ∨ (∃ i j, x = .str i ∧ y = .str j ∧ i.length + j.length ≤ sizeLine ∧ Q (.str (i ++ j)) H) ∨ rCatA K x y H Q ∨ rCatR x y H Q
theorem op_addV {X : Cx} : OpR X (binaryOp .Add) (rAddV X.K) := OpR.or op_add (OpR.or op_add_str (OpR.or op_catA op_catR))
theorem f2_add : F2 K (rAddV K) fAdd := by
  intro H x y d1 d2 s Q r1 r2 h _ q
  unfold fAdd at h
  split at h
  · cases h; exact .inl ⟨_, _, r1.int, r2.int, q.int⟩
  · split at h
    · rename_i hz; cases h; exact .inr (.inl ⟨_, _, r1.str, r2.str, hz, q.str⟩)
    · cases h
  · rename_i xs ys
    split at h
    · rename_i hz
      cases h
      obtain ⟨a, vs, e1, h1, h2⟩ := r1.tupE
      obtain ⟨b, ws, e2, h3, h4⟩ := r2.tupE
      refine .inr (.inr (.inl ⟨a, b, vs, ws, e1, e2, SqT.of h1, SqT.of h3, by rw [h2.length, h4.length]; exact hz, fun e => ?_, fun n e => ?_, fun n1 n2 p hp => ?_⟩))
      · subst e; cases h2
        exact q _ H (fun _ _ z => z) (.tup h3 h4)
      · subst e; cases h4
        rw [List.append_nil] at q
        exact q _ H (fun _ _ z => z) (.tup h1 h2)
      · exact q _ _ (fun b u z => by rw [upd_ne (ne_of_none z hp)]; exact z) (.tup upd_same (FzA.le (.alloc hp) (h2.append h4)))
    · cases h
  · rename_i xs ys
    split at h
    · rename_i hz
      cases h
      obtain ⟨a, vs, e1, h1, h2⟩ := r1.lstR
      obtain ⟨b, ws, e2, h3, h4⟩ := r2.lstR
      refine .inr (.inr (.inr ⟨a, b, vs, ws, e1, e2, h1, h3, by rw [h2.length, h4.length]; exact hz, fun p hp => ?_⟩))
      exact q _ _ (fun b u z => by rw [upd_ne (ne_of_none z hp)]; exact z) ⟨_, upd_same, FzA.le (.alloc hp) (h2.append h4)⟩ hp
    · cases h
  · cases h

/-! ==, in, is -/
def fEq : PV → PV → Option Sl := fun x y => if okD x && okD y then some (.fz (.bl (PyData.eqv x.toD y.toD))) else none
def fNe : PV → PV → Option Sl := fun x y => if okD x && okD y then some (.fz (.bl (!PyData.eqv x.toD y.toD))) else none
theorem f2_eq : F2 K (rEqD K) fEq := by
  intro H x y d1 d2 s Q r1 r2 h _ q
  unfold fEq at h
  split at h
  · rename_i hc
    rw [Bool.and_eq_true] at hc
    cases h
    exact ⟨_, _, r1.dp (okD.lay hc.1), r2.dp (okD.lay hc.2), hc.1, hc.2, q.bl⟩
  · cases h
theorem f2_ne : F2 K (rNeD K) fNe := by
  intro H x y d1 d2 s Q r1 r2 h _ q
  unfold fNe at h
  split at h
  · rename_i hc
    rw [Bool.and_eq_true] at hc
    cases h
    exact ⟨_, _, r1.dp (okD.lay hc.1), r2.dp (okD.lay hc.2), hc.1, hc.2, q.bl⟩
  · cases h
def rInT (K : PySem.W.Frag) : R2 := fun x y H Q => ∃ d ds, Dp K H x d ∧ Dp K H y (.tuple ds) ∧ SeqAt.shaped d = true ∧ SeqAt.shaped (.tuple ds) = true ∧ Q (.bl (ds.any fun z => PyData.eqv z d)) H
def rNotInT (K : PySem.W.Frag) : R2 := fun x y H Q => ∃ d ds, Dp K H x d ∧ Dp K H y (.tuple ds) ∧ SeqAt.shaped d = true ∧ SeqAt.shaped (.tuple ds) = true ∧ Q (.bl (!ds.any fun z => PyData.eqv z d)) H
theorem op_inT {X : Cx} (hu : X.A.units + 65 < cLine) : OpR X (compareOp .In) (rInT X.K) := by
  intro pins s σ H x y v u Q I rx ry h
  obtain ⟨d, ds, hd, he, sd, se, q⟩ := h
  obtain ⟨as, r1⟩ := Dp.reads I d x v hd rx
  obtain ⟨bs, r2⟩ := Dp.reads I (.tuple ds) y u he ry
  exact SeqAt.in_tuple_reads r2 r1 (SeqAt.canLay_of_shaped se) (SeqAt.canLay_of_shaped sd) (room_in_shaped sd hu) ⟨.bl _, H, I, rfl, q⟩
theorem op_notInT {X : Cx} (hu : X.A.units + 65 < cLine) : OpR X (compareOp .NotIn) (rNotInT X.K) := by
  intro pins s σ H x y v u Q I rx ry h
  obtain ⟨d, ds, hd, he, sd, se, q⟩ := h
  obtain ⟨as, r1⟩ := Dp.reads I d x v hd rx
  obtain ⟨bs, r2⟩ := Dp.reads I (.tuple ds) y u he ry
  exact SeqAt.notIn_tuple_reads r2 r1 (SeqAt.canLay_of_shaped se) (SeqAt.canLay_of_shaped sd) (room_in_shaped sd hu) ⟨.bl _, H, I, rfl, q⟩
def inD (x : PV) (ds : List PV) : Bool := ds.any fun z => PyData.eqv z.toD x.toD
theorem inD_eq (x : PV) (ds : List PV) : (toDs ds).any (fun z => PyData.eqv z x.toD) = inD x ds := by rw [toDs_map, List.any_map]; rfl
def fIn : PV → PV → Option Sl := fun x y => match y with
  | .lst ds => if okD x && okD y then some (.fz (.bl (inD x ds))) else none
  | .tup ds => if okD x && okD y then some (.fz (.bl (inD x ds))) else none
  | .ktp ds => if okD x && okD y then some (.fz (.bl (inD x ds))) else none
  | _ => none
def fNotIn : PV → PV → Option Sl := fun x y => match y with
  | .lst ds => if okD x && okD y then some (.fz (.bl (!inD x ds))) else none
  | .tup ds => if okD x && okD y then some (.fz (.bl (!inD x ds))) else none
  | .ktp ds => if okD x && okD y then some (.fz (.bl (!inD x ds))) else none
  | _ => none
def rInV (K : PySem.W.Frag) : R2 := fun x y H Q => rInD K x y H Q ∨ rInT K x y H Q
def rNotInV (K : PySem.W.Frag) : R2 := fun x y H Q => rNotInD K x y H Q ∨ rNotInT K x y H Q
theorem op_inV {X : Cx} (hu : X.A.units + 65 < cLine) : OpR X (compareOp .In) (rInV X.K) := OpR.or (op_inD hu) (op_inT hu)
theorem op_notInV {X : Cx} (hu : X.A.units + 65 < cLine) : OpR X (compareOp .NotIn) (rNotInV X.K) := OpR.or (op_notInD hu) (op_notInT hu)
theorem f2_in : F2 K (rInV K) fIn := by
  intro H x y d1 d2 s Q r1 r2 h _ q
  unfold fIn at h
  split at h
  · split at h
    · rename_i ds hc
      rw [Bool.and_eq_true] at hc
      cases h
      exact .inl ⟨_, toDs ds, r1.dp (okD.lay hc.1), r2.dp (okD.lay hc.2), hc.1, hc.2, by rw [inD_eq]; exact q.bl⟩
    · cases h
  · split at h
    · rename_i ds hc
      rw [Bool.and_eq_true] at hc
      cases h
      exact .inr ⟨_, toDs ds, r1.dp (okD.lay hc.1), r2.dp (okD.lay hc.2), hc.1, hc.2, by rw [inD_eq]; exact q.bl⟩
    · cases h
  · split at h
    · rename_i ds hc
      rw [Bool.and_eq_true] at hc
      cases h
      exact .inr ⟨_, toDs ds, r1.dp (okD.lay hc.1), r2.dp (okD.lay hc.2), hc.1, hc.2, by rw [inD_eq]; exact q.bl⟩
    · cases h
  · cases h
theorem f2_notIn : F2 K (rNotInV K) fNotIn := by
  intro H x y d1 d2 s Q r1 r2 h _ q
  unfold fNotIn at h
  split at h
  · split at h
    · rename_i ds hc
      rw [Bool.and_eq_true] at hc
      cases h
      exact .inl ⟨_, toDs ds, r1.dp (okD.lay hc.1), r2.dp (okD.lay hc.2), hc.1, hc.2, by rw [inD_eq]; exact q.bl⟩
    · cases h
  · split at h
    · rename_i ds hc
      rw [Bool.and_eq_true] at hc
      cases h
      exact .inr ⟨_, toDs ds, r1.dp (okD.lay hc.1), r2.dp (okD.lay hc.2), hc.1, hc.2, by rw [inD_eq]; exact q.bl⟩
    · cases h
  · split at h
    · rename_i ds hc
      rw [Bool.and_eq_true] at hc
      cases h
      exact .inr ⟨_, toDs ds, r1.dp (okD.lay hc.1), r2.dp (okD.lay hc.2), hc.1, hc.2, by rw [inD_eq]; exact q.bl⟩
    · cases h
  · cases h
def PV.isN : PV → Bool
  | .non => true
  | _ => false
theorem Rr.isN {H : Hp} {v : V} {d : PV} (h : Rr K H v d) (hd : d ≠ .any) : decide (v = .non) = d.isN := by
  rcases h with h | ⟨a, rfl, h⟩
  · cases h <;> first | exact absurd rfl hd | simp [PV.isN]
  · cases d <;> first | (exact h.elim) | simp [PV.isN]
def fIs : PV → PV → Option Sl := fun x y => match x, y with
  | .any, _ => none
  | _, .non => some (.fz (.bl x.isN))
  | .bl a, .bl b => some (.fz (.bl (decide (a = b))))
  | _, _ => none
def fIsNot : PV → PV → Option Sl := fun x y => match x, y with
  | .any, _ => none
  | _, .non => some (.fz (.bl (!x.isN)))
  | .bl a, .bl b => some (.fz (.bl (!decide (a = b))))
  | _, _ => none
def rIsV : R2 := fun x y H Q => (y = .non ∧ Q (.bl (decide (x = .non))) H) ∨ (∃ a b, x = .bl a ∧ y = .bl b ∧ Q (.bl (decide (a = b))) H)
def rIsNotV : R2 := fun x y H Q => (y = .non ∧ Q (.bl (!decide (x = .non))) H) ∨ (∃ a b, x = .bl a ∧ y = .bl b ∧ Q (.bl (!decide (a = b))) H)
theorem op_isV {X : Cx} : OpR X (compareOp .Is) rIsV := OpR.or op_isN op_is_bl
theorem op_isNotV {X : Cx} : OpR X (compareOp .IsNot) rIsNotV := OpR.or op_notN op_isnot_bl
theorem f2_is : F2 K rIsV fIs := by
  intro H x y d1 d2 s Q r1 r2 h _ q
  unfold fIs at h
  split at h
  · cases h
  · rename_i hne; cases h; exact .inl ⟨r2.non, by rw [r1.isN hne]; exact q.bl⟩
  · cases h; exact .inr ⟨_, _, r1.bl, r2.bl, q.bl⟩
  · cases h
theorem f2_isNot : F2 K rIsNotV fIsNot := by
  intro H x y d1 d2 s Q r1 r2 h _ q
  unfold fIsNot at h
  split at h
  · cases h
  · rename_i hne; cases h; exact .inl ⟨r2.non, by rw [r1.isN hne]; exact q.bl⟩
  · cases h; exact .inr ⟨_, _, r1.bl, r2.bl, q.bl⟩
  · cases h

/-! subscripts -/
def fIx : PV → PV → Option Sl := fun x y => match x, y with
  | .lst xs, .int i => (atI xs i).map .fz
  | .tup xs, .int i => (atI xs i).map .fz
  | .ktp xs, .int i => (atI xs i).map .fz
  | .str z, .int i => if z.length ≤ sizeLine then (atI z.cps.toList i).map fun c => .fz (.str ⟨#[c]⟩) else none
  | _, _ => none
theorem FzA.at {H : Hp} {vs : List V} {ds : List PV} {i : Int} {d : PV} (f : FzA K H vs ds) (h : atI ds i = some d) : ∃ v, atI vs i = some v ∧ Fz K H v d := by
  unfold atI at h ⊢
  rw [f.length]
  cases e : ixN ds.length i with
  | none => rw [e] at h; cases h
  | some j =>
    rw [e] at h
    exact f.get h
theorem f2_ix : F2 K (rIx K) fIx := by
  intro H x y d1 d2 s Q r1 r2 h _ q
  unfold fIx at h
  split at h
  · rename_i xs i
    cases e : atI xs i with
    | none => rw [e] at h; cases h
    | some d =>
      rw [e] at h; cases h
      obtain ⟨a, vs, e1, h1, h2⟩ := r1.lst
      obtain ⟨v, h3, h4⟩ := h2.at e
      exact .inl ⟨a, vs, i, v, e1, r2.int, h1, h3, q v H (fun _ _ z => z) h4⟩
  · rename_i xs i
    cases e : atI xs i with
    | none => rw [e] at h; cases h
    | some d =>
      rw [e] at h; cases h
      obtain ⟨a, vs, e1, h1, h2⟩ := r1.tup
      obtain ⟨v, h3, h4⟩ := h2.at e
      exact .inr (.inl ⟨a, vs, i, v, e1, r2.int, h1, h3, q v H (fun _ _ z => z) h4⟩)
  · rename_i xs i
    cases e : atI xs i with
    | none => rw [e] at h; cases h
    | some d =>
      rw [e] at h; cases h
      obtain ⟨a, vs, e1, h1, h2⟩ := r1.ktp
      obtain ⟨v, h3, h4⟩ := h2.at e
      exact .inr (.inl ⟨a, vs, i, v, e1, r2.int, h1, h3, q v H (fun _ _ z => z) h4⟩)
  · rename_i z i
    split at h
    · rename_i hz
      cases e : atI z.cps.toList i with
      | none => rw [e] at h; cases h
      | some c =>
        rw [e] at h; cases h
        exact .inr (.inr ⟨z, i, c, r1.str, r2.int, hz, e, q.str⟩)
    · cases h
  · cases h

/-! calls of built-ins -/
def fLen : PV → Option Sl
  | .lst xs => some (.fz (.int xs.length))
  | .tup xs => some (.fz (.int xs.length))
  | .ktp xs => some (.fz (.int xs.length))
  | .str z => if z.length ≤ sizeLine then some (.fz (.int z.length)) else none
  | _ => none
def rLenV (K : PySem.W.Frag) : List V → Hp → VK → Prop := fun xs H Q => (∃ p ys, xs = [.ref p] ∧ (SqL K H p ys ∨ SqT K H p ys) ∧ Q (.int ys.length) H) ∨ (∃ z, xs = [.str z] ∧ z.length ≤ sizeLine ∧ Q (.int z.length) H)
theorem cr_len {X : Cx} : CallR X (.builtin "len") (rLenV X.K) := CallR.or call_len_seq call_len_str
theorem f1_len : F1 K (rLenV K) fLen := by
  intro H x d1 s Q r1 h _ q
  unfold fLen at h
  split at h
  · cases h
    obtain ⟨a, vs, rfl, h1, h2⟩ := r1.lst
    exact .inl ⟨a, vs, rfl, .inl h1, by rw [h2.length]; exact q.int⟩
  · cases h
    obtain ⟨a, vs, rfl, h1, h2⟩ := r1.tup
    exact .inl ⟨a, vs, rfl, .inr h1, by rw [h2.length]; exact q.int⟩
  · cases h
    obtain ⟨a, vs, rfl, h1, h2⟩ := r1.ktp
    exact .inl ⟨a, vs, rfl, .inr h1, by rw [h2.length]; exact q.int⟩
  · split at h
    · rename_i hz
      cases h
      exact .inr ⟨_, by rw [r1.str], hz, q.int⟩
    · cases h
  · cases h
def fInt : PV → Option Sl
  | .int i => some (.fz (.int i))
  | _ => none
theorem f1_int : F1 K (fun xs H Q => (∃ i, xs = [.int i] ∧ Q (.int i) H) ∨ ∃ k, xs = [.bl k] ∧ Q (.int (if k then 1 else 0)) H) fInt := by
  intro H x d1 s Q r1 h _ q
  unfold fInt at h
  split at h
  · cases h
    exact .inl ⟨_, by rw [r1.int], q.int⟩
  · cases h
def fAbs : PV → Option Sl
  | .int i => some (.fz (.int (if i < 0 then -i else i)))
  | _ => none
theorem f1_abs : F1 K (fun xs H Q => ∃ i, xs = [.int i] ∧ Q (.int (if i < 0 then -i else i)) H) fAbs := by
  intro H x d1 s Q r1 h _ q
  unfold fAbs at h
  split at h
  · cases h
    exact ⟨_, by rw [r1.int], q.int⟩
  · cases h
def fTuple : PV → Option Sl
  | .lst xs => some (.fz (.tup xs))
  | .tup xs => some (.fz (.tup xs))
  | .ktp xs => some (.fz (.ktp xs))
  | _ => none
def rTupleV (K : PySem.W.Frag) : List V → Hp → VK → Prop := fun xs H Q => ∃ p ys, xs = [.ref p] ∧ ((SqL K H p ys ∧ ∀ l, H l = none → Q (.ref l) (upd H l (.tup ys))) ∨ (SqT K H p ys ∧ Q (.ref p) H))
theorem f1_tuple : F1 K (rTupleV K) fTuple := by
  intro H x d1 s Q r1 h _ q
  unfold fTuple at h
  split at h
  · cases h
    obtain ⟨a, vs, rfl, h1, h2⟩ := r1.lst
    refine ⟨a, vs, rfl, .inl ⟨h1, fun l hl => ?_⟩⟩
    exact q _ _ (fun b u z => by rw [upd_ne (ne_of_none z hl)]; exact z) (.tup upd_same (FzA.le (.alloc hl) h2))
  · cases h
    obtain ⟨a, vs, rfl, h1, h2⟩ := r1.tupE
    exact ⟨a, vs, rfl, .inr ⟨SqT.of h1, q _ H (fun _ _ z => z) (.tup h1 h2)⟩⟩
  · cases h
    rcases r1 with r1 | ⟨a, _, r1⟩
    · cases r1 with | ktp h1 h2 => exact ⟨_, _, rfl, .inr ⟨.inr h1, q _ H (fun _ _ z => z) (.ktp h1 h2)⟩⟩
    · exact r1.elim
  · cases h
def fList : PV → Option Sl
  | .lst xs => some (.own (.lst xs))
  | .tup xs => some (.own (.lst xs))
  | .ktp xs => some (.own (.lst xs))
  | _ => none
theorem f1_list : F1 K (fun xs H Q => ∃ p ys, xs = [.ref p] ∧ (SqL K H p ys ∨ SqT K H p ys) ∧ ∀ l, H l = none → Q (.ref l) (upd H l (.lst ys))) fList := by
  intro H x d1 s Q r1 h _ q
  unfold fList at h
  split at h
  · cases h
    obtain ⟨a, vs, rfl, h1, h2⟩ := r1.lst
    refine ⟨a, vs, rfl, .inl h1, fun l hl => ?_⟩
    exact q _ _ (fun b u z => by rw [upd_ne (ne_of_none z hl)]; exact z) ⟨_, upd_same, FzA.le (.alloc hl) h2⟩ hl
  · cases h
    obtain ⟨a, vs, rfl, h1, h2⟩ := r1.tup
    refine ⟨a, vs, rfl, .inr h1, fun l hl => ?_⟩
    exact q _ _ (fun b u z => by rw [upd_ne (ne_of_none z hl)]; exact z) ⟨_, upd_same, FzA.le (.alloc hl) h2⟩ hl
  · cases h
    obtain ⟨a, vs, rfl, h1, h2⟩ := r1.ktp
    refine ⟨a, vs, rfl, .inr h1, fun l hl => ?_⟩
    exact q _ _ (fun b u z => by rw [upd_ne (ne_of_none z hl)]; exact z) ⟨_, upd_same, FzA.le (.alloc hl) h2⟩ hl
  · cases h
end
end VS

set_option Elab.async false
set_option linter.all false
set_option maxRecDepth 100000
set_option maxHeartbeats 1000000
/-! VS9: sorted, min; append, stores; attributes, new instances; isinstance. -/
namespace VS
open PySem L2 PyProof.Rows

/-! ### sorted, min -/
def tup1 : PyData → Bool
  | .tuple (_ :: _) => true
  | _ => false
def notTup : PyData → Bool
  | .tuple _ => false
  | .none => false
  | _ => true
def alikeB (ds : List PyData) : Bool := ds.all fun d => ds.all fun d' => PySem.W.alike d d'
theorem alikeB_of {ds : List PyData} (h : alikeB ds = true) : ∀ d ∈ ds, ∀ d' ∈ ds, PySem.W.alike d d' = true := fun d hd d' hd' =>
  List.all_eq_true.mp (List.all_eq_true.mp h d hd) d' hd'
def sortB (xs : List PV) : Bool := okD (.lst xs) && alikeB (toDs xs) && ((toDs xs).all tup1 || (toDs xs).all notTup) && decide (xs.length ≤ sizeLine)
def leD : PV → PV → Bool := PySem.W.dataLe false PV.toD
def fSorted : PV → Option Sl
  | .lst xs => if sortB xs then some (.own (.lst (xs.mergeSort leD))) else none
  | _ => none
def rSortedV (K : PySem.W.Frag) : List V → Hp → VK → Prop := fun vs H Q => ∃ (a : Addr) (ys : List V) (ds : List PV), vs = [V.ref a] ∧ SqL K H a ys ∧ FzA K H ys ds ∧ sortB ds = true ∧
  ∀ (p : Addr) (zs : List V), FzA K H zs (ds.mergeSort leD) → H p = none → Q (.ref p) (upd H p (.lst zs))
theorem depth_all : ∀ {ds : List PyData} {d : PyData}, d ∈ ds → d.depth ≤ PyData.depthAll ds
  | x :: xs, d, h => by
    rw [PyData.depthAll]
    rcases List.mem_cons.mp h with rfl | h
    · exact Nat.le_max_left _ _
    · exact Nat.le_trans (depth_all h) (Nat.le_max_right _ _)
theorem each_of {K : PySem.W.Frag} {H : Hp} : ∀ {ys : List V} {us : List Value} {ds : List PV}, Vals ys us → FzA K H ys ds → PySem.W.EachIs (fun v b => ∃ x, RelV x v ∧ Fz K H x b) us ds
  | _, _, _, .nil, .nil => .nil
  | _, _, _, .cons r t, .cons f g => .cons ⟨_, r, f⟩ (each_of t g)
theorem each_back {K : PySem.W.Frag} {H : Hp} : ∀ {us : List Value} {ds : List PV}, PySem.W.EachIs (fun v b => ∃ x, RelV x v ∧ Fz K H x b) us ds → ∃ zs, Vals zs us ∧ FzA K H zs ds
  | _, _, .nil => ⟨[], .nil, .nil⟩
  | _, _, .cons ⟨x, r, f⟩ t => let ⟨zs, a, b⟩ := each_back t; ⟨x :: zs, .cons r a, .cons f b⟩
theorem each_reads {X : Cx} {pins : List (Addr × Obj)} {σ : L2.St} {H : Hp} {s : Shared} (I : Inv X pins σ H s) : ∀ {ys : List V} {us : List Value} {ds : List PV}, Vals ys us → FzA X.K H ys ds → PyData.canLayAll0 (toDs ds) = true →
    PySem.W.EachIs (fun v b => ∃ as, Reads s.heap v (PV.toD b) as) us ds
  | _, _, _, .nil, .nil, _ => .nil
  | _, _, _, .cons r t, .cons f g, h => by
    have h' : (PyData.canLay0 _ && PyData.canLayAll0 _) = true := h
    rw [Bool.and_eq_true] at h'
    exact .cons (Dp.reads I _ _ _ (Fz.dp _ _ f h'.1) r) (each_reads I t g h'.2)
theorem cr_sortedV {X : Cx} (hu : X.A.units + 100 < cLine) : CallR X (.builtin "sorted") (rSortedV X.K) := by
  intro pins s σ H vs us Q I r h
  obtain ⟨a, ys, ds, rfl, hs, hf, hb, q⟩ := h
  obtain ⟨its, rv, hl, hz⟩ := I.list hs
  rw [Vals.ref1 r]
  unfold sortB at hb
  rw [Bool.and_eq_true, Bool.and_eq_true, Bool.and_eq_true] at hb
  obtain ⟨⟨⟨h1, h2⟩, h3⟩, h4⟩ := hb
  have hlay : PyData.canLayAll0 (toDs ds) = true := by simpa [PV.toD, PyData.canLay0] using okD.lay h1
  have hdep : PyData.depthAll (toDs ds) ≤ 64 := by
    have z := SeqAt.depth_of_shaped h1
    rw [PV.toD, PyData.depth] at z
    omega
  refine PySem.W.sorted_data (enc := PV.toD) (R := fun v b => ∃ x, RelV x v ∧ Fz X.K H x b) hl.isList (each_of rv hf) (each_reads I rv hf hlay) ?_ ?_ (of_decide_eq_true h4) (fun b hb => ?_) fun out hlen he => ?_
  · rw [← toDs_map]; exact alikeB_of h2
  · rw [← toDs_map]
    rcases Bool.or_eq_true _ _ ▸ h3 with h3 | h3
    · refine .inl fun d hd => ?_
      have z := List.all_eq_true.mp h3 d hd
      cases d with
      | tuple xs =>
        cases xs with
        | nil => cases z
        | cons x r => exact ⟨x, r, rfl⟩
      | _ => cases z
    · refine .inr fun d hd => ?_
      have z := List.all_eq_true.mp h3 d hd
      refine ⟨fun e => ?_, fun xs e => ?_⟩
      · subst e; cases z
      · subst e; cases z
  · have z : (PV.toD b).depth ≤ PyData.depthAll (toDs ds) := depth_all (by rw [toDs_map]; exact List.mem_map_of_mem hb)
    omega
  · obtain ⟨zs, e1, e2⟩ := each_back he
    obtain ⟨ep, he'⟩ := PyProof.Rows.sortedAll_at s.heap its out.toArray
    have hl2 : zs.length ≤ sizeLine := by rw [e1.length, hlen]; exact of_decide_eq_true h4
    exact ⟨.ref _, upd H (s.heap.objs.size + 1) (.lst zs), I.laid (t' := s.toks) (fun _ _ => PyProof.Rows.sortedAll_old) (Nat.le_succ _) ⟨hl2, out, ep, e1, by simpa using he'⟩, rfl, q _ zs e2 (I.hok.fresh (Nat.le_succ _))⟩
theorem f1_sorted {K : PySem.W.Frag} : F1 K (rSortedV K) fSorted := by
  intro H x d1 s Q r1 h _ q
  unfold fSorted at h
  split at h
  · rename_i xs
    split at h
    · rename_i hb
      cases h
      obtain ⟨a, vs, rfl, h1, h2⟩ := r1.lst
      refine ⟨a, vs, xs, rfl, h1, h2, hb, fun p zs hz hp => ?_⟩
      exact q p _ (fun b u z => by rw [upd_ne (ne_of_none z hp)]; exact z) ⟨_, upd_same, FzA.le (.alloc hp) hz⟩ hp
    · cases h
  · cases h
/-- min of a list of texts or of numbers -/
def allS : List PV → Option (List Str)
  | [] => some []
  | .str x :: r => (allS r).map (x :: ·)
  | _ :: _ => none
def ltS (x y : Str) : Bool := decide (x.cps.toList < y.cps.toList)
def minS (x : Str) (xs : List Str) : Str := xs.foldl (fun a y => if ltS y a then y else a) x
def fMin : PV → Option Sl
  | .lst (.str x :: r) => if okD (.lst (.str x :: r)) then (allS r).map fun xs => .fz (.str (minS x xs)) else none
  | _ => none
theorem allS_map : ∀ {ds : List PV} {xs : List Str}, allS ds = some xs → ds = xs.map PV.str
  | [], xs, h => by simp [allS] at h; subst h; rfl
  | .str x :: r, xs, h => by
    unfold allS at h
    cases e : allS r with
    | none => rw [e] at h; cases h
    | some ys => rw [e] at h; cases h; rw [allS_map e]; rfl
  | .non :: _, _, h | .bl _ :: _, _, h | .int _ :: _, _, h | .tup _ :: _, _, h | .lst _ :: _, _, h | .scr _ :: _, _, h | .obj _ _ :: _, _, h | .ad _ :: _, _, h | .any :: _, _, h => by simp [allS] at h
theorem dataLt_str (x y : Str) : PySem.W.dataLt (.str x) (.str y) = ltS x y := by
  have e := congrFun (congrFun (PySem.W.dataLe_str (fun z : Str => z)) y) x
  rw [PySem.W.dataLe_eq] at e
  simp only [cond_false] at e
  unfold ltS
  have h : (PySem.W.dataLt (.str x) (.str y)) = !decide (y.cps.toList ≤ x.cps.toList) := by rw [← e, Bool.not_not]
  rw [h]
  by_cases z : x.cps.toList < y.cps.toList
  · rw [decide_eq_true z, decide_eq_false (List.not_le.mpr z)]; rfl
  · rw [decide_eq_false z, decide_eq_true (List.not_lt.mp z)]; rfl
theorem minD_str (x : Str) : ∀ xs : List Str, PySem.W.minD (.str x) (xs.map .str) = .str (minS x xs) := by
  intro xs
  unfold PySem.W.minD minS
  induction xs generalizing x with
  | nil => rfl
  | cons y r ih =>
    rw [List.map_cons, List.foldl_cons, List.foldl_cons, dataLt_str]
    cases ltS y x with
    | true => exact ih y
    | false => exact ih x
def rMinS (K : PySem.W.Frag) : List V → Hp → VK → Prop := fun vs H Q => ∃ (a : Addr) (x : Str) (xs : List Str), vs = [V.ref a] ∧ SqL K H a ((x :: xs).map V.str) ∧ Q (.str (minS x xs)) H
theorem strs_reads {h : Heap} : ∀ {xs : List Str} {us : List Value}, Vals (xs.map V.str) us → ReadsAll h us (xs.map .str) []
  | [], _, .nil => .nil
  | x :: xs, _, .cons r t => by
    obtain ⟨tk, rfl⟩ := r
    exact ReadsAll.cons (as := []) (bs := []) (.str _ _) (strs_reads t)
theorem cr_minS {X : Cx} (hc : X.calm = true) (hu : X.A.units + 100 < cLine) : CallR X (.builtin "min") (rMinS X.K) := by
  intro pins s σ H vs us Q I r h
  obtain ⟨a, x, xs, rfl, hs, q⟩ := h
  obtain ⟨its, rv, hl, hz⟩ := I.list hs
  rw [Vals.ref1 r]
  have dep : ∀ l : List Str, PyData.depthAll (l.map PyData.str) = 0 := fun l => by
    induction l with
    | nil => rfl
    | cons y l ih => rw [List.map_cons, PyData.depthAll, ih]; rfl
  refine PySem.W.min_list_data (x := .str x) (xs := xs.map .str) (I.ok.hd hc) hl.isList (by simpa using strs_reads rv) ⟨fun d hd d' hd' => ?_, fun d hd e => ?_⟩ ?_ fun i v h' tk bs hi hr hk => ?_
  · have f : ∀ d, d ∈ PyData.str x :: xs.map PyData.str → ∃ y, d = .str y := fun d hd => by
      rcases List.mem_cons.mp hd with rfl | hd
      · exact ⟨x, rfl⟩
      · obtain ⟨y, _, rfl⟩ := List.mem_map.mp hd; exact ⟨y, rfl⟩
    obtain ⟨y, rfl⟩ := f d hd
    obtain ⟨z, rfl⟩ := f d' hd'
    simp [PySem.W.alike]
  · subst e
    rcases List.mem_cons.mp hd with z | hd
    · cases z
    · obtain ⟨y, _, z⟩ := List.mem_map.mp hd; cases z
  · have := dep (x :: xs)
    rw [List.map_cons] at this
    rw [this]; omega
  · rw [minD_str] at hr
    cases hr
    exact ⟨.str _, H, I.kept hk, ⟨_, rfl⟩, q⟩
theorem vals_str_of {K : PySem.W.Frag} {H : Hp} : ∀ {xs : List Str} {vs : List V}, FzA K H vs (xs.map PV.str) → vs = xs.map V.str
  | [], _, .nil => rfl
  | x :: xs, _, .cons f g => by cases f; rw [vals_str_of g]; rfl
theorem f1_min {K : PySem.W.Frag} : F1 K (rMinS K) fMin := by
  intro H x d1 s Q r1 h _ q
  unfold fMin at h
  split at h
  · rename_i x r
    split at h
    · rename_i hb
      cases e : allS r with
      | none => rw [e] at h; cases h
      | some xs =>
        rw [e] at h; cases h
        have e' := allS_map e
        subst e'
        obtain ⟨a, vs, rfl, h1, h2⟩ := r1.lst
        have e2 : vs = (x :: xs).map V.str := vals_str_of (xs := x :: xs) h2
        subst e2
        exact ⟨a, x, xs, rfl, h1, q.str⟩
    · cases h
  · cases h

/-! ### append, stores into a list -/
section
variable {X : Cx} {np : Nat} {W : WX} {a b c : Expr} {pos : Pos}
def ownL : Option Sl → Option (List PV)
  | some (.own (.lst ds)) => some ds
  | _ => none
theorem ownL_eq {s : Option Sl} {ds : List PV} (h : ownL s = some ds) : s = some (.own (.lst ds)) := by
  unfold ownL at h
  split at h
  · cases h; rfl
  · cases h
def mApp (i : Nat) (m : Mo PV) : Mo Sl := fun e => match ownL e[i]? with
  | some _ => mB m (fun d e1 => match ownL e1[i]? with
    | some ds => if ds.length < sizeLine then .ok (.fz .non) (e1.set i (.own (.lst (ds ++ [d])))) else .stuck
    | none => .stuck) e
  | none => .stuck
theorem js_app (i : Nat) {x : Str} {p apos : Pos} {m : Mo PV} (hx : PE X (.Name x p) (tVar i)) (h : JE X np W a m) (hline : (apos.endLine == pos.line) = true := by rfl)
    (hbase : attributeBase (.Name x p) "append" X.env (eval (.Name x p) X.env) = eval (.Name x p) X.env := by rfl) (hs : starEach [a] X.env = (false, eval a X.env) :: starEach [] X.env := by rfl)
    (hfew : ((backTo pos (starEach [a] X.env)).all (fun x => !x.1) && (backToKw pos (keywordEach [] X.env)).all (fun x => x.1.isSome)
      && decide ([a].length + ([] : List Keyword).length + (if ([] : List Keyword).isEmpty then 0 else 1) < 30)) = true := by rfl) (hplain : (backTo pos (starEach [] X.env)).any (·.1) = false := by rfl) :
    JS X np W (.Call (.Attribute (.Name x p) "append" apos) [a] [] pos) (mApp i m) := by
  refine PEi (pe_bm PySem.F.plainAttrs_list PySem.F.slot_list_append PySem.F.type_list_append mt_append hx (pa_cons h pa_nil hs) hbase hfew hline hs hplain) fun σ H Q ⟨P, B, H0, e, I, h⟩ => ?_
  unfold mApp at h
  cases he : ownL e[i]? with
  | none => rw [he] at h; exact h.elim
  | some ds0 =>
    rw [he] at h
    have he := ownL_eq he
    obtain ⟨l, h1, ⟨xs0, h2, _⟩, _⟩ := I.ow i _ he
    refine ⟨_, h1, .inl ⟨rfl, _, SqL.of h2⟩, tG.bind (tG.of I h) fun P B H0 d e1 v H1 I1 r1 l1 h => ?_⟩
    cases he1 : ownL e1[i]? with
    | none => rw [he1] at h; exact h.elim
    | some ds =>
      rw [he1] at h
      have he1 := ownL_eq he1
      dsimp only at h
      by_cases hz : ds.length < sizeLine
      · rw [if_pos hz] at h
        obtain ⟨l', h3, ⟨xs, h4, h5⟩, _⟩ := I1.ow i _ he1
        rw [h1] at h3; cases h3
        have lw : HLe H1 (upd H1 l (.lst (xs ++ [v]))) := .write h4 (fun _ z => nomatch z) (fun _ _ z => nomatch z)
        exact ⟨l, xs, v, rfl, rfl, h4, by rw [h5.length]; exact hz, h .non _ (I1.write he1 h1 ⟨_, upd_same, FzA.le lw (FzA.append h5 (.cons r1 .nil))⟩) .non lw⟩
      · rw [if_neg hz] at h; exact h.elim
/-- x[j] = e -/
def sSetIx (i : Nat) (mv mj : Mo PV) : MS := mS mv fun d e => match ownL e[i]? with
  | some _ => mS mj (fun j e => match j, ownL e[i]? with
    | .int k, some ds => match ixN ds.length k with
      | some n => .nx (e.set i (.own (.lst (ds.set n d))))
      | none => .stuck
    | _, _ => .stuck) e
  | none => .stuck
theorem jst_setIx (i : Nat) {x : Str} {p tp : Pos} {mv mj : Mo PV} (hx : PE X (.Name x p) (tVar i)) (hj : JE X np W b mj) (hv : JE X np W a mv) (hs : swapsWithSole [.Subscript (.Name x p) b tp] a pos.line X.env = pure false := by rfl) (hw : swappedStores [.Subscript (.Name x p) b tp] a X.env = pure none := by rfl)
    (h1 : (assignEach [.Subscript (.Name x p) b tp] X.env).map (·.2) = [assign (.Subscript (.Name x p) b tp) X.env] := by rfl)
    (ha : ∀ v, assign (.Subscript (.Name x p) b tp) X.env v = (do
      let ov ← holding [v] (eval (.Name x p) X.env)
      let iv ← holding [v, ov] (eval b X.env)
      standAt tp
      holding [v, ov, iv] (setItem ov iv v)
      release [v, ov, iv] []) := by intro _; rfl) : JSt X np W (.Assign [.Subscript (.Name x p) b tp] a pos) (sSetIx i mv mj) := by
  refine PSi (ps_asg hv (pg_sub hx hj set_list ha) hs hw h1) fun D σ H h => tS.bind h fun P B H0 d e1 v H1 I1 r1 l1 h => ?_
  cases he : ownL e1[i]? with
  | none => rw [he] at h; exact h.elim
  | some ds0 =>
    rw [he] at h
    have he := ownL_eq he
    obtain ⟨l, h3, _, _⟩ := I1.ow i _ he
    refine ⟨_, h3, tS.bind (tS.of I1 h) fun P B H0 j e2 u H2 I2 r2 l2 h => ?_⟩
    cases j with
    | int k =>
      cases r2
      cases he2 : ownL e2[i]? with
      | none => rw [he2] at h; exact h.elim
      | some ds =>
        rw [he2] at h
        have he2 := ownL_eq he2
        dsimp only at h
        obtain ⟨l', h3', ⟨xs, h4, h5⟩, _⟩ := I2.ow i _ he2
        rw [h3] at h3'; cases h3'
        cases hn : ixN ds.length k with
        | none => rw [hn] at h; exact h.elim
        | some n =>
          rw [hn] at h
          have lw : HLe H2 (upd H2 l (.lst (xs.set n v))) := .write h4 (fun _ z => nomatch z) (fun _ _ z => nomatch z)
          exact ⟨l, xs, k, n, rfl, rfl, h4, by rw [h5.length]; exact hn, h σ _ (I2.write he2 h3 ⟨_, upd_same, FzA.le lw (FzA.set (Fz.le l2 r1) n h5)⟩) lw⟩
    | _ => exact h.elim
end
end VS

set_option Elab.async false
set_option linter.all false
set_option maxRecDepth 100000
set_option maxHeartbeats 1000000
/-! VS10: attributes, new instances, isinstance with built-in classes. -/
namespace VS
open PySem L2 PyProof.Rows

/-! ### attributes -/
theorem ins_getR {P : Program} {w : World} {H : Hp} {h : Heap} {a C dx : Addr} {fs : List (Str × V)} (hok : HOk P w H h) (e : Rd H a (.ins C dx fs)) : ∃ mA, ObjM h a dx C mA ∧ (∀ f, RelO (fs.lookup f) (mA f)) ∧ PySem.Within mA (fs.map (·.1)) := by
  obtain ⟨d, z, ne, ob, mA, n, r, q⟩ := (show ObjOk P w H h a (.ins C dx fs) from e.ok hok)
  exact ⟨mA, ⟨ob, n, ne⟩, r, q⟩
section
variable {X : Cx} {np : Nat} {W : WX} {a b c : Expr} {pos : Pos}
theorem getattr_okR {pins : List (Addr × Obj)} {σ : L2.St} {H : Hp} {s : Shared} {p C dx : Addr} {fs : List (Str × V)} {f : Str} {v : V} {A : Around} {E : Value → Shared → Prop} {b : Bool} {Q : Value → Shared → Prop} (I : Inv X pins σ H s) (e : Rd H p (.ins C dx fs)) (c : Cls X.K C) (n : NoAttr X.K C f) (l : fs.lookup f = some v)
    (h : ∀ u s', Inv X pins σ H s' → RelV v u → Q u s') : wpAny (model X.prog X.w) A (getAttr (.ref p) f b) Q E s := by
  obtain ⟨mA, O, r, _⟩ := ins_getR I.hok e
  obtain ⟨u, hu, ru⟩ := RelO.some_of (v := v) (o := mA f) (by rw [← l]; exact r f)
  exact get_map I.kIn O (c.get f) c.hd n hu (handed_of ru) (h u _ (I.tok _) ru)
def tFldR (K : PySem.W.Frag) (ta : TE) (f : Str) : TE := fun σ H Q => ta σ H fun x H1 => ∃ a C dx fs v, x = .ref a ∧ Rd H1 a (.ins C dx fs) ∧ Cls K C ∧ NoAttr K C f ∧ fs.lookup f = some v ∧ Q v H1
theorem pe_fldR {e : Expr} {f : Str} {ta : TE} (he : PE X e ta) (hb : attributeBase e f X.env (eval e X.env) = eval e X.env) : PE X (.Attribute e f pos) (tFldR X.K ta f) := by
  refine ⟨fun pins s σ H Q I h => ?_⟩
  refine attr_of hb (thn (he.run pins s σ H _ I h) fun u s1 ⟨x, H1, I1, rx, a, C, dx, fs, v, ex, ea, c, n, l, q⟩ => ?_)
  subst ex
  obtain rfl : u = Value.ref a := rx
  exact getattr_okR I1 ea c n l fun u' s2 I2 ru => ⟨v, H1, I2, ru, q⟩
theorem Rr.obj {K : PySem.W.Frag} {H : Hp} {v : V} {C : Addr} {ds : List (Str × PV)} (h : Rr K H v (.obj C ds)) : ∃ a dx fs, v = .ref a ∧ Rd H a (.ins C dx fs) ∧ FzF K H fs ds := by
  rcases h with h | ⟨a, rfl, h⟩
  · cases h with | obj h1 h2 => exact ⟨_, _, _, rfl, .inr ⟨_, h1⟩, h2⟩
  · obtain ⟨dx, fs, h1, h2⟩ := h
    exact ⟨a, dx, fs, rfl, .inl h1, h2⟩
def fFld (C : Addr) (f : Str) : PV → Option Sl
  | .obj D fs => if D = C then (fs.lookup f).map .fz else none
  | _ => none
theorem js_fld {C : Addr} {f : Str} {mo : Mo Opd} (hc : Cls X.K C) (hn : NoAttr X.K C f) (ha : JO X np W a mo) (hb : attributeBase a f X.env (eval a X.env) = eval a X.env := by rfl) : JS X np W (.Attribute a f pos) (mOp1 (fFld C f) mo) := by
  refine PEi (pe_fldR ha hb) fun σ H Q h => ?_
  have hf : F1 X.K (fun xs H1 Q => ∃ v, xs = [v] ∧ ∃ a C dx fs u, v = .ref a ∧ Rd H1 a (.ins C dx fs) ∧ Cls X.K C ∧ NoAttr X.K C f ∧ fs.lookup f = some u ∧ Q u H1) (fFld C f) := by
    intro H x d1 s Q r1 h7 _ q
    unfold fFld at h7
    split at h7
    · rename_i D ds
      split at h7
      · rename_i hD
        subst hD
        cases e : ds.lookup f with
        | none => rw [e] at h7; cases h7
        | some d =>
          rw [e] at h7; cases h7
          obtain ⟨p, dx, fs, e1, e2, e3⟩ := r1.obj
          obtain ⟨u, e4, e5⟩ := e3.lookup e
          exact ⟨x, rfl, p, D, dx, fs, u, e1, e2, hc, hn, e4, q u H (fun _ _ z => z) e5⟩
      · cases h7
    · cases h7
  obtain ⟨P, B, H0, e, I, z⟩ := op1_of hf h
  refine ⟨P, B, H0, e, I, ?_⟩
  generalize mo e = o at z ⊢
  cases o with
  | ok o e1 =>
    intro v H1 I1 r1 l1
    obtain ⟨v', e1, e2⟩ := z v H1 I1 r1 l1
    cases e1
    exact e2
  | exc C ds e1 => exact z
  | stuck => exact z
/-- o.f = e, o a thing that the slot i holds alone (self in __init__) -/
def ownO : Option Sl → Option (Addr × List (Str × PV))
  | some (.own (.obj C fs)) => some (C, fs)
  | _ => none
theorem ownO_eq {s : Option Sl} {C : Addr} {fs : List (Str × PV)} (h : ownO s = some (C, fs)) : s = some (.own (.obj C fs)) := by
  unfold ownO at h
  split at h
  · cases h; rfl
  · cases h
def sFldP (C : Addr) (i : Nat) (f : Str) (m : Mo PV) : MS := mS m fun d e => match ownO e[i]? with
  | some (D, fs) => if D = C ∧ fs.length < 1000 then .nx (e.set i (.own (.obj C (putP f d fs)))) else .stuck
  | none => .stuck
theorem jst_fld {C : Addr} {f : Str} (i : Nat) {x : Str} {p pos' : Pos} {m : Mo PV} (hc : Cls X.K C) (hn : NoAttr X.K C f) (hx : PE X (.Name x p) (tVar i)) (h : JE X np W a m) (hs : swapsWith a (some (.Attribute (.Name x p) f pos')) pos.line X.env = pure false := by rfl) :
    JSt X np W (.Assign [.Attribute (.Name x p) f pos'] a pos) (sFldP C i f m) := by
  refine PSi (ps_fld hx h hs) fun D σ H h => tS.bind h fun P B H0 d e1 v H1 I1 r1 l1 h => ?_
  cases he : ownO e1[i]? with
  | none => rw [he] at h; exact h.elim
  | some q =>
    obtain ⟨D', fs⟩ := q
    rw [he] at h
    have he := ownO_eq he
    dsimp only at h
    by_cases hq : D' = C ∧ fs.length < 1000
    · rw [if_pos hq] at h
      obtain ⟨rfl, hl⟩ := hq
      obtain ⟨l, h1, ⟨dx, vs, h2, h3⟩, _⟩ := I1.ow i _ he
      have lw : HLe H1 (upd H1 l (.ins D' dx (putF f v vs))) := .write h2 (fun _ z => nomatch z) (fun _ _ z => nomatch z)
      refine ⟨_, h1, l, D', dx, vs, rfl, h2, hc, hn, by rw [h3.length]; exact hl, ?_⟩
      exact h σ _ (I1.write he h1 ⟨dx, _, upd_same, FzF.le lw (FzF.put r1 h3)⟩) lw
    · rw [if_neg hq] at h; exact h.elim

/-! ### new instances -/
theorem ai_cons {K : PySem.W.Frag} {H : Hp} {vs : List V} {as : List Sl} {x : Addr} {d : PV} (I : AI K H vs as as H) (hx : Ow K H x d) (hn : ¬ Owned as (vs.map some) x) : AI K H (.ref x :: vs) (.own d :: as) (.own d :: as) H := by
  refine ⟨by simpa using I.len, fun i d' q => ?_, fun i d' q => ?_, fun i j d1 d2 a q1 q2 s1 s2 => ?_, fun i a q => (by cases q), fun b o q _ => q, fun b o q => ⟨o, q⟩⟩
  · cases i with
    | zero => simp at q
    | succ i => simpa using I.fz i d' (by simpa using q)
  · cases i with
    | zero => simp at q; subst q; exact ⟨x, rfl, hx, .inl ⟨0, d, rfl, rfl⟩⟩
    | succ i =>
      obtain ⟨a, h1, h2, _⟩ := I.ow i d' (by simpa using q)
      exact ⟨a, by simpa using h1, h2, .inl ⟨i + 1, d', q, by simpa using h1⟩⟩
  · cases i with
    | zero =>
      cases j with
      | zero => rfl
      | succ j => simp at s1; subst s1; exact absurd ⟨j, d2, by simpa using q2, by simpa using s2⟩ hn
    | succ i =>
      cases j with
      | zero => simp at s2; subst s2; exact absurd ⟨i, d1, by simpa using q1, by simpa using s1⟩ hn
      | succ j => rw [I.dj i j d1 d2 a (by simpa using q1) (by simpa using q2) (by simpa using s1) (by simpa using s2)]
theorem owned_cons {vs : List V} {as : List Sl} {x b : Addr} {d : PV} (h : Owned (.own d :: as) ((V.ref x :: vs).map some) b) : b = x ∨ Owned as (vs.map some) b := by
  obtain ⟨i, d', q, z⟩ := h
  cases i with
  | zero => simp at z; exact .inl z.symm
  | succ i => exact .inr ⟨i, d', by simpa using q, by simpa using z⟩
theorem ai_tail {K : PySem.W.Frag} {H H1 H2 : Hp} {vs : List V} {as as' : List Sl} {x : Addr} {d : PV} {s : Sl} (J : AI K H1 (.ref x :: vs) (.own d :: as) (s :: as') H2) (h : ∀ b o, H b = some o → H1 b = some o) (hx : H x = none) : AI K H vs as as' H2 := by
  refine ⟨by simpa using J.len, fun i d' q => by simpa using J.fz (i + 1) d' (by simpa using q), fun i d' q => ?_, fun i j d1 d2 a q1 q2 s1 s2 => ?_, fun i a q => (by cases q), fun b o q n => ?_, fun b o q => J.al b o (h b o q)⟩
  · obtain ⟨a, h1, h2, h3⟩ := J.ow (i + 1) d' (by simpa using q)
    refine ⟨a, by simpa using h1, h2, ?_⟩
    rcases h3 with h3 | h3
    · rcases owned_cons h3 with rfl | h3
      · exact .inr hx
      · exact .inl h3
    · refine .inr ?_
      cases z : H a with
      | none => rfl
      | some o => rw [h a o z] at h3; cases h3
  · have := J.dj (i + 1) (j + 1) d1 d2 a (by simpa using q1) (by simpa using q2) (by simpa using s1) (by simpa using s2)
    omega
  · refine J.keep b o (h b o q) fun w => ?_
    rcases owned_cons w with rfl | w
    · rw [hx] at q; cases q
    · exact n w
/-- C(e, ..): mf is __init__ -/
def mMake (C : Addr) (mf : MF) (mos : Mo (List Opd)) : Mo Sl := mB mos fun os e => match getA os e with
  | none => .stuck
  | some as => if (ownIx os e).Nodup then match mf (.own (.obj C []) :: as) with
      | .ret (.fz .non) (.own (.obj D fs) :: as') => match putA os as' e e with
        | some e2 => .ok (.own (.obj D fs)) e2
        | none => .stuck
      | .exc D ds (_ :: as') => match putA os as' e e with
        | some e2 => .exc D ds e2
        | none => .stuck
      | _ => .stuck
    else .stuck
theorem js_make {mf : MF} {mos : Mo (List Opd)} {n k : Nat} {C f : Addr} {fd : FuncData} {ps : List Str} {x : Str} {p : Pos} {es : List Expr} {e : Expr} {E : XK} (hW : Takes X W) (hE : W = fun c d _ H => E c d H) (M : Mk X.K C f) (F : FnOk X.prog X.w X.K X.mg X.base (L2.CX X.prog X.w) k f fd ps (spF X.K (n + 1) mf)) (hr : Room (k + 1) X.A)
    (hm : X.mg x = some (.ref C)) (hb : Binds X.K fd ps []) (ha : JAO X np W (e :: es) mos) (hlen : ∀ e e' os, mos e = .ok os e' → os.length = n) (hg : Gl X x := by rfl)
    (hdb : (x == ("__debug__" : Str)) = false := by decide) (he : starEach (e :: es) X.env = (false, eval e X.env) :: starEach es X.env := by rfl) (hpl : (backTo pos (starEach es X.env)).any (·.1) = false := by rfl) :
    JS X np W (.Call (.Name x p) (e :: es) [] pos) (mMake C mf mos) := by
  refine PEi (pe_make (dvs := []) (E := E) M F hr hg hm hb .nil (passes_call hW fun c d σ H h => by rw [hE]; exact h) ha hdb he hpl) fun σ H Q h => ?_
  obtain ⟨P, B, H0, e0, I0, h⟩ := h
  refine ⟨P, B, H0, e0, I0, ?_⟩
  unfold mMake mB at h
  generalize hos : mos e0 = o at h ⊢
  cases o with
  | stuck => exact h
  | exc C ds e1 => exact h
  | ok os e1 =>
    intro vs H1 I1 r1 l1 x dx hx hdx hne
    rw [List.append_nil]
    dsimp only at h
    generalize hg : getA os e1 = ga at h
    cases ga with
    | none => exact h.elim
    | some as =>
      dsimp only at h
      by_cases hnd : (ownIx os e1).Nodup
      case neg => rw [if_neg hnd] at h; exact h.elim
      rw [if_pos hnd] at h
      have hx1 : (upd H1 dx (.own x)) x = none := by rw [upd_ne (Ne.symm hne)]; exact hx
      generalize hH : upd (upd H1 dx (.own x)) x (.ins C dx []) = H1'
      have k1 : ∀ b o, H1 b = some o → H1' b = some o := fun b o q => by
        rw [← hH, upd_ne (ne_of_none q hx), upd_ne (ne_of_none q hdx)]; exact q
      have I1' := I1.same k1
      have r1' : rOs X.K (fun a => P a ∨ H0 a = none) os e1 σ H1' vs := Paired.mapP r1 fun o v q => q.ne (.same k1) fun i s h n => ⟨s, h, n⟩
      have A1 := ai_of I1' r1' hg hnd
      have hxO : ¬ Owned as (vs.map some) x := fun w => by
        obtain ⟨i, d', q, z⟩ := w
        obtain ⟨a, z', ow, _⟩ := (ai_of I1 r1 hg hnd).ow i d' q
        rw [z] at z'; cases z'
        obtain ⟨u, hu, _⟩ := ow.at
        rw [hx] at hu; cases hu
      have A2 := ai_cons (d := .obj C []) A1 ⟨dx, [], by rw [← hH]; exact upd_same, .nil⟩ hxO
      refine ⟨.own (.obj C []) :: as, by rw [List.length_cons, (getA_len hg).trans (hlen _ _ _ hos)], A2, ?_⟩
      generalize hmf : mf (.own (.obj C []) :: as) = om at h ⊢
      cases om with
      | stuck => exact h.elim
      | ret s as'' =>
        intro v H2 J rf l2
        match s, as'', h with
        | .fz .non, .own (.obj D fs) :: as', h =>
          have rf' : Fz X.K H2 v .non := rf
          cases rf'
          refine ⟨rfl, ?_⟩
          dsimp only at h
          generalize hp : putA os as' e1 e1 = op at h
          cases op with
          | none => exact h.elim
          | some e2 =>
            have J' := ai_tail J k1 hx
            have l' : HLe H1 H2 := (HLe.same k1).trans l2
            have I2 := ai_back I1 r1 hg hnd J' l' hp
            obtain ⟨xa, h3, h4, _⟩ := J.ow 0 _ rfl
            have h3' : some (some (V.ref x)) = some (some (V.ref xa)) := h3
            cases h3'
            refine h _ H2 I2 ⟨x, rfl, h4, .inr (I1.fresh hx), fun j d' q z => ?_⟩ (l1.trans l')
            have hl1 : os.length = as'.length := (os_len r1).trans (by simpa using J'.len.symm)
            obtain ⟨d0, q0⟩ := putA_own hp hl1 q
            obtain ⟨b', x', y', _⟩ := I1.ow j d0 q0
            rw [z] at x'; cases x'
            obtain ⟨u, hu, _⟩ := y'.at
            rw [hx] at hu; cases hu
      | exc D ds as'' =>
        intro xd H2 J rf l2
        match as'', h with
        | _ :: as', h =>
          dsimp only at h
          generalize hp : putA os as' e1 e1 = op at h
          cases op with
          | none => exact h.elim
          | some e2 =>
            have J' := ai_tail J k1 hx
            have l' : HLe H1 H2 := (HLe.same k1).trans l2
            have z := h xd H2 (ai_back I1 r1 hg hnd J' l' hp) rf (l1.trans l')
            rw [hE] at z
            exact z

/-! ### isinstance -/
inductive BT where
  | int | bool | str | list | tuple | nont | dict
  deriving DecidableEq
def BT.nm : BT → String
  | .int => "int" | .bool => "bool" | .str => "str" | .list => "list" | .tuple => "tuple" | .nont => "NoneType" | .dict => "dict"
def BT.sub (a b : BT) : Bool := decide (a = b) || (decide (a = .bool) && decide (b = .int))
theorem kit_bt (a b : BT) : kitB a.nm b.nm = some (a.sub b) := by cases a <;> cases b <;> decide +kernel
def PV.bt : PV → Option BT
  | .non => some .nont
  | .bl _ => some .bool
  | .int _ => some .int
  | .str _ => some .str
  | .tup _ => some .tuple
  | .ktp _ => some .tuple
  | .dk _ => some .dict
  | .lst _ => some .list
  | _ => none
theorem Rr.tyx {K : PySem.W.Frag} {H : Hp} {v : V} {d : PV} {t : BT} (h : Rr K H v d) (e : d.bt = some t) : TyX K H v (.type t.nm) := by
  cases d with
  | non => cases e; rw [h.non]; exact .base .non
  | bl b => cases e; rw [h.bl]; exact .base (.bl b)
  | int b => cases e; rw [h.int]; exact .base (.int b)
  | str b => cases e; rw [h.str]; exact .base (.str b)
  | tup ds =>
    cases e
    obtain ⟨a, xs, rfl, h1, _⟩ := h.tup
    rcases h1 with (h1 | ⟨o, h1⟩) | ⟨o, _, _, h1, h2, _⟩
    · exact .base (.tup h1)
    · exact .fTuple h1
    · exact .kTuple h1 h2
  | ktp ds =>
    cases e
    obtain ⟨a, xs, rfl, h1, _⟩ := h.ktp
    rcases h1 with (h1 | ⟨o, h1⟩) | ⟨o, _, _, h1, h2, _⟩
    · exact .base (.tup h1)
    · exact .fTuple h1
    · exact .kTuple h1 h2
  | lst ds =>
    cases e
    obtain ⟨a, xs, rfl, h1, _⟩ := h.lstR
    rcases h1 with h1 | ⟨o, h1⟩
    · exact .base (.lst h1)
    · exact .base (.frz h1)
  | dk ds =>
    cases e
    rcases h with h | ⟨a, rfl, h⟩
    · cases h with | dk a b => exact .fDict a
    · obtain ⟨fs, h1, h2⟩ := h; exact .base (.dK h1)
  | _ => cases e
def fIsi (Ts : List BT) : PV → Option Sl := fun d => d.bt.map fun t => .fz (.bl (Ts.any t.sub))
theorem kitAny_bt {K : PySem.W.Frag} (t : BT) : ∀ Ts : List BT, PySem.W.kitAny K (.type t.nm) (Ts.map fun T => Value.type T.nm) = some (Ts.any t.sub)
  | [] => kitAny_nil
  | T :: Ts => by
    refine kitAny_cons (b := t.sub T) (kit_ty (kit_bt t T)) (fun e => ?_) (fun e => ?_)
    · rw [kitAny_bt t Ts, List.any_cons, e]; rfl
    · rw [List.any_cons, e]; rfl
def BTname (X : Cx) (e : Expr) (T : BT) : Prop := PE X e (tC (.ty T.nm))
theorem bt_name {x : Str} (T : BT) (hm : X.mg x = none) (hv : bootBuiltins x = some (.type T.nm)) (hg : Gl X x := by rfl) (hn : x ≠ "__name__" := by decide) (hdb : (x == ("__debug__" : Str)) = false := by decide) : BTname X (.Name x pos) T := pe_bltn hg hm hv rfl hn hdb
/-- isinstance(x, T) -/
theorem js_isi {T : BT} {p : Pos} {mo : Mo Opd} (ha : JO X np W a mo) (hT : BTname X b T) (hm : X.mg "isinstance" = none) (hg : Gl X "isinstance" := by rfl)
    (he : starEach (a :: [b]) X.env = (false, eval a X.env) :: starEach [b] X.env := by rfl) (he2 : starEach (b :: []) X.env = (false, eval b X.env) :: starEach [] X.env := by rfl) (hpl : (backTo pos (starEach [b] X.env)).any (·.1) = false := by rfl) :
    JS X np W (.Call (.Name "isinstance" p) [a, b] [] pos) (mOp1 (fIsi [T]) mo) := by
  refine PEi (pe_callB call_isi hg hm (by decide +kernel) (pa_cons ha (pa_cons hT pa_nil he2) he) (by decide) (by decide) he hpl) fun σ H Q h => ?_
  have z := op1_of (r := fun xs H1 Q => ∃ v t, xs = [v] ∧ TyX X.K H1 v (.type t) ∧ kitB t T.nm = some (BT.sub (match t with | "int" => .int | "bool" => .bool | "str" => .str | "list" => .list | "tuple" => .tuple | "dict" => .dict | _ => .nont) T) ∧ Q (.bl (BT.sub (match t with | "int" => .int | "bool" => .bool | "str" => .str | "list" => .list | "tuple" => .tuple | "dict" => .dict | _ => .nont) T)) H1) ?_ h
  · obtain ⟨P, B, H0, e, I, z⟩ := z
    refine ⟨P, B, H0, e, I, ?_⟩
    generalize mo e = o at z ⊢
    cases o with
    | ok o e1 =>
      intro v H1 I1 r1 l1
      obtain ⟨v', t, e1, e2, e3, e4⟩ := z v H1 I1 r1 l1
      cases e1
      exact ⟨v, .ty T.nm, .type t, .type T.nm, _, rfl, .ty _, e2, kit_ty e3, e4⟩
    | exc C ds e1 => exact z
    | stuck => exact z
  · intro H x d1 s Q r1 h _ q
    unfold fIsi at h
    cases e : d1.bt with
    | none => rw [e] at h; cases h
    | some t =>
      rw [e] at h; cases h
      refine ⟨x, t.nm, rfl, r1.tyx e, ?_⟩
      have q' := q.bl
      simp only [List.any_cons, List.any_nil, Bool.or_false] at q'
      cases t <;> exact ⟨kit_bt _ T, q'⟩
end
end VS

set_option Elab.async false
set_option linter.all false
set_option maxRecDepth 100000
set_option maxHeartbeats 1000000
/-! VS11: enumerate; defaults and keywords at calls; chains of comparisons. -/
namespace VS
open PySem L2 PyProof.Rows

def enumL : Nat → List PV → List PV
  | _, [] => []
  | k, d :: r => .tup [.int (k : Nat), d] :: enumL (k + 1) r
theorem enumL_len : ∀ (ds : List PV) (k : Nat), (enumL k ds).length = ds.length
  | [], _ => rfl
  | d :: r, k => by rw [enumL, List.length_cons, enumL_len r, List.length_cons]
theorem enumL_get : ∀ {ds : List PV} {k i : Nat} {d : PV}, (enumL k ds)[i]? = some d → ∃ x, ds[i]? = some x ∧ d = .tup [.int ((k + i : Nat) : Int), x]
  | [], _, _, _, h => by simp [enumL] at h
  | d :: r, k, 0, x, h => by simp [enumL] at h; exact ⟨d, rfl, by rw [← h]; rfl⟩
  | d :: r, k, i + 1, x, h => by
    obtain ⟨y, h1, h2⟩ := enumL_get (ds := r) (k := k + 1) (i := i) (by simpa [enumL] using h)
    exact ⟨y, by simpa using h1, by rw [h2]; congr 3; omega⟩
section
variable {X : Cx} {np : Nat} {W : WX} {a b c : Expr} {pos : Pos} {tg : Expr}
def iE (m : Mo PV) : Mo (List PV) := mB m fun d => match d with
  | .lst ds => mR (enumL 0 ds)
  | .scr ds => mR (enumL 0 ds)
  | _ => fun _ => .stuck
theorem enum_ok {K : PySem.W.Frag} {H1 : Hp} {l : Addr} {xs : List V} {ds : List PV} (h1 : ∀ H', HLe H1 H' → SqL K H' l xs) (h2 : FzA K H1 xs ds) : ItOk K (Ite K l) (enumL 0 ds) H1 := by
  intro i H' l'
  refine ⟨fun d e => ?_, fun e => ⟨xs, h1 H' l', by rw [h2.length]; rw [enumL_len] at e; exact e⟩⟩
  obtain ⟨x, e1, rfl⟩ := enumL_get e
  obtain ⟨y, e2, e3⟩ := h2.get e1
  refine ⟨⟨xs, y, h1 H' l', e2⟩, fun v H'' ⟨T, z, e4, e5, e6, e7⟩ => ?_⟩
  have e8 := e7 xs (h1 H' l')
  rw [e2] at e8; cases e8
  subst e4 e6
  refine ⟨.tup upd_same (.cons ?_ (.cons (e3.le (l'.trans (.alloc e5))) .nil)), fun b o q => by rw [upd_ne (ne_of_none q e5)]; exact q⟩
  rw [Nat.zero_add]; exact .int _
theorem ji_enum {p tpos : Pos} {elts : List Expr} {kk : Nat} {m : Mo PV} (hm : X.mg "enumerate" = none) (h : JE X np W a m) (hg : Gl X "enumerate" := by rfl) (hs : starEach [a] X.env = [(false, eval a X.env)] := by rfl) : JI X np W (.Tuple elts kk tpos) (.Call (.Name "enumerate" p) [a] [] pos) (iE m) := by
  refine PIi (pi_enum hg hm (pa_cons h pa_nil hs) hs) fun σ H R h => tG.bind h fun P B H0 d e1 v H1 I r l h => ?_
  cases d with
  | lst ds =>
    cases r with
    | @lst a xs _ h1 h2 => exact ⟨a, xs, rfl, h1.sq, h _ H1 I (enum_ok (fun H' l' => (h1.le l').sq) h2) (.refl _)⟩
  | scr ds =>
    cases r with
    | @scr a xs _ h1 h2 => exact ⟨a, xs, rfl, h1.sq, h _ H1 I (enum_ok (fun H' l' => (h1.le l').sq) h2) (.refl _)⟩
  | _ => exact h.elim

/-! ### calls with defaults, with keywords -/
theorem call_reading {mf : MF} {mos : Mo (List Opd)} {n : Nat} (hlen : ∀ e e' os, mos e = .ok os e' → os.length = n) {σ : L2.St} {H : Hp} {Q : VK} (h : tG X.K np W (rS X.K) (mCall mf mos) σ H Q) :
    tG X.K np W (rOs X.K) mos σ H fun vs H1 => spF X.K n mf vs H1 Q (WE W σ) := by
  obtain ⟨P, B, H0, e0, I0, h⟩ := h
  refine ⟨P, B, H0, e0, I0, ?_⟩
  unfold mCall mB at h
  generalize hos : mos e0 = o at h ⊢
  cases o with
  | stuck => exact h
  | exc C ds e1 => exact h
  | ok os e1 =>
    intro vs H1 I1 r1 l1
    dsimp only at h
    generalize hg : getA os e1 = ga at h
    cases ga with
    | none => exact h.elim
    | some as =>
      dsimp only at h
      by_cases hnd : (ownIx os e1).Nodup
      case neg => rw [if_neg hnd] at h; exact h.elim
      rw [if_pos hnd] at h
      refine ⟨as, (getA_len hg).trans (hlen _ _ _ hos), ai_of I1 r1 hg hnd, ?_⟩
      generalize hmf : mf as = om at h ⊢
      cases om with
      | stuck => exact h.elim
      | ret s as' =>
        intro v H2 J rf l2
        dsimp only at h
        generalize hp : putA os as' e1 e1 = op at h
        cases op with
        | none => exact h.elim
        | some e2 =>
          have I2 := ai_back I1 r1 hg hnd J l2 hp
          refine h v H2 I2 ?_ (l1.trans l2)
          cases s with
          | un => exact rf.elim
          | fz d => exact rf
          | own d =>
            obtain ⟨b, rfl, ow, hn0⟩ := rf
            refine ⟨b, rfl, ow, .inr (I1.fresh hn0), fun j d' q z => ?_⟩
            have hl1 : os.length = as'.length := (os_len r1).trans (by simpa using J.len.symm)
            obtain ⟨d0, q0⟩ := putA_own hp hl1 q
            obtain ⟨b', x', y', z'⟩ := I1.ow j d0 q0
            rw [z] at x'; cases x'
            obtain ⟨u, hu, _⟩ := y'.at
            rw [hn0] at hu; cases hu
      | exc C ds as' =>
        intro xd H2 J rf l2
        dsimp only at h
        generalize hp : putA os as' e1 e1 = op at h
        cases op with
        | none => exact h.elim
        | some e2 => exact h xd H2 (ai_back I1 r1 hg hnd J l2 hp) rf (l1.trans l2)
/-- the arguments that are left out -/
def mfD (mf : MF) (dds : List PV) : MF := fun as => match mf (as ++ dds.map .fz) with
  | .ret s as' => .ret s (as'.take as.length)
  | .exc C ds as' => .exc C ds (as'.take as.length)
  | .stuck => .stuck
theorem owned_app {as : List Sl} {vs dvs : List V} {dds : List PV} {a : Addr} (hl : as.length = vs.length) : Owned (as ++ dds.map .fz) ((vs ++ dvs).map some) a ↔ Owned as (vs.map some) a := by
  constructor
  · rintro ⟨i, d, q, z⟩
    by_cases hi : i < as.length
    · rw [List.getElem?_append_left hi] at q
      rw [List.map_append, List.getElem?_append_left (by simp; omega)] at z
      exact ⟨i, d, q, z⟩
    · rw [List.getElem?_append_right (by omega), List.getElem?_map] at q
      cases e : dds[i - as.length]? with
      | none => rw [e] at q; cases q
      | some x => rw [e] at q; cases q
  · rintro ⟨i, d, q, z⟩
    have hi := (List.getElem?_eq_some_iff.mp q).1
    exact ⟨i, d, by rw [List.getElem?_append_left hi]; exact q, by rw [List.map_append, List.getElem?_append_left (by simp; omega)]; exact z⟩
theorem spF_dflt {K : PySem.W.Frag} {n : Nat} {mf : MF} {vs dvs : List V} {dds : List PV} {H : Hp} {Q : VK} {E : XK} (hd : ∀ H, FzA K H dvs dds) (h : spF K n (mfD mf dds) vs H Q E) : spF K (n + dds.length) mf (vs ++ dvs) H Q E := by
  obtain ⟨as, h1, I, h⟩ := h
  have hl : as.length = vs.length := by simpa using I.len
  have hdl : dvs.length = dds.length := (hd H).length
  have own : ∀ (i : Nat) d, (as ++ dds.map .fz)[i]? = some (.own d) → as[i]? = some (.own d) := fun i d q => by
    by_cases hi : i < as.length
    · rw [List.getElem?_append_left hi] at q; exact q
    · rw [List.getElem?_append_right (by omega), List.getElem?_map] at q
      cases e : dds[i - as.length]? with
      | none => rw [e] at q; cases q
      | some x => rw [e] at q; cases q
  have lift : ∀ (i : Nat) (v : Option V), (vs.map some)[i]? = some v → ((vs ++ dvs).map some)[i]? = some v := fun i v q => by
    rw [List.map_append, List.getElem?_append_left (List.getElem?_eq_some_iff.mp q).1]; exact q
  have low : ∀ (i : Nat) (v : Option V), i < as.length → ((vs ++ dvs).map some)[i]? = some v → (vs.map some)[i]? = some v := fun i v hi q => by
    rw [List.map_append, List.getElem?_append_left (by simp; omega)] at q; exact q
  refine ⟨as ++ dds.map .fz, by simp [h1], ⟨by simp [hl, hdl], fun i d q => ?_, fun i d q => ?_, fun i j d d' a q1 q2 s1 s2 => ?_, fun i a q => (by cases q), fun b o q _ => q, fun b o q => ⟨o, q⟩⟩, ?_⟩
  · by_cases hi : i < as.length
    · rw [List.getElem?_append_left hi] at q
      obtain ⟨v, q1, q2⟩ := I.fz i d q
      exact ⟨v, lift i _ q1, q2⟩
    · rw [List.getElem?_append_right (by omega), List.getElem?_map] at q
      cases e : dds[i - as.length]? with
      | none => rw [e] at q; cases q
      | some x =>
        rw [e] at q; cases q
        obtain ⟨y, q1, q2⟩ := (hd H).get e
        refine ⟨y, ?_, q2⟩
        rw [List.map_append, List.getElem?_append_right (by simp; omega), List.length_map, List.getElem?_map, ← hl, q1]; rfl
  · obtain ⟨a, q1, q2, q3⟩ := I.ow i d (own i d q)
    exact ⟨a, lift i _ q1, q2, .inl ((owned_app hl).mpr ⟨i, d, own i d q, q1⟩)⟩
  · have z1 := own i d q1
    have z2 := own j d' q2
    exact I.dj i j d d' a z1 z2 (low i _ (List.getElem?_eq_some_iff.mp z1).1 s1) (low j _ (List.getElem?_eq_some_iff.mp z2).1 s2)
  · have back : ∀ {as' : List Sl} {H' : Hp}, AI K H (vs ++ dvs) (as ++ dds.map .fz) as' H' → AI K H vs as (as'.take as.length) H' := fun {as' H'} J => by
      have hj : as'.length = vs.length + dvs.length := by simpa using J.len
      have tk : ∀ (i : Nat) s, (as'.take as.length)[i]? = some s → i < as.length ∧ as'[i]? = some s := fun i s q => by
        have hi : i < as.length := by
          have := (List.getElem?_eq_some_iff.mp q).1
          simp at this; omega
        rw [List.getElem?_take_of_lt hi] at q
        exact ⟨hi, q⟩
      refine ⟨by simp; omega, fun i d q => ?_, fun i d q => ?_, fun i j d d' a q1 q2 s1 s2 => ?_, fun i a q => (by cases q), fun b o q n => J.keep b o q fun w => n ((owned_app hl).mp w), J.al⟩
      · obtain ⟨hi, q⟩ := tk i _ q
        obtain ⟨v, q1, q2⟩ := J.fz i d q
        exact ⟨v, low i _ hi q1, q2⟩
      · obtain ⟨hi, q⟩ := tk i _ q
        obtain ⟨a, q1, q2, q3⟩ := J.ow i d q
        exact ⟨a, low i _ hi q1, q2, q3.imp (owned_app hl).mp id⟩
      · obtain ⟨hi, q1⟩ := tk i _ q1
        obtain ⟨hj', q2⟩ := tk j _ q2
        exact J.dj i j d d' a q1 q2 (lift i _ s1) (lift j _ s2)
    unfold mfD at h
    generalize mf (as ++ dds.map .fz) = o at h ⊢
    cases o with
    | ret s as' => exact fun v H' J r l => h v H' (back J) r l
    | exc C ds as' => exact fun x H' J r l => h x H' (back J) r l
    | stuck => exact h
theorem js_callD {mf : MF} {mos : Mo (List Opd)} {n k : Nat} {f : Addr} {fd : FuncData} {ps : List Str} {x : Str} {p : Pos} {es : List Expr} {e : Expr} {dvs : List V} {dus : List Value} {dds : List PV} (hW : Takes X W) (F : FnOk X.prog X.w X.K X.mg X.base (L2.CX X.prog X.w) k f fd ps (spF X.K (n + dds.length) mf)) (hr : Room k X.A)
    (hm : X.mg x = some (.ref f)) (hk : PySem.W.keepIn X.K (.ref f) = true) (hb : Binds X.K fd ps dus) (hd : Vals dvs dus) (hdd : ∀ H, FzA X.K H dvs dds) (ha : JAO X np W (e :: es) mos) (hlen : ∀ e e' os, mos e = .ok os e' → os.length = n) (hg : Gl X x := by rfl)
    (hdb : (x == ("__debug__" : Str)) = false := by decide) (he : starEach (e :: es) X.env = (false, eval e X.env) :: starEach es X.env := by rfl) (hpl : (backTo pos (starEach es X.env)).any (·.1) = false := by rfl) :
    JS X np W (.Call (.Name x p) (e :: es) [] pos) (mCall (mfD mf dds) mos) := by
  refine PEi (pe_callSD (E := WE W) F hr hg hm hk hb hd (fun σ => passAt hW σ) ha hdb he hpl) fun σ H Q h => ?_
  obtain ⟨P, B, H0, e0, I0, z⟩ := call_reading hlen h
  refine ⟨P, B, H0, e0, I0, ?_⟩
  generalize mos e0 = o at z ⊢
  cases o with
  | ok os e1 => exact fun vs H1 I1 r1 l1 => spF_dflt hdd (z vs H1 I1 r1 l1)
  | exc C ds e1 => exact z
  | stuck => exact z
/-- the keywords' values -/
abbrev JKO (X : Cx) (np : Nat) (W : WX) (ks : List Keyword) (m : Mo (List Opd)) : Prop := PK X ks (tG X.K np W (rOs X.K) m)
theorem PKi {ks : List Keyword} {t t' : TA} (p : PK X ks t) (f : ∀ σ H Q, t' σ H Q → t σ H Q) : PK X ks t' := ⟨fun po pins s σ H Q I h => p.run po pins s σ H Q I (f σ H Q h)⟩
theorem jko_nil : JKO X np W [] mNilO := PKi pk_nil fun σ H Q ⟨P, B, H0, e, I, h⟩ => h [] H I .nil (.refl H)
theorem jko_one {nm : Option Str} {kpos : Pos} {m : Mo Opd} (ha : JO X np W a m) : JKO X np W [⟨nm, a, kpos⟩] (mConsO' m mNilO) := by
  refine PKi (pk_cons ha (jko_nil (np := np) (W := W))) fun σ H Q h => tG.bind h fun P B H0 x e1 v H1 I r l h => ?_
  refine tG.bind (tG.of I h) fun P B H0 y e2 u H2 I2 r2 l2 h => ?_
  by_cases hn : neB x e2 = true
  · rw [if_pos hn] at h
    refine h _ H2 I2 (.cons ?_ r2) (.refl _)
    cases x with
    | val d => exact Fz.le l2 r
    | pl i =>
      refine ⟨r.1, ?_⟩
      unfold neB at hn
      dsimp only at hn
      split at hn
      · rename_i d hd; exact ⟨_, hd, by simp⟩
      · rename_i d hd; exact ⟨_, hd, by simp⟩
      · cases hn
  · rw [if_neg hn] at h; exact h.elim
def mAppO (m r : Mo (List Opd)) : Mo (List Opd) := mB m fun os => mB r fun ps e => if os.all (fun o => neB o e) then .ok (os ++ ps) e else .stuck
theorem rOs_ne {K : PySem.W.Frag} {Z Z' : Addr → Prop} {e1 e2 : Fr} {σ : L2.St} {H1 H2 : Hp} (l2 : HLe H1 H2) : ∀ {os : List Opd} {vs : List V}, rOs K Z os e1 σ H1 vs → os.all (fun o => neB o e2) = true → rOs K Z' os e2 σ H2 vs
  | _, _, .nil, _ => .nil
  | o :: os, _, .cons a b, hn => by
    rw [List.all_cons, Bool.and_eq_true] at hn
    refine .cons ?_ (rOs_ne l2 b hn.2)
    cases o with
    | val d => exact Fz.le l2 a
    | pl i =>
      refine ⟨a.1, ?_⟩
      have hn := hn.1
      unfold neB at hn
      dsimp only at hn
      split at hn
      · rename_i d hd; exact ⟨_, hd, by simp⟩
      · rename_i d hd; exact ⟨_, hd, by simp⟩
      · cases hn
theorem js_callK {mf : MF} {m1 m2 : Mo (List Opd)} {n m k : Nat} {f : Addr} {fd : FuncData} {ps ks : List Str} {x : Str} {p : Pos} {es : List Expr} {e : Expr} {kws : List Keyword} {E : XK} {g : List Value → List Value → List Value} (hW : Takes X W) (hE : W = fun c d _ H => E c d H)
    (F : FnOk X.prog X.w X.K X.mg X.base (L2.CX X.prog X.w) k f fd ps (spF X.K (n + m) mf)) (hr : Room k X.A)
    (hm : X.mg x = some (.ref f)) (hk : PySem.W.keepIn X.K (.ref f) = true) (hb : KBn X.K fd ps n ks g (fun vs zs => vs ++ zs)) (hks' : ks.length = m) (ha : JAO X np W (e :: es) m1) (hkw : JKO X np W kws m2) (hl1 : ∀ e e' os, m1 e = .ok os e' → os.length = n) (hl2 : ∀ e e' os, m2 e = .ok os e' → os.length = m)
    (hlen : ∀ e e' os, mAppO m1 m2 e = .ok os e' → os.length = n + m) (hg : Gl X x := by rfl)
    (hall : (backToKw pos (keywordEach kws X.env)).all (·.1.isSome) = true := by rfl) (hks : (backToKw pos (keywordEach kws X.env)).filterMap (·.1) = ks := by rfl)
    (hdb : (x == ("__debug__" : Str)) = false := by decide) (he : starEach (e :: es) X.env = (false, eval e X.env) :: starEach es X.env := by rfl)
    (hpl : ((backTo pos (starEach (e :: es) X.env)).any (·.1) || (backToKw pos (keywordEach kws X.env)).any (·.1.isNone)) = false := by rfl) :
    JS X np W (.Call (.Name x p) (e :: es) kws pos) (mCall mf (mAppO m1 m2)) := by
  refine PEi (pe_callN (E := E) F hr hg hm hk hb (passes_call hW fun c d σ H h => by rw [hE]; exact h) ha hkw hall hks hdb he hpl) fun σ H Q h => ?_
  have z := call_reading hlen h
  obtain ⟨P, B, H0, e0, I0, z⟩ := z
  refine ⟨P, B, H0, e0, I0, ?_⟩
  unfold mAppO mB at z
  generalize hz1 : m1 e0 = o1 at z ⊢
  cases o1 with
  | exc C ds e1 => exact z
  | stuck => exact z
  | ok os e1 =>
    intro vs H1 I1 r1 l1
    refine ⟨P, B, H0, e1, I1, ?_⟩
    dsimp only at z
    generalize hz2 : m2 e1 = o2 at z ⊢
    cases o2 with
    | exc C ds e2 => exact PostG.le l1 z
    | stuck => exact z
    | ok os2 e2 =>
      intro vs2 H2 I2 r2 l2
      refine ⟨(os_len r1).symm.trans (hl1 _ _ _ hz1), (os_len r2).symm.trans ((hl2 _ _ _ hz2).trans hks'.symm), ?_⟩
      dsimp only at z
      by_cases hn : os.all (fun o => neB o e2) = true
      · rw [if_pos hn] at z
        have r1' : rOs X.K (fun a => P a ∨ H0 a = none) os e2 σ H2 vs := rOs_ne l2 r1 hn
        have app : ∀ {A B : List Opd} {vs ws : List V}, rOs X.K (fun a => P a ∨ H0 a = none) A e2 σ H2 vs → rOs X.K (fun a => P a ∨ H0 a = none) B e2 σ H2 ws → rOs X.K (fun a => P a ∨ H0 a = none) (A ++ B) e2 σ H2 (vs ++ ws) := by
          intro A B vs ws x y
          induction x with
          | nil => exact y
          | cons a b ih => exact .cons a (ih)
        have q := z _ H2 I2 (app r1' r2) (l1.trans l2)
        have hWE : WE W σ = E := by rw [hE]
        rw [hWE] at q
        exact q
      · rw [if_neg hn] at z; exact z.elim
end
end VS

set_option Elab.async false
set_option linter.all false
set_option maxRecDepth 100000
set_option maxHeartbeats 1000000
/-! VS12: what the printed texts use. -/
namespace VS
open PySem L2 PyProof.Rows

theorem hu64 {k : Nat} {A : Around} (hr : Room k A) : A.units + 64 < cLine := by have := hr.un; omega
theorem hu65 {k : Nat} {A : Around} (hr : Room k A) : A.units + 65 < cLine := by have := hr.un; omega
theorem hu100 {k : Nat} {A : Around} (hr : Room k A) : A.units + 100 < cLine := by have := hr.un; omega
section
variable {K : PySem.W.Frag} {x qual : Str} {st : Stmt} {f : Addr} {fd : FuncData} {ps : List Str}
theorem funG_mk {dvs : List V} {oc dV kV doc pm cdv ct : Value} {od an : Option Addr} {osl : Array (Option Value)} (l : K.lookup f = some ⟨oc, od, .func (PySem.W.fnOf x qual (defArgs st) (defBody st) (defScope st) dV kV doc pm an cdv ct), osl⟩)
    (c : PySem.W.codeIn K cdv qual = true) (k : PySem.W.keepIn K (.ref f) = true) (hd : DflV K dV dvs) : FunG K x qual st dvs f (PySem.W.fnOf x qual (defArgs st) (defBody st) (defScope st) dV kV doc pm an cdv ct) := ⟨⟨oc, od, dV, kV, doc, pm, an, cdv, ct, osl, rfl, l, c, hd, .inl rfl⟩, k⟩
/-- the keywords bind: all parameters are given -/
theorem funG_kb {dvs : List V} (F : FunG K x qual st dvs f fd) (n : Nat) (ks : List Str) (hd : dvs ≠ [])
    (h : ∀ (T : Addr) (kV doc pm : Value) (an : Option Addr) (cdv ct : Value) (us its ws : List Value), us.length = n → its.length = dvs.length → ws.length = ks.length →
      ∃ k, bindArgs (PySem.W.fnOf x qual (defArgs st) (defBody st) (defScope st) (.ref T) kV doc pm an cdv ct) ⟨us, ks.zip ws⟩ = seqItems? (.ref T) >>= k ∧ k (some its.toArray) = pure (ps.zip (us ++ ws))) : KBn K fd ps n ks (fun us ws => us ++ ws) (fun vs zs => vs ++ zs) := by
  obtain ⟨oc, od, dV, kV, doc, pm, an, cdv, ct, osl, rfl, lk, hcd, hD, hK⟩ := F.ex
  rcases hD with ⟨e, _⟩ | ⟨_, T, o, its, m, rfl, lT, oT, rT⟩
  · exact absurd e hd
  · refine ⟨fun s us ws X l1 l2 => ?_, fun r1 r2 => r1.append r2⟩
    obtain ⟨k, e1, e2⟩ := h T kV doc pm an cdv ct us its ws l1 rT.length.symm l2
    refine BindsTo.of_looks fun M => ?_
    rw [e1]
    exact looks_items X lT oT (.of_pure e2)
end
/-! ### a def of the text that is mf -/
def FX (P : Program) (w : World) (K : PySem.W.Frag) (mg : Str → Option Value) (base : Heap) (k : Nat) (x : Str) (ps : List Str) (mf : MF) : Prop :=
  ∃ (f : Addr) (fd : FuncData), mg x = some (.ref f) ∧ PySem.W.keepIn K (.ref f) = true ∧ Binds K fd ps [] ∧ FnOk P w K mg base (L2.CX P w) k f fd ps (spF K ps.length mf)
section
variable {P : Program} {w : World} {K : PySem.W.Frag} {mg : Str → Option Value} {base : Heap}
theorem FX.mono {j k : Nat} {x : Str} {ps : List Str} {mf : MF} (h : FX P w K mg base j x ps mf) (hk : j ≤ k) : FX P w K mg base k x ps mf :=
  let ⟨f, fd, a, b, c, d⟩ := h; ⟨f, fd, a, b, c, d.mono hk⟩
theorem fx_of {x : Str} {qual : Str} {st : Stmt} {dvs : List V} {f : Addr} {fd : FuncData} (N ps : List Str) {k : Nat} (n : Nat) (m : MS) (hn : N.length = n) (F : FunG K x qual st dvs f fd) (hm : mg x = some (.ref f)) (hb : Binds K fd ps []) (S : FnScope N ps (defScope st))
    (hbody : ∀ (cdv : Value) (A : Around) (outer : List Env) (s : Shared) (H : Hp) (E : XK), Room k (A.deeper (envOfC qual (defScope st) s.heap.objs.size f cdv)) →
      JB (cxOf (L2.CX P w) P w K mg base N qual (defScope st) f cdv A outer s H E) ps.length (fun cls d _ H => E cls d H) (defBody st) m) : FX P w K mg base (k + 1) x ps (bodyRun n m) := by
  subst hn
  exact ⟨f, fd, hm, F.kp, hb, fn_ok F S hbody⟩
theorem fn_of' {x : Str} {qual : Str} {st : Stmt} {dvs : List V} {f : Addr} {fd : FuncData} (N ps : List Str) {k : Nat} (n np : Nat) (m : MS) (hn : N.length = n) (hp : ps.length = np) (F : FunG K x qual st dvs f fd) (S : FnScope N ps (defScope st))
    (hbody : ∀ (cdv : Value) (A : Around) (outer : List Env) (s : Shared) (H : Hp) (E : XK), Room k (A.deeper (envOfC qual (defScope st) s.heap.objs.size f cdv)) →
      JB (cxOf (L2.CX P w) P w K mg base N qual (defScope st) f cdv A outer s H E) np (fun cls d _ H => E cls d H) (defBody st) m) : FnOk P w K mg base (L2.CX P w) (k + 1) f fd ps (spF K np (bodyRun n m)) := by
  subst hn hp
  exact fn_ok F S hbody
theorem fx_stuck {x : Str} {f : Addr} {fd : FuncData} {ps : List Str} {k : Nat} (hm : mg x = some (.ref f)) (hk : PySem.W.keepIn K (.ref f) = true) (hb : Binds K fd ps []) : FX P w K mg base k x ps (fun _ => .stuck) :=
  ⟨f, fd, hm, hk, hb, ⟨fun vs H Q E h => by obtain ⟨_, _, _, h⟩ := h; exact h.elim, fun A outer s H args us vs Q E _ _ _ _ h => by obtain ⟨_, _, _, h⟩ := h; exact h.elim⟩⟩
end
/-- a class of the text that is made by mf as its __init__ -/
def MX (P : Program) (w : World) (K : PySem.W.Frag) (mg : Str → Option Value) (base : Heap) (k : Nat) (x : Str) (C : Addr) (n : Nat) (mf : MF) : Prop :=
  ∃ (f : Addr) (fd : FuncData) (ps : List Str), mg x = some (.ref C) ∧ Mk K C f ∧ Binds K fd ps [] ∧ FnOk P w K mg base (L2.CX P w) k f fd ps (spF K (n + 1) mf)
section
variable {X : Cx} {np : Nat} {W : WX} {a b c : Expr} {pos : Pos} {tg : Expr}
theorem lenO_nil : ∀ e e' os, mNilO e = .ok os e' → os.length = 0 := fun e e' os h => by
  unfold mNilO mR at h; cases h; rfl
theorem lenO_cons {m : Mo Opd} {r : Mo (List Opd)} {n : Nat} (hr : ∀ e e' os, r e = .ok os e' → os.length = n) : ∀ e e' os, mConsO' m r e = .ok os e' → os.length = n + 1 := fun e e' os h => by
  unfold mConsO' mB at h
  generalize m e = o at h
  cases o with
  | stuck => cases h
  | exc _ _ _ => cases h
  | ok d e1 =>
    dsimp only at h
    generalize hq : r e1 = o2 at h
    cases o2 with
    | stuck => cases h
    | exc _ _ _ => cases h
    | ok ds e2 =>
      dsimp only at h
      split at h
      · cases h; rw [List.length_cons, hr _ _ _ hq]
      · cases h
theorem lenO_app {m r : Mo (List Opd)} {k n : Nat} (hm : ∀ e e' os, m e = .ok os e' → os.length = k) (hr : ∀ e e' os, r e = .ok os e' → os.length = n) : ∀ e e' os, mAppO m r e = .ok os e' → os.length = k + n := fun e e' os h => by
  unfold mAppO mB at h
  generalize hz : m e = o at h
  cases o with
  | stuck => cases h
  | exc _ _ _ => cases h
  | ok d e1 =>
    dsimp only at h
    generalize hq : r e1 = o2 at h
    cases o2 with
    | stuck => cases h
    | exc _ _ _ => cases h
    | ok ds e2 =>
      dsimp only at h
      split at h
      · cases h; rw [List.length_append, hm _ _ _ hz, hr _ _ _ hq]
      · cases h
theorem js_callX {mf : MF} {mos : Mo (List Opd)} {k : Nat} {ps : List Str} {x : Str} {p : Pos} {es : List Expr} {e : Expr} (hW : Takes X W) (F : FX X.prog X.w X.K X.mg X.base k x ps mf) (hr : Room k X.A)
    (ha : JAO X np W (e :: es) mos) (hlen : ∀ e e' os, mos e = .ok os e' → os.length = ps.length) (hn : (e :: es).length = ps.length := by rfl) (hg : Gl X x := by rfl)
    (hdb : (x == ("__debug__" : Str)) = false := by decide) (he : starEach (e :: es) X.env = (false, eval e X.env) :: starEach es X.env := by rfl) (hpl : (backTo pos (starEach es X.env)).any (·.1) = false := by rfl) :
    JS X np W (.Call (.Name x p) (e :: es) [] pos) (mCall mf mos) := by
  obtain ⟨f, fd, hm, hk, hb, F⟩ := F
  exact js_call hW F hr hm hk hb ha hn hlen hg hdb he hpl
theorem js_makeX {mf : MF} {mos : Mo (List Opd)} {n k : Nat} {C : Addr} {x : Str} {p : Pos} {es : List Expr} {e : Expr} {E : XK} (hW : Takes X W) (hE : W = fun c d _ H => E c d H) (F : MX X.prog X.w X.K X.mg X.base k x C n mf) (hr : Room (k + 1) X.A)
    (ha : JAO X np W (e :: es) mos) (hlen : ∀ e e' os, mos e = .ok os e' → os.length = n) (hg : Gl X x := by rfl)
    (hdb : (x == ("__debug__" : Str)) = false := by decide) (he : starEach (e :: es) X.env = (false, eval e X.env) :: starEach es X.env := by rfl) (hpl : (backTo pos (starEach es X.env)).any (·.1) = false := by rfl) :
    JS X np W (.Call (.Name x p) (e :: es) [] pos) (mMake C mf mos) := by
  obtain ⟨f, fd, ps, hm, M, hb, F⟩ := F
  exact js_make hW hE M F hr hm hb ha hlen hg hdb he hpl

/-- .. called with its last arguments left out; with keywords -/
def FXD (P : Program) (w : World) (K : PySem.W.Frag) (mg : Str → Option Value) (base : Heap) (k : Nat) (x : Str) (n : Nat) (dds : List PV) (mf : MF) : Prop :=
  ∃ (f : Addr) (fd : FuncData) (ps : List Str) (dvs : List V) (dus : List Value), mg x = some (.ref f) ∧ PySem.W.keepIn K (.ref f) = true ∧ Binds K fd ps dus ∧ Vals dvs dus ∧ (∀ H, FzA K H dvs dds) ∧ FnOk P w K mg base (L2.CX P w) k f fd ps (spF K (n + dds.length) mf)
def FXK (P : Program) (w : World) (K : PySem.W.Frag) (mg : Str → Option Value) (base : Heap) (k : Nat) (x : Str) (n : Nat) (ks : List Str) (mf : MF) : Prop :=
  ∃ (f : Addr) (fd : FuncData) (ps : List Str) (g : List Value → List Value → List Value), mg x = some (.ref f) ∧ PySem.W.keepIn K (.ref f) = true ∧ KBn K fd ps n ks g (fun vs zs => vs ++ zs) ∧ FnOk P w K mg base (L2.CX P w) k f fd ps (spF K (n + ks.length) mf)
theorem js_callDX {mf : MF} {mos : Mo (List Opd)} {n k : Nat} {x : Str} {p : Pos} {es : List Expr} {e : Expr} {dds : List PV} (hW : Takes X W) (F : FXD X.prog X.w X.K X.mg X.base k x n dds mf) (hr : Room k X.A)
    (ha : JAO X np W (e :: es) mos) (hlen : ∀ e e' os, mos e = .ok os e' → os.length = n) (hg : Gl X x := by rfl)
    (hdb : (x == ("__debug__" : Str)) = false := by decide) (he : starEach (e :: es) X.env = (false, eval e X.env) :: starEach es X.env := by rfl) (hpl : (backTo pos (starEach es X.env)).any (·.1) = false := by rfl) :
    JS X np W (.Call (.Name x p) (e :: es) [] pos) (mCall (mfD mf dds) mos) := by
  obtain ⟨f, fd, ps, dvs, dus, hm, hk, hb, hd, hdd, F⟩ := F
  exact js_callD hW F hr hm hk hb hd hdd ha hlen hg hdb he hpl
theorem js_callKX {mf : MF} {m1 m2 : Mo (List Opd)} {n k : Nat} {x : Str} {p : Pos} {es : List Expr} {e : Expr} {kws : List Keyword} {ks : List Str} {E : XK} (hW : Takes X W) (hE : W = fun c d _ H => E c d H)
    (F : FXK X.prog X.w X.K X.mg X.base k x n ks mf) (hr : Room k X.A) (ha : JAO X np W (e :: es) m1) (hkw : JKO X np W kws m2) (hl1 : ∀ e e' os, m1 e = .ok os e' → os.length = n) (hl2 : ∀ e e' os, m2 e = .ok os e' → os.length = ks.length) (hg : Gl X x := by rfl)
    (hall : (backToKw pos (keywordEach kws X.env)).all (·.1.isSome) = true := by rfl) (hks : (backToKw pos (keywordEach kws X.env)).filterMap (·.1) = ks := by rfl)
    (hdb : (x == ("__debug__" : Str)) = false := by decide) (he : starEach (e :: es) X.env = (false, eval e X.env) :: starEach es X.env := by rfl)
    (hpl : ((backTo pos (starEach (e :: es) X.env)).any (·.1) || (backToKw pos (keywordEach kws X.env)).any (·.1.isNone)) = false := by rfl) :
    JS X np W (.Call (.Name x p) (e :: es) kws pos) (mCall mf (mAppO m1 m2)) := by
  obtain ⟨f, fd, ps, g, hm, hk, hb, F⟩ := F
  exact js_callK hW hE F hr hm hk hb rfl ha hkw hl1 hl2 (lenO_app hl1 hl2) hg hall hks hdb he hpl
theorem js_dnew : JS X np W (.Dict [] [] pos) (mC .any) :=
  PEi pe_dnewK fun σ H Q ⟨P, B, H0, e, I, q⟩ => fun d hd => q _ _ (I.alloc hd) (.any _) (.alloc hd)
def fNeg : PV → Option Sl
  | .int i => some (.fz (.int (-i)))
  | _ => none
theorem js_neg {mo : Mo Opd} (h : JO X np W a mo) : JS X np W (.UnaryOp .USub a pos) (mOp1 fNeg mo) := by
  refine PEi (pe_un un_neg h) fun σ H Q h => ?_
  have hf : F1 X.K (fun xs H Q => ∃ i, xs = [.int i] ∧ Q (.int (-i)) H) fNeg := by
    intro H x d1 s Q r1 h7 _ q
    unfold fNeg at h7
    split at h7
    · cases h7; exact ⟨_, by rw [r1.int], q.int⟩
    · cases h7
  obtain ⟨P, B, H0, e, I, z⟩ := op1_of hf h
  refine ⟨P, B, H0, e, I, ?_⟩
  generalize mo e = o at z ⊢
  cases o with
  | ok o e1 =>
    intro v H1 I1 r1 l1
    obtain ⟨i, e1, e2⟩ := z v H1 I1 r1 l1
    cases e1
    exact ⟨i, rfl, e2⟩
  | exc C ds e1 => exact z
  | stuck => exact z

/-! ### a walk over a list or a tuple -/
def seqOf : PV → Option (List PV)
  | .lst ds => some ds
  | .scr ds => some ds
  | .tup ds => some ds
  | .ktp ds => some ds
  | _ => none
def iS (m : Mo PV) : Mo (List PV) := mB m fun d => mO (seqOf d)
theorem ji_seq {m : Mo PV} (h : JE X np W a m) : JI X np W tg a (iS m) := by
  have l := ji_list (tg := tg) h
  have t := ji_tup (tg := tg) h
  refine ⟨fun pins s σ H R I ⟨P, B, H0, e, J, q⟩ => ?_⟩
  unfold iS mB at q
  generalize hm : m e = o at q
  cases o with
  | stuck => exact q.elim
  | exc C ds e1 =>
    refine l.run pins s σ H R I ⟨P, B, H0, e, J, ?_⟩
    unfold iL mB
    rw [hm]; exact q
  | ok d e1 =>
    cases d with
    | lst ds =>
      refine l.run pins s σ H R I ⟨P, B, H0, e, J, ?_⟩
      unfold iL mB
      rw [hm]; exact q
    | scr ds =>
      refine l.run pins s σ H R I ⟨P, B, H0, e, J, ?_⟩
      unfold iL mB
      rw [hm]; exact q
    | tup ds =>
      refine t.run pins s σ H R I ⟨P, B, H0, e, J, ?_⟩
      unfold iT mB
      rw [hm]; exact q
    | ktp ds =>
      refine t.run pins s σ H R I ⟨P, B, H0, e, J, ?_⟩
      unfold iT mB
      rw [hm]; exact q
    | _ => exact q.elim

/-! ### truth -/
def truth : PV → Option Bool
  | .non => some false
  | .bl b => some b
  | .int i => some (i != 0)
  | .str x => if x.length ≤ sizeLine then some (x.length != 0) else none
  | .lst xs => some (!xs.isEmpty)
  | .tup xs => some (!xs.isEmpty)
  | _ => none
def mTr (m : Mo Opd) : Mo Bool := mB m fun o e => match (o.get e).bind truth with
  | some b => .ok b e
  | none => .stuck
/-! ### chains -/
def mCh (f g : PV → PV → Option Sl) (ma mb mc : Mo Opd) : Mo Sl := mB ma fun a => mB mb fun b e => match (a.get e).bind fun x => (b.get e).bind fun y => f x y with
  | some (.fz (.bl true)) => mB mc (fun c e2 => sl? ((b.get e2).bind fun y => (c.get e2).bind fun z => g y z) e2) e
  | some (.fz (.bl false)) => .ok (.fz (.bl false)) e
  | _ => .stuck
/-- a new dict that no one looks into -/
theorem js_dict0 {h : Expr} {d : TE} (hp : PE X h d) (hd : ∀ σ H Q, (∀ v H', (∀ b o, H b = some o → H' b = some o) → Q v H') → d σ H Q) : JS X np W h (mC .any) :=
  PEi hp fun σ H Q ⟨P, B, H0, e, I, q⟩ => hd σ H Q fun v H' k => q v H' (I.same k) (.any v) (.same k)
end
end VS

set_option Elab.async false
set_option linter.all false
set_option maxRecDepth 100000
set_option maxHeartbeats 1000000
/-! VS13: reckoning with the functions: what simp uses. -/
namespace VS
open PySem L2

section
variable {α β : Type} {e : Fr}
@[simp] theorem mB_ap (m : Mo α) (k : α → Mo β) : mB m k e = match m e with
  | .ok a e' => k a e'
  | .exc C ds e' => .exc C ds e'
  | .stuck => .stuck := rfl
@[simp] theorem mR_ap (a : α) : mR a e = .ok a e := rfl
@[simp] theorem mO_some (a : α) : mO (some a) e = .ok a e := rfl
@[simp] theorem mO_none : (mO (none : Option α)) e = .stuck := rfl
@[simp] theorem mC_ap (d : PV) : mC d e = .ok (.fz d) e := rfl
@[simp] theorem oN_ap (i : Nat) : oN i e = match e[i]? with
  | some (.fz _) => .ok (.pl i) e
  | some (.own _) => .ok (.pl i) e
  | _ => .stuck := rfl
@[simp] theorem mN_ap (np i : Nat) : mN np i e = match e[i]? with
  | some (.fz d) => .ok (.fz d) e
  | some (.own d) => if np ≤ i then .ok (.fz d) (e.set i (.fz d)) else .stuck
  | _ => .stuck := rfl
@[simp] theorem mV_ap (np i : Nat) : mV np i e = match e[i]? with
  | some (.fz d) => .ok (.fz d) e
  | some (.own d) => if np ≤ i then .ok (.own d) (e.set i .un) else .stuck
  | _ => .stuck := rfl
@[simp] theorem pv_fz (d : PV) : Sl.pv (.fz d) = some d := rfl
@[simp] theorem pv_own (d : PV) : Sl.pv (.own d) = some d := rfl
@[simp] theorem mFz_ap (m : Mo Sl) : mFz m e = match m e with
  | .ok s e' => mO s.pv e'
  | .exc C ds e' => .exc C ds e'
  | .stuck => .stuck := by
  unfold mFz
  (try unfold mFz)
  (try unfold mB)
  (try unfold mS)
  cases m e with
  | ok a e' => first | rfl | (dsimp only; (try unfold mB); split <;> simp_all)
  | exc C ds e' => rfl
  | stuck => rfl
@[simp] theorem oV_ap (m : Mo PV) : oV m e = match m e with
  | .ok d e' => .ok (.val d) e'
  | .exc C ds e' => .exc C ds e'
  | .stuck => .stuck := by
  unfold oV
  (try unfold mFz)
  (try unfold mB)
  (try unfold mS)
  cases m e with
  | ok a e' => first | rfl | (dsimp only; (try unfold mB); split <;> simp_all)
  | exc C ds e' => rfl
  | stuck => rfl
@[simp] theorem sl_fz (d : PV) : sl? (some (.fz d)) e = .ok (.fz d) e := rfl
@[simp] theorem sl_own (d : PV) : sl? (some (.own d)) e = .ok (.own d) e := rfl
@[simp] theorem sl_none : sl? none e = .stuck := rfl
@[simp] theorem get_val (d : PV) : (Opd.val d).get e = some d := rfl
@[simp] theorem get_pl (i : Nat) : (Opd.pl i).get e = match e[i]? with
  | some (.fz d) => some d
  | some (.own d) => some d
  | _ => none := rfl
@[simp] theorem mOp2_ap (f : PV → PV → Option Sl) (ma mb : Mo Opd) : mOp2 f ma mb e = match ma e with
  | .ok a e1 => match mb e1 with
    | .ok b e2 => sl? ((a.get e2).bind fun x => (b.get e2).bind fun y => f x y) e2
    | .exc C ds e' => .exc C ds e'
    | .stuck => .stuck
  | .exc C ds e' => .exc C ds e'
  | .stuck => .stuck := by
  unfold mOp2
  (try unfold mB)
  (try unfold mS)
  cases ma e with
  | ok a e' =>
    dsimp only
    (try unfold mB)
    cases mb e' with
    | ok b e2 => first | rfl | (dsimp only; (try unfold mB); (try split <;> simp_all))
    | exc C ds e' => rfl
    | stuck => rfl
  | exc C ds e' => rfl
  | stuck => rfl
@[simp] theorem mOp1_ap (f : PV → Option Sl) (ma : Mo Opd) : mOp1 f ma e = match ma e with
  | .ok a e1 => sl? ((a.get e1).bind f) e1
  | .exc C ds e' => .exc C ds e'
  | .stuck => .stuck := by
  unfold mOp1
  (try unfold mFz)
  (try unfold mB)
  (try unfold mS)
  cases ma e with
  | ok a e' => first | rfl | (dsimp only; (try unfold mB); split <;> simp_all)
  | exc C ds e' => rfl
  | stuck => rfl
@[simp] theorem mT_ap (m : Mo Sl) : mT m e = match m e with
  | .ok (.fz (.bl c)) e' => .ok c e'
  | .ok _ _ => .stuck
  | .exc C ds e' => .exc C ds e'
  | .stuck => .stuck := by
  unfold mT mB
  split
  · rename_i s e' h
    rw [h]
    split <;> simp_all
  · rename_i h; rw [h]
  · rename_i h; rw [h]
@[simp] theorem mAnd_ap (a b : Mo Bool) : mAnd a b e = match a e with
  | .ok true e' => b e'
  | .ok false e' => .ok false e'
  | .exc C ds e' => .exc C ds e'
  | .stuck => .stuck := by
  unfold mAnd mB
  cases a e with
  | ok c e' => cases c <;> rfl
  | exc C ds e' => rfl
  | stuck => rfl
@[simp] theorem mOr_ap (a b : Mo Bool) : mOr a b e = match a e with
  | .ok true e' => .ok true e'
  | .ok false e' => b e'
  | .exc C ds e' => .exc C ds e'
  | .stuck => .stuck := by
  unfold mOr mB
  cases a e with
  | ok c e' => cases c <;> rfl
  | exc C ds e' => rfl
  | stuck => rfl
@[simp] theorem mNot_ap (a : Mo Bool) : mNot a e = match a e with
  | .ok c e' => .ok (!c) e'
  | .exc C ds e' => .exc C ds e'
  | .stuck => .stuck := by
  unfold mNot
  (try unfold mFz)
  (try unfold mB)
  (try unfold mS)
  cases a e with
  | ok a e' => first | rfl | (dsimp only; (try unfold mB); split <;> simp_all)
  | exc C ds e' => rfl
  | stuck => rfl
@[simp] theorem mAndV_ap (a b : Mo Sl) : mAndV a b e = match mT a e with
  | .ok true e' => b e'
  | .ok false e' => .ok (.fz (.bl false)) e'
  | .exc C ds e' => .exc C ds e'
  | .stuck => .stuck := by
  unfold mAndV
  rw [mB_ap]
  cases mT a e with
  | ok c e' => cases c <;> rfl
  | exc C ds e' => rfl
  | stuck => rfl
@[simp] theorem mOrV_ap (a b : Mo Sl) : mOrV a b e = match mT a e with
  | .ok true e' => .ok (.fz (.bl true)) e'
  | .ok false e' => b e'
  | .exc C ds e' => .exc C ds e'
  | .stuck => .stuck := by
  unfold mOrV
  rw [mB_ap]
  cases mT a e with
  | ok c e' => cases c <;> rfl
  | exc C ds e' => rfl
  | stuck => rfl
@[simp] theorem mNotV_ap (a : Mo Sl) : mNotV a e = match mT a e with
  | .ok c e' => .ok (.fz (.bl !c)) e'
  | .exc C ds e' => .exc C ds e'
  | .stuck => .stuck := by
  unfold mNotV
  (try unfold mFz)
  (try unfold mB)
  (try unfold mS)
  cases mT a e with
  | ok a e' => first | rfl | (dsimp only; (try unfold mB); split <;> simp_all)
  | exc C ds e' => rfl
  | stuck => rfl
@[simp] theorem mIf_ap (t : Mo Bool) (a b : Mo Sl) : mIf t a b e = match t e with
  | .ok true e' => a e'
  | .ok false e' => b e'
  | .exc C ds e' => .exc C ds e'
  | .stuck => .stuck := by
  unfold mIf mB
  cases t e with
  | ok c e' => cases c <;> rfl
  | exc C ds e' => rfl
  | stuck => rfl
@[simp] theorem mNil_ap : mNil e = .ok [] e := rfl
@[simp] theorem mCons_ap (m : Mo PV) (r : Mo (List PV)) : mCons m r e = match m e with
  | .ok d e' => match r e' with
    | .ok ds e2 => .ok (d :: ds) e2
    | .exc C ds e' => .exc C ds e'
    | .stuck => .stuck
  | .exc C ds e' => .exc C ds e'
  | .stuck => .stuck := by
  unfold mCons
  (try unfold mB)
  (try unfold mS)
  cases m e with
  | ok a e' =>
    dsimp only
    (try unfold mB)
    cases r e' with
    | ok b e2 => first | rfl | (dsimp only; (try unfold mB); (try split <;> simp_all))
    | exc C ds e' => rfl
    | stuck => rfl
  | exc C ds e' => rfl
  | stuck => rfl
theorem len_line {n : Nat} (h : n ≤ 1000000) : n ≤ sizeLine := by rw [sizeLine_eq]; omega
@[simp] theorem mTup_ap (m : Mo (List PV)) : mTup m e = match m e with
  | .ok ds e' => if ds.length ≤ sizeLine then .ok (.fz (.tup ds)) e' else .stuck
  | .exc C ds e' => .exc C ds e'
  | .stuck => .stuck := by
  unfold mTup mB
  cases m e with
  | ok ds e' => dsimp only; split <;> rfl
  | exc C ds e' => rfl
  | stuck => rfl
@[simp] theorem mLst_ap (m : Mo (List PV)) : mLst m e = match m e with
  | .ok ds e' => if ds.length ≤ sizeLine then .ok (.own (.lst ds)) e' else .stuck
  | .exc C ds e' => .exc C ds e'
  | .stuck => .stuck := by
  unfold mLst mB
  cases m e with
  | ok ds e' => dsimp only; split <;> rfl
  | exc C ds e' => rfl
  | stuck => rfl
@[simp] theorem sz_le {n : Nat} : (n ≤ sizeLine) = (n ≤ 16777216) := by rw [sizeLine_eq]
@[simp] theorem sz_lt {n : Nat} : (n < sizeLine) = (n < 16777216) := by rw [sizeLine_eq]
/-! statements -/
@[simp] theorem sNx_ap : sNx e = .nx e := rfl
@[simp] theorem sSq_ap (a b : MS) : sSq a b e = match a e with
  | .nx e' => b e'
  | .ret s e' => .ret s e'
  | .brk e' => .brk e'
  | .cont e' => .cont e'
  | .exc C ds e' => .exc C ds e'
  | .stuck => .stuck := by
  unfold sSq
  cases a e <;> rfl
@[simp] theorem mS_ap (m : Mo α) (k : α → MS) : mS m k e = match m e with
  | .ok a e' => k a e'
  | .exc C ds e' => .exc C ds e'
  | .stuck => .stuck := rfl
@[simp] theorem sDrop_ap (m : Mo Sl) : sDrop m e = match m e with
  | .ok _ e' => .nx e'
  | .exc C ds e' => .exc C ds e'
  | .stuck => .stuck := by
  unfold sDrop
  (try unfold mFz)
  (try unfold mB)
  (try unfold mS)
  cases m e with
  | ok a e' => first | rfl | (dsimp only; (try unfold mB); split <;> simp_all)
  | exc C ds e' => rfl
  | stuck => rfl
@[simp] theorem sRet_ap (m : Mo Sl) : sRet m e = match m e with
  | .ok s e' => .ret s e'
  | .exc C ds e' => .exc C ds e'
  | .stuck => .stuck := by
  unfold sRet
  (try unfold mFz)
  (try unfold mB)
  (try unfold mS)
  cases m e with
  | ok a e' => first | rfl | (dsimp only; (try unfold mB); split <;> simp_all)
  | exc C ds e' => rfl
  | stuck => rfl
@[simp] theorem sRetN_ap : sRetN e = .ret (.fz .non) e := rfl
@[simp] theorem sBrk_ap : sBrk e = .brk e := rfl
@[simp] theorem sCont_ap : sCont e = .cont e := rfl
@[simp] theorem sIf_ap (t : Mo Bool) (a b : MS) : sIf t a b e = match t e with
  | .ok true e' => a e'
  | .ok false e' => b e'
  | .exc C ds e' => .exc C ds e'
  | .stuck => .stuck := by
  unfold sIf mS
  cases t e with
  | ok c e' => cases c <;> rfl
  | exc C ds e' => rfl
  | stuck => rfl
@[simp] theorem sPut_fz (np i : Nat) (d : PV) : sPut np i (.fz d) e = if np ≤ i then .nx (e.set i (.fz d)) else match e[i]? with
    | some (.fz _) => .nx (e.set i (.fz d))
    | _ => .stuck := rfl
@[simp] theorem sPut_own (np i : Nat) (d : PV) : sPut np i (.own d) e = if np ≤ i then .nx (e.set i (.own d)) else .stuck := rfl
@[simp] theorem sSet_ap (np i : Nat) (m : Mo Sl) : sSet np i m e = match m e with
  | .ok s e' => sPut np i s e'
  | .exc C ds e' => .exc C ds e'
  | .stuck => .stuck := by
  unfold sSet
  (try unfold mFz)
  (try unfold mB)
  (try unfold mS)
  cases m e with
  | ok a e' => first | rfl | (dsimp only; (try unfold mB); split <;> simp_all)
  | exc C ds e' => rfl
  | stuck => rfl
@[simp] theorem ownL_own (ds : List PV) : ownL (some (.own (.lst ds))) = some ds := rfl
@[simp] theorem mApp_ap (i : Nat) (m : Mo PV) : mApp i m e = match ownL e[i]? with
  | some _ => match m e with
    | .ok d e1 => match ownL e1[i]? with
      | some ds => if ds.length < sizeLine then .ok (.fz .non) (e1.set i (.own (.lst (ds ++ [d])))) else .stuck
      | none => .stuck
    | .exc C ds e' => .exc C ds e'
    | .stuck => .stuck
  | none => .stuck := by
  unfold mApp
  cases ownL e[i]? with
  | none => rfl
  | some _ =>
    dsimp only
    unfold mB
    cases m e with
    | ok d e1 => rfl
    | exc C ds e' => rfl
    | stuck => rfl
@[simp] theorem sSetIx_ap (i : Nat) (mv mj : Mo PV) : sSetIx i mv mj e = match mv e with
  | .ok d e1 => match ownL e1[i]? with
    | some _ => match mj e1 with
      | .ok j e2 => match j, ownL e2[i]? with
        | .int k, some ds => match ixN ds.length k with
          | some n => .nx (e2.set i (.own (.lst (ds.set n d))))
          | none => .stuck
        | _, _ => .stuck
      | .exc C ds e' => .exc C ds e'
      | .stuck => .stuck
    | none => .stuck
  | .exc C ds e' => .exc C ds e'
  | .stuck => .stuck := by
  unfold sSetIx mS
  cases mv e with
  | ok d e1 =>
    dsimp only
    cases ownL e1[i]? with
    | none => rfl
    | some _ =>
      dsimp only
      cases mj e1 with
      | ok j e2 => rfl
      | exc C ds e' => rfl
      | stuck => rfl
  | exc C ds e' => rfl
  | stuck => rfl
/-! calls -/
@[simp] theorem mNilO_ap : mNilO e = .ok [] e := rfl
@[simp] theorem neB_val (d : PV) : neB (.val d) e = true := rfl
@[simp] theorem neB_pl (i : Nat) : neB (.pl i) e = match e[i]? with
    | some (.fz _) => true
    | some (.own _) => true
    | _ => false := rfl
@[simp] theorem mConsO'_ap (m : Mo Opd) (r : Mo (List Opd)) : mConsO' m r e = match m e with
  | .ok d e' => match r e' with
    | .ok ds e2 => if neB d e2 then .ok (d :: ds) e2 else .stuck
    | .exc C ds e' => .exc C ds e'
    | .stuck => .stuck
  | .exc C ds e' => .exc C ds e'
  | .stuck => .stuck := by
  unfold mConsO'
  (try unfold mB)
  (try unfold mS)
  cases m e with
  | ok a e' =>
    dsimp only
    (try unfold mB)
    cases r e' with
    | ok b e2 => first | rfl | (dsimp only; (try unfold mB); (try split <;> simp_all))
    | exc C ds e' => rfl
    | stuck => rfl
  | exc C ds e' => rfl
  | stuck => rfl
@[simp] theorem slO_val (d : PV) : slO (.val d) e = some (.fz d) := rfl
@[simp] theorem slO_pl (i : Nat) : slO (.pl i) e = match e[i]? with
    | some (.fz d) => some (.fz d)
    | some (.own d) => some (.own d)
    | _ => none := rfl
@[simp] theorem getA_nil : getA [] e = some [] := rfl
@[simp] theorem getA_cons (o : Opd) (os : List Opd) : getA (o :: os) e = match slO o e, getA os e with
  | some s, some r => some (s :: r)
  | _, _ => none := rfl
@[simp] theorem ownIx_nil : ownIx [] e = [] := rfl
@[simp] theorem ownIx_val (d : PV) (os : List Opd) : ownIx (.val d :: os) e = ownIx os e := rfl
@[simp] theorem ownIx_pl (i : Nat) (os : List Opd) : ownIx (.pl i :: os) e = match e[i]? with
    | some (.own _) => i :: ownIx os e
    | _ => ownIx os e := rfl
@[simp] theorem putA_nil (as : List Sl) (e0 : Fr) : putA [] as e0 e = some e := by cases as <;> rfl
@[simp] theorem putA_val (d : PV) (os : List Opd) (s : Sl) (as : List Sl) (e0 : Fr) : putA (.val d :: os) (s :: as) e0 e = putA os as e0 e := rfl
@[simp] theorem putA_pl (i : Nat) (os : List Opd) (s : Sl) (as : List Sl) (e0 : Fr) : putA (.pl i :: os) (s :: as) e0 e = match e0[i]? with
    | some (.own _) => match s with
      | .own d => putA os as e0 (e.set i (.own d))
      | _ => none
    | _ => putA os as e0 e := rfl
@[simp] theorem mCall_ap (mf : MF) (mos : Mo (List Opd)) : mCall mf mos e = match mos e with
  | .ok os e1 => match getA os e1 with
    | none => .stuck
    | some as => if (ownIx os e1).Nodup then match mf as with
        | .ret s as' => match putA os as' e1 e1 with
          | some e2 => .ok s e2
          | none => .stuck
        | .exc C ds as' => match putA os as' e1 e1 with
          | some e2 => .exc C ds e2
          | none => .stuck
        | .stuck => .stuck
      else .stuck
  | .exc C ds e' => .exc C ds e'
  | .stuck => .stuck := by
  unfold mCall mB
  cases mos e with
  | ok os e1 => rfl
  | exc C ds e' => rfl
  | stuck => rfl
@[simp] theorem outA_nil : outA [] e = [] := rfl
@[simp] theorem outA_own (d : PV) (as : List Sl) (s : Sl) : outA (.own d :: as) (s :: e) = s :: outA as e := rfl
@[simp] theorem outA_fz (d : PV) (as : List Sl) (s : Sl) : outA (.fz d :: as) (s :: e) = .fz d :: outA as e := rfl
/-! operations -/
@[simp] theorem fI_ap (C : Int → Int → Bool) (g : Int → Int → PV) (i j : Int) : fI C g (.int i) (.int j) = if C i j then some (.fz (g i j)) else none := rfl
@[simp] theorem fAdd_ii (i j : Int) : fAdd (.int i) (.int j) = some (.fz (.int (i + j))) := rfl
@[simp] theorem fAdd_ss (i j : Str) : fAdd (.str i) (.str j) = if i.length + j.length ≤ sizeLine then some (.fz (.str (i ++ j))) else none := rfl
@[simp] theorem fAdd_tt (i j : List PV) : fAdd (.tup i) (.tup j) = if i.length + j.length ≤ sizeLine then some (.fz (.tup (i ++ j))) else none := rfl
@[simp] theorem fAdd_ll (i j : List PV) : fAdd (.lst i) (.lst j) = if i.length + j.length ≤ sizeLine then some (.own (.lst (i ++ j))) else none := rfl
@[simp] theorem fSub_ii (i j : Int) : fSub (.int i) (.int j) = some (.fz (.int (i - j))) := rfl
@[simp] theorem fMul_ii (i j : Int) : fMul (.int i) (.int j) = if mulB i j then some (.fz (.int (i * j))) else none := rfl
@[simp] theorem fDiv_ii (i j : Int) : fDiv (.int i) (.int j) = if decide (0 < j) && decide (j < 1073741824) then some (.fz (.int (i / j))) else none := rfl
@[simp] theorem fMod_ii (i j : Int) : fMod (.int i) (.int j) = if decide (0 < j) then some (.fz (.int (i % j))) else none := rfl
@[simp] theorem fAnd_ii (i j : Int) : fAnd (.int i) (.int j) = some (.fz (.int (Builtin.bitAnd i j))) := rfl
@[simp] theorem fShr_ii (i j : Int) : fShr (.int i) (.int j) = if decide (0 ≤ j) then some (.fz (.int (i / 2 ^ j.toNat))) else none := rfl
@[simp] theorem fPow_ii (i j : Int) : fPow (.int i) (.int j) = if decide (0 ≤ j) && decide (j ≤ 1000000) && decide (i.natAbs < 2 ^ 64) then some (.fz (.int (i ^ j.toNat))) else none := rfl
@[simp] theorem fLt_ii (i j : Int) : fLt (.int i) (.int j) = some (.fz (.bl (decide (i < j)))) := rfl
@[simp] theorem fLe_ii (i j : Int) : fLe (.int i) (.int j) = some (.fz (.bl (decide (i ≤ j)))) := rfl
@[simp] theorem fGt_ii (i j : Int) : fGt (.int i) (.int j) = some (.fz (.bl (decide (j < i)))) := rfl
@[simp] theorem fGe_ii (i j : Int) : fGe (.int i) (.int j) = some (.fz (.bl (decide (j ≤ i)))) := rfl
@[simp] theorem okD_int (i : Int) : okD (.int i) = true := rfl
@[simp] theorem okD_bl (i : Bool) : okD (.bl i) = true := rfl
@[simp] theorem okD_non : okD .non = true := rfl
@[simp] theorem eqv_int (i j : Int) : PyData.eqv (PV.toD (.int i)) (PV.toD (.int j)) = decide (i = j) := by
  simp only [PV.toD, PyData.eqv]
  by_cases h : i = j <;> simp [h]
@[simp] theorem fEq_ii (i j : Int) : fEq (.int i) (.int j) = some (.fz (.bl (decide (i = j)))) := by simp [fEq]
@[simp] theorem fNe_ii (i j : Int) : fNe (.int i) (.int j) = some (.fz (.bl (!decide (i = j)))) := by simp [fNe]
@[simp] theorem fIs_n (d : PV) (h : d ≠ .any) : fIs d .non = some (.fz (.bl d.isN)) := by unfold fIs; split <;> simp_all
@[simp] theorem fIsNot_n (d : PV) (h : d ≠ .any) : fIsNot d .non = some (.fz (.bl (!d.isN))) := by unfold fIsNot; split <;> simp_all
@[simp] theorem fIs_bb (a b : Bool) : fIs (.bl a) (.bl b) = some (.fz (.bl (decide (a = b)))) := rfl
@[simp] theorem fIx_li (xs : List PV) (i : Int) : fIx (.lst xs) (.int i) = (atI xs i).map .fz := rfl
@[simp] theorem fIx_ti (xs : List PV) (i : Int) : fIx (.tup xs) (.int i) = (atI xs i).map .fz := rfl
@[simp] theorem fIx_si (z : Str) (i : Int) : fIx (.str z) (.int i) = if z.length ≤ sizeLine then (atI z.cps.toList i).map fun c => .fz (.str ⟨#[c]⟩) else none := rfl
@[simp] theorem fLen_l (xs : List PV) : fLen (.lst xs) = some (.fz (.int xs.length)) := rfl
@[simp] theorem fLen_t (xs : List PV) : fLen (.tup xs) = some (.fz (.int xs.length)) := rfl
@[simp] theorem fLen_s (z : Str) : fLen (.str z) = if z.length ≤ sizeLine then some (.fz (.int z.length)) else none := rfl
@[simp] theorem fInt_i (i : Int) : fInt (.int i) = some (.fz (.int i)) := rfl
@[simp] theorem fAbs_i (i : Int) : fAbs (.int i) = some (.fz (.int (if i < 0 then -i else i))) := rfl
@[simp] theorem fTuple_l (xs : List PV) : fTuple (.lst xs) = some (.fz (.tup xs)) := rfl
@[simp] theorem fTuple_t (xs : List PV) : fTuple (.tup xs) = some (.fz (.tup xs)) := rfl
@[simp] theorem fList_l (xs : List PV) : fList (.lst xs) = some (.own (.lst xs)) := rfl
@[simp] theorem fList_t (xs : List PV) : fList (.tup xs) = some (.own (.lst xs)) := rfl
@[simp] theorem fNeg_i (i : Int) : fNeg (.int i) = some (.fz (.int (-i))) := rfl
@[simp] theorem gN_ap (np i : Nat) (d : PV) : gN np i d e = if np ≤ i then some (e.set i (.fz d)) else none := rfl
@[simp] theorem gNl_ap : gNl [] e = some e := rfl
@[simp] theorem gCn_ap (g : MG) (r : MGs) (d : PV) (ds : List PV) : gCn g r (d :: ds) e = match g d e with
    | some e' => r ds e'
    | none => none := rfl
@[simp] theorem gTp_ap (n : Nat) (r : MGs) (ds : List PV) : gTp n r (.tup ds) e = if ds.length = n then r ds e else none := rfl
@[simp] theorem seqOf_l (ds : List PV) : seqOf (.lst ds) = some ds := rfl
@[simp] theorem seqOf_s (ds : List PV) : seqOf (.scr ds) = some ds := rfl
@[simp] theorem seqOf_t (ds : List PV) : seqOf (.tup ds) = some ds := rfl
@[simp] theorem iS_ap (m : Mo PV) : iS m e = match m e with
  | .ok d e' => mO (seqOf d) e'
  | .exc C ds e' => .exc C ds e'
  | .stuck => .stuck := by
  unfold iS
  (try unfold mFz)
  (try unfold mB)
  (try unfold mS)
  cases m e with
  | ok a e' => first | rfl | (dsimp only; (try unfold mB); split <;> simp_all)
  | exc C ds e' => rfl
  | stuck => rfl
@[simp] theorem iE_ap (m : Mo PV) : iE m e = match m e with
  | .ok (.lst ds) e' => .ok (enumL 0 ds) e'
  | .ok (.scr ds) e' => .ok (enumL 0 ds) e'
  | .ok _ _ => .stuck
  | .exc C ds e' => .exc C ds e'
  | .stuck => .stuck := by
  unfold iE mB
  split
  · rename_i s e' h
    rw [h]
    cases s <;> rfl
  · rename_i h; rw [h]
  · rename_i h; rw [h]
@[simp] theorem iR1_ap (m : Mo PV) : iR1 m e = match m e with
  | .ok (.int j) e' => if inR j then .ok (rangeL 0 j) e' else .stuck
  | .ok _ _ => .stuck
  | .exc C ds e' => .exc C ds e'
  | .stuck => .stuck := by
  unfold iR1 mB
  split
  · rename_i s e' h
    rw [h]
    cases s <;> simp
    split <;> rfl
  · rename_i h; rw [h]
  · rename_i h; rw [h]
@[simp] theorem atI0 {α : Type} (x : α) (xs : List α) : atI (x :: xs) 0 = some x := by simp [atI, ixN]
@[simp] theorem atI1 {α : Type} (x y : α) (xs : List α) : atI (x :: y :: xs) 1 = some y := by
  have : ((1 : Nat) : Int) = 1 := rfl
  rw [← this]; exact atI_nat rfl
@[simp] theorem atI2 {α : Type} (x y z : α) (xs : List α) : atI (x :: y :: z :: xs) 2 = some z := by
  have : ((2 : Nat) : Int) = 2 := rfl
  rw [← this]; exact atI_nat rfl
@[simp] theorem atI3 {α : Type} (x y z w : α) (xs : List α) : atI (x :: y :: z :: w :: xs) 3 = some w := by
  have : ((3 : Nat) : Int) = 3 := rfl
  rw [← this]; exact atI_nat rfl
@[simp] theorem ixN_0 (n : Nat) : ixN (n + 1) 0 = some 0 := by simp [ixN]
@[simp] theorem ixN_1 (n : Nat) : ixN (n + 1 + 1) 1 = some 1 := by simp [ixN]; omega
@[simp] theorem ixN_2 (n : Nat) : ixN (n + 1 + 1 + 1) 2 = some 2 := by simp [ixN]; omega
@[simp] theorem ixN_3 (n : Nat) : ixN (n + 1 + 1 + 1 + 1) 3 = some 3 := by simp [ixN]; omega
end
theorem mulB_l {i j : Int} (h1 : -(2 ^ 64) < i) (h2 : i < 2 ^ 64) : mulB i j = true := by
  unfold mulB; simp only [Bool.or_eq_true, Bool.and_eq_true, decide_eq_true_eq]; exact .inl ⟨h1, h2⟩
theorem mulB_r {i j : Int} (h1 : -(2 ^ 64) < j) (h2 : j < 2 ^ 64) : mulB i j = true := by
  unfold mulB; simp only [Bool.or_eq_true, Bool.and_eq_true, decide_eq_true_eq]; exact .inr ⟨h1, h2⟩

/-! ### loops -/
theorem forRun_inv {g : MG} {mb : MS} {ds : List PV} (Inv : Nat → Fr → Prop) {e : Fr} (h0 : Inv 0 e)
    (hs : ∀ i d e, ds[i]? = some d → Inv i e → ∃ e1 e2, g d e = some e1 ∧ (mb e1 = .nx e2 ∨ mb e1 = .cont e2) ∧ Inv (i + 1) e2) : ∃ e', forRun g mb ds e = .nx e' ∧ Inv ds.length e' := by
  suffices z : ∀ (l : List PV) (k : Nat) (e : Fr), (∀ i, l[i]? = ds[k + i]?) → Inv k e → ∃ e', forRun g mb l e = .nx e' ∧ Inv (k + l.length) e' by
    obtain ⟨e', h1, h2⟩ := z ds 0 e (fun i => by rw [Nat.zero_add]) h0
    rw [Nat.zero_add] at h2
    exact ⟨e', h1, h2⟩
  intro l
  induction l with
  | nil => intro k e _ h; exact ⟨e, rfl, h⟩
  | cons d l ih =>
    intro k e hl h
    have hd : ds[k]? = some d := by have := hl 0; simpa using this.symm
    obtain ⟨e1, e2, h1, h2, h3⟩ := hs k d e hd h
    obtain ⟨e', h4, h5⟩ := ih (k + 1) e2 (fun i => by have := hl (i + 1); simp only [List.getElem?_cons_succ] at this; rw [this]; congr 1; omega) h3
    refine ⟨e', ?_, by rw [List.length_cons]; rw [show k + (l.length + 1) = k + 1 + l.length by omega]; exact h5⟩
    unfold forRun
    rw [h1]
    rcases h2 with h2 | h2 <;> simp only [h2, h4]
/-- a comprehension whose turns leave the slots as they are -/
theorem compRun_pure {vs : List Nat} {g : MG} {mt : Mo Bool} {me : Mo PV} {e : Fr} (p : PV → Bool) (f : PV → PV) : ∀ (ds acc : List PV),
    (∀ d ∈ ds, ∃ e1 e2, g d e = some e1 ∧ mt e1 = .ok (p d) e2 ∧ (p d = false → wipeE e2 vs = e) ∧ (p d = true → ∃ e3, me e2 = .ok (f d) e3 ∧ wipeE e3 vs = e)) → acc.length + ds.length ≤ 16777216 →
    compRun vs g mt me ds acc e = .ok (.own (.lst (acc ++ (ds.filter p).map f))) e
  | [], acc, _, _ => by simp [compRun]
  | d :: ds, acc, h, hl => by
    obtain ⟨e1, e2, h1, h2, h3, h4⟩ := h d List.mem_cons_self
    unfold compRun
    rw [h1]
    dsimp only
    rw [h2]
    cases hp : p d with
    | false =>
      dsimp only
      rw [h3 hp, compRun_pure p f ds acc (fun d hd => h d (List.mem_cons_of_mem _ hd)) (by simp at hl; omega)]
      simp [hp]
    | true =>
      obtain ⟨e3, h5, h6⟩ := h4 hp
      dsimp only
      rw [h5]
      dsimp only
      rw [if_pos (by simp at hl ⊢; omega), h6, compRun_pure p f ds (acc ++ [f d]) (fun d hd => h d (List.mem_cons_of_mem _ hd)) (by simp at hl ⊢; omega)]
      simp [hp]
end VS

set_option Elab.async false
set_option linter.all false
set_option maxRecDepth 100000
set_option maxHeartbeats 1000000
/-! VS14: chained comparisons, classes in tuples, raise, try. -/
namespace VS
open PySem L2 PyProof.Rows

def mChain (f g : PV → PV → Option Sl) (ma mb mc : Mo Opd) : Mo Sl := mB ma fun a => mB mb fun b e => match (a.get e).bind fun x => (b.get e).bind fun y => f x y with
  | some (.fz (.bl true)) => mB mc (fun c e2 => sl? ((b.get e2).bind fun y => (c.get e2).bind fun z => g y z) e2) e
  | some (.fz (.bl false)) => .ok (.fz (.bl false)) e
  | _ => .stuck
section
variable {X : Cx} {np : Nat} {W : WX} {a b c : Expr} {pos : Pos} {ma mb mc : Mo Opd} {f g : PV → PV → Option Sl}
theorem chain_of {r r' : R2} (hf : F2 X.K r f) (hg : F2 X.K r' g) {σ : L2.St} {H : Hp} {Q : VK} (h : tG X.K np W (rS X.K) (mChain f g ma mb mc) σ H Q) : tChain r r' (tG X.K np W (rO X.K) ma) (tG X.K np W (rO X.K) mb) (tG X.K np W (rO X.K) mc) σ H Q := by
  refine tG.bind h fun P B H0 x e1 v H1 I1 r1 l1 h => ?_
  refine tG.bind (tG.of I1 h) fun P B H0 y e2 u H2 I2 r2 l2 h => ?_
  try dsimp only at h
  generalize h3 : x.get e2 = d1 at h
  generalize h4 : y.get e2 = d2 at h
  cases d1 with
  | none => exact h.elim
  | some d1 =>
    cases d2 with
    | none => exact h.elim
    | some d2 =>
      simp only [Option.bind_some] at h
      generalize h5 : f d1 d2 = o at h
      match o, h with
      | some (.fz (.bl true)), h =>
        refine hf H2 v u d1 d2 _ _ (rO.rr' I2 r1 l2 h3) (rO.rr' I2 r2 (.refl _) h4) h5 (by simp) fun z H3 k fz => ?_
        cases fz
        refine ⟨true, rfl, ?_⟩
        rw [if_pos rfl]
        have I3 := I2.same k
        have l3 : HLe H2 H3 := .same k
        have h := PostG.le l3 h
        refine tG.bind (tG.of I3 h) fun P B H0 z e4 w H4 I4 r4 l4 h => ?_
        generalize h6 : y.get e4 = d3 at h
        generalize h7 : z.get e4 = d4 at h
        cases d3 with
        | none => exact h.elim
        | some d3 =>
          cases d4 with
          | none => exact h.elim
          | some d4 =>
            simp only [Option.bind_some] at h
            generalize h8 : g d3 d4 = o at h
            match o, h with
            | none, h => exact h.elim
            | some .un, h => exact h.elim
            | some (.fz d), h =>
              rcases Res.of I4 h with q | q
              · exact hg H4 u w d3 d4 _ Q (rO.rr' I4 r2 (l3.trans l4) h6) (rO.rr' I4 r4 (.refl _) h7) h8 (by simp) q
              · cases q
            | some (.own d), h =>
              rcases Res.of I4 h with q | q
              · exact hg H4 u w d3 d4 _ Q (rO.rr' I4 r2 (l3.trans l4) h6) (rO.rr' I4 r4 (.refl _) h7) h8 (by simp) q
              · cases q
      | some (.fz (.bl false)), h =>
        refine hf H2 v u d1 d2 _ _ (rO.rr' I2 r1 l2 h3) (rO.rr' I2 r2 (.refl _) h4) h5 (by simp) fun z H3 k fz => ?_
        cases fz
        refine ⟨false, rfl, ?_⟩
        rw [if_neg (by simp)]
        exact h _ H3 (I2.same k) (.bl false) (.same k)
      | none, h => exact h.elim
      | some .un, h => exact h.elim
      | some (.own _), h => exact h.elim
      | some (.fz .non), h => exact h.elim
      | some (.fz (.int _)), h => exact h.elim
      | some (.fz (.str _)), h => exact h.elim
      | some (.fz (.tup _)), h => exact h.elim
      | some (.fz (.lst _)), h => exact h.elim
      | some (.fz (.scr _)), h => exact h.elim
      | some (.fz (.obj _ _)), h => exact h.elim
      | some (.fz (.ad _)), h => exact h.elim
      | some (.fz .any), h => exact h.elim
theorem js_chain {op op' : CmpOp} {r r' : R2} (ho : OpR X (compareOp op) r) (hf : F2 X.K r f) (ho' : OpR X (compareOp op') r') (hg : F2 X.K r' g) (ha : JO X np W a ma) (hb : JO X np W b mb) (hc : JO X np W c mc)
    (hm : lastMarks [op, op'] [b, c] = false := by with_unfolding_all rfl) : JS X np W (.Compare a [op, op'] [b, c] pos) (mChain f g ma mb mc) :=
  PEi (pe_chain ho ho' ha hb hc hm) fun _ _ _ h => chain_of hf hg h
theorem jt_chain {op op' : CmpOp} {r r' : R2} (ho : OpR X (compareOp op) r) (hf : F2 X.K r f) (ho' : OpR X (compareOp op') r') (hg : F2 X.K r' g) (ha : JO X np W a ma) (hb : JO X np W b mb) (hc : JO X np W c mc)
    (hm : lastMarks [op, op'] [b, c] = false := by with_unfolding_all rfl) : JT X np W (.Compare a [op, op'] [b, c] pos) (mT (mChain f g ma mb mc)) :=
  PTi (pt_chain ho ho' ha hb hc hm) fun _ _ _ h => chain_of hf hg (tT_of h)
end

/-! ### isinstance(x, (T1, T2)) -/
section
variable {X : Cx} {np : Nat} {W : WX} {a b c : Expr} {pos pos' : Pos}
theorem Rr.ext {K : PySem.W.Frag} {H H' : Hp} {v : V} {d : PV} (k : ∀ b o, H b = some o → H' b = some o) (h : Rr K H v d) : Rr K H' v d := by
  rcases h with h | ⟨a, rfl, h⟩
  · exact .inl (Fz.le (.same k) h)
  · obtain ⟨u, hu, _⟩ := h.at
    exact .inr ⟨a, rfl, Ow.le (.same k) ((k _ _ hu).trans hu.symm) h⟩
theorem js_isiT {T1 T2 : BT} {p : Pos} {x1} {mo : Mo Opd} (ha : JO X np W a mo) (hT1 : BTname X b T1) (hT2 : BTname X c T2) (hm : X.mg "isinstance" = none) (hg : Gl X "isinstance" := by rfl)
    (he : starEach (a :: [.Tuple [b, c] x1 pos']) X.env = (false, eval a X.env) :: starEach [.Tuple [b, c] x1 pos'] X.env := by rfl) (he2 : starEach (.Tuple [b, c] x1 pos' :: []) X.env = (false, eval (.Tuple [b, c] x1 pos') X.env) :: starEach [] X.env := by rfl)
    (he3 : starEach (b :: [c]) X.env = (false, eval b X.env) :: starEach [c] X.env := by rfl) (he4 : starEach (c :: []) X.env = (false, eval c X.env) :: starEach [] X.env := by rfl) (hpl : (backTo pos (starEach [.Tuple [b, c] x1 pos'] X.env)).any (·.1) = false := by rfl) :
    JS X np W (.Call (.Name "isinstance" p) [a, .Tuple [b, c] x1 pos'] [] pos) (mOp1 (fIsi [T1, T2]) mo) := by
  refine PEi (pe_callB call_isiT hg hm (by decide +kernel) (pa_cons ha (pa_cons (pe_tup (pa_cons hT1 (pa_cons hT2 pa_nil he4) he3)) pa_nil he2) he) (by decide) (by decide) he hpl) fun σ H Q h => ?_
  have z := op1_of (r := fun xs H1 Q => ∃ v t, xs = [v] ∧ (∀ p, H1 p = none → TyX X.K (upd H1 p (.tup [.ty T1.nm, .ty T2.nm])) v (.type (BT.nm t))) ∧ ∀ p, H1 p = none → Q (.bl ([T1, T2].any (BT.sub t))) (upd H1 p (.tup [.ty T1.nm, .ty T2.nm]))) ?_ h
  · obtain ⟨P, B, H0, e, I, z⟩ := z
    refine ⟨P, B, H0, e, I, ?_⟩
    generalize mo e = o at z ⊢
    cases o with
    | ok o e1 =>
      intro v H1 I1 r1 l1
      obtain ⟨v', t, q1, q2, q4⟩ := z v H1 I1 r1 l1
      cases q1
      refine ⟨by simp [sizeLine_eq], fun p hp => ?_⟩
      exact ⟨v, p, [.ty T1.nm, .ty T2.nm], .type (BT.nm t), [.type T1.nm, .type T2.nm], _, rfl, upd_same, .cons (.ty _) (.cons (.ty _) .nil), q2 p hp, kitAny_bt t [T1, T2], q4 p hp⟩
    | exc C ds e1 => exact z
    | stuck => exact z
  · intro H x d1 s Q r1 h _ q
    unfold fIsi at h
    cases e : d1.bt with
    | none => rw [e] at h; cases h
    | some t =>
      rw [e] at h; cases h
      have k : ∀ (p : Addr), H p = none → ∀ b o, H b = some o → upd H p (.tup [.ty T1.nm, .ty T2.nm]) b = some o := fun p hp b u z => by rw [upd_ne (ne_of_none z hp)]; exact z
      exact ⟨x, t, rfl, fun p hp => (r1.ext (k p hp)).tyx e, fun p hp => q _ _ (k p hp) (.bl _)⟩
end
end VS

set_option Elab.async false
set_option linter.all false
set_option maxRecDepth 100000
set_option maxHeartbeats 1000000
/-! VS15: dicts: keys ints and texts (dk), or tuples of them (dt). -/
namespace VS
open PySem L2 PyProof.Rows

def pvK : Key → PV
  | .inl i => .int i
  | .inr x => .str x
def kP : PV → Option Key
  | .int i => some (.inl i)
  | .str x => some (.inr x)
  | _ => none
def ksP : List PV → Option (List Key)
  | [] => some []
  | d :: ds => match kP d, ksP ds with
    | some k, some ks => some (k :: ks)
    | _, _ => none
section
variable {κ : Type} [DecidableEq κ]
def valP (kvs : List (κ × PV)) (k : κ) : Option PV := (kvs.find? fun kv => decide (kv.1 = k)).map (·.2)
def putD (kvs : List (κ × PV)) (k : κ) (v : PV) : List (κ × PV) :=
  if (kvs.any fun kv => decide (kv.1 = k)) = true then kvs.map (fun kv => if kv.1 = k then (kv.1, v) else kv) else kvs ++ [(k, v)]
def dropD (kvs : List (κ × PV)) (k : κ) : List (κ × PV) := kvs.filter fun kv => decide (kv.1 ≠ k)
end
section
variable {K : PySem.W.Frag} {H : Hp}
theorem kP_rel {d : PV} {k : Key} {v : V} (e : kP d = some k) (r : Rr K H v d) : v = kV k := by
  cases d with
  | int i => cases e; exact r.int
  | str x => cases e; exact r.str
  | _ => cases e
theorem ksP_rel : ∀ {ds : List PV} {ks : List Key} {vs : List V}, ksP ds = some ks → FzA K H vs ds → vs = ks.map kV
  | [], ks, vs, e, r => by cases e; cases r; rfl
  | d :: ds, ks, vs, e, r => by
    unfold ksP at e
    cases r with
    | cons r1 r2 =>
      cases e1 : kP d with
      | none => rw [e1] at e; cases e
      | some k =>
        cases e2 : ksP ds with
        | none => rw [e1, e2] at e; cases e
        | some ks' =>
          rw [e1, e2] at e; cases e
          rw [List.map_cons, kP_rel e1 (.inl r1), ksP_rel e2 r2]
theorem FzK.length : ∀ {v : List (Key × V)} {d : List (Key × PV)}, FzK K H v d → v.length = d.length
  | _, _, .nil => rfl
  | _, _, .cons _ q => by simp [FzK.length q]
theorem FzT.length : ∀ {v : List (List Key × V)} {d : List (List Key × PV)}, FzT K H v d → v.length = d.length
  | _, _, .nil => rfl
  | _, _, .cons _ q => by simp [FzT.length q]
/-- what stands at a key, on both sides -/
def RelP (K : PySem.W.Frag) (H : Hp) : Option V → Option PV → Prop
  | some v, some d => Fz K H v d
  | none, none => True
  | _, _ => False
theorem FzK.val (k : Key) : ∀ {v : List (Key × V)} {d : List (Key × PV)}, FzK K H v d → RelP K H (valV v k) (valP d k)
  | _, _, .nil => True.intro
  | (n, v) :: _, _ :: _, .cons h q => by
    by_cases e : n = k
    · simpa [valV, valP, List.find?_cons, e, RelP] using h
    · have := FzK.val k q
      simpa [valV, valP, List.find?_cons, e] using this
theorem FzT.val (k : List Key) : ∀ {v : List (List Key × V)} {d : List (List Key × PV)}, FzT K H v d → RelP K H (valV v k) (valP d k)
  | _, _, .nil => True.intro
  | (n, v) :: _, _ :: _, .cons h q => by
    by_cases e : n = k
    · simpa [valV, valP, List.find?_cons, e, RelP] using h
    · have := FzT.val k q
      simpa [valV, valP, List.find?_cons, e] using this
theorem FzK.any (k : Key) : ∀ {v : List (Key × V)} {d : List (Key × PV)}, FzK K H v d → (v.any fun kv => decide (kv.1 = k)) = d.any fun kv => decide (kv.1 = k)
  | _, _, .nil => rfl
  | _, _, .cons h q => by simp only [List.any_cons, FzK.any k q]
theorem FzT.any (k : List Key) : ∀ {v : List (List Key × V)} {d : List (List Key × PV)}, FzT K H v d → (v.any fun kv => decide (kv.1 = k)) = d.any fun kv => decide (kv.1 = k)
  | _, _, .nil => rfl
  | _, _, .cons h q => by simp only [List.any_cons, FzT.any k q]
theorem FzK.snoc {k : Key} {y : V} {x : PV} (h : Fz K H y x) : ∀ {v : List (Key × V)} {d : List (Key × PV)}, FzK K H v d → FzK K H (v ++ [(k, y)]) (d ++ [(k, x)])
  | _, _, .nil => .cons h .nil
  | _, _, .cons g q => .cons g (FzK.snoc h q)
theorem FzT.snoc {k : List Key} {y : V} {x : PV} (h : Fz K H y x) : ∀ {v : List (List Key × V)} {d : List (List Key × PV)}, FzT K H v d → FzT K H (v ++ [(k, y)]) (d ++ [(k, x)])
  | _, _, .nil => .cons h .nil
  | _, _, .cons g q => .cons g (FzT.snoc h q)
theorem FzK.repl {k : Key} {y : V} {x : PV} (h : Fz K H y x) : ∀ {v : List (Key × V)} {d : List (Key × PV)}, FzK K H v d → FzK K H (v.map fun kv => if kv.1 = k then (kv.1, y) else kv) (d.map fun kv => if kv.1 = k then (kv.1, x) else kv)
  | _, _, .nil => .nil
  | (n, v) :: _, _ :: _, .cons g q => by
    by_cases e : n = k
    · simp only [List.map_cons, if_pos e]; exact .cons h (FzK.repl h q)
    · simp only [List.map_cons, if_neg e]; exact .cons g (FzK.repl h q)
theorem FzT.repl {k : List Key} {y : V} {x : PV} (h : Fz K H y x) : ∀ {v : List (List Key × V)} {d : List (List Key × PV)}, FzT K H v d → FzT K H (v.map fun kv => if kv.1 = k then (kv.1, y) else kv) (d.map fun kv => if kv.1 = k then (kv.1, x) else kv)
  | _, _, .nil => .nil
  | (n, v) :: _, _ :: _, .cons g q => by
    by_cases e : n = k
    · simp only [List.map_cons, if_pos e]; exact .cons h (FzT.repl h q)
    · simp only [List.map_cons, if_neg e]; exact .cons g (FzT.repl h q)
theorem FzK.put {k : Key} {y : V} {x : PV} (h : Fz K H y x) {v : List (Key × V)} {d : List (Key × PV)} (q : FzK K H v d) : FzK K H (putK v k y) (putD d k x) := by
  unfold putK putD
  rw [FzK.any k q]
  split
  · exact FzK.repl h q
  · exact FzK.snoc h q
theorem FzT.put {k : List Key} {y : V} {x : PV} (h : Fz K H y x) {v : List (List Key × V)} {d : List (List Key × PV)} (q : FzT K H v d) : FzT K H (putK v k y) (putD d k x) := by
  unfold putK putD
  rw [FzT.any k q]
  split
  · exact FzT.repl h q
  · exact FzT.snoc h q
theorem FzK.drop (k : Key) : ∀ {v : List (Key × V)} {d : List (Key × PV)}, FzK K H v d → FzK K H (dropK v k) (dropD d k)
  | _, _, .nil => .nil
  | (n, v) :: _, _ :: _, .cons g q => by
    have ih := FzK.drop k q
    unfold dropK dropD at ih ⊢
    by_cases e : n = k
    · simpa [List.filter_cons, e] using ih
    · simpa [List.filter_cons, e] using FzK.cons g ih
theorem Rr.dk {v : V} {ds : List (Key × PV)} (h : Rr K H v (.dk ds)) : ∃ a fs, v = .ref a ∧ Rd H a (.dK fs) ∧ FzK K H fs ds := by
  rcases h with h | ⟨a, rfl, h⟩
  · cases h with | dk a b => exact ⟨_, _, rfl, .inr ⟨_, a⟩, b⟩
  · obtain ⟨fs, h1, h2⟩ := h; exact ⟨a, fs, rfl, .inl h1, h2⟩
theorem Rr.dt {v : V} {ds : List (List Key × PV)} (h : Rr K H v (.dt ds)) : ∃ a fs, v = .ref a ∧ Rd H a (.dT fs) ∧ FzT K H fs ds := by
  rcases h with h | ⟨a, rfl, h⟩
  · cases h with | dt a b => exact ⟨_, _, rfl, .inr ⟨_, a⟩, b⟩
  · obtain ⟨fs, h1, h2⟩ := h; exact ⟨a, fs, rfl, .inl h1, h2⟩
/-- what the dict holds at the key; none: not a key of such a dict -/
def atD (d y : PV) : Option (Option PV) := match d with
  | .dk ds => (kP y).map fun k => valP ds k
  | .dt ds => match y with
    | .tup ys => (ksP ys).map fun k => valP ds k
    | _ => none
  | _ => none
theorem atD_get {d y : PV} {o : Option PV} {x v : V} (e : atD d y = some o) (r : Rr K H x d) (ry : Rr K H v y) : ∃ a ov, x = .ref a ∧ DGet H a v ov ∧ RelP K H ov o ∧ ov.isSome = o.isSome := by
  have fin : ∀ {ov : Option V} {o : Option PV}, RelP K H ov o → ov.isSome = o.isSome := fun {ov o} h => by cases ov <;> cases o <;> first | rfl | exact h.elim
  unfold atD at e
  cases d with
  | dk ds =>
    dsimp only at e
    obtain ⟨k, ek, rfl⟩ := Option.map_eq_some_iff.1 e
    obtain ⟨a, fs, rfl, h1, h2⟩ := r.dk
    exact ⟨a, _, rfl, .inl ⟨fs, k, h1, kP_rel ek ry, rfl⟩, h2.val k, fin (h2.val k)⟩
  | dt ds =>
    dsimp only at e
    cases y with
    | tup ys =>
      dsimp only at e
      obtain ⟨k, ek, rfl⟩ := Option.map_eq_some_iff.1 e
      obtain ⟨a, fs, rfl, h1, h2⟩ := r.dt
      obtain ⟨b, ws, rfl, h3, h4⟩ := ry.tupE
      have := ksP_rel ek h4
      subst this
      exact ⟨a, _, rfl, .inr ⟨fs, k, b, h1, rfl, h3, rfl⟩, h2.val k, fin (h2.val k)⟩
    | _ => cases e
  | _ => cases e
/-- d[y] -/
def rDGet : R2 := fun x y H Q => ∃ a v, x = .ref a ∧ DGet H a y (some v) ∧ Q v H
def fDGet : PV → PV → Option Sl := fun d y => match atD d y with
  | some (some z) => some (.fz z)
  | _ => none
theorem f2_dget : F2 K rDGet fDGet := by
  intro H x y d1 d2 s Q r1 r2 h _ q
  unfold fDGet at h
  split at h
  · rename_i z hz
    cases h
    obtain ⟨a, ov, rfl, g, rp, _⟩ := atD_get hz r1 r2
    cases ov with
    | none => exact rp.elim
    | some v => exact ⟨a, v, rfl, g, q v H (fun _ _ z => z) rp⟩
  · cases h
/-- y in d -/
def rDIn (neg : Bool) : R2 := fun y x H Q => ∃ a o, x = .ref a ∧ DGet H a y o ∧ Q (.bl (if neg then !o.isSome else o.isSome)) H
def fDIn (neg : Bool) : PV → PV → Option Sl := fun y d => (atD d y).map fun o => .fz (.bl (if neg then !o.isSome else o.isSome))
theorem f2_din (neg : Bool) : F2 K (rDIn neg) (fDIn neg) := by
  intro H y x d1 d2 s Q r1 r2 h _ q
  unfold fDIn at h
  obtain ⟨o, e, rfl⟩ := Option.map_eq_some_iff.1 h
  obtain ⟨a, ov, rfl, g, rp, e2⟩ := atD_get e r2 r1
  refine ⟨a, ov, rfl, g, ?_⟩
  rw [e2]
  exact q.bl
theorem op_din {X : Cx} (hu : X.A.units + 1 < cLine) : OpR X (compareOp .In) (rDIn false) := by
  intro pins s σ H x y v u Q I rx ry h
  obtain ⟨a, o, rfl, g, q⟩ := h
  obtain rfl : u = Value.ref a := ry
  exact d_in hu I g rx fun s3 I3 => ⟨V.bl o.isSome, H, I3, rfl, by simpa using q⟩
theorem op_dnotin {X : Cx} (hu : X.A.units + 1 < cLine) : OpR X (compareOp .NotIn) (rDIn true) := by
  intro pins s σ H x y v u Q I rx ry h
  obtain ⟨a, o, rfl, g, q⟩ := h
  obtain rfl : u = Value.ref a := ry
  exact d_notIn hu I g rx fun s3 I3 => ⟨V.bl (!o.isSome), H, I3, rfl, by simpa using q⟩
/-- len(d) -/
def rLenD : List V → Hp → VK → Prop := fun xs H Q => ∃ a, xs = [.ref a] ∧ ((∃ fs, Rd H a (.dK fs) ∧ Q (.int fs.length) H) ∨ ∃ fs, Rd H a (.dT fs) ∧ Q (.int fs.length) H)
def fLenD : PV → Option Sl
  | .dk ds => some (.fz (.int ds.length))
  | .dt ds => some (.fz (.int ds.length))
  | _ => none
theorem cr_lenD {X : Cx} : CallR X (.builtin "len") rLenD := by
  intro pins s σ H xs us Q I r h
  obtain ⟨a, rfl, h⟩ := h
  obtain ⟨u, rfl, rx⟩ := vals1 r
  obtain rfl : u = Value.ref a := rx
  rcases h with ⟨fs, e, q⟩ | ⟨fs, e, q⟩
  · exact d_len I e fun t s' I' => ⟨V.int fs.length, H, I', ⟨t, rfl⟩, q⟩
  · obtain ⟨z, hd, xs, rel, dd⟩ := dt_rd I.hok e
    have hl : fs.length = xs.length := Paired.length rel
    refine call_len_dictH hd dd (by rw [← hl]; rw [sizeLine_eq] at z; omega) ⟨V.int fs.length, H, I.tok _, ⟨_, by rw [hl]⟩, q⟩
theorem f1_lenD : F1 K rLenD fLenD := by
  intro H x d1 s Q r1 h _ q
  unfold fLenD at h
  split at h
  · cases h
    obtain ⟨a, fs, rfl, h1, h2⟩ := r1.dk
    exact ⟨a, rfl, .inl ⟨fs, h1, by rw [h2.length]; exact q.int⟩⟩
  · cases h
    obtain ⟨a, fs, rfl, h1, h2⟩ := r1.dt
    exact ⟨a, rfl, .inr ⟨fs, h1, by rw [h2.length]; exact q.int⟩⟩
  · cases h
end
section
variable {X : Cx} {np : Nat} {W : WX} {a b c : Expr} {pos pos' : Pos} {ma mb mc : Mo Opd}
theorem js_dget (hu : X.A.units + 1 < cLine) (ha : JO X np W a ma) (hb : JO X np W b mb) (hs : NoSl b := by exact fun _ _ => rfl) : JS X np W (.Subscript a b pos) (mOp2 fDGet ma mb) :=
  PEi (pe_dget hu ha hb hs) fun _ _ _ h => op2_of (r := rDGet) f2_dget h
theorem js_dnewK : JS X np W (.Dict [] [] pos) (fun e => .ok (.own (.dk [])) e) := by
  refine PEi pe_dnewK fun σ H Q ⟨P, B, H0, e, I, h⟩ => fun p hp => ?_
  rcases Res.of I h with q | q
  · exact q p _ (fun b u z => by rw [upd_ne (ne_of_none z hp)]; exact z) ⟨[], upd_same, .nil⟩ hp
  · cases q
theorem js_dnewT : JS X np W (.Dict [] [] pos) (fun e => .ok (.own (.dt [])) e) := by
  refine PEi pe_dnewT fun σ H Q ⟨P, B, H0, e, I, h⟩ => fun p hp => ?_
  rcases Res.of I h with q | q
  · exact q p _ (fun b u z => by rw [upd_ne (ne_of_none z hp)]; exact z) ⟨[], upd_same, .nil⟩ hp
  · cases q
/-- a dict with one place written -/
def putAt (s : Option Sl) (y d : PV) : Option PV := match s with
  | some (.own (.dk ds)) => if ds.length < sizeLine then (kP y).map fun k => .dk (putD ds k d) else none
  | some (.own (.dt ds)) => if ds.length < sizeLine then match y with
    | .tup ys => (ksP ys).map fun k => .dt (putD ds k d)
    | _ => none else none
  | _ => none
def ownD : Option Sl → Bool
  | some (.own _) => true
  | _ => false
/-- x[y] = v -/
def sDSet (i : Nat) (mv my : Mo PV) : MS := mS mv fun d e => match ownD e[i]? with
  | true => mS my (fun y e2 => match putAt e2[i]? y d with
    | some t => .nx (e2.set i (.own t))
    | none => .stuck) e
  | false => .stuck
theorem jst_dset (hu : X.A.units + 1 < cLine) (i : Nat) {x : Str} {p tp : Pos} {mv my : Mo PV} (hx : PE X (.Name x p) (tVar i)) (hj : JE X np W b my) (hv : JE X np W a mv)
    (hs : swapsWith a (some (.Subscript (.Name x p) b tp)) pos.line X.env = pure false := by rfl) : JSt X np W (.Assign [.Subscript (.Name x p) b tp] a pos) (sDSet i mv my) := by
  refine PSi (ps_dput hu hx hj hv hs) fun D σ H h => tS.bind h fun P B H0 d e1 v H1 I1 r1 l1 h => ?_
  cases he : ownD e1[i]? with
  | false => rw [he] at h; exact h.elim
  | true =>
    rw [he] at h
    obtain ⟨d0, he⟩ : ∃ d0, e1[i]? = some (.own d0) := by
      unfold ownD at he
      split at he
      · rename_i d0 hd; exact ⟨d0, hd⟩
      · cases he
    obtain ⟨l, h3, _, _⟩ := I1.ow i _ he
    refine ⟨_, h3, tS.bind (tS.of I1 h) fun P B H0 y e2 u H2 I2 r2 l2 h => ?_⟩
    generalize hp : putAt e2[i]? y d = o at h
    cases o with
    | none => exact h.elim
    | some t =>
      dsimp only at h
      unfold putAt at hp
      split at hp
      · rename_i ds he2
        split at hp
        · rename_i hl
          obtain ⟨k, ek, rfl⟩ := Option.map_eq_some_iff.1 hp
          obtain ⟨l', h3', ⟨fs, h4, h5⟩, _⟩ := I2.ow i _ he2
          rw [h3] at h3'; cases h3'
          have lw : HLe H2 (upd H2 l (.dK (putK fs k v))) := .write h4 (fun _ z => nomatch z) (fun _ _ z => nomatch z)
          have hk := kP_rel ek (.inl r2)
          subst hk
          exact ⟨l, _, rfl, .k h4 (by rw [h5.length]; exact hl), h σ _ (I2.write he2 h3 ⟨_, upd_same, FzK.le lw (FzK.put (Fz.le l2 r1) h5)⟩) lw⟩
        · cases hp
      · rename_i ds he2
        split at hp
        · rename_i hl
          split at hp
          · rename_i ys
            obtain ⟨k, ek, rfl⟩ := Option.map_eq_some_iff.1 hp
            obtain ⟨l', h3', ⟨fs, h4, h5⟩, _⟩ := I2.ow i _ he2
            rw [h3] at h3'; cases h3'
            have lw : HLe H2 (upd H2 l (.dT (putK fs k v))) := .write h4 (fun _ z => nomatch z) (fun _ _ z => nomatch z)
            obtain ⟨b, ws, rfl, h6, h7⟩ := Rr.tupE (.inl r2)
            have hk := ksP_rel ek h7
            subst hk
            exact ⟨l, _, rfl, .t h4 h6 (by rw [h5.length]; exact hl), h σ _ (I2.write he2 h3 ⟨_, upd_same, FzT.le lw (FzT.put (Fz.le l2 r1) h5)⟩) lw⟩
          · cases hp
        · cases hp
      · cases hp
end
end VS

set_option Elab.async false
set_option linter.all false
set_option maxRecDepth 100000
set_option maxHeartbeats 1000000
/-! VS16: raise of a class of one's own without arguments; try with clauses. -/
namespace VS
open PySem L2 PyProof.Rows
section
variable {X : Cx} {np : Nat} {W : WX} {pos : Pos}
/-- X(), X an own exception class without own __init__ -/
theorem pmk_own0 {C : Addr} {bmB : List Value} {B newId initId : String} {x : Str} {p : Pos} (F : ExcBaseFacts B newId initId bmB) (q : PySem.W.excIn X.K C bmB newId = true) (gC : X.mg x = some (.ref C))
    (kC : PySem.W.keepIn X.K (.ref C) = true) (r : Raises X (.ref C)) (hg : Gl X x) (hdb : (x == ("__debug__" : Str)) = false := by decide) :
    PMk X (.Call (.Name x p) [] [] pos) (fun _ H Q => Q (.ref C) none H) := by
  intro pins s σ H Q I h
  refine wpAny_Call_Name_kw (ld_glob I hg gC ?_ hdb)
  refine PySem.W.callWith_K0 (first := []) I.kIn kC ?_
  show wpAny _ _ (call (.ref C) []) _ _ _
  obtain ⟨bm, N, nm, qn, bs, hdct, sn, sub, ab, col, dd, k0, k1, k2, k3, k5, mN, hC, hN, hni, T⟩ := exc_obj I.kIn q
  refine wpAny_call_exc_subT F T hC hN hni (fun h' e hm => ?_) (Nat.zero_le _)
  exact mk_of I hm r h (I.hok.gone hm.new)
/-- what is asked of such a class -/
structure ExC (K : PySem.W.Frag) (C : Addr) : Prop where
  ex : PySem.W.excIn K C veBase "ValueError.__new__" = true
  kp : PySem.W.keepIn K (.ref C) = true
  sub : PySem.W.subIn K (.ref C) (.type "BaseException") = some true
  ty : PySem.W.typeIn K (.ref C) = some (.type "type")
def sExc (C : Addr) : MS := fun e => .exc C [] e
theorem jst_raise0 {C : Addr} {x : Str} {p : Pos} (hc : X.calm = true) (tk : Takes X W) (E : ExC X.K C) (gC : X.mg x = some (.ref C)) (hg : Gl X x := by rfl) (hdb : (x == ("__debug__" : Str)) = false := by decide) :
    JSt X np W (.Raise (some (.Call (.Name x p) [] [] pos')) none pos) (sExc C) := by
  refine PSi (ps_raise hc tk (pmk_own0 F.excBase_ValueError E.ex gC E.kp (raises_own E.sub E.ty) hg hdb)) fun D σ H ⟨P, B, H0, e, I, h⟩ => ?_
  exact h none σ H I rfl (.refl H)

/-! ### try -/
def noX : OutS → OutS
  | .exc _ _ _ => .stuck
  | o => o
abbrev Hd := (Addr → Option Bool) × MS
def tryH : List Hd → Addr → List (Str × PV) → Fr → OutS
  | [], C, ds, e => .exc C ds e
  | (p, m) :: r, C, ds, e => match p C with
    | some true => noX (m e)
    | some false => tryH r C ds e
    | none => .stuck
def sTry (mb : MS) (hs : List Hd) : MS := fun e => match mb e with
  | .exc C ds e' => tryH hs C ds e'
  | o => o
def JHs (X : Cx) (np : Nat) (hds : List ExceptHandler) (hs : List Hd) : Prop := ∃ l, HdsOk X hds l ∧
  Paired (fun (q : Value × (Addr → Value → Option Addr → TS)) (h : Hd) => (∀ C b, h.1 C = some b → PySem.W.exmOne X.K (.ref C) q.1 = some b) ∧ ∀ a cls d, q.2 a cls d = tS X.K np WF h.2) l hs
theorem jh_nil : JHs X np [] [] := ⟨[], .nil, .nil⟩
theorem jh_cons {x : Str} {c : Value} {p : Addr → Option Bool} {m : MS} {b₀ : Stmt} {suite : List Stmt} {npos pos' : Pos} {hds : List ExceptHandler} {hs : List Hd} (hc : Names X x c) (hp : ∀ C b, p C = some b → PySem.W.exmOne X.K (.ref C) c = some b)
    (hsu : ∀ (a : Addr) (pn : List (Addr × Obj)), JB (X.suite a pn) np WF (b₀ :: suite) m) (r : JHs X np hds hs) : JHs X np (.ExceptHandler (some (.Name x npos)) none (b₀ :: suite) pos' :: hds) ((p, m) :: hs) := by
  obtain ⟨l, h1, h2⟩ := r
  exact ⟨(c, fun _ _ _ => tS X.K np WF m) :: l, .cons hc (fun a oe cls d pn _ _ => hsu a ((a, oe) :: pn)) h1, .cons ⟨hp, fun _ _ _ => rfl⟩ h2⟩
theorem PostS.noX {K : PySem.W.Frag} {W W' : WX} {P : Addr → Prop} {B : List (Nat × Addr)} {H0 H : Hp} {o : OutS} {D : Ends} (h : PostS K np W P B H0 H (noX o) D) : PostS K np W' P B H0 H o D := by
  cases o with
  | exc C ds e => exact h.elim
  | stuck => exact h.elim
  | nx e => exact h
  | brk e => exact h
  | cont e => exact h
  | ret s e => exact h
theorem tryH_ok {P : Addr → Prop} {B : List (Nat × Addr)} {H0 : Hp} {D : Ends} {l : List (Value × (Addr → Value → Option Addr → TS))} {hs : List Hd}
    (hr : Paired (fun (q : Value × (Addr → Value → Option Addr → TS)) (h : Hd) => (∀ C b, h.1 C = some b → PySem.W.exmOne X.K (.ref C) q.1 = some b) ∧ ∀ a cls d, q.2 a cls d = tS X.K np WF h.2) l hs) (C : Addr) (ds : List (Str × PV)) (e1 : Fr) (x : Option Addr) (σ' : L2.St) (H' : Hp)
    (I' : VI X.K np P B H0 e1 σ' H') (r : ExD X.K H' x ds) (h : PostS X.K np W P B H0 H' (tryH hs C ds e1) D) : wMany X.K W D l (.ref C) x σ' H' := by
  induction hr with
  | nil => exact h x σ' H' I' r (.refl _)
  | @cons q hd qs hds' hq ht ih =>
    obtain ⟨c, ts⟩ := q
    obtain ⟨p, m⟩ := hd
    obtain ⟨h1, h2⟩ := hq
    unfold tryH at h
    generalize hp : p C = o at h
    cases o with
    | none => exact h.elim
    | some b =>
      refine ⟨b, h1 C b hp, fun e => ?_, fun e => ?_⟩
      · subst e
        intro a ha
        have h3 : ts a (.ref C) x = tS X.K np WF m := h2 a (.ref C) x
        show ts a _ _ D σ' H'
        rw [h3]
        exact ⟨P, B, H0, e1, I', h.noX⟩
      · subst e
        exact ih h
theorem jst_try {body : List Stmt} {mb : MS} {h₀ : ExceptHandler} {hds : List ExceptHandler} {hs : List Hd} (hst : X.stack = X.env :: X.outer) (hf : X.env.frame = some X.env.locals) (tk : Takes X W)
    (hb : ∀ (W' : WX) (pn : List (Addr × Obj)) (xe : Value → Shared → Prop), Takes (X.tr pn xe) W' → PassesOwn (model X.prog X.w) X.A X.env xe → JB (X.tr pn xe) np W' body mb) (hh : JHs X np (h₀ :: hds) hs) :
    JSt X np W (.Try body (h₀ :: hds) [] [] pos) (sTry mb hs) := by
  obtain ⟨l, hl, hr⟩ := hh
  refine PSi (ps_try_many (tb := fun W' => tS X.K np W' mb) hst hf tk hb hl) fun D σ H ⟨P, B, H0, e, I, h⟩ => ?_
  refine ⟨P, B, H0, e, I, ?_⟩
  unfold sTry at h
  generalize mb e = o at h ⊢
  cases o with
  | nx e => exact h
  | brk e => exact h
  | cont e => exact h
  | ret s e => exact h
  | stuck => exact h
  | exc C ds e1 =>
    intro x σ' H' I' r l'
    dsimp only at h
    exact tryH_ok hr C ds e1 x σ' H' I' r (PostS.le l' h)
end
end VS

set_option Elab.async false
set_option linter.all false
set_option maxRecDepth 100000
set_option maxHeartbeats 1000000
/-! VS17: slices. -/
namespace VS
open PySem L2 PyProof.Rows
def rP : RelR (Option Int) (Option Int) := fun _ a _ _ _ b => a = b
def mPart0 : Mo (Option Int) := mR none
def mPart (m : Mo PV) : Mo (Option Int) := mB m fun d => match d with
  | .int i => mR (some i)
  | _ => fun _ => .stuck
/-- the items of xs[lo:hi] -/
def cutP {α : Type} (xs : List α) (lo hi : Option Int) : List α := (xs.drop (HT.sIx xs.length 0 lo)).take (HT.sIx xs.length xs.length hi - HT.sIx xs.length 0 lo)
def fSl (d : PV) (lo hi : Option Int) : Option Sl := match d with
  | .lst xs => some (.own (.lst (cutP xs lo hi)))
  | .tup xs => some (.fz (.tup (cutP xs lo hi)))
  | .str z => if z.length ≤ sizeLine then some (.fz (.str (cutS z lo hi))) else none
  | _ => none
def rSlV (K : PySem.W.Frag) : V → Option Int → Option Int → Hp → VK → Prop := fun x lo hi H Q => rSlL K x lo hi H Q ∨ (rSlA K x lo hi H Q ∨ rSlS x lo hi H Q)
theorem sl_any {X : Cx} : SlR X (rSlV X.K) := SlR.or sl_list (SlR.or sl_tupA sl_str)
theorem sIx_whole {n : Nat} {lo hi : Option Int} (h : HT.sIx n 0 lo = 0 ∧ HT.sIx n n hi = n) {α : Type} {xs : List α} (e : xs.length = n) : cutP xs lo hi = xs := by
  unfold cutP
  rw [e, h.1, h.2, List.drop_zero, Nat.sub_zero, ← e, List.take_length]
section
variable {K : PySem.W.Frag} {H : Hp}
theorem FzA.cut {vs : List V} {ds : List PV} (lo hi : Option Int) (h : FzA K H vs ds) : FzA K H (cutV vs lo hi) (cutP ds lo hi) := by
  unfold cutV cutP
  rw [h.length]
  exact FzA.take _ (FzA.drop _ h)
theorem fSl_ok {x : V} {d : PV} {lo hi : Option Int} {s : Sl} {Q : VK} (r : Rr K H x d) (h : fSl d lo hi = some s) (q : Res K H s Q) : rSlV K x lo hi H Q := by
  unfold fSl at h
  split at h
  · cases h
    obtain ⟨a, vs, rfl, h1, h2⟩ := r.lst
    refine .inl ⟨a, vs, rfl, h1, fun p hp => ?_⟩
    exact q p _ (fun b u z => by rw [upd_ne (ne_of_none z hp)]; exact z) ⟨_, upd_same, FzA.le (.alloc hp) (h2.cut lo hi)⟩ hp
  · cases h
    obtain ⟨a, vs, rfl, h1, h2⟩ := r.tupE
    refine .inr (.inl ⟨a, vs, rfl, SqT.of h1, fun e => ?_, fun _ p hp => ?_⟩)
    · rw [sIx_whole e h2.length.symm] at q
      exact q _ H (fun _ _ z => z) (.tup h1 h2)
    · exact q _ _ (fun b u z => by rw [upd_ne (ne_of_none z hp)]; exact z) (.tup upd_same (FzA.le (.alloc hp) (h2.cut lo hi)))
  · split at h
    · rename_i hz
      cases h
      exact .inr (.inr ⟨_, r.str, hz, q.str⟩)
    · cases h
  · cases h
end
section
variable {X : Cx} {np : Nat} {W : WX} {a b c : Expr} {pos p2 : Pos} {ma : Mo Opd} {ml mh : Mo (Option Int)} {lo hi : Option Expr}
abbrev JPt (X : Cx) (np : Nat) (W : WX) (e : Option Expr) (m : Mo (Option Int)) : Prop := PO X e (tG X.K np W rP m)
theorem POi {X : Cx} {e : Option Expr} {t t' : TO} (p : PO X e t) (f : ∀ σ H Q, t' σ H Q → t σ H Q) : PO X e t' := ⟨fun pins s σ H Q I h => p.run pins s σ H Q I (f σ H Q h)⟩
theorem jp_none : JPt X np W none mPart0 := POi po_none fun σ H Q ⟨P, B, H0, e, I, h⟩ => h none H I rfl (.refl H)
theorem jp_some {m : Mo PV} (h : JE X np W a m) : JPt X np W (some a) (mPart m) := by
  refine POi (po_some h) fun σ H Q h => tG.bind h fun P B H0 d e1 v H1 I r l h => ?_
  cases d with
  | int i => cases r; exact ⟨i, rfl, h (some i) H1 I rfl (.refl _)⟩
  | _ => exact h.elim
def mSlice (ma : Mo Opd) (ml mh : Mo (Option Int)) : Mo Sl := mB ma fun a => mB ml fun l => mB mh fun u e => sl? ((a.get e).bind fun d => fSl d l u) e
theorem js_slice (ha : JO X np W a ma) (hl : JPt X np W lo ml) (hh : JPt X np W hi mh) : JS X np W (.Subscript a (.Slice lo hi none p2) pos) (mSlice ma ml mh) := by
  refine PEi (pe_slice sl_any ha hl hh) fun σ H Q h => ?_
  refine tG.bind h fun P B H0 x e1 v H1 I1 r1 l1 h => ?_
  refine tG.bind (tG.of I1 h) fun P B H0 l e2 l' H2 I2 r2 l2 h => ?_
  cases r2
  refine tG.bind (tG.of I2 h) fun P B H0 u e3 u' H3 I3 r3 l3 h => ?_
  cases r3
  (try dsimp only at h)
  generalize h3 : x.get e3 = d1 at h
  cases d1 with
  | none => exact h.elim
  | some d1 =>
    simp only [Option.bind_some] at h
    generalize h5 : fSl d1 l u = o at h
    match o, h with
    | none, h => exact h.elim
    | some .un, h => exact h.elim
    | some (.fz d), h =>
      rcases Res.of I3 h with q | q
      · exact fSl_ok (rO.rr' I3 r1 (l2.trans l3) h3) h5 q
      · cases q
    | some (.own d), h =>
      rcases Res.of I3 h with q | q
      · exact fSl_ok (rO.rr' I3 r1 (l2.trans l3) h3) h5 q
      · cases q
end
end VS

set_option Elab.async false
set_option linter.all false
set_option maxRecDepth 100000
set_option maxHeartbeats 1000000
/-! VS18: any, all of a list of bools. -/
namespace VS
open PySem L2 PyProof.Rows
def bsP : List PV → Option (List Bool)
  | [] => some []
  | .bl b :: r => (bsP r).map (b :: ·)
  | _ :: _ => none
theorem bsP_rel {K : PySem.W.Frag} {H : Hp} : ∀ {ds : List PV} {bs : List Bool} {vs : List V}, bsP ds = some bs → FzA K H vs ds → vs = bs.map V.bl
  | [], bs, vs, e, r => by cases e; cases r; rfl
  | d :: ds, bs, vs, e, r => by
    cases r with
    | cons r1 r2 =>
      cases d with
      | bl b =>
        cases e1 : bsP ds with
        | none => simp [bsP, e1] at e
        | some cs =>
          simp [bsP, e1] at e
          subst e
          cases r1
          rw [List.map_cons, bsP_rel e1 r2]
      | _ => simp [bsP] at e
def fAny : PV → Option Sl
  | .lst ds => if ds.length ≤ sizeLine then (bsP ds).map fun bs => .fz (.bl (bs.any id)) else none
  | _ => none
def fAll : PV → Option Sl
  | .lst ds => if ds.length ≤ sizeLine then (bsP ds).map fun bs => .fz (.bl (bs.all id)) else none
  | _ => none
theorem f1_any {K : PySem.W.Frag} : F1 K (rAny K) fAny := by
  intro H x d1 s Q r1 h _ q
  unfold fAny at h
  split at h
  · split at h
    · rename_i hz
      obtain ⟨bs, e, rfl⟩ := Option.map_eq_some_iff.1 h
      obtain ⟨a, vs, rfl, h1, h2⟩ := r1.lst
      have e2 := bsP_rel e h2
      subst e2
      first
        | exact ⟨a, bs, rfl, h1, q.bl⟩
        | exact ⟨a, bs, rfl, by simpa using h1, by simpa using q.bl⟩
    · cases h
  · cases h
theorem f1_all {K : PySem.W.Frag} : F1 K (rAll K) fAll := by
  intro H x d1 s Q r1 h _ q
  unfold fAll at h
  split at h
  · split at h
    · rename_i hz
      obtain ⟨bs, e, rfl⟩ := Option.map_eq_some_iff.1 h
      obtain ⟨a, vs, rfl, h1, h2⟩ := r1.lst
      have e2 := bsP_rel e h2
      subst e2
      first
        | exact ⟨a, bs, rfl, h1, q.bl⟩
        | exact ⟨a, bs, rfl, by simpa using h1, by simpa using q.bl⟩
    · cases h
  · cases h
end VS

set_option Elab.async false
set_option linter.all false
set_option maxRecDepth 100000
set_option maxHeartbeats 1000000
/-! VS19: what is never reached needs no reading. -/
namespace VS
open PySem L2 PyProof.Rows
def mStuck {α : Type} : Mo α := fun _ => .stuck
def sStuck : MS := fun _ => .stuck
section
variable {X : Cx} {np : Nat} {W : WX}
theorem js_stuck {e : Expr} : JS X np W e mStuck := ⟨fun pins s σ H Q I h => by obtain ⟨P, B, H0, e, _, h⟩ := h; exact h.elim⟩
theorem js_gint {x : Str} {i : Int} {pos : Pos} (h : ∃ t, X.mg x = some (.int i t)) (hg : Gl X x := by rfl) (hdb : (x == ("__debug__" : Str)) = false := by decide) : JS X np W (.Name x pos) (mC (.int i)) := by
  obtain ⟨t, h⟩ := h
  exact js_glob (v := V.int i) hg h ⟨t, rfl⟩ (fun _ => .int i) hdb
theorem jst_stuck {st : Stmt} : JSt X np W st sStuck := ⟨fun pins s σ H D I h => by obtain ⟨P, B, H0, e, _, h⟩ := h; exact h.elim⟩
end
def fOr := fI (fun _ _ => true) fun i j => .int (Builtin.bitOr i j)
theorem f2_or {K : PySem.W.Frag} : F2 K (rI0 fun i j => .int (Builtin.bitOr i j)) fOr := f2I0 fun _ _ _ => .int _
@[simp] theorem fOr_ii (i j : Int) : fOr (.int i) (.int j) = some (.fz (.int (Builtin.bitOr i j))) := rfl
@[simp] theorem mStuck_ap {α : Type} {e : Fr} : (mStuck : Mo α) e = .stuck := rfl
@[simp] theorem sStuck_ap {e : Fr} : sStuck e = .stuck := rfl
section
variable {e : Fr}
@[simp] theorem mPart0_ap : mPart0 e = .ok none e := rfl
@[simp] theorem mPart_ap (m : Mo PV) : mPart m e = match m e with
  | .ok (.int i) e' => .ok (some i) e'
  | .ok _ _ => .stuck
  | .exc C ds e' => .exc C ds e'
  | .stuck => .stuck := by
  unfold mPart mB
  split
  · rename_i s e' h
    rw [h]
    cases s <;> rfl
  · rename_i h; rw [h]
  · rename_i h; rw [h]
@[simp] theorem mSlice_ap (ma : Mo Opd) (ml mh : Mo (Option Int)) : mSlice ma ml mh e = match ma e with
  | .ok a e1 => (match ml e1 with
    | .ok l e2 => (match mh e2 with
      | .ok u e3 => sl? ((a.get e3).bind fun d => fSl d l u) e3
      | .exc C ds e' => .exc C ds e'
      | .stuck => .stuck)
    | .exc C ds e' => .exc C ds e'
    | .stuck => .stuck)
  | .exc C ds e' => .exc C ds e'
  | .stuck => .stuck := by
  unfold mSlice mB
  cases ma e with
  | ok a e1 =>
    dsimp only
    cases ml e1 with
    | ok l e2 =>
      dsimp only
      cases mh e2 with
      | ok u e3 => rfl
      | exc C ds e' => rfl
      | stuck => rfl
    | exc C ds e' => rfl
    | stuck => rfl
  | exc C ds e' => rfl
  | stuck => rfl
@[simp] theorem mChain_ap (f g : PV → PV → Option Sl) (ma mb mc : Mo Opd) : mChain f g ma mb mc e = match ma e with
  | .ok a e1 => (match mb e1 with
    | .ok b e2 => (match (a.get e2).bind fun x => (b.get e2).bind fun y => f x y with
      | some (.fz (.bl true)) => (match mc e2 with
        | .ok c e3 => sl? ((b.get e3).bind fun y => (c.get e3).bind fun z => g y z) e3
        | .exc C ds e' => .exc C ds e'
        | .stuck => .stuck)
      | some (.fz (.bl false)) => .ok (.fz (.bl false)) e2
      | _ => .stuck)
    | .exc C ds e' => .exc C ds e'
    | .stuck => .stuck)
  | .exc C ds e' => .exc C ds e'
  | .stuck => .stuck := by
  unfold mChain mB
  cases ma e with
  | ok a e1 =>
    dsimp only
    cases mb e1 with
    | ok b e2 =>
      dsimp only
      generalize (a.get e2).bind (fun x => (b.get e2).bind fun y => f x y) = o
      match o with
      | some (.fz (.bl true)) =>
        dsimp only
        cases mc e2 with
        | ok c e3 => rfl
        | exc C ds e' => rfl
        | stuck => rfl
      | some (.fz (.bl false)) => rfl
      | none => rfl
      | some .un => rfl
      | some (.own _) => rfl
      | some (.fz .non) => rfl
      | some (.fz (.int _)) => rfl
      | some (.fz (.str _)) => rfl
      | some (.fz (.tup _)) => rfl
      | some (.fz (.lst _)) => rfl
      | some (.fz (.scr _)) => rfl
      | some (.fz (.obj _ _)) => rfl
      | some (.fz (.ad _)) => rfl
      | some (.fz .any) => rfl
      | some (.fz (.dk _)) => rfl
      | some (.fz (.ktp _)) => rfl
      | some (.fz (.dt _)) => rfl
    | exc C ds e' => rfl
    | stuck => rfl
  | exc C ds e' => rfl
  | stuck => rfl
@[simp] theorem sTry_ap (mb : MS) (hs : List Hd) : sTry mb hs e = match mb e with
  | .exc C ds e' => tryH hs C ds e'
  | o => o := rfl
@[simp] theorem sTgt_ap (g : MG) (m : Mo PV) : sTgt g m e = match m e with
  | .ok d e' => (match g d e' with
    | some e2 => .nx e2
    | none => .stuck)
  | .exc C ds e' => .exc C ds e'
  | .stuck => .stuck := by
  unfold sTgt mS
  cases m e with
  | ok d e' => rfl
  | exc C ds e' => rfl
  | stuck => rfl
@[simp] theorem sExc_ap (C : Addr) : sExc C e = .exc C [] e := rfl
@[simp] theorem fLenD_k (ds : List (Key × PV)) : fLenD (.dk ds) = some (.fz (.int ds.length)) := rfl
@[simp] theorem fLenD_t (ds : List (List Key × PV)) : fLenD (.dt ds) = some (.fz (.int ds.length)) := rfl
@[simp] theorem fSl_l (xs : List PV) (l u : Option Int) : fSl (.lst xs) l u = some (.own (.lst (cutP xs l u))) := rfl
@[simp] theorem fSl_t (xs : List PV) (l u : Option Int) : fSl (.tup xs) l u = some (.fz (.tup (cutP xs l u))) := rfl
theorem bsP_bls : ∀ bs : List Bool, bsP (bs.map .bl) = some bs
  | [] => rfl
  | b :: bs => by rw [List.map_cons, bsP, bsP_bls bs]; rfl
theorem fAny_bls {bs : List Bool} (h : bs.length ≤ 16777216) : fAny (.lst (bs.map .bl)) = some (.fz (.bl (bs.any id))) := by
  show (if (bs.map PV.bl).length ≤ sizeLine then (bsP (bs.map PV.bl)).map fun bs => Sl.fz (.bl (bs.any id)) else none) = _
  rw [if_pos (by simpa [sizeLine_eq] using h), bsP_bls]; rfl
theorem fAll_bls {bs : List Bool} (h : bs.length ≤ 16777216) : fAll (.lst (bs.map .bl)) = some (.fz (.bl (bs.all id))) := by
  show (if (bs.map PV.bl).length ≤ sizeLine then (bsP (bs.map PV.bl)).map fun bs => Sl.fz (.bl (bs.all id)) else none) = _
  rw [if_pos (by simpa [sizeLine_eq] using h), bsP_bls]; rfl
end
end VS

set_option Elab.async false
set_option linter.all false
set_option maxRecDepth 100000
set_option maxHeartbeats 1000000
/-! VS20: tuple(range(n)), list(range(n)). -/
namespace VS
open PySem L2 PyProof.Rows
theorem fza_ints' {K : PySem.W.Frag} {H : Hp} (f : Nat → Int) : ∀ l : List Nat, FzA K H (l.map fun i => V.int (f i)) (l.map fun i => PV.int (f i))
  | [] => .nil
  | i :: l => .cons (.int _) (fza_ints' f l)
def mTupR (m : Mo PV) : Mo Sl := mB m fun d => match d with
  | .int j => if 0 ≤ j ∧ j ≤ 16777216 then mR (.fz (.tup (rangeL 0 j))) else fun _ => .stuck
  | _ => fun _ => .stuck
section
variable {X : Cx} {np : Nat} {W : WX} {a : Expr} {pos p p2 p3 : Pos} {m : Mo PV}
theorem js_tupR (hc : X.calm = true) (hm : X.mg "tuple" = none) (hm2 : X.mg "range" = none) (h : JE X np W a m) (hg : Gl X "tuple" := by rfl) (hg2 : Gl X "range" := by rfl) (na : starEach [a] X.env = (false, eval a X.env) :: starEach [] X.env := by rfl)
    (na2 : starEach [.Call (.Name "range" p2) [a] [] p3] X.env = (false, eval (.Call (.Name "range" p2) [a] [] p3) X.env) :: starEach [] X.env := by rfl) : JS X np W (.Call (.Name "tuple" p) [.Call (.Name "range" p2) [a] [] p3] [] pos) (mTupR m) := by
  refine PEi (pe_tupRg hc hg hm (prg_1 hg2 hm2 h na) na2) fun σ H Q h => tG.bind h fun P B H0 d e1 v H1 I r l h => ?_
  cases d with
  | int j =>
    cases r
    dsimp only at h
    by_cases hj : 0 ≤ j ∧ j ≤ 16777216
    · rw [if_pos hj] at h
      refine ⟨j, rfl, .of_le (by omega) hj.2 (by omega) hj.1, fun q hq => ?_⟩
      exact h _ _ (I.alloc hq) (.tup upd_same (fza_ints' (fun i => 0 + (i : Int)) _)) (.alloc hq)
    · rw [if_neg hj] at h; exact h.elim
  | _ => exact h.elim
end
@[simp] theorem mTupR_ap {e : Fr} (m : Mo PV) : mTupR m e = match m e with
  | .ok (.int j) e' => if 0 ≤ j ∧ j ≤ 16777216 then .ok (.fz (.tup (rangeL 0 j))) e' else .stuck
  | .ok _ _ => .stuck
  | .exc C ds e' => .exc C ds e'
  | .stuck => .stuck := by
  unfold mTupR mB
  split
  · rename_i s e' h
    rw [h]
    cases s <;> first | rfl | (dsimp only; split <;> simp_all <;> rfl)
  · rename_i h; rw [h]
  · rename_i h; rw [h]
end VS

set_option Elab.async false
set_option linter.all false
set_option maxRecDepth 100000
set_option maxHeartbeats 1000000
/-! VS21: raise of a class whose own __init__ keeps its arguments; try with clauses that may name the error. -/
namespace VS
open PySem L2 PyProof.Rows

/-! ### raise C(e, ..) -/
def keptD (fl : List Str) (ds : List PV) : List (Str × PV) := (fl.zip ds).reverse
/-- what such an __init__ does -/
def spX (C : Addr) (fl : List Str) : Sp := fun vs H Q _ => ∃ (a : Addr) (ys : List V), vs = .ref a :: ys ∧ ys.length = fl.length ∧ H a = some (exo a C none) ∧
  ∀ (dx : Addr) (H2 : Hp), H dx = none → dx ≠ a → H2 a = some (exo a C (some dx)) → H2 dx = some (exd dx (fl.zip ys).reverse) → (∀ b, b ≠ a → b ≠ dx → H2 b = H b) → Q .non H2
theorem spX_len {C : Addr} {fl : List Str} {vs : List V} {H : Hp} {Q : VK} {E : XK} (h : spX C fl vs H Q E) : vs.length = fl.length + 1 := by
  obtain ⟨a, ys, rfl, hl, _⟩ := h
  rw [List.length_cons, hl]
section
variable {K : PySem.W.Frag} {C : Addr} {N : List Str} {vs : List V} {H : Hp} {Q : VK} {E : XK} {f1 f2 f3 : Str}
theorem x1_ok (T : OexC K C) (n1 : PySem.W.findIn K (.ref C) f1 = some none) (h : spX C [f1] vs H Q E) : tOst K f1 (tVar 0) (tVar 1) { nx := fun _ H' => Q .non H', rt := Q } (L2.start N vs) H := by
  obtain ⟨a, ys, rfl, hl, ha, k⟩ := h
  match ys, hl with
  | [y], _ =>
    refine ⟨y, rfl, .ref a, rfl, a, C, rfl, T, n1, .inl ⟨ha, fun dx hd hne => k dx _ hd hne upd_same ?_ fun b h1 h2 => ?_⟩⟩
    · rw [upd_ne hne, upd_same]; rfl
    · rw [upd_ne h1, upd_ne h2]
theorem x2_ok (T : OexC K C) (n1 : PySem.W.findIn K (.ref C) f1 = some none) (n2 : PySem.W.findIn K (.ref C) f2 = some none) (h : spX C [f1, f2] vs H Q E) :
    tOst K f1 (tVar 0) (tVar 1) { nx := tOst K f2 (tVar 0) (tVar 2) { nx := fun _ H' => Q .non H', rt := Q }, rt := Q } (L2.start N vs) H := by
  obtain ⟨a, ys, rfl, hl, ha, k⟩ := h
  match ys, hl with
  | [y, z], _ =>
    refine ⟨y, rfl, .ref a, rfl, a, C, rfl, T, n1, .inl ⟨ha, fun dx hd hne => ?_⟩⟩
    refine ⟨z, rfl, .ref a, rfl, a, C, rfl, T, n2, .inr ⟨dx, [(f1, y)], upd_same, by rw [upd_ne hne, upd_same], by show 1 ≤ 900; decide, k dx _ hd hne (by rw [upd_ne (Ne.symm hne), upd_same]) upd_same fun b h1 h2 => ?_⟩⟩
    rw [upd_ne h2, upd_ne h1, upd_ne h2]
theorem x3_ok (T : OexC K C) (n1 : PySem.W.findIn K (.ref C) f1 = some none) (n2 : PySem.W.findIn K (.ref C) f2 = some none) (n3 : PySem.W.findIn K (.ref C) f3 = some none) (h : spX C [f1, f2, f3] vs H Q E) :
    tOst K f1 (tVar 0) (tVar 1) { nx := tOst K f2 (tVar 0) (tVar 2) { nx := tOst K f3 (tVar 0) (tVar 3) { nx := fun _ H' => Q .non H', rt := Q }, rt := Q }, rt := Q } (L2.start N vs) H := by
  obtain ⟨a, ys, rfl, hl, ha, k⟩ := h
  match ys, hl with
  | [y, z, u], _ =>
    refine ⟨y, rfl, .ref a, rfl, a, C, rfl, T, n1, .inl ⟨ha, fun dx hd hne => ?_⟩⟩
    refine ⟨z, rfl, .ref a, rfl, a, C, rfl, T, n2, .inr ⟨dx, [(f1, y)], upd_same, by rw [upd_ne hne, upd_same], by show 1 ≤ 900; decide, ?_⟩⟩
    refine ⟨u, rfl, .ref a, rfl, a, C, rfl, T, n3, .inr ⟨dx, [(f2, z), (f1, y)], by rw [upd_ne (Ne.symm hne), upd_same], upd_same, by show 2 ≤ 900; decide, k dx _ hd hne (by rw [upd_ne (Ne.symm hne), upd_ne (Ne.symm hne), upd_same]) upd_same fun b h1 h2 => ?_⟩⟩
    rw [upd_ne h2, upd_ne h2, upd_ne h1, upd_ne h2]
end
/-- an exception class of the text and its __init__ -/
def OX (P : Program) (w : World) (K : PySem.W.Frag) (mg : Str → Option Value) (base : Heap) (k : Nat) (x : Str) (C : Addr) (fl : List Str) : Prop :=
  ∃ (fI : Addr) (fd : FuncData) (ps : List Str), OexC K C ∧ PySem.W.findIn K (.ref C) "__init__" = some (some (.ref fI)) ∧ PySem.W.typeIn K (.ref fI) = some (.type "function") ∧ FnOk P w K mg base (L2.CX P w) k fI fd ps (spX C fl) ∧ Binds K fd ps [] ∧ mg x = some (.ref C)
def sExcA (C : Addr) (fl : List Str) (m : Mo (List PV)) : MS := mS m fun ds e => if ds.length = fl.length then .exc C (keptD fl ds) e else .stuck
theorem FzA.kept {K : PySem.W.Frag} {H : Hp} : ∀ {fl : List Str} {vs : List V} {ds : List PV}, FzA K H vs ds → FzF K H (fl.zip vs) (fl.zip ds)
  | [], _, _, _ => by simpa using FzF.nil
  | _ :: _, _, _, .nil => .nil
  | _ :: _, _, _, .cons h q => .cons h (FzA.kept q)
theorem FzF.app {K : PySem.W.Frag} {H : Hp} : ∀ {v v' : List (Str × V)} {d d' : List (Str × PV)}, FzF K H v d → FzF K H v' d' → FzF K H (v ++ v') (d ++ d')
  | _, _, _, _, .nil, r => r
  | _, _, _, _, .cons h q, r => .cons h (FzF.app q r)
theorem FzF.rev {K : PySem.W.Frag} {H : Hp} : ∀ {v : List (Str × V)} {d : List (Str × PV)}, FzF K H v d → FzF K H v.reverse d.reverse
  | _, _, .nil => .nil
  | _, _, .cons h q => by rw [List.reverse_cons, List.reverse_cons]; exact FzF.app (FzF.rev q) (.cons h .nil)
section
variable {X : Cx} {np : Nat} {W : WX} {pos pos' p : Pos}
theorem jst_raiseX {C : Addr} {fl : List Str} {k : Nat} {x : Str} {e : Expr} {es : List Expr} {m : Mo (List PV)} (hc : X.calm = true) (tk : Takes X W) (O : OX X.prog X.w X.K X.mg X.base k x C fl) (hr : Room (k + 1) X.A) (ha : JA X np W (e :: es) m) (hs : fl.length ≤ 1000) (hg : Gl X x := by rfl)
    (hdb : (x == ("__debug__" : Str)) = false := by decide) (he : starEach (e :: es) X.env = (false, eval e X.env) :: starEach es X.env := by rfl) (hpl : (backTo pos' (starEach es X.env)).any (·.1) = false := by rfl) :
    JSt X np W (.Raise (some (.Call (.Name x p) (e :: es) [] pos')) none pos) (sExcA C fl m) := by
  obtain ⟨fI, fd, ps, T, iC, tI, F, hb, hm⟩ := O
  refine PSi (ps_raise hc tk (pmk_oex T iC tI F hr hb .nil (passes_call (E := fun _ _ _ => False) tk fun _ _ _ _ h => h.elim) hg hm ha hdb he hpl)) fun D σ H h => ?_
  refine tS.bind h fun P B H0 ds e1 vs H1 I1 r1 l1 h => ?_
  have hl : vs.length = ds.length := FzA.length r1
  by_cases hz : ds.length = fl.length
  case neg => simp only [if_neg hz] at h; exact h.elim
  simp only [if_pos hz] at h
  refine ⟨by omega, fun a ha => ?_⟩
  rw [List.append_nil]
  refine ⟨a, vs, rfl, by omega, upd_same, fun dx H2 h1 h2 h3 h4 h5 => ⟨rfl, dx, _, h3, h4, ?_, ?_⟩⟩
  · rw [upd_ne h2] at h1; exact h1
  · have h1' : H1 dx = none := by rw [upd_ne h2] at h1; exact h1
    have eq : upd (del H2 a) dx (.xd (fl.zip vs).reverse) = upd H1 dx (.xd (fl.zip vs).reverse) := by
      funext b
      by_cases hb : b = dx
      · subst hb; rw [upd_same, upd_same]
      · rw [upd_ne hb, upd_ne hb]
        by_cases hb2 : b = a
        · subst hb2; rw [del_same, ha]
        · rw [del_ne hb2, h5 b hb2 hb, upd_ne hb2]
    rw [eq]
    exact h (some dx) σ _ (I1.alloc h1') ⟨_, upd_same, FzF.rev (FzA.kept (FzA.le (.alloc h1') r1))⟩ (.alloc h1')
end
end VS

set_option Elab.async false
set_option linter.all false
set_option maxRecDepth 100000
set_option maxHeartbeats 1000000
/-! VS22: try with any clauses, each with a name or without. -/
namespace VS
open PySem L2 PyProof.Rows

abbrev Clause := Value × Option Nat × (Addr → Value → Option Addr → TS)
def endsAs (i : Nat) (D : Ends) : Ends :=
  { nx := fun σ' H' => D.nx (σ'.set i none) H', rt := D.rt, bk := fun σ' H' => D.bk (σ'.set i none) H', ct := fun σ' H' => D.ct (σ'.set i none) H' }
def wNam (K : PySem.W.Frag) (Wo : WX) (D : Ends) : List Clause → WX
  | [] => Wo
  | (c, o, ts) :: r => fun cls d σ H => ∃ b, PySem.W.exmOne K cls c = some b ∧
      (b = true → ∀ a, H a = none → match o with
        | none => ts a cls d D σ H
        | some i => ts a cls d (endsAs i D) (σ.set i (some (.ref a))) H) ∧ (b = false → wNam K Wo D r cls d σ H)
/-- a suite's reading, whatever was caught -/
abbrev Suite (X : Cx) (b₀ : Stmt) (su : List Stmt) (ts : Addr → Value → Option Addr → TS) : Prop :=
  ∀ (a : Addr) (oe : Obj) (cls : Value) (d : Option Addr) (pn : List (Addr × Obj)),
    Zc cls d oe → (∃ vs, oe.data = .fields vs) → PSs (X.suite a ((a, oe) :: pn)) (b₀ :: su) (ts a cls d)
inductive NamOk (X : Cx) : List ExceptHandler → List Clause → Prop
  | nil : NamOk X [] []
  | plain {x : Str} {c : Value} {ts : Addr → Value → Option Addr → TS} {b₀ : Stmt} {su : List Stmt} {p1 p2 : Pos} {hds : List ExceptHandler} {l : List Clause} (hc : Names X x c) (hsu : Suite X b₀ su ts) (r : NamOk X hds l) :
      NamOk X (.ExceptHandler (some (.Name x p1)) none (b₀ :: su) p2 :: hds) ((c, none, ts) :: l)
  | named {x n : Str} {i : Nat} {c : Value} {ts : Addr → Value → Option Addr → TS} {b₀ : Stmt} {su : List Stmt} {p1 p2 : Pos} {hds : List ExceptHandler} {l : List Clause} (hc : Names X x c) (hN : X.N.Nodup) (hi : X.N[i]? = some n)
      (hk : X.env.kindOf n = some .local) (hsu : Suite X b₀ su ts) (r : NamOk X hds l) :
      NamOk X (.ExceptHandler (some (.Name x p1)) (some n) (b₀ :: su) p2 :: hds) ((c, some i, ts) :: l)
section
variable {X : Cx} {body : List Stmt} {h0 : ExceptHandler} {hds : List ExceptHandler} {l : List Clause} {pos : Pos} {tb : WX → TS} {Wo : WX}
/-- what a statement's end says, seen from outside the try -/
theorem sp_ofTry {pins : List (Addr × Obj)} {pn : List (Addr × Obj)} {xe : Value → Shared → Prop} {D : Ends} {f : Flow} {s1 : Shared} (back : ∀ {σ : L2.St} {H : Hp} {s : Shared}, Inv (X.tr pn xe) [] σ H s → Inv X pins σ H s) (hp : SP (X.tr pn xe) [] D f s1) : SP X pins D f s1 := by
  cases f with
  | ret u => obtain ⟨v, σ', H', J, r, q⟩ := hp; exact ⟨v, σ', H', back J, r, q⟩
  | next => obtain ⟨σ', H', J, q⟩ := hp; exact ⟨σ', H', back J, q⟩
  | brk => obtain ⟨σ', H', J, q⟩ := hp; exact ⟨σ', H', back J, q⟩
  | cont => obtain ⟨σ', H', J, q⟩ := hp; exact ⟨σ', H', back J, q⟩
theorem ps_tryN (hs : X.stack = X.env :: X.outer) (hf : X.env.frame = some X.env.locals) (tk : Takes X Wo)
    (hb : ∀ (W : WX) (pn : List (Addr × Obj)) (xe : Value → Shared → Prop), Takes (X.tr pn xe) W →
      PassesOwn (model X.prog X.w) X.A X.env xe → PSs (X.tr pn xe) body (tb W))
    (hh : NamOk X (h0 :: hds) l) : PS X (.Try body (h0 :: hds) [] [] pos) (fun D σ H => tb (wNam X.K Wo D l) D σ H) := by
  refine ⟨fun pins s σ H D I h => ?_⟩
  have hok := I.ok
  have frm : X.A.frames = some (X.env :: X.outer) := hs ▸ hok.frames
  refine wpAny_Try_except ?_
  let XE' : Value → Shared → Prop := fun e s₁ => wpAny (model X.prog X.w) X.A (noteFrame e X.env)
    (fun _ s₂ => wpAny (model X.prog X.w) X.A (setFlight e none) (fun _ s₃ => wpAny (model X.prog X.w) X.A (handleBy e X.env (h0 :: hds)) (SP X pins D) X.xe s₃) X.xe s₂) X.xe s₁
  refine wpAny_mono ((hb (wNam X.K Wo D l) (X.pn ++ pins) XE' (fun u s' xx => ?_) PassesOwn.looking).run [] s σ H D (I.toTry _) h) (fun f s1 hp => ?_) (fun _ _ z => z)
  case refine_2 =>
    have hp' := sp_ofTry (X := X) (pins := pins) (fun J => J.ofTry hok) hp
    cases f with
    | next => exact wpAny_execs_nil hp'
    | ret u => exact hp'
    | brk => exact hp'
    | cont => exact hp'
  obtain ⟨a, G, sI, pp, σ', H', cls, d, eu, J0, nb, up, sky, na, os, ag, w⟩ := xx
  subst eu
  have J : Inv X pins σ' H' sI := J0.ofTry hok
  have sky2 : Sky G (X.env :: X.outer) a (Zc cls d) X.env.locals s'.heap := hs ▸ sky
  show wpAny (model X.prog X.w) X.A (noteFrame (.ref a) X.env) _ _ _
  refine Sky.land Zc.steady frm hf sky2 fun g3 fl3 up3 => ?_
  have J3 : Inv X pins σ' H' { s' with heap := g3 } := J.landed nb fl3.1 (up.trans up3) os ag
  obtain ⟨o3, v3, e3, z3, d3⟩ := fl3.there
  have nfr : a ∉ frs (X.env :: X.outer) := fun hm => by
    obtain ⟨_, o', e', hno⟩ := fl3.2.2.1.mem hm
    rw [e3] at e'; cases e'
    exact hno _ d3
  have nL : a ≠ X.env.locals := fun z => nfr (List.mem_filterMap.mpr ⟨X.env, List.mem_cons_self, hf.trans (congrArg some z.symm)⟩)
  have nF : a ∉ X.fs := fun hm => by
    obtain ⟨e, he, q⟩ := List.mem_filterMap.mp hm
    exact nfr (List.mem_filterMap.mpr ⟨e, List.mem_cons_of_mem _ he, q⟩)
  have S3 := J3.suite e3 d3 na nL nF
  -- the class that a clause names
  have test : ∀ {x : Str} {c : Value} {p1 : Pos} {Q : Value → Shared → Prop} {E : Value → Shared → Prop}, Names X x c → Q c { s' with heap := g3 } →
      wpAny (model X.prog X.w) (X.A.mark (some (.ref a))) (eval (.Name x p1) X.env) Q E { s' with heap := g3 } := fun {x c p1 Q E} hc q => by
    obtain ⟨hg, hdb, hm | ⟨hm, hv, hn⟩⟩ := hc
    · exact ld_glob (X := X.suite a ((a, o3) :: (X.pn ++ pins)))
        S3 hg hm q hdb
    · exact ld_blt (X := X.suite a ((a, o3) :: (X.pn ++ pins)))
        S3 hg hm hv q hn hdb
  have go : ∀ {hh' : List ExceptHandler} {l' : List Clause}, NamOk X hh' l' → wNam X.K Wo D l' cls d σ' H' →
      wpAny (model X.prog X.w) X.A (handleBy (.ref a) X.env hh') (SP X pins D) X.xe { s' with heap := g3 } := by
    intro hh' l' hk
    induction hk with
    | nil =>
      intro w
      refine wpAny_handleBy_nil ?_
      obtain ⟨_, _, _, oe, vs, T, oT, ts', he, hz, hd, h1, hr⟩ := id fl3
      unfold PySem.passOn
      refine wpAny_bind (wpAny_field he hd h1 ?_)
      have nn : ¬ ((Value.ref T == Value.none) = true) := by simp
      rw [if_neg nn]
      have fin : wpAny (model X.prog X.w) X.A (setFlight (.ref a) X.env.frame)
          (fun _ s4 => wpAny (model X.prog X.w) X.A (throw (.ref a) : Sem Flow) (SP X pins D) X.xe s4) X.xe { s' with heap := g3 } := by
        rw [hf]
        refine HandSPX.setFlight_upZ fl3 fun g4 hg4 up4 => wpAny_throw (tk _ _ ⟨a, G, sI, pins, σ', H', cls, d, rfl, J, nb, ?_, ?_, na, os, ag, w⟩)
        · exact (up.trans up3).trans up4
        · exact .inr (.inr (hs.symm ▸ hg4))
      first
        | exact wpAny_bind (wpAny_pure (wpAny_bind fin))
        | exact wpAny_bind fin
    | @plain x c ts b₀ su p1 p2 hds2 l2 hc hsu r ih =>
      intro w
      obtain ⟨b, hb1, hyes, hno⟩ := w
      refine wpAny_handleBy_cons (codeAny_handlers_test ?_) (by intro q; cases q)
      have LT : PySem.W.Looks (model X.prog X.w) g3 (typeOf (.ref a)) cls :=
        fun A Q E s k q => wpAny_typeOf_ref (k _ _ e3) (z3.1.symm ▸ q)
      refine test hc ((PySem.W.exm_one (M := model X.prog X.w) J3.kIn LT hb1).here ?_)
      cases b with
      | false => exact ih (hno rfl)
      | true =>
        refine codeAny_handlers_suite ?_
        refine HandSPX.lands_againZ fl3 fun g4 fl4 up4 => ?_
        have J4 : Inv X pins σ' H' { s' with heap := g4 } := J.landed nb fl4.1 ((up.trans up3).trans up4) os ag
        obtain ⟨o4, v4, e4, z4, d4⟩ := fl4.there
        have S4 := J4.suite e4 d4 na nL nF
        refine wpAny_mono ((hsu a o4 cls d (X.pn ++ pins) z4 ⟨_, d4⟩).run [] _ _ H' _ S4 (hyes rfl a na)) (fun f s6 hp => ?_) (fun _ _ z => z.elim)
        cases f with
        | ret u => obtain ⟨v6, σ6, H6, S6, r6, q6⟩ := hp; exact ⟨_, _, _, S6.unsuite hok, r6, q6⟩
        | next => obtain ⟨σ6, H6, S6, q6⟩ := hp; exact ⟨_, _, S6.unsuite hok, q6⟩
        | brk => obtain ⟨σ6, H6, S6, q6⟩ := hp; exact ⟨_, _, S6.unsuite hok, q6⟩
        | cont => obtain ⟨σ6, H6, S6, q6⟩ := hp; exact ⟨_, _, S6.unsuite hok, q6⟩
    | @named x n i c ts b₀ su p1 p2 hds2 l2 hc hN hi hk2 hsu r ih =>
      intro w
      obtain ⟨b, hb1, hyes, hno⟩ := w
      refine wpAny_handleBy_cons (codeAny_handlers_test ?_) (by intro q; cases q)
      have LT : PySem.W.Looks (model X.prog X.w) g3 (typeOf (.ref a)) cls :=
        fun A Q E s k q => wpAny_typeOf_ref (k _ _ e3) (z3.1.symm ▸ q)
      refine test hc ((PySem.W.exm_one (M := model X.prog X.w) J3.kIn LT hb1).here ?_)
      cases b with
      | false => exact ih (hno rfl)
      | true =>
        refine codeAny_handlers_suite_as ?_
        refine HandSPX.lands_againZ fl3 fun g4 fl4 up4 => ?_
        have J4 : Inv X pins σ' H' { s' with heap := g4 } := J.landed nb fl4.1 ((up.trans up3).trans up4) os ag
        obtain ⟨o4, v4, e4, z4, d4⟩ := fl4.there
        have S4 := J4.suite e4 d4 na nL nF
        refine store_ok (X := X.suite a ((a, o4) :: (X.pn ++ pins))) (v := .ref a)
          S4 hN hi (.inl hk2) rfl (fun s5 S5 => ?_) (.inr hk2)
        refine wpAny_mono ((hsu a o4 cls d (X.pn ++ pins) z4 ⟨_, d4⟩).run [] s5 _ H' _ S5 (hyes rfl a na)) (fun f s6 hp => ?_) (fun _ _ z => z.elim)
        have off : ∀ {σ6 : L2.St} {H6 : Hp} {Q : Shared → Prop}, Inv (X.suite a ((a, o4) :: (X.pn ++ pins))) [] σ6 H6 s6 → (∀ s7, Inv X pins (σ6.set i none) H6 s7 → Q s7) →
            wpAny (model X.prog X.w) X.A (do bindName X.env n .none; unbindBehindTheSuite X.env n p2) (fun _ s7 => Q s7) X.xe s6 :=
          fun {σ6 H6 Q} S6 hq => gone_ok (S6.unsuite hok) hN hi hk2 hq
        cases f with
        | ret u =>
          obtain ⟨v6, σ6, H6, S6, r6, q6⟩ := hp
          exact off S6 fun s7 J7 => ⟨_, _, _, J7, r6, q6⟩
        | next =>
          obtain ⟨σ6, H6, S6, q6⟩ := hp
          exact off S6 fun s7 J7 => ⟨_, _, J7, q6⟩
        | brk =>
          obtain ⟨σ6, H6, S6, q6⟩ := hp
          exact off S6 fun s7 J7 => ⟨_, _, J7, q6⟩
        | cont =>
          obtain ⟨σ6, H6, S6, q6⟩ := hp
          exact off S6 fun s7 J7 => ⟨_, _, J7, q6⟩
  exact go hh w
end
end VS

set_option Elab.async false
set_option linter.all false
set_option maxRecDepth 100000
set_option maxHeartbeats 1000000
/-! VS23: try with clauses that may name the error, as functions; what a suite reads of the error. -/
namespace VS
open PySem L2 PyProof.Rows

abbrev HdN := (Addr → Option Bool) × Option Nat × (Addr → List (Str × PV) → MS)
def unS (i : Nat) : OutS → OutS
  | .nx e => .nx (e.set i .un)
  | .brk e => .brk (e.set i .un)
  | .cont e => .cont (e.set i .un)
  | o => o
def runH (o : Option Nat) (m : MS) : MS := fun e => match o with
  | none => noX (m e)
  | some i => if i < e.length then unS i (noX (m (e.set i .un))) else .stuck
def tryN : List HdN → Addr → List (Str × PV) → MS
  | [], C, ds => fun e => .exc C ds e
  | (p, o, m) :: r, C, ds => fun e => match p C with
    | some true => runH o (m C ds) e
    | some false => tryN r C ds e
    | none => .stuck
def sTryN (mb : MS) (hs : List HdN) : MS := fun e => match mb e with
  | .exc C ds e' => tryN hs C ds e'
  | o => o
section
variable {X : Cx} {np : Nat} {W : WX} {pos : Pos}
/-- a suite's reading where slot i holds the error at a, of class cls, its dict at d -/
def tXs (K : PySem.W.Frag) (np i : Nat) (a : Addr) (cls : Value) (d : Option Addr) (m : Addr → List (Str × PV) → MS) : TS := fun D σ H => ∃ C ds P B H0 e,
  cls = .ref C ∧ ExD K H d ds ∧ σ[i]? = some (some (.ref a)) ∧ VI K np P B H0 e σ H ∧ PostS K np WF P B H0 H (m C ds e) D
/-- what is asked of a clause's suite -/
def SuiteIs (X : Cx) (np : Nat) (o : Option Nat) (ts : Addr → Value → Option Addr → TS) (m : Addr → List (Str × PV) → MS) : Prop := match o with
  | none => ∃ m0 : MS, (∀ C ds, m C ds = m0) ∧ ∀ a cls d, ts a cls d = tS X.K np WF m0
  | some i => np ≤ i ∧ ∀ a cls d, ts a cls d = tXs X.K np i a cls d m
def JHN (X : Cx) (np : Nat) (hds : List ExceptHandler) (hs : List HdN) : Prop := ∃ l, NamOk X hds l ∧
  Paired (fun (q : Clause) (h : HdN) => (∀ C b, h.1 C = some b → PySem.W.exmOne X.K (.ref C) q.1 = some b) ∧ q.2.1 = h.2.1 ∧ SuiteIs X np h.2.1 q.2.2 h.2.2) l hs
theorem jn_nil : JHN X np [] [] := ⟨[], .nil, .nil⟩
theorem jn_plain {x : Str} {c : Value} {p : Addr → Option Bool} {m : MS} {b₀ : Stmt} {suite : List Stmt} {npos pos' : Pos} {hds : List ExceptHandler} {hs : List HdN} (hc : Names X x c) (hp : ∀ C b, p C = some b → PySem.W.exmOne X.K (.ref C) c = some b)
    (hsu : ∀ (a : Addr) (pn : List (Addr × Obj)), JB (X.suite a pn) np WF (b₀ :: suite) m) (r : JHN X np hds hs) : JHN X np (.ExceptHandler (some (.Name x npos)) none (b₀ :: suite) pos' :: hds) ((p, none, fun _ _ => m) :: hs) := by
  obtain ⟨l, h1, h2⟩ := r
  exact ⟨(c, none, fun _ _ _ => tS X.K np WF m) :: l, .plain hc (fun a oe cls d pn _ _ => hsu a ((a, oe) :: pn)) h1, .cons ⟨hp, rfl, m, fun _ _ => rfl, fun _ _ _ => rfl⟩ h2⟩
theorem jn_named {x n : Str} {i : Nat} {c : Value} {p : Addr → Option Bool} {m : Addr → List (Str × PV) → MS} {b₀ : Stmt} {suite : List Stmt} {npos pos' : Pos} {hds : List ExceptHandler} {hs : List HdN} (hc : Names X x c) (hp : ∀ C b, p C = some b → PySem.W.exmOne X.K (.ref C) c = some b)
    (hN : X.N.Nodup) (hn : np ≤ i) (hsu : Suite X b₀ suite (fun a cls d => tXs X.K np i a cls d m)) (r : JHN X np hds hs) (hi : X.N[i]? = some n := by rfl) (hk : X.env.kindOf n = some .local := by rfl) :
    JHN X np (.ExceptHandler (some (.Name x npos)) (some n) (b₀ :: suite) pos' :: hds) ((p, some i, m) :: hs) := by
  obtain ⟨l, h1, h2⟩ := r
  exact ⟨(c, some i, fun a cls d => tXs X.K np i a cls d m) :: l, .named hc hN hi hk hsu h1, .cons ⟨hp, rfl, hn, fun _ _ _ => rfl⟩ h2⟩
theorem PostS.unS {K : PySem.W.Frag} {P : Addr → Prop} {B : List (Nat × Addr)} {H0 H : Hp} {o : OutS} {D : Ends} {i : Nat} (hn : np ≤ i) (h : PostS K np W P B H0 H (unS i o) D) : PostS K np W P B H0 H o (endsAs i D) := by
  cases o with
  | nx e => exact fun σ' H' I l => h _ H' (I.wipe1 hn) l
  | brk e => exact fun σ' H' I l => h _ H' (I.wipe1 hn) l
  | cont e => exact fun σ' H' I l => h _ H' (I.wipe1 hn) l
  | exc C ds e => exact h
  | ret s e => exact h
  | stuck => exact h
theorem tryN_ok {P : Addr → Prop} {B : List (Nat × Addr)} {H0 : Hp} {D : Ends} {l : List Clause} {hs : List HdN}
    (hr : Paired (fun (q : Clause) (h : HdN) => (∀ C b, h.1 C = some b → PySem.W.exmOne X.K (.ref C) q.1 = some b) ∧ q.2.1 = h.2.1 ∧ SuiteIs X np h.2.1 q.2.2 h.2.2) l hs) (C : Addr) (ds : List (Str × PV)) (e1 : Fr) (x : Option Addr) (σ' : L2.St) (H' : Hp)
    (I' : VI X.K np P B H0 e1 σ' H') (r : ExD X.K H' x ds) (h : PostS X.K np W P B H0 H' (tryN hs C ds e1) D) : wNam X.K W D l (.ref C) x σ' H' := by
  induction hr with
  | nil => exact h x σ' H' I' r (.refl _)
  | @cons q hd qs hds' hq ht ih =>
    obtain ⟨c, o', ts⟩ := q
    obtain ⟨p, o, m⟩ := hd
    obtain ⟨h1, h2, h3⟩ := hq
    have h2 : o' = o := h2
    subst h2
    unfold tryN at h
    generalize hp : p C = pb at h
    cases pb with
    | none => exact h.elim
    | some b =>
      refine ⟨b, h1 C b hp, fun eb => ?_, fun eb => ?_⟩
      · subst eb
        intro a ha
        dsimp only at h
        unfold runH at h
        cases o' with
        | none =>
          obtain ⟨m0, hm, h4⟩ := h3
          show ts a _ _ D σ' H'
          have h4' : ts a (.ref C) x = tS X.K np WF m0 := h4 a _ _
          rw [h4']
          have h' : PostS X.K np W P B H0 H' (noX (m0 e1)) D := by rw [← hm C ds]; exact h
          exact ⟨P, B, H0, e1, I', h'.noX⟩
        | some i =>
          obtain ⟨hn, h4⟩ := h3
          show ts a _ _ (endsAs i D) _ H'
          have h4' : ts a (.ref C) x = tXs X.K np i a (.ref C) x m := h4 a _ _
          rw [h4']
          dsimp only at h
          by_cases hi : i < e1.length
          case neg => rw [if_neg hi] at h; exact h.elim
          rw [if_pos hi] at h
          have hi : i < σ'.length := I'.len ▸ hi
          refine ⟨C, ds, P, B, H0, e1.set i .un, rfl, r, List.getElem?_set_self hi, I'.store (.inl hn) (fun d' z => nomatch z) (fun d' z => nomatch z), ?_⟩
          exact (PostS.unS hn h).noX
      · subst eb
        exact ih h
end
section
variable {X : Cx} {np : Nat} {W : WX} {pos : Pos}
theorem jst_tryN {body : List Stmt} {mb : MS} {h₀ : ExceptHandler} {hds : List ExceptHandler} {hs : List HdN} (hst : X.stack = X.env :: X.outer) (hf : X.env.frame = some X.env.locals) (tk : Takes X W)
    (hb : ∀ (W' : WX) (pn : List (Addr × Obj)) (xe : Value → Shared → Prop), Takes (X.tr pn xe) W' → PassesOwn (model X.prog X.w) X.A X.env xe → JB (X.tr pn xe) np W' body mb) (hh : JHN X np (h₀ :: hds) hs) :
    JSt X np W (.Try body (h₀ :: hds) [] [] pos) (sTryN mb hs) := by
  obtain ⟨l, hl, hr⟩ := hh
  refine PSi (ps_tryN (pos := pos) (tb := fun W' => tS X.K np W' mb) hst hf tk hb hl) fun D σ H ⟨P, B, H0, e, J, h⟩ => ?_
  refine ⟨P, B, H0, e, J, ?_⟩
  unfold sTryN at h
  generalize mb e = o at h ⊢
  cases o with
  | nx e => exact h
  | brk e => exact h
  | cont e => exact h
  | ret s e => exact h
  | stuck => exact h
  | exc C ds e1 =>
    intro x σ' H' I' r l'
    dsimp only at h
    exact tryN_ok hr C ds e1 x σ' H' I' r (PostS.le l' h)
end

/-! ### what a suite reads of the error -/
abbrev XR := Addr → List (Str × PV) → Option PV
def tXr (K : PySem.W.Frag) (i : Nat) (a : Addr) (cls : Value) (d : Option Addr) (r : XR) : TE := fun σ H Q => ∃ C ds y, cls = .ref C ∧ ExD K H d ds ∧ σ[i]? = some (some (.ref a)) ∧ r C ds = some y ∧ ∀ v, Fz K H v y → Q v H
def tXa (K : PySem.W.Frag) (i : Nat) (a : Addr) (cls : Value) (d : Option Addr) (r : Addr → List (Str × PV) → Option (List PV)) : TA := fun σ H Q => ∃ C ds ys, cls = .ref C ∧ ExD K H d ds ∧ σ[i]? = some (some (.ref a)) ∧ r C ds = some ys ∧ ∀ vs, FzA K H vs ys → Q vs H
section
variable {X : Cx} {np i : Nat} {a : Addr} {oe : Obj} {cls : Value} {d : Option Addr} {pn : List (Addr × Obj)} {pos p : Pos} {e : Expr} {es : List Expr}
theorem jx_c {v : V} {y : PV} (h : PE (X.suite a ((a, oe) :: pn)) e (tC v)) (hd : ∀ H, Fz X.K H v y) : PE (X.suite a ((a, oe) :: pn)) e (tXr X.K i a cls d fun _ _ => some y) :=
  PEi h fun σ H Q ⟨C, ds, y', _, _, _, hr, k⟩ => by cases hr; exact k v (hd H)
theorem jx_str {x j} : PE (X.suite a ((a, oe) :: pn)) (.Constant (.str x) j pos) (tXr X.K i a cls d fun _ _ => some (.str x)) := jx_c pe_str fun _ => .str x
theorem jx_int {x j} : PE (X.suite a ((a, oe) :: pn)) (.Constant (.int x) j pos) (tXr X.K i a cls d fun _ _ => some (.int x)) := jx_c pe_int fun _ => .int x
def xF (Cs : List Addr) (f : Str) : XR := fun C ds => if C ∈ Cs then ds.lookup f else none
theorem jx_fld {Cs : List Addr} {n f : Str} (hC : ∀ C ∈ Cs, XfC X.K C ∧ PySem.W.findIn X.K (.ref C) f = some none) (hz : Zc cls d oe) (hf : ∃ vs, oe.data = .fields vs) (hx : PE (X.suite a ((a, oe) :: pn)) (.Name n p) (tVar i))
    (hb : attributeBase (.Name n p) f X.env (eval (.Name n p) X.env) = eval (.Name n p) X.env := by rfl) : PE (X.suite a ((a, oe) :: pn)) (.Attribute (.Name n p) f pos) (tXr X.K i a cls d (xF Cs f)) := by
  refine ⟨fun pins s σ H Q I h => ?_⟩
  obtain ⟨C, ds, y, ec, hd, hσ, hr, k⟩ := h
  unfold xF at hr
  by_cases hm : C ∈ Cs
  case neg => rw [if_neg hm] at hr; cases hr
  rw [if_pos hm] at hr
  cases d with
  | none =>
    have e0 : ds = [] := hd
    subst e0; cases hr
  | some dd =>
    obtain ⟨fs, h1, h2⟩ := hd
    obtain ⟨v, hv, hfz⟩ := h2.lookup hr
    exact (pe_xf (hC C hm).1 (hC C hm).2 hz hf hx hb).run pins s σ H Q I ⟨_, hσ, rfl, ec, dd, fs, v, rfl, h1, hv, k v hfz⟩
abbrev XA := Addr → List (Str × PV) → Option (List PV)
def xNil : XA := fun _ _ => some []
def xCons (r : XR) (rs : XA) : XA := fun C ds => match r C ds, rs C ds with
  | some y, some ys => some (y :: ys)
  | _, _ => none
theorem jxa_nil : PA (X.suite a ((a, oe) :: pn)) [] (tXa X.K i a cls d xNil) := PAi pa_nil fun σ H Q ⟨C, ds, y', _, _, _, hr, k⟩ => by cases hr; exact k [] .nil
theorem jxa_cons {r : XR} {rs : XA} (h1 : PE (X.suite a ((a, oe) :: pn)) e (tXr X.K i a cls d r)) (h2 : PA (X.suite a ((a, oe) :: pn)) es (tXa X.K i a cls d rs)) (hs : starEach (e :: es) X.env = (false, eval e X.env) :: starEach es X.env := by rfl) :
    PA (X.suite a ((a, oe) :: pn)) (e :: es) (tXa X.K i a cls d (xCons r rs)) := by
  refine PAi (pa_cons h1 h2 hs) fun σ H Q ⟨C, ds, y, ec, hd, hσ, hr, k⟩ => ?_
  unfold xCons at hr
  cases e1 : r C ds with
  | none => rw [e1] at hr; cases hr
  | some y1 =>
    cases e2 : rs C ds with
    | none => rw [e1, e2] at hr; cases hr
    | some ys =>
      rw [e1, e2] at hr; cases hr
      exact ⟨C, ds, y1, ec, hd, hσ, e1, fun v f1 => ⟨C, ds, ys, ec, hd, hσ, e2, fun vs f2 => k _ (.cons f1 f2)⟩⟩
/-! suites of one statement -/
def xRet (r : XR) : Addr → List (Str × PV) → MS := fun C ds e => match r C ds with
  | some y => .ret (.fz y) e
  | none => .stuck
theorem jx_ret {r : XR} (h : PE (X.suite a ((a, oe) :: pn)) e (tXr X.K i a cls d r)) : PSs (X.suite a ((a, oe) :: pn)) [.Return (some e) pos] (tXs X.K np i a cls d (xRet r)) := by
  refine PSsi (pss_one (ps_ret h)) fun D σ H ⟨C, ds, P, B, H0, e1, ec, hd, hσ, I, h⟩ => ?_
  unfold xRet at h
  cases e1 : r C ds with
  | none => rw [e1] at h; exact h.elim
  | some y =>
    rw [e1] at h
    exact ⟨C, ds, y, ec, hd, hσ, e1, fun v f => h v σ H I f (.refl _)⟩
def xRetT (rs : XA) : Addr → List (Str × PV) → MS := fun C ds e => match rs C ds with
  | some ys => if ys.length ≤ sizeLine then .ret (.fz (.tup ys)) e else .stuck
  | none => .stuck
theorem jx_retT {rs : XA} {k : Nat} {p2 : Pos} (h : PA (X.suite a ((a, oe) :: pn)) es (tXa X.K i a cls d rs)) : PSs (X.suite a ((a, oe) :: pn)) [.Return (some (.Tuple es k p2)) pos] (tXs X.K np i a cls d (xRetT rs)) := by
  refine PSsi (pss_one (ps_ret (pe_tup h))) fun D σ H ⟨C, ds, P, B, H0, e1, ec, hd, hσ, I, h⟩ => ?_
  unfold xRetT at h
  cases e1 : rs C ds with
  | none => rw [e1] at h; exact h.elim
  | some ys =>
    rw [e1] at h
    dsimp only at h
    by_cases hz : ys.length ≤ sizeLine
    case neg => rw [if_neg hz] at h; exact h.elim
    rw [if_pos hz] at h
    refine ⟨C, ds, ys, ec, hd, hσ, e1, fun vs f => ⟨by rw [f.length]; exact hz, fun p hp => ?_⟩⟩
    exact h _ σ _ (I.alloc hp) (.tup upd_same (FzA.le (.alloc hp) f)) (.alloc hp)
def xRetL (rs : XA) : Addr → List (Str × PV) → MS := fun C ds e => match rs C ds with
  | some ys => if ys.length ≤ sizeLine then .ret (.own (.lst ys)) e else .stuck
  | none => .stuck
theorem jx_retL {rs : XA} {p2 : Pos} (h : PA (X.suite a ((a, oe) :: pn)) es (tXa X.K i a cls d rs)) : PSs (X.suite a ((a, oe) :: pn)) [.Return (some (.List es p2)) pos] (tXs X.K np i a cls d (xRetL rs)) := by
  refine PSsi (pss_one (ps_ret (pe_lst h))) fun D σ H ⟨C, ds, P, B, H0, e1, ec, hd, hσ, I, h⟩ => ?_
  unfold xRetL at h
  cases e1 : rs C ds with
  | none => rw [e1] at h; exact h.elim
  | some ys =>
    rw [e1] at h
    dsimp only at h
    by_cases hz : ys.length ≤ sizeLine
    case neg => rw [if_neg hz] at h; exact h.elim
    rw [if_pos hz] at h
    refine ⟨C, ds, ys, ec, hd, hσ, e1, fun vs f => ⟨by rw [f.length]; exact hz, fun p hp => ?_⟩⟩
    have h' : PostG X.K np WF P B H0 (rS X.K) σ H (.ok (.own (.lst ys)) _) D.rt := fun b H' I r l => h b σ H' I r l
    rcases Res.of I h' with q | q
    · exact q p _ (fun b u z => by rw [upd_ne (ne_of_none z hp)]; exact z) ⟨_, upd_same, FzA.le (.alloc hp) f⟩ hp
    · cases q
def xSet (np j : Nat) (r : XR) : Addr → List (Str × PV) → MS := fun C ds e => match r C ds with
  | some y => sPut np j (.fz y) e
  | none => .stuck
theorem jx_set {r : XR} {j : Nat} {x : Str} {p2 : Pos} (hN : X.N.Nodup) (h : PE (X.suite a ((a, oe) :: pn)) e (tXr X.K i a cls d r)) (hi : X.N[j]? = some x := by rfl) (hx : Loc X.env.scope x := by first | exact Or.inl rfl | exact Or.inr rfl) (hs : swapsWith e (some (.Name x p2)) pos.line X.env = pure false := by rfl)
    (hf : X.fn x = true ∨ X.env.scope.names.lookup x = some .local := by first | exact .inl rfl | exact .inr rfl) : PSs (X.suite a ((a, oe) :: pn)) [.Assign [.Name x p2] e pos] (tXs X.K np i a cls d (xSet np j r)) := by
  refine PSsi (pss_one (ps_set (X := X.suite a ((a, oe) :: pn)) hN hi hx h hs hf)) fun D σ H ⟨C, ds, P, B, H0, e1, ec, hd, hσ, I, h⟩ => ?_
  unfold xSet at h
  cases e1 : r C ds with
  | none => rw [e1] at h; exact h.elim
  | some y =>
    rw [e1] at h
    refine ⟨C, ds, y, ec, hd, hσ, e1, fun v f => ?_⟩
    exact put_ok (X := X.suite a ((a, oe) :: pn)) (s := .fz y) I f h
end
end VS

set_option Elab.async false
set_option linter.all false
set_option maxRecDepth 100000
set_option maxHeartbeats 2000000
/-! VS24: set and dict comprehensions: what is gathered is told by an account of one's own. -/
namespace VS
open PySem PySem.Spec L2 PyProof.Rows

/-- an account of a gathering object: α what one turn adds -/
structure Acct (α : Type) (P : Program) (w : World) (K : PySem.W.Frag) (A : Around) (obj : World → Obj) (goes : Cx → (Value → Shared → Prop) → Addr → List Value → (Shared → Prop) → Shared → Prop) (vals : α → List PV) where
  T : Type
  ho : Addr → T → HO
  ext : ∀ D t, Mut (some (ho D t)) ∧ (∀ xs, ho D t ≠ .tup xs) ∧ (∀ o u, ho D t ≠ .frz o u) ∧ ∀ x, ho D t ≠ .own x
  rel : Hp → T → List α → Prop
  le : ∀ {H H' : Hp} {t : T} {acc : List α}, HLe H H' → rel H t acc → rel H' t acc
  good : List α → Prop
  pre : ∀ {a b : List α}, good (a ++ b) → good a
  t0 : T
  rel0 : ∀ H, rel H t0 []
  new : ∀ (H : Hp) (h : Heap), sysModules < h.objs.size → ObjOk P w H (h.push (obj w)) h.objs.size (ho h.objs.size t0)
  step : ∀ (Y : Cx) (_ : Y.prog = P) (_ : Y.w = w) (_ : Y.K = K) (_ : Y.A = A) (pins : List (Addr × Obj)) (s : Shared) (σ : L2.St) (H : Hp) (E : Value → Shared → Prop) (D : Addr) (t : T) (acc : List α) (x : α) (vs : List V) (us : List Value) (Q : Shared → Prop),
    Inv Y pins σ H s → H D = some (ho D t) → Vals vs us → rel H t acc → FzA K H vs (vals x) → good (acc ++ [x]) →
      (∀ t' s', rel H t' (acc ++ [x]) → Inv Y pins σ (upd H D (ho D t')) s' → Q s') → goes Y E D us Q s

abbrev setObj (w : World) : Obj := { cls := .type "set", dict := none, data := .set #[] 0 (.fresh 0 0 (!w.params.followText "set-order")) }
abbrev dctObj (_ : World) : Obj := { cls := .type "dict", data := .dict #[] }
def setPut (Y : Cx) (E : Value → Shared → Prop) (D : Addr) (us : List Value) (Q : Shared → Prop) (s : Shared) : Prop := ∀ u, us = [u] →
  wpAny (model Y.prog Y.w) Y.A (call (.builtin "set.add") [.ref D, u]) (fun _ s' => Q s') E s
def dctPut (Y : Cx) (E : Value → Shared → Prop) (D : Addr) (us : List Value) (Q : Shared → Prop) (s : Shared) : Prop := ∀ k v, us = [k, v] →
  wpAny (model Y.prog Y.w) Y.A (dictSet D k v) (fun _ s' => Q s') E s

section
variable {X : Cx} {obj : World → Obj}
abbrev AcctSet (X : Cx) : Type 1 := Acct PV X.prog X.w X.K X.A setObj setPut (fun x : PV => [x])
def tSet (A : AcctSet X) (wi : TI) (g : TG) (tt : TT) (te : TE) (vs : List Nat) : TE := fun σ H Q => wi σ H fun J H1 => ∀ D, H1 D = none → ∃ W : Nat → Nat → Hp → Prop,
  (∃ m, W 0 m (upd H1 D (A.ho D A.t0))) ∧ ∀ i m H, W i m H → (J.stop i H ∧ Q (.ref D) H) ∨ (J.go i H ∧ ∃ Nx : Hp → Prop, (∀ H', Nx H' → ∃ m', m' < m ∧ W (i + 1) m' H') ∧
    ∀ x H', J.yld i H x H' → g x (wipe σ vs) H' fun σ2 H2 => wipe σ2 vs = wipe σ vs ∧ tt σ2 H2 fun b H3 =>
      if b = true then te σ2 H3 fun y H4 => ∃ t acc x, H4 D = some (A.ho D t) ∧ A.rel H4 t acc ∧ FzA X.K H4 [y] ((fun x : PV => [x]) x) ∧ A.good (acc ++ [x]) ∧ ∀ t', A.rel H4 t' (acc ++ [x]) → Nx (upd H4 D (A.ho D t')) else Nx H3)
theorem Set_core (A : AcctSet X) {pins : List (Addr × Obj)} {s : Shared} {σ : L2.St} {H : Hp} {Q : VK} {elt tg iter : Expr} {ifs : List Expr} {scope : Scope} {own : List (Str × Nat)} {pos pos' : Pos} {wi : TI} {g : TG} {tt : TT} {te : TE} {use : Option (Value → Sem Unit)} {Qf : Value → Shared → Prop}
    (hc : X.calm = true) (hN : X.N.Nodup) (I : Inv X pins σ H s) (hi : PI X tg iter wi) (ok : BlkOk X.N X.env.scope scope own)
    (hg : ∀ (s : Shared) (H : Hp) (C : Addr) (cl : List (Str × Addr)) (fp : List Addr), PG (X.blk s H scope (compEnvC scope cl C X.env) fp) tg g)
    (ht : ∀ (s : Shared) (H : Hp) (C : Addr) (cl : List (Str × Addr)) (fp : List Addr), PTs (X.blk s H scope (compEnvC scope cl C X.env) fp) ifs tt)
    (he : ∀ (s : Shared) (H : Hp) (C : Addr) (cl : List (Str × Addr)) (fp : List Addr), PE (X.blk s H scope (compEnvC scope cl C X.env) fp) elt te)
    (hs : ∀ x, foldedSetIterable iter X.env x = pure x) (h : tSet A wi g tt te (own.map (·.2)) σ H Q)
    (hR : ∀ D C s' m H', Inv X pins σ H' s' → Q (.ref D) H' → s'.heap.Ns C m → FpOk X pins H' C →
      compPost (model X.prog X.w) X.A X.xe use Qf (.ref D) C (.ok .next) s') :
    wpAny (model X.prog X.w) X.A (comprehension (.SetComp elt [⟨tg, iter, ifs, 0⟩] scope pos) scope X.env pos' (newSet (.type "set")) false (eval iter X.env) use) Qf X.xe s := by
  have free : ∀ y ∈ scope.names, y.2 = .free → ∃ c, X.env.cells.lookup y.1 = some c := by
    intro y hy e
    rcases ok.free y hy e with k | k <;> exact I.ok.has _ (by first | exact .inl k | exact .inr k)
  refine wpAny_comprehension_free (use := use) rfl hs (closure_ok free) ok.kind (fun y hy e => (ok.uniq y hy).trans (congrArg some e))
    (thn (hi.run pins s σ H _ I h) fun _ _ hx => thn hx fun _ s2 h2 => ?_)
  obtain ⟨it, fp, tn, J, H2, rfl, I2, T, st2, f2, q⟩ := h2
  refine PpSet.newSet_ok (newEnv_comp ?_)
  generalize eD : s2.heap.objs.size = D
  have nD : H2 D = none := I2.hok.fresh (Nat.le_of_eq eD)
  obtain ⟨W, ⟨m0, w0⟩, turn⟩ := q D nD
  generalize es3 : ({ s2 with heap := s2.heap.push (setObj X.w) } : Shared) = s3
  have I3 : Inv X pins σ (upd H2 D (A.ho D A.t0)) s3 := by
    subst es3
    refine I2.laid (t' := s2.toks) (fun b o e => Heap.get?_push_of_some _ e) (Nat.le_of_eq eD) ?_
    subst eD
    exact A.new _ _ I2.big
  have h3 : s3.heap = s2.heap.push (setObj X.w) := by subst es3; rfl
  have szs : ∀ b ∈ fp, b < s2.heap.objs.size := fun b hb => let ⟨_, e, _⟩ := T.obj _ _ st2 b hb; Heap.lt_size e
  have f3 : ∀ b ∈ fp, FpOk X pins (upd H2 D (A.ho D A.t0)) b ∧ b < s3.heap.objs.size := by
    intro b hb
    have lt := szs b hb
    have ne : b ≠ D := fun z => by subst z; rw [← eD] at lt; exact Nat.lt_irrefl _ lt
    exact ⟨⟨(upd_ne ne).trans (f2 b hb).1, (f2 b hb).2⟩, by rw [h3, Heap.size_push]; exact Nat.lt_succ_of_lt lt⟩
  have st3 : tn 0 s3.heap := T.keep _ _ _ st2 fun b _ o e => h3 ▸ Heap.get?_push_of_some _ e
  have I4 := block_start I3 ok hN f3
  generalize ecl : cellsFrom (s3.heap.objs.size + 1) scope.names (cloFrom X.env.cells scope.names []) = cl at I4
  have pg := hg s3 (upd H2 D (A.ho D A.t0)) s3.heap.objs.size cl fp
  have pt := ht s3 (upd H2 D (A.ho D A.t0)) s3.heap.objs.size cl fp
  have pe := he s3 (upd H2 D (A.ho D A.t0)) s3.heap.objs.size cl fp
  show codeAny _ _ (.compStart (.SetComp elt [⟨tg, iter, ifs, 0⟩] scope pos) 0 (.ref it) (.ref D) (compEnvC scope cl s3.heap.objs.size X.env))
    (compPost (model X.prog X.w) X.A X.xe use Qf (.ref D) s3.heap.objs.size) { s3 with heap := pushCells (s3.heap.push { cls := .type "dict", data := .dict #[] }) scope.names }
  have nfp : ∀ b ∈ fp, (upd H2 D (A.ho D A.t0)) b = none := fun b hb => (f3 b hb).1.1
  generalize ece : compEnvC scope cl s3.heap.objs.size X.env = ce at I4 pg pt pe ⊢
  have cL : ce.locals = s3.heap.objs.size := by subst ece; rfl
  generalize eH3 : upd H2 D (A.ho D A.t0) = H3 at I3 I4 pg pt pe w0 nfp f3
  generalize es4 : ({ s3 with heap := pushCells (s3.heap.push { cls := .type "dict", data := .dict #[] }) scope.names } : Shared) = s4 at I4 ⊢
  have st4 : tn 0 s4.heap := T.keep _ _ _ st3 fun b _ o e => by subst es4; exact pushCells_keeps _ _ _ _ (Heap.get?_push_of_some _ e)
  have stat : ∀ {σ' : L2.St} {H' : Hp} {s' : Shared}, Inv (X.blk s3 H3 scope ce fp) [] σ' H' s' → (∀ b ∈ fp, H' b = none) → ∀ b ∈ fp, FpOk (X.blk s3 H3 scope ce fp) [] H' b := by
    intro σ' H' s' I' hn b hb
    refine ⟨hn b hb, (I'.ok.exf b hb).1, I'.ok.exfs b hb, .inl hb, fun x c e => (I'.ok.exf b hb).2 x c e, fun p hp => ?_⟩
    exact absurd (show p ∈ ([] : List (Addr × Obj)) ++ [] from hp) (by simp)
  have loop : codeAny (model X.prog X.w) X.A (.compLoop (.SetComp elt [⟨tg, iter, ifs, 0⟩] scope pos) 0 (.ref it) (.ref D) ce) (compPost (model X.prog X.w) X.A X.xe use Qf (.ref D) s3.heap.objs.size) s4 := by
    refine PpSet.compLoopS_any (fun n s' => ∃ i H', Inv (X.blk s3 H3 scope ce fp) [] (wipe σ (own.map (·.2))) H' s' ∧ tn i s'.heap ∧ (∀ b ∈ fp, H' b = none) ∧ W i n H') (fun n s5 hh5 => ?_) m0
      ⟨0, H3, I4, st4, nfp, w0⟩
    obtain ⟨i, H5, I5, st5, n5, w5⟩ := hh5
    rcases turn i n H5 w5 with ⟨stop, qq⟩ | ⟨go, Nx, hNx, more⟩
    · refine thnF (T.done (X.blk s3 H3 scope ce fp) rfl rfl rfl hc i [] s5 _ H5 (fun _ _ => False) I5 (stat I5 n5) st5 stop) fun r s6 hr => ?_
      obtain ⟨rfl, I6⟩ := hr
      have I7 : Inv X pins σ H5 s6 := I3.call' (ch := fp) I6.os I6.base I6.hok I6.bare
        fun b hb => have f := (f3 b hb).1.2; ⟨f.2.2.1, f.1, f.2.2.2.1, f.2.2.2.2⟩
      have nC : H5 s3.heap.objs.size = none := cL ▸ (show H5 ce.locals = none from I6.free)
      obtain ⟨m, hn, _⟩ := I6.loc
      exact hR D s3.heap.objs.size s6 m H5 I7 qq (cL ▸ (show s6.heap.Ns ce.locals m from hn)) (I3.fpOk (Nat.le_refl _) nC)
    · refine thnF (T.item (X.blk s3 H3 scope ce fp) rfl rfl rfl hc i [] s5 _ H5 (fun _ _ => False) I5 (stat I5 n5) st5 go) fun r s6 hr => ?_
      obtain ⟨u, rfl, h6⟩ := hr
      refine thnF h6 fun _ s7 ⟨x, H7, I7, r7, y7, st7, n7⟩ => ?_
      have I7' := I7.pinned (stat I7 n7) (T.obj _ _ st7)
      refine thnF (pg.run _ s7 _ H7 x u _ I7' r7 (more x H7 y7)) fun _ s8 ⟨σ8, H8, I8, hw8, q8⟩ => ?_
      refine thnF (pt.run _ s8 σ8 H8 _ I8 q8) fun b s9 ⟨H9, I9, q9⟩ => ?_
      have fin : ∀ {s' : Shared} {H' : Hp}, Inv (X.blk s3 H3 scope ce fp) ([] ++ pinsAt fp s7.heap) σ8 H' s' → Nx H' →
          ∃ m, m < n ∧ ∃ i H', Inv (X.blk s3 H3 scope ce fp) [] (wipe σ (own.map (·.2))) H' s' ∧ tn i s'.heap ∧ (∀ b ∈ fp, H' b = none) ∧ W i m H' := by
        intro s' H' I' nx
        obtain ⟨m', hm, w'⟩ := hNx H' nx
        have pp : ∀ b ∈ fp, ∀ o, s7.heap.get? b = some o → s'.heap.get? b = some o ∧ H' b = none := by
          intro b hb o e
          have z := I'.pin (b, o) (List.mem_append_right _ (List.mem_append_right _ (mem_pinsAt hb e)))
          exact ⟨z.1, z.2.1⟩
        refine ⟨m', hm, i + 1, H', (I'.unpinned (pins := [])).weak (by rw [← hw8, wipe_length]) (fun j v e => (wipe_some (hw8.symm ▸ e)).1), T.keep _ _ _ st7 fun b hb o e => (pp b hb o e).1, fun b hb => ?_, w'⟩
        obtain ⟨o, e, _⟩ := T.obj _ _ st7 b hb
        exact (pp b hb o e).2
      cases b with
      | false =>
        rw [if_neg Bool.false_ne_true] at q9 ⊢
        exact fin I9 q9
      | true =>
        rw [if_pos rfl] at q9 ⊢
        refine thnF (pe.run _ s9 σ8 H9 _ I9 q9) fun z s10 ⟨yv, H10, I10, r10, t, acc, x, hD10, rl, fz, gd, nx⟩ => ?_
        exact A.step (X.blk s3 H3 scope ce fp) rfl rfl rfl rfl _ s10 σ8 H10 _ D t acc x [yv] [z] _ I10 hD10 (.cons r10 .nil) rl fz gd (fun t' s11 rl' I11 => fin I11 (nx t' rl')) z rfl
  exact PpSet.codeAny_compStart_set loop (T.self X.A 0 _ _ _ st4 loop)
theorem pe_Set (A : AcctSet X) {elt tg iter : Expr} {ifs : List Expr} {scope : Scope} {own : List (Str × Nat)} {pos : Pos} {wi : TI} {g : TG} {tt : TT} {te : TE} (hc : X.calm = true) (hN : X.N.Nodup) (hi : PI X tg iter wi) (ok : BlkOk X.N X.env.scope scope own)
    (hg : ∀ (s : Shared) (H : Hp) (C : Addr) (cl : List (Str × Addr)) (fp : List Addr), PG (X.blk s H scope (compEnvC scope cl C X.env) fp) tg g)
    (ht : ∀ (s : Shared) (H : Hp) (C : Addr) (cl : List (Str × Addr)) (fp : List Addr), PTs (X.blk s H scope (compEnvC scope cl C X.env) fp) ifs tt)
    (he : ∀ (s : Shared) (H : Hp) (C : Addr) (cl : List (Str × Addr)) (fp : List Addr), PE (X.blk s H scope (compEnvC scope cl C X.env) fp) elt te)
    (hs : ∀ x, foldedSetIterable iter X.env x = pure x := by intro _; rfl) : PE X (.SetComp elt [⟨tg, iter, ifs, 0⟩] scope pos) (tSet A wi g tt te (own.map (·.2))) := by
  refine ⟨fun pins s σ H Q I h => ?_⟩
  rw [PpSet.eval_SetComp]
  refine Set_core A hc hN I hi ok hg ht he hs h fun D C s' m H' I' q hn f => ⟨m, hn, fun h'' sb => ⟨.ref D, H', ?_, rfl, q⟩⟩
  exact I'.turned (t' := s'.toks) (fun b o hb e => (sb.2 b hb).trans e) f.1 f.2.1 f.2.2.2.1 f.2.2.2.2.1 f.2.2.2.2.2
end

section
variable {X : Cx} {obj : World → Obj}
abbrev AcctDct (X : Cx) : Type 1 := Acct (PV × PV) X.prog X.w X.K X.A dctObj dctPut (fun x : PV × PV => [x.1, x.2])
def tDct (A : AcctDct X) (wi : TI) (g : TG) (tt : TT) (tk tv : TE) (vs : List Nat) : TE := fun σ H Q => wi σ H fun J H1 => ∀ D, H1 D = none → ∃ W : Nat → Nat → Hp → Prop,
  (∃ m, W 0 m (upd H1 D (A.ho D A.t0))) ∧ ∀ i m H, W i m H → (J.stop i H ∧ Q (.ref D) H) ∨ (J.go i H ∧ ∃ Nx : Hp → Prop, (∀ H', Nx H' → ∃ m', m' < m ∧ W (i + 1) m' H') ∧
    ∀ x H', J.yld i H x H' → g x (wipe σ vs) H' fun σ2 H2 => wipe σ2 vs = wipe σ vs ∧ tt σ2 H2 fun b H3 =>
      if b = true then tk σ2 H3 fun y HK => tv σ2 HK fun z H4 => ∃ t acc x, H4 D = some (A.ho D t) ∧ A.rel H4 t acc ∧ FzA X.K H4 [y, z] ((fun x : PV × PV => [x.1, x.2]) x) ∧ A.good (acc ++ [x]) ∧ ∀ t', A.rel H4 t' (acc ++ [x]) → Nx (upd H4 D (A.ho D t')) else Nx H3)
theorem Dct_core (A : AcctDct X) {pins : List (Addr × Obj)} {s : Shared} {σ : L2.St} {H : Hp} {Q : VK} {kx vx tg iter : Expr} {ifs : List Expr} {scope : Scope} {own : List (Str × Nat)} {pos pos' : Pos} {wi : TI} {g : TG} {tt : TT} {tk tv : TE} {use : Option (Value → Sem Unit)} {Qf : Value → Shared → Prop}
    (hc : X.calm = true) (hN : X.N.Nodup) (I : Inv X pins σ H s) (hi : PI X tg iter wi) (ok : BlkOk X.N X.env.scope scope own)
    (hg : ∀ (s : Shared) (H : Hp) (C : Addr) (cl : List (Str × Addr)) (fp : List Addr), PG (X.blk s H scope (compEnvC scope cl C X.env) fp) tg g)
    (ht : ∀ (s : Shared) (H : Hp) (C : Addr) (cl : List (Str × Addr)) (fp : List Addr), PTs (X.blk s H scope (compEnvC scope cl C X.env) fp) ifs tt)
    (hk : ∀ (s : Shared) (H : Hp) (C : Addr) (cl : List (Str × Addr)) (fp : List Addr), PE (X.blk s H scope (compEnvC scope cl C X.env) fp) kx tk)
    (he : ∀ (s : Shared) (H : Hp) (C : Addr) (cl : List (Str × Addr)) (fp : List Addr), PE (X.blk s H scope (compEnvC scope cl C X.env) fp) vx tv)
    (hs : ∀ x, foldedSetIterable iter X.env x = pure x) (h : tDct A wi g tt tk tv (own.map (·.2)) σ H Q)
    (hR : ∀ D C s' m H', Inv X pins σ H' s' → Q (.ref D) H' → s'.heap.Ns C m → FpOk X pins H' C →
      compPost (model X.prog X.w) X.A X.xe use Qf (.ref D) C (.ok .next) s') :
    wpAny (model X.prog X.w) X.A (comprehension (.DictComp kx vx [⟨tg, iter, ifs, 0⟩] scope pos) scope X.env pos' newDict false (eval iter X.env) use) Qf X.xe s := by
  have free : ∀ y ∈ scope.names, y.2 = .free → ∃ c, X.env.cells.lookup y.1 = some c := by
    intro y hy e
    rcases ok.free y hy e with k | k <;> exact I.ok.has _ (by first | exact .inl k | exact .inr k)
  refine wpAny_comprehension_free (use := use) rfl hs (closure_ok free) ok.kind (fun y hy e => (ok.uniq y hy).trans (congrArg some e))
    (thn (hi.run pins s σ H _ I h) fun _ _ hx => thn hx fun _ s2 h2 => ?_)
  obtain ⟨it, fp, tn, J, H2, rfl, I2, T, st2, f2, q⟩ := h2
  refine wpAny_newObj_type (newEnv_comp ?_)
  generalize eD : s2.heap.objs.size = D
  have nD : H2 D = none := I2.hok.fresh (Nat.le_of_eq eD)
  obtain ⟨W, ⟨m0, w0⟩, turn⟩ := q D nD
  generalize es3 : ({ s2 with heap := s2.heap.push (dctObj X.w) } : Shared) = s3
  have I3 : Inv X pins σ (upd H2 D (A.ho D A.t0)) s3 := by
    subst es3
    refine I2.laid (t' := s2.toks) (fun b o e => Heap.get?_push_of_some _ e) (Nat.le_of_eq eD) ?_
    subst eD
    exact A.new _ _ I2.big
  have h3 : s3.heap = s2.heap.push (dctObj X.w) := by subst es3; rfl
  have szs : ∀ b ∈ fp, b < s2.heap.objs.size := fun b hb => let ⟨_, e, _⟩ := T.obj _ _ st2 b hb; Heap.lt_size e
  have f3 : ∀ b ∈ fp, FpOk X pins (upd H2 D (A.ho D A.t0)) b ∧ b < s3.heap.objs.size := by
    intro b hb
    have lt := szs b hb
    have ne : b ≠ D := fun z => by subst z; rw [← eD] at lt; exact Nat.lt_irrefl _ lt
    exact ⟨⟨(upd_ne ne).trans (f2 b hb).1, (f2 b hb).2⟩, by rw [h3, Heap.size_push]; exact Nat.lt_succ_of_lt lt⟩
  have st3 : tn 0 s3.heap := T.keep _ _ _ st2 fun b _ o e => h3 ▸ Heap.get?_push_of_some _ e
  have I4 := block_start I3 ok hN f3
  generalize ecl : cellsFrom (s3.heap.objs.size + 1) scope.names (cloFrom X.env.cells scope.names []) = cl at I4
  have pg := hg s3 (upd H2 D (A.ho D A.t0)) s3.heap.objs.size cl fp
  have pt := ht s3 (upd H2 D (A.ho D A.t0)) s3.heap.objs.size cl fp
  have pk := hk s3 (upd H2 D (A.ho D A.t0)) s3.heap.objs.size cl fp
  have pe := he s3 (upd H2 D (A.ho D A.t0)) s3.heap.objs.size cl fp
  show codeAny _ _ (.compStart (.DictComp kx vx [⟨tg, iter, ifs, 0⟩] scope pos) 0 (.ref it) (.ref D) (compEnvC scope cl s3.heap.objs.size X.env))
    (compPost (model X.prog X.w) X.A X.xe use Qf (.ref D) s3.heap.objs.size) { s3 with heap := pushCells (s3.heap.push { cls := .type "dict", data := .dict #[] }) scope.names }
  have nfp : ∀ b ∈ fp, (upd H2 D (A.ho D A.t0)) b = none := fun b hb => (f3 b hb).1.1
  generalize ece : compEnvC scope cl s3.heap.objs.size X.env = ce at I4 pg pt pk pe ⊢
  have cL : ce.locals = s3.heap.objs.size := by subst ece; rfl
  generalize eH3 : upd H2 D (A.ho D A.t0) = H3 at I3 I4 pg pt pk pe w0 nfp f3
  generalize es4 : ({ s3 with heap := pushCells (s3.heap.push { cls := .type "dict", data := .dict #[] }) scope.names } : Shared) = s4 at I4 ⊢
  have st4 : tn 0 s4.heap := T.keep _ _ _ st3 fun b _ o e => by subst es4; exact pushCells_keeps _ _ _ _ (Heap.get?_push_of_some _ e)
  have stat : ∀ {σ' : L2.St} {H' : Hp} {s' : Shared}, Inv (X.blk s3 H3 scope ce fp) [] σ' H' s' → (∀ b ∈ fp, H' b = none) → ∀ b ∈ fp, FpOk (X.blk s3 H3 scope ce fp) [] H' b := by
    intro σ' H' s' I' hn b hb
    refine ⟨hn b hb, (I'.ok.exf b hb).1, I'.ok.exfs b hb, .inl hb, fun x c e => (I'.ok.exf b hb).2 x c e, fun p hp => ?_⟩
    exact absurd (show p ∈ ([] : List (Addr × Obj)) ++ [] from hp) (by simp)
  have loop : codeAny (model X.prog X.w) X.A (.compLoop (.DictComp kx vx [⟨tg, iter, ifs, 0⟩] scope pos) 0 (.ref it) (.ref D) ce) (compPost (model X.prog X.w) X.A X.xe use Qf (.ref D) s3.heap.objs.size) s4 := by
    refine compLoop_anyD (fun n s' => ∃ i H', Inv (X.blk s3 H3 scope ce fp) [] (wipe σ (own.map (·.2))) H' s' ∧ tn i s'.heap ∧ (∀ b ∈ fp, H' b = none) ∧ W i n H') (fun n s5 hh5 => ?_) m0
      ⟨0, H3, I4, st4, nfp, w0⟩
    obtain ⟨i, H5, I5, st5, n5, w5⟩ := hh5
    rcases turn i n H5 w5 with ⟨stop, qq⟩ | ⟨go, Nx, hNx, more⟩
    · refine thnF (T.done (X.blk s3 H3 scope ce fp) rfl rfl rfl hc i [] s5 _ H5 (fun _ _ => False) I5 (stat I5 n5) st5 stop) fun r s6 hr => ?_
      obtain ⟨rfl, I6⟩ := hr
      have I7 : Inv X pins σ H5 s6 := I3.call' (ch := fp) I6.os I6.base I6.hok I6.bare
        fun b hb => have f := (f3 b hb).1.2; ⟨f.2.2.1, f.1, f.2.2.2.1, f.2.2.2.2⟩
      have nC : H5 s3.heap.objs.size = none := cL ▸ (show H5 ce.locals = none from I6.free)
      obtain ⟨m, hn, _⟩ := I6.loc
      exact hR D s3.heap.objs.size s6 m H5 I7 qq (cL ▸ (show s6.heap.Ns ce.locals m from hn)) (I3.fpOk (Nat.le_refl _) nC)
    · refine thnF (T.item (X.blk s3 H3 scope ce fp) rfl rfl rfl hc i [] s5 _ H5 (fun _ _ => False) I5 (stat I5 n5) st5 go) fun r s6 hr => ?_
      obtain ⟨u, rfl, h6⟩ := hr
      refine thnF h6 fun _ s7 ⟨x, H7, I7, r7, y7, st7, n7⟩ => ?_
      have I7' := I7.pinned (stat I7 n7) (T.obj _ _ st7)
      refine thnF (pg.run _ s7 _ H7 x u _ I7' r7 (more x H7 y7)) fun _ s8 ⟨σ8, H8, I8, hw8, q8⟩ => ?_
      refine thnF (pt.run _ s8 σ8 H8 _ I8 q8) fun b s9 ⟨H9, I9, q9⟩ => ?_
      have fin : ∀ {s' : Shared} {H' : Hp}, Inv (X.blk s3 H3 scope ce fp) ([] ++ pinsAt fp s7.heap) σ8 H' s' → Nx H' →
          ∃ m, m < n ∧ ∃ i H', Inv (X.blk s3 H3 scope ce fp) [] (wipe σ (own.map (·.2))) H' s' ∧ tn i s'.heap ∧ (∀ b ∈ fp, H' b = none) ∧ W i m H' := by
        intro s' H' I' nx
        obtain ⟨m', hm, w'⟩ := hNx H' nx
        have pp : ∀ b ∈ fp, ∀ o, s7.heap.get? b = some o → s'.heap.get? b = some o ∧ H' b = none := by
          intro b hb o e
          have z := I'.pin (b, o) (List.mem_append_right _ (List.mem_append_right _ (mem_pinsAt hb e)))
          exact ⟨z.1, z.2.1⟩
        refine ⟨m', hm, i + 1, H', (I'.unpinned (pins := [])).weak (by rw [← hw8, wipe_length]) (fun j v e => (wipe_some (hw8.symm ▸ e)).1), T.keep _ _ _ st7 fun b hb o e => (pp b hb o e).1, fun b hb => ?_, w'⟩
        obtain ⟨o, e, _⟩ := T.obj _ _ st7 b hb
        exact (pp b hb o e).2
      cases b with
      | false =>
        rw [if_neg Bool.false_ne_true] at q9 ⊢
        exact fin I9 q9
      | true =>
        rw [if_pos rfl] at q9 ⊢
        refine thnF (pk.run _ s9 σ8 H9 _ I9 q9) fun z s10 ⟨yk, HK, I10, r10, q10⟩ => ?_
        refine thnF (pe.run _ s10 σ8 HK _ I10 q10) fun z2 s11 ⟨yv, H11, I11, r11, t, acc, x, hD11, rl, fz, gd, nx⟩ => ?_
        exact A.step (X.blk s3 H3 scope ce fp) rfl rfl rfl rfl _ s11 σ8 H11 _ D t acc x [yk, yv] [z, z2] _ I11 hD11 (.cons r10 (.cons r11 .nil)) rl fz gd (fun t' s12 rl' I12 => fin I12 (nx t' rl')) z z2 rfl
  exact codeAny_compStart_dict loop (T.self X.A 0 _ _ _ st4 loop)
theorem pe_Dct (A : AcctDct X) {kx vx tg iter : Expr} {ifs : List Expr} {scope : Scope} {own : List (Str × Nat)} {pos : Pos} {wi : TI} {g : TG} {tt : TT} {tk tv : TE} (hc : X.calm = true) (hN : X.N.Nodup) (hi : PI X tg iter wi) (ok : BlkOk X.N X.env.scope scope own)
    (hg : ∀ (s : Shared) (H : Hp) (C : Addr) (cl : List (Str × Addr)) (fp : List Addr), PG (X.blk s H scope (compEnvC scope cl C X.env) fp) tg g)
    (ht : ∀ (s : Shared) (H : Hp) (C : Addr) (cl : List (Str × Addr)) (fp : List Addr), PTs (X.blk s H scope (compEnvC scope cl C X.env) fp) ifs tt)
    (hk : ∀ (s : Shared) (H : Hp) (C : Addr) (cl : List (Str × Addr)) (fp : List Addr), PE (X.blk s H scope (compEnvC scope cl C X.env) fp) kx tk)
    (he : ∀ (s : Shared) (H : Hp) (C : Addr) (cl : List (Str × Addr)) (fp : List Addr), PE (X.blk s H scope (compEnvC scope cl C X.env) fp) vx tv)
    (hs : ∀ x, foldedSetIterable iter X.env x = pure x := by intro _; rfl) : PE X (.DictComp kx vx [⟨tg, iter, ifs, 0⟩] scope pos) (tDct A wi g tt tk tv (own.map (·.2))) := by
  refine ⟨fun pins s σ H Q I h => ?_⟩
  rw [arm_eval_DictComp]
  refine Dct_core A hc hN I hi ok hg ht hk he hs h fun D C s' m H' I' q hn f => ⟨m, hn, fun h'' sb => ⟨.ref D, H', ?_, rfl, q⟩⟩
  exact I'.turned (t' := s'.toks) (fun b o hb e => (sb.2 b hb).trans e) f.1 f.2.1 f.2.2.2.1 f.2.2.2.2.1 f.2.2.2.2.2
end
end VS

set_option Elab.async false
set_option linter.all false
set_option maxRecDepth 100000
set_option maxHeartbeats 2000000
/-! VS25: sorted({..}) of ints; {k: v for ..} with keys that are tuples, or ints and texts. -/
namespace VS
open PySem PySem.Spec L2 PyProof.Rows

/-! ### what is gathered, each once -/
def addN {α : Type} [DecidableEq α] (l : List α) (k : α) : List α := if k ∈ l then l else l ++ [k]
def nubL {α : Type} [DecidableEq α] (ns : List α) : List α := ns.foldl addN []
section
variable {α : Type} [DecidableEq α]
theorem nub_snoc (ns : List α) (k : α) : nubL (ns ++ [k]) = addN (nubL ns) k := by simp [nubL, List.foldl_append]
theorem mem_foldN (k : α) : ∀ (ns acc : List α), k ∈ ns.foldl addN acc ↔ k ∈ acc ∨ k ∈ ns
  | [], acc => by simp
  | n :: ns, acc => by
    rw [List.foldl_cons, mem_foldN k ns]
    unfold addN
    by_cases h : n ∈ acc
    · rw [if_pos h]
      constructor
      · rintro (h1 | h1)
        · exact .inl h1
        · exact .inr (List.mem_cons_of_mem _ h1)
      · rintro (h1 | h1)
        · exact .inl h1
        · rcases List.mem_cons.1 h1 with rfl | h1
          · exact .inl h
          · exact .inr h1
    · rw [if_neg h]; simp [or_assoc]
theorem mem_nub {ns : List α} {k : α} : k ∈ nubL ns ↔ k ∈ ns := by
  unfold nubL; rw [mem_foldN]; simp
theorem nodup_foldN : ∀ (ns acc : List α), acc.Nodup → (ns.foldl addN acc).Nodup
  | [], acc, h => h
  | n :: ns, acc, h => by
    rw [List.foldl_cons]
    refine nodup_foldN ns _ ?_
    unfold addN
    by_cases q : n ∈ acc
    · rw [if_pos q]; exact h
    · rw [if_neg q, List.nodup_append]
      exact ⟨h, by simp, fun a ha b hb => by cases List.mem_singleton.1 hb; exact fun e => q (e ▸ ha)⟩
theorem nodup_nub (ns : List α) : (nubL ns).Nodup := nodup_foldN ns [] List.nodup_nil
theorem len_foldN : ∀ (ns acc : List α), acc.length ≤ (ns.foldl addN acc).length
  | [], acc => Nat.le_refl _
  | n :: ns, acc => by
    rw [List.foldl_cons]
    refine Nat.le_trans ?_ (len_foldN ns _)
    unfold addN
    split <;> simp
theorem len_nub_pre (a b : List α) : (nubL a).length ≤ (nubL (a ++ b)).length := by
  unfold nubL; rw [List.foldl_append]; exact len_foldN _ _
end
def allI : List PV → Option (List Int)
  | [] => some []
  | .int x :: r => (allI r).map (x :: ·)
  | _ :: _ => none
theorem allI_map : ∀ (ns : List Int), allI (ns.map .int) = some ns
  | [] => rfl
  | n :: ns => by simp [allI, allI_map ns]
theorem allI_of : ∀ {ds : List PV} {xs : List Int}, allI ds = some xs → ds = xs.map PV.int
  | [], xs, h => by simp [allI] at h; subst h; rfl
  | d :: r, xs, h => by
    cases d with
    | int x =>
      unfold allI at h
      cases e : allI r with
      | none => rw [e] at h; cases h
      | some ys => rw [e] at h; cases h; rw [allI_of e]; rfl
    | _ => simp [allI] at h
def sortI (ns : List Int) : List Int := (nubL ns).mergeSort (fun a b => decide (a ≤ b))
def fSetI (acc : List PV) : Option Sl := match allI acc with
  | some ns => if (nubL ns).length < 64 then some (.own (.lst ((sortI ns).map .int))) else none
  | none => none
theorem sortI_mem {ns : List Int} {k : Int} : k ∈ sortI ns ↔ k ∈ ns := by unfold sortI; rw [List.mem_mergeSort, mem_nub]
theorem sortI_lt (ns : List Int) : (sortI ns).Pairwise (· < ·) := by
  have h1 : (sortI ns).Pairwise (fun a b => decide (a ≤ b) = true) := List.pairwise_mergeSort (fun a b c h1 h2 => by simp at *; omega) (fun a b => by simp; omega) _
  have h2 : (sortI ns).Nodup := (List.mergeSort_perm _ _).nodup_iff.2 (nodup_nub ns)
  unfold List.Nodup at h2
  refine (h1.and h2).imp fun {a b} h => ?_
  have := h.1; have := h.2; simp at *; omega
theorem sorted_unique {a b : List Int} (ha : a.Pairwise (· < ·)) (hb : b.Pairwise (· < ·)) (h : ∀ k, k ∈ a ↔ k ∈ b) : a = b := by
  have na : a.Nodup := ha.imp fun h => Int.ne_of_lt h
  have nb : b.Nodup := hb.imp fun h => Int.ne_of_lt h
  have p : a.Perm b := (List.perm_ext_iff_of_nodup na nb).2 h
  exact p.eq_of_pairwise (fun x y _ _ h1 h2 => by omega) ha hb
/-- ints, told by the set's own word -/
def acctI (X : Cx) : AcctSet X where
  T := (Int → Bool) × Nat
  ho := fun D t => SetO X.w D t.1 t.2
  ext := fun D t => by
    refine ⟨True.intro, fun xs z => ?_, fun o u z => ?_, fun x z => ?_⟩
    · have z' : HO.ext _ = HO.tup xs := z
      cases z'
    · have z' : HO.ext _ = HO.frz o u := z
      cases z'
    · have z' : HO.ext _ = HO.own x := z
      cases z'
  rel := fun _ t acc => ∃ ns : List Int, acc = ns.map .int ∧ (∀ k, t.1 k = decide (k ∈ ns)) ∧ t.2 = (nubL ns).length
  le := fun _ h => h
  good := fun acc => ∃ ns : List Int, acc = ns.map .int ∧ (nubL ns).length < 64
  pre := fun {a b} h => by
    obtain ⟨ns, h1, h2⟩ := h
    obtain ⟨x, y, rfl, rfl, rfl⟩ := List.map_eq_append_iff.1 h1.symm
    exact ⟨x, rfl, Nat.lt_of_le_of_lt (len_nub_pre x y) h2⟩
  t0 := (fun _ => false, 0)
  rel0 := fun _ => ⟨[], rfl, fun k => by simp, rfl⟩
  new := fun H h _ => setO_new (setR_fresh X.w)
  step := by
    intro Y e1 e2 e3 e4 pins s σ H E D t acc x vs us Q I hD rv hr hf hg k u hu
    subst hu
    obtain ⟨S, n⟩ := t
    obtain ⟨ns, rfl, hS, hn⟩ := hr
    obtain ⟨ms, hm, hlt⟩ := hg
    obtain ⟨a, b, rfl, h1, h2⟩ := List.map_eq_append_iff.1 hm.symm
    have : a = ns := by
      have := List.map_inj_right (f := PV.int) (fun x y h => by cases h; rfl) |>.1 h1
      exact this
    subst this
    match b, h2 with
    | [i], h2 =>
      cases h2
      cases rv with
      | cons r1 r2 =>
        cases r2
        cases hf with
        | cons f1 f2 =>
          cases f2
          cases f1
          obtain ⟨tk, rfl⟩ := r1
          have hD' : H D = some (SetO Y.w D S n) := by rw [e2]; exact hD
          have R := setO_get I hD'
          have hbd : n + 1 < scanBound := by
            have := len_nub_pre a [i]
            have hn : n = (nubL a).length := hn
            unfold scanBound; omega
          refine setR_add R hbd fun h' sb new => ?_
          have he : ∃ u, h'.get? D = some u := by
            have ⟨o, _, _, _, ho, _⟩ := new
            exact ⟨o, ho⟩
          have J := I.write (e := D) (t' := s.toks + 1) (o := SetO Y.w D (fun j => S j || decide (j = i)) (if S i = true then n else n + 1)) (by rw [hD']; trivial) (.inl rfl) (fun b u hb hu => (sb.2 b hb).trans hu) he (setO_new new)
          rw [e2] at J
          refine k (fun j => S j || decide (j = i), if S i = true then n else n + 1) _ ⟨a ++ [i], by simp, fun j => ?_, ?_⟩ J
          · have hS' := hS j
            dsimp only at hS' ⊢
            rw [hS']; simp [Bool.decide_or]
          · have hS' := hS i
            have hn : n = (nubL a).length := hn
            dsimp only at hS' ⊢
            rw [nub_snoc]
            unfold addN
            by_cases q : i ∈ a
            · rw [hS', if_pos (by simpa using q), if_pos (mem_nub.2 q)]; exact hn
            · rw [hS', if_neg (by simpa using q), if_neg (fun z => q (mem_nub.1 z)), List.length_append, hn]; rfl

/-! ### the run -/
theorem compRun_pre {vs : List Nat} {g : MG} {mt : Mo Bool} {me : Mo PV} : ∀ {ds acc : List PV} {e e' : Fr} {a : List PV}, compRun vs g mt me ds acc e = .ok (.own (.lst a)) e' → ∃ b, a = acc ++ b
  | [], acc, e, e', a, h => by
    unfold compRun at h
    injection h with h1 h2
    injection h1 with h1
    injection h1 with h1
    exact ⟨[], by simp [h1]⟩
  | d :: ds, acc, e, e', a, h => by
    unfold compRun at h
    split at h
    · cases h
    · split at h
      · exact compRun_pre h
      · split at h
        · split at h
          · obtain ⟨b, rfl⟩ := compRun_pre h
            exact ⟨_, List.append_assoc ..⟩
          · cases h
        · cases h
      · cases h
def finS (f : List PV → Option Sl) : Out Sl → Out Sl
  | .ok (.own (.lst a)) e => sl? (f a) e
  | _ => .stuck
def mSetS (f : List PV → Option Sl) (vs : List Nat) (mi : Mo (List PV)) (g : MG) (mt : Mo Bool) (me : Mo PV) : Mo Sl := mB mi fun ds e => finS f (compRun vs g mt me ds [] (wipeE e vs))
/-- the account of f's argument, and what is done with it -/
structure SetF (X : Cx) (A : AcctSet X) (f : List PV → Option Sl) (r : List V → Hp → VK → Prop) : Prop where
  good : ∀ acc s, f acc = some s → A.good acc
  done : ∀ H D t acc s Q, H D = some (A.ho D t) → A.rel H t acc → f acc = some s → s ≠ .un → Res X.K H s Q → r [.ref D] H Q
section
variable {X : Cx} {np : Nat} {W : WX} {pos : Pos} {f : List PV → Option Sl} {r : List V → Hp → VK → Prop}
def SInv (A : AcctSet X) (f : List PV → Option Sl) (np : Nat) (W : WX) (P : Addr → Prop) (B : List (Nat × Addr)) (H0 : Hp) (σ : L2.St) (vs : List Nat) (H1 : Hp) (D : Addr) (g : MG) (mt : Mo Bool) (me : Mo PV) (Q : VK) (ds : List PV) (H : Hp) : Prop :=
  ∃ e acc t, VI X.K np P B H0 e (wipe σ vs) H ∧ HLe H1 H ∧ H D = some (A.ho D t) ∧ A.rel H t acc ∧ (∀ (j : Nat) d', e[j]? = some (.own d') → (wipe σ vs)[j]? ≠ some (some (.ref D))) ∧
    PostG X.K np W P B H0 (rS X.K) σ H (finS f (compRun vs g mt me ds acc e)) Q
theorem finS_good {A : AcctSet X} (F : SetF X A f r) {P : Addr → Prop} {B : List (Nat × Addr)} {H0 H : Hp} {σ : L2.St} {Q : VK} {vs : List Nat} {g : MG} {mt : Mo Bool} {me : Mo PV} {ds acc : List PV} {e : Fr} (h : PostG X.K np W P B H0 (rS X.K) σ H (finS f (compRun vs g mt me ds acc e)) Q) : A.good acc := by
  generalize ho : compRun vs g mt me ds acc e = o at h
  cases o with
  | stuck => exact h.elim
  | exc C d e => exact h.elim
  | ok s e' =>
    cases s with
    | un => exact h.elim
    | fz d => exact h.elim
    | own d =>
      cases d with
      | lst a =>
        obtain ⟨b, rfl⟩ := compRun_pre ho
        unfold finS at h
        dsimp only at h
        cases hf : f (acc ++ b) with
        | none => rw [hf] at h; exact h.elim
        | some s => exact A.pre (F.good _ _ hf)
      | _ => exact h.elim
theorem set_of {A : AcctSet X} (F : SetF X A f r) {ws vs : List Nat} {mi : Mo (List PV)} {g : MG} {mt : Mo Bool} {me : Mo PV} (hw : ∀ v ∈ ws, v ∈ vs) (hn : ∀ v ∈ vs, np ≤ v) {σ : L2.St} {H : Hp} {Q : VK} (h : tG X.K np W (rS X.K) (mSetS f vs mi g mt me) σ H Q) :
    tSet A (tG X.K np W (rI X.K) mi) (tTg X.K np g ws) (tG X.K np WF rB mt) (tG X.K np WF (rE X.K) me) vs σ H fun v H' => r [v] H' Q := by
  refine tG.bind h fun P B H0 ds e1 J H1 I rr l h D hD => ?_
  have hD0 : H0 D = none := I.fresh hD
  have xt := fun t => (A.ext D t).2.1
  have xf := fun t => (A.ext D t).2.2.1
  refine ⟨fun i m H' => m = ds.length - i ∧ i ≤ ds.length ∧ SInv A f np W P B H0 σ vs H1 D g mt me Q (ds.drop i) H', ⟨_, rfl, Nat.zero_le _, wipeE e1 vs, [], A.t0, (I.alloc hD).wipe hn, .alloc hD, upd_same, A.rel0 _, fun j d' q z => ?_, PostG.le (.alloc hD) h⟩, ?_⟩
  · obtain ⟨a, x, y, _⟩ := (I.wipe hn).ow j d' q
    rw [z] at x; cases x
    obtain ⟨u, hu, _⟩ := y.at
    rw [hD] at hu; cases hu
  rintro i m H2 ⟨rfl, hle, e2, acc, t, I2, l2, d2, f2, o2, h2⟩
  by_cases hlt : i < ds.length
  case neg =>
    have e : i = ds.length := by omega
    subst e
    rw [List.drop_length] at h2
    refine .inl ⟨(rr _ H2 l2).2 (Nat.le_refl _), ?_⟩
    have I3 := I2.unwipe
    unfold compRun finS at h2
    dsimp only at h2
    cases hf : f acc with
    | none => rw [hf] at h2; exact h2.elim
    | some s =>
      rw [hf] at h2
      cases s with
      | un => exact h2.elim
      | fz d =>
        rcases Res.of I3 h2 with q | q
        · exact F.done _ _ _ _ _ _ d2 f2 hf (by simp) q
        · cases q
      | own d =>
        rcases Res.of I3 h2 with q | q
        · exact F.done _ _ _ _ _ _ d2 f2 hf (by simp) q
        · cases q
  obtain ⟨gi, yi⟩ := (rr i H2 l2).1 ds[i] (by simp [hlt])
  have ed : ds.drop i = ds[i] :: ds.drop (i + 1) := (List.getElem_cons_drop hlt).symm
  rw [ed] at h2
  unfold compRun at h2
  refine .inr ⟨gi, SInv A f np W P B H0 σ vs H1 D g mt me Q (ds.drop (i + 1)), fun H' z => ⟨ds.length - (i + 1), by omega, rfl, hlt, z⟩, fun x H3 y => ?_⟩
  obtain ⟨fx, k⟩ := yi x H3 y
  have J := I2.base
  have nD : ¬ Owned e2 (wipe σ vs) D := fun ⟨j, d', q, z⟩ => o2 j d' q z
  refine ⟨_, B, H2, e2, ds[i], J.same k, fx, ?_⟩
  generalize g ds[i] e2 = o at h2 ⊢
  cases o with
  | none => exact h2.elim
  | some e3 =>
    intro σ3 J3 df
    have hws := wipe_diff df hw
    refine ⟨hws, _, B, H2, e3, J3, ?_⟩
    dsimp only at h2
    have no : ∀ {e' : Fr} {H' : Hp}, VI X.K np (Owned e2 (wipe σ vs)) B H2 e' σ3 H' → ∀ (j : Nat) d', e'[j]? = some (.own d') → σ3[j]? ≠ some (some (.ref D)) := fun Je j d' q z => by
      obtain ⟨a, x, y, zz⟩ := Je.ow j d' q
      rw [z] at x; cases x
      rcases zz with zz | zz
      · exact nD zz
      · rw [d2] at zz; cases zz
    have lk : HLe H2 H3 := .same k
    generalize mt e3 = o3 at h2 ⊢
    cases o3 with
    | stuck => exact h2.elim
    | exc C es e4 => exact h2.elim
    | ok b e4 =>
      intro b' H4 J4 r4 l4
      cases r4
      cases b with
      | false =>
        dsimp only at h2
        rw [if_neg Bool.false_ne_true]
        have hD' : H4 D = some (A.ho D t) := J4.keep D _ d2 nD
        have Jw := (I2.back J4).wipe hn
        rw [hws] at Jw
        refine ⟨wipeE e4 vs, acc, t, Jw, l2.trans (lk.trans l4), hD', A.le (lk.trans l4) f2, fun j d' q z => ?_, PostG.le (lk.trans l4) h2⟩
        have q' := wipeE_own (by simp) q
        rw [← hws] at z
        exact no J4 j d' q' (wipe_some z).1
      | true =>
        dsimp only at h2
        rw [if_pos rfl]
        refine ⟨_, B, H2, e4, J4, ?_⟩
        generalize me e4 = o4 at h2 ⊢
        cases o4 with
        | stuck => exact h2.elim
        | exc C es e5 => exact h2.elim
        | ok xv e5 =>
          intro v H5 J5 r5 l5
          have hD' : H5 D = some (A.ho D t) := J5.keep D _ d2 nD
          dsimp only at h2
          by_cases hz : acc.length < sizeLine
          case neg => rw [if_neg hz] at h2; exact h2.elim
          rw [if_pos hz] at h2
          have lq : HLe H2 H5 := lk.trans (l4.trans l5)
          refine ⟨t, acc, xv, hD', A.le lq f2, .cons r5 .nil, finS_good F h2, fun t' rl => ?_⟩
          have lw : HLe H5 (upd H5 D (A.ho D t')) := .write hD' (xt t) (xf t)
          have Jw := ((I2.back J5).other (o := A.ho D t') hD' (xt t) (xf t) (.inr hD0) (no J5)).wipe hn
          rw [hws] at Jw
          refine ⟨wipeE e5 vs, acc ++ [xv], t', Jw, l2.trans (lq.trans lw), upd_same, A.le lw rl, fun j d' q z => ?_, PostG.le (lq.trans lw) h2⟩
          have q' := wipeE_own (by simp) q
          rw [← hws] at z
          exact no J5 j d' q' (wipe_some z).1
theorem fza_int {K : PySem.W.Frag} {H : Hp} : ∀ l : List Int, FzA K H (l.map V.int) (l.map PV.int)
  | [] => .nil
  | a :: l => .cons (.int a) (fza_int l)
theorem setF_I (X : Cx) : SetF X (acctI X) fSetI (rSortedSet X.w) where
  good := fun acc s h => by
    unfold fSetI at h
    cases e : allI acc with
    | none => rw [e] at h; cases h
    | some ns =>
      rw [e] at h
      dsimp only at h
      by_cases hl : (nubL ns).length < 64
      · exact ⟨ns, allI_of e, hl⟩
      · rw [if_neg hl] at h; cases h
  done := fun H D t acc s Q hD hr hf hs q => by
    obtain ⟨ns, rfl, hS, hn⟩ := hr
    unfold fSetI at hf
    rw [allI_map] at hf
    dsimp only at hf
    by_cases hl : (nubL ns).length < 64
    case neg => rw [if_neg hl] at hf; cases hf
    rw [if_pos hl] at hf
    cases hf
    refine ⟨D, t.1, t.2, rfl, hD, by rw [hn]; exact hl, fun ms p h1 h2 h3 hp => ?_⟩
    have e : ms = sortI ns := sorted_unique h1 (sortI_lt ns) fun k => by rw [h2 k, hS k, sortI_mem]; simp
    subst e
    refine q p _ (fun b o z => by rw [upd_ne (ne_of_none z hp)]; exact z) ⟨_, upd_same, ?_⟩ hp
    exact fza_int _
/-- f(set comprehension), f a built-in -/
theorem js_setS {A : AcctSet X} (F : SetF X A f r) {x : Str} {id : String} {p : Pos} {elt tg iter : Expr} {ifs : List Expr} {scope : Scope} {own : List (Str × Nat)} {ws : List Nat} {mi : Mo (List PV)} {g : MG} {mt : Mo Bool} {me : Mo PV} {pos2 : Pos} (hcr : CallR X (.builtin id) r)
    (hc : X.calm = true) (hN : X.N.Nodup) (hi : JI X np W tg iter mi) (ok : BlkOk X.N X.env.scope scope own)
    (hg : ∀ (s : Shared) (H : Hp) (C : Addr) (cl : List (Str × Addr)) (fp : List Addr), JG (X.blk s H scope (compEnvC scope cl C X.env) fp) np tg g ws) (ht : ∀ (s : Shared) (H : Hp) (C : Addr) (cl : List (Str × Addr)) (fp : List Addr), JTs (X.blk s H scope (compEnvC scope cl C X.env) fp) np WF ifs mt)
    (he : ∀ (s : Shared) (H : Hp) (C : Addr) (cl : List (Str × Addr)) (fp : List Addr), JE (X.blk s H scope (compEnvC scope cl C X.env) fp) np WF elt me) (hm : X.mg x = none) (hv : bootBuiltins x = some (.builtin id))
    (hw : ∀ v ∈ ws, v ∈ own.map (·.2) := by decide) (hn : ∀ v ∈ own.map (·.2), np ≤ v := by decide) (hs : ∀ x, foldedSetIterable iter X.env x = pure x := by intro _; rfl) (hgl : Gl X x := by rfl) (hnn : x ≠ "__name__" := by decide) (hdb : (x == ("__debug__" : Str)) = false := by decide)
    (hse : starEach [.SetComp elt [⟨tg, iter, ifs, 0⟩] scope pos2] X.env = (false, eval (.SetComp elt [⟨tg, iter, ifs, 0⟩] scope pos2) X.env) :: starEach [] X.env := by rfl) (hpl : (backTo pos (starEach [] X.env)).any (·.1) = false := by rfl) :
    JS X np W (.Call (.Name x p) [.SetComp elt [⟨tg, iter, ifs, 0⟩] scope pos2] [] pos) (mSetS f (own.map (·.2)) mi g mt me) :=
  PEi (pe_callB hcr hgl hm hv (pa_cons (pe_Set A (pos := pos2) (te := tG X.K np WF (rE X.K) me) (tt := tG X.K np WF rB mt) (g := tTg X.K np g ws) hc hN hi ok hg ht he hs) pa_nil hse) hnn hdb hse hpl) fun σ H Q h => set_of F hw hn h
end
end VS

set_option Elab.async false
set_option linter.all false
set_option maxRecDepth 100000
set_option maxHeartbeats 2000000
/-! VS26: {k: v for ..} with keys that are tuples. -/
namespace VS
open PySem PySem.Spec L2 PyProof.Rows

def gathStep (o : Option (List (List Key × PV))) (x : PV × PV) : Option (List (List Key × PV)) := o.bind fun d => match x.1 with
  | .tup ys => (ksP ys).map fun k => putD d k x.2
  | _ => none
def gathT (acc : List (PV × PV)) : Option (List (List Key × PV)) := acc.foldl gathStep (some [])
theorem gath_snoc (acc : List (PV × PV)) (x : PV × PV) : gathT (acc ++ [x]) = gathStep (gathT acc) x := by simp [gathT, List.foldl_append]
theorem gath_none : ∀ l : List (PV × PV), l.foldl gathStep none = none
  | [] => rfl
  | x :: l => by rw [List.foldl_cons]; exact gath_none l
theorem gath_pre {a b : List (PV × PV)} {d : List (List Key × PV)} (h : gathT (a ++ b) = some d) : ∃ d', gathT a = some d' := by
  unfold gathT at h ⊢
  rw [List.foldl_append] at h
  cases e : a.foldl gathStep (some []) with
  | some d' => exact ⟨d', rfl⟩
  | none => rw [e, gath_none] at h; cases h
section
variable {κ : Type} [DecidableEq κ]
theorem putD_len (d : List (κ × PV)) (k : κ) (v : PV) : (putD d k v).length ≤ d.length + 1 := by
  unfold putD
  split
  · rw [List.length_map]; omega
  · rw [List.length_append]; exact Nat.le_refl _
end
theorem gath_len : ∀ (l : List (PV × PV)) (d0 d : List (List Key × PV)), l.foldl gathStep (some d0) = some d → d.length ≤ d0.length + l.length
  | [], d0, d, h => by cases h; simp
  | x :: l, d0, d, h => by
    rw [List.foldl_cons] at h
    cases e : gathStep (some d0) x with
    | none => rw [e, gath_none] at h; cases h
    | some d1 =>
      rw [e] at h
      have h2 := gath_len l d1 d h
      have h3 : d1.length ≤ d0.length + 1 := by
        unfold gathStep at e
        rw [Option.bind_some] at e
        split at e
        · obtain ⟨k, _, rfl⟩ := Option.map_eq_some_iff.1 e
          exact putD_len _ _ _
        · cases e
      rw [List.length_cons]; omega
def acctT (X : Cx) (hu : X.A.units < cLine) : AcctDct X where
  T := List (List Key × V)
  ho := fun _ t => .dT t
  ext := fun D t => ⟨True.intro, fun xs z => (nomatch z), fun o u z => (nomatch z), fun x z => (nomatch z)⟩
  rel := fun H t acc => ∃ d, gathT acc = some d ∧ FzT X.K H t d
  le := fun l ⟨d, h1, h2⟩ => ⟨d, h1, h2.le l⟩
  good := fun acc => (∃ d, gathT acc = some d) ∧ acc.length ≤ sizeLine
  pre := fun {a b} ⟨⟨d, h1⟩, h2⟩ => ⟨gath_pre h1, by rw [List.length_append] at h2; omega⟩
  t0 := []
  rel0 := fun H => ⟨[], rfl, .nil⟩
  new := fun H h hb => dt_empty h hb
  step := by
    intro Y e1 e2 e3 e4 pins s σ H E D t acc x vs us Q I hD rv hr hf hg k ku vu hu2
    subst hu2
    obtain ⟨d, hd1, hd2⟩ := hr
    obtain ⟨⟨d', hg1⟩, hg2⟩ := hg
    rw [gath_snoc, hd1] at hg1
    obtain ⟨x1, x2⟩ := x
    unfold gathStep at hg1
    rw [Option.bind_some] at hg1
    dsimp only at hg1
    split at hg1
    case h_2 => cases hg1
    rename_i ys
    obtain ⟨kk, ek, rfl⟩ := Option.map_eq_some_iff.1 hg1
    cases hf with
    | @cons v1 _ vs1 _ f1 ft =>
      cases ft with
      | @cons v2 _ vs2 _ f2 fn =>
        cases fn
        cases rv with
        | cons r1 rt =>
          cases rt with
          | cons r2 rn =>
            cases rn
            obtain ⟨b, ws, rfl, h6, h7⟩ := Rr.tupE (.inl f1)
            have hk := ksP_rel ek h7
            subst hk
            obtain rfl : ku = Value.ref b := r1
            obtain ⟨z, hd, xs, rel, dd⟩ := dt_of I.hok hD
            have hz : xs.length ≤ sizeLine := by rw [← Paired.length rel]; exact z
            have hlt : t.length < sizeLine := by
              have q1 := gath_len acc [] d hd1
              have q2 := hd2.length
              simp only [List.length_append, List.length_cons, List.length_nil] at q1 hg2; omega
            have hl : (putK t kk v2).length ≤ sizeLine := by have := length_putK t kk v2; omega
            have hroom : (tupleKind (mixKind Y.prog Y.w)).room Y.A := by show Y.A.units < cLine; rw [e4]; exact hu
            refine wpAny_dictSet_heap (hsz := hz) hroom (key_of I.hok h6) dd fun h' dd' hs => ?_
            obtain ⟨q, es, ep, hq, h2, h3, h4, _, h5⟩ := dd'
            have lw : HLe H (upd H D (.dT (putK t kk v2))) := .write hD (fun _ z => nomatch z) (fun _ _ z => nomatch z)
            refine k (putK t kk v2) _ ⟨putD d kk x2, by rw [gath_snoc, hd1]; unfold gathStep; rw [Option.bind_some]; dsimp only; rw [ek]; rfl, FzT.put f2 hd2⟩ (d_write I (by rw [hD]; exact True.intro) hs ⟨q, hq⟩ ⟨hl, hd, _, (rel.put kk h6 r2).keeps fun c ys ec => ?_, q, es, ep, hq, h2, h3, h4, h5⟩)
            rw [upd_ne (ne_of ec hD (fun z => nomatch z))]
            exact ec
/-! ### the run -/
def compRunD (vs : List Nat) (g : MG) (mt : Mo Bool) (mk mv : Mo PV) : List PV → List (PV × PV) → Fr → Out Sl
  | [], acc, e => match gathT acc with
    | some d => .ok (.own (.dt d)) e
    | none => .stuck
  | d :: ds, acc, e => match g d e with
    | none => .stuck
    | some e1 => match mt e1 with
      | .ok false e2 => compRunD vs g mt mk mv ds acc (wipeE e2 vs)
      | .ok true e2 => match mk e2 with
        | .ok x e3 => match mv e3 with
          | .ok y e4 => if acc.length < sizeLine ∧ (gathT (acc ++ [(x, y)])).isSome = true then compRunD vs g mt mk mv ds (acc ++ [(x, y)]) (wipeE e4 vs) else .stuck
          | _ => .stuck
        | _ => .stuck
      | _ => .stuck
def mDct (vs : List Nat) (mi : Mo (List PV)) (g : MG) (mt : Mo Bool) (mk mv : Mo PV) : Mo Sl := mB mi fun ds e => compRunD vs g mt mk mv ds [] (wipeE e vs)
section
variable {X : Cx} {np : Nat} {W : WX} {pos : Pos}
def DInv (X : Cx) (np : Nat) (W : WX) (P : Addr → Prop) (B : List (Nat × Addr)) (H0 : Hp) (σ : L2.St) (vs : List Nat) (H1 : Hp) (D : Addr) (g : MG) (mt : Mo Bool) (mk mv : Mo PV) (Q : VK) (ds : List PV) (H : Hp) : Prop :=
  ∃ e acc t d, VI X.K np P B H0 e (wipe σ vs) H ∧ HLe H1 H ∧ H D = some (.dT t) ∧ gathT acc = some d ∧ FzT X.K H t d ∧ (∀ (j : Nat) d', e[j]? = some (.own d') → (wipe σ vs)[j]? ≠ some (some (.ref D))) ∧
    PostG X.K np W P B H0 (rS X.K) σ H (compRunD vs g mt mk mv ds acc e) Q
theorem dct_of (hu : X.A.units < cLine) {ws vs : List Nat} {mi : Mo (List PV)} {g : MG} {mt : Mo Bool} {mk mv : Mo PV} (hw : ∀ v ∈ ws, v ∈ vs) (hn : ∀ v ∈ vs, np ≤ v) {σ : L2.St} {H : Hp} {Q : VK} (h : tG X.K np W (rS X.K) (mDct vs mi g mt mk mv) σ H Q) :
    tDct (acctT X hu) (tG X.K np W (rI X.K) mi) (tTg X.K np g ws) (tG X.K np WF rB mt) (tG X.K np WF (rE X.K) mk) (tG X.K np WF (rE X.K) mv) vs σ H Q := by
  refine tG.bind h fun P B H0 ds e1 J H1 I rr l h D hD => ?_
  have hD0 : H0 D = none := I.fresh hD
  refine ⟨fun i m H' => m = ds.length - i ∧ i ≤ ds.length ∧ DInv X np W P B H0 σ vs H1 D g mt mk mv Q (ds.drop i) H', ⟨_, rfl, Nat.zero_le _, wipeE e1 vs, [], [], [], (I.alloc hD).wipe hn, .alloc hD, upd_same, rfl, .nil, fun j d' q z => ?_, PostG.le (.alloc hD) h⟩, ?_⟩
  · obtain ⟨a, x, y, _⟩ := (I.wipe hn).ow j d' q
    rw [z] at x; cases x
    obtain ⟨u, hu, _⟩ := y.at
    rw [hD] at hu; cases hu
  rintro i m H2 ⟨rfl, hle, e2, acc, t, d0, I2, l2, d2, g2, f2, o2, h2⟩
  by_cases hlt : i < ds.length
  case neg =>
    have e : i = ds.length := by omega
    subst e
    rw [List.drop_length] at h2
    refine .inl ⟨(rr _ H2 l2).2 (Nat.le_refl _), ?_⟩
    have I3 := I2.unwipe
    unfold compRunD at h2
    rw [g2] at h2
    refine h2 _ H2 I3 ⟨D, rfl, ⟨t, d2, f2⟩, .inr hD0, fun j d' q z => ?_⟩ (.refl _)
    obtain ⟨a, x, y, _⟩ := I2.ow j d' q
    have x' := (wipe_some x).1
    rw [z] at x'; cases x'
    exact o2 j d' q x
  obtain ⟨gi, yi⟩ := (rr i H2 l2).1 ds[i] (by simp [hlt])
  have ed : ds.drop i = ds[i] :: ds.drop (i + 1) := (List.getElem_cons_drop hlt).symm
  rw [ed] at h2
  unfold compRunD at h2
  refine .inr ⟨gi, DInv X np W P B H0 σ vs H1 D g mt mk mv Q (ds.drop (i + 1)), fun H' z => ⟨ds.length - (i + 1), by omega, rfl, hlt, z⟩, fun x H3 y => ?_⟩
  obtain ⟨fx, k⟩ := yi x H3 y
  have J := I2.base
  have nD : ¬ Owned e2 (wipe σ vs) D := fun ⟨j, d', q, z⟩ => o2 j d' q z
  refine ⟨_, B, H2, e2, ds[i], J.same k, fx, ?_⟩
  generalize g ds[i] e2 = o at h2 ⊢
  cases o with
  | none => exact h2.elim
  | some e3 =>
    intro σ3 J3 df
    have hws := wipe_diff df hw
    refine ⟨hws, _, B, H2, e3, J3, ?_⟩
    dsimp only at h2
    have no : ∀ {e' : Fr} {H' : Hp}, VI X.K np (Owned e2 (wipe σ vs)) B H2 e' σ3 H' → ∀ (j : Nat) d', e'[j]? = some (.own d') → σ3[j]? ≠ some (some (.ref D)) := fun Je j d' q z => by
      obtain ⟨a, x, y, zz⟩ := Je.ow j d' q
      rw [z] at x; cases x
      rcases zz with zz | zz
      · exact nD zz
      · rw [d2] at zz; cases zz
    have lk : HLe H2 H3 := .same k
    generalize mt e3 = o3 at h2 ⊢
    cases o3 with
    | stuck => exact h2.elim
    | exc C es e4 => exact h2.elim
    | ok b e4 =>
      intro b' H4 J4 r4 l4
      cases r4
      cases b with
      | false =>
        dsimp only at h2
        rw [if_neg Bool.false_ne_true]
        have hD' : H4 D = some (.dT t) := J4.keep D _ d2 nD
        have Jw := (I2.back J4).wipe hn
        rw [hws] at Jw
        refine ⟨wipeE e4 vs, acc, t, d0, Jw, l2.trans (lk.trans l4), hD', g2, f2.le (lk.trans l4), fun j d' q z => ?_, PostG.le (lk.trans l4) h2⟩
        have q' := wipeE_own (by simp) q
        rw [← hws] at z
        exact no J4 j d' q' (wipe_some z).1
      | true =>
        dsimp only at h2
        rw [if_pos rfl]
        refine ⟨_, B, H2, e4, J4, ?_⟩
        generalize mk e4 = o4 at h2 ⊢
        cases o4 with
        | stuck => exact h2.elim
        | exc C es e5 => exact h2.elim
        | ok xk e5 =>
          intro v H5 J5 r5 l5
          dsimp only at h2
          refine ⟨_, B, H2, e5, J5, ?_⟩
          generalize mv e5 = o5 at h2 ⊢
          cases o5 with
          | stuck => exact h2.elim
          | exc C es e6 => exact h2.elim
          | ok xv e6 =>
            intro u H6 J6 r6 l6
            have hD' : H6 D = some (.dT t) := J6.keep D _ d2 nD
            dsimp only at h2
            by_cases hz : acc.length < sizeLine ∧ (gathT (acc ++ [(xk, xv)])).isSome = true
            case neg => rw [if_neg hz] at h2; exact h2.elim
            rw [if_pos hz] at h2
            have lq : HLe H2 H6 := lk.trans (l4.trans (l5.trans l6))
            obtain ⟨d1, hd1⟩ := Option.isSome_iff_exists.1 hz.2
            refine ⟨t, acc, (xk, xv), hD', ⟨d0, g2, f2.le lq⟩, .cons (Fz.le l6 r5) (.cons r6 .nil), ⟨⟨d1, hd1⟩, by rw [List.length_append]; exact hz.1⟩, fun t' rl => ?_⟩
            obtain ⟨d3, hd3, rl⟩ := rl
            have lw : HLe H6 (upd H6 D (.dT t')) := .write hD' (fun _ z => nomatch z) (fun _ _ z => nomatch z)
            have Jw := ((I2.back J6).other (o := .dT t') hD' (fun _ z => nomatch z) (fun _ _ z => nomatch z) (.inr hD0) (no J6)).wipe hn
            rw [hws] at Jw
            refine ⟨wipeE e6 vs, acc ++ [(xk, xv)], t', d3, Jw, l2.trans (lq.trans lw), upd_same, hd3, rl.le lw, fun j d' q z => ?_, PostG.le (lq.trans lw) h2⟩
            have q' := wipeE_own (by simp) q
            rw [← hws] at z
            exact no J6 j d' q' (wipe_some z).1
theorem js_dct (hu : X.A.units < cLine) {kx vx tg iter : Expr} {ifs : List Expr} {scope : Scope} {own : List (Str × Nat)} {ws : List Nat} {mi : Mo (List PV)} {g : MG} {mt : Mo Bool} {mk mv : Mo PV} (hc : X.calm = true) (hN : X.N.Nodup) (hi : JI X np W tg iter mi) (ok : BlkOk X.N X.env.scope scope own)
    (hg : ∀ (s : Shared) (H : Hp) (C : Addr) (cl : List (Str × Addr)) (fp : List Addr), JG (X.blk s H scope (compEnvC scope cl C X.env) fp) np tg g ws) (ht : ∀ (s : Shared) (H : Hp) (C : Addr) (cl : List (Str × Addr)) (fp : List Addr), JTs (X.blk s H scope (compEnvC scope cl C X.env) fp) np WF ifs mt)
    (hk : ∀ (s : Shared) (H : Hp) (C : Addr) (cl : List (Str × Addr)) (fp : List Addr), JE (X.blk s H scope (compEnvC scope cl C X.env) fp) np WF kx mk)
    (he : ∀ (s : Shared) (H : Hp) (C : Addr) (cl : List (Str × Addr)) (fp : List Addr), JE (X.blk s H scope (compEnvC scope cl C X.env) fp) np WF vx mv)
    (hw : ∀ v ∈ ws, v ∈ own.map (·.2) := by decide) (hn : ∀ v ∈ own.map (·.2), np ≤ v := by decide) (hs : ∀ x, foldedSetIterable iter X.env x = pure x := by intro _; rfl) :
    JS X np W (.DictComp kx vx [⟨tg, iter, ifs, 0⟩] scope pos) (mDct (own.map (·.2)) mi g mt mk mv) :=
  PEi (pe_Dct (acctT X hu) (pos := pos) (tk := tG X.K np WF (rE X.K) mk) (tv := tG X.K np WF (rE X.K) mv) (tt := tG X.K np WF rB mt) (g := tTg X.K np g ws) hc hN hi ok hg ht hk he hs) fun σ H Q h => dct_of hu hw hn h
end
end VS
namespace VS
open PySem PySem.Spec L2 PyProof.Rows
theorem sw_trueD {kx vx : Expr} {gs : List Comprehension} {scope : Scope} {pos py : Pos} {y : Str} {l : Nat} {env : Env} (hk : env.scope.kind = .function) (hy : env.scope.names.lookup y = some .local) (hl : (py.line == pos.line) = true)
    (ha : (scope.names.any fun q => q.1 == y && (q.2 == .local || q.2 == .cell)) = false) : swapsWith (.DictComp kx vx gs scope pos) (some (.Name y py)) l env = pure true := by
  have ky : env.kindOf y = some .local := hy
  have kb : env.blockKind = .function := by unfold Env.blockKind; rw [hk]; rfl
  have ha' : (scope.names.any fun (n, k) => n == y && (k == .local || k == .cell)) = false := ha
  unfold swapsWith
  simp only [kb, ky, ha', Expr.pos, hl]
  rfl
section
variable {X : Cx} {np : Nat} {W : WX} {pos spos : Pos}
theorem jst_dct (hu : X.A.units < cLine) {i : Nat} {y : Str} {py : Pos} {kx vx tg iter : Expr} {ifs : List Expr} {scope : Scope} {own : List (Str × Nat)} {ws : List Nat} {mi : Mo (List PV)} {g : MG} {mt : Mo Bool} {mk mv : Mo PV} (hc : X.calm = true) (hN : X.N.Nodup)
    (hsw : swapsWith (.DictComp kx vx [⟨tg, iter, ifs, 0⟩] scope pos) (some (.Name y py)) spos.line X.env = pure true) (hi : JI X np W tg iter mi) (ok : BlkOk X.N X.env.scope scope own)
    (hg : ∀ (s : Shared) (H : Hp) (C : Addr) (cl : List (Str × Addr)) (fp : List Addr), JG (X.blk s H scope (compEnvC scope cl C X.env) fp) np tg g ws) (ht : ∀ (s : Shared) (H : Hp) (C : Addr) (cl : List (Str × Addr)) (fp : List Addr), JTs (X.blk s H scope (compEnvC scope cl C X.env) fp) np WF ifs mt)
    (hk : ∀ (s : Shared) (H : Hp) (C : Addr) (cl : List (Str × Addr)) (fp : List Addr), JE (X.blk s H scope (compEnvC scope cl C X.env) fp) np WF kx mk)
    (he : ∀ (s : Shared) (H : Hp) (C : Addr) (cl : List (Str × Addr)) (fp : List Addr), JE (X.blk s H scope (compEnvC scope cl C X.env) fp) np WF vx mv)
    (hy : X.N[i]? = some y := by rfl) (hyl : X.env.scope.names.lookup y = some .local := by rfl)
    (hw : ∀ v ∈ ws, v ∈ own.map (·.2) := by decide) (hn : ∀ v ∈ own.map (·.2), np ≤ v := by decide) (hs : ∀ x, foldedSetIterable iter X.env x = pure x := by intro _; rfl) :
    JSt X np W (.Assign [.Name y py] (.DictComp kx vx [⟨tg, iter, ifs, 0⟩] scope pos) spos) (sSet np i (mDct (own.map (·.2)) mi g mt mk mv)) := by
  refine ⟨fun pins s σ H D I h => ?_⟩
  rw [exec_Assign_Name_used _ _ _ _ hsw]
  refine wpAny_bind (wpAny_standAt (wpAny_bind ?_))
  show wpAny _ X.A (do let _ ← comprehension (.DictComp kx vx [⟨tg, iter, ifs, 0⟩] scope pos) scope X.env (firstIterPos [⟨tg, iter, ifs, 0⟩] pos) newDict false (eval iter X.env) (some (assign (.Name y py) X.env))) _ _ s
  have h2 : tDct (acctT X hu) (tG X.K np W (rI X.K) mi) (tTg X.K np g ws) (tG X.K np WF rB mt) (tG X.K np WF (rE X.K) mk) (tG X.K np WF (rE X.K) mv) (own.map (·.2)) σ H (fun x H1 => D.nx (σ.set i (some x)) H1) :=
    dct_of hu hw hn (tS.bind h fun P B H0 s e1 v H1 I r l h => put_ok I r h)
  refine wpAny_bind (thn (Dct_core (acctT X hu) (Qf := fun _ s' => SP X pins D .next s') hc hN I hi ok hg ht hk he hs h2 fun L C s' m H' I' q hn f => ?_) fun _ s' hq => wpAny_pure (wpAny_pure hq))
  show wpAny _ _ (assign (.Name y py) X.env (.ref L)) _ _ _
  refine wpAny_assign_Name (store_ok2 (v := V.ref L) I' hN hy (.inl hyl) rfl (fun s2 I2 hh => ?_) (.inr hyl))
  obtain ⟨a, sb, ha⟩ := hh
  have haC : C ≠ a := by
    rcases ha with z | z
    · exact z ▸ f.2.1
    · exact fun e => f.2.2.2.2.1 y a z e.symm
  exact ⟨m, hn.sameBut sb haC, fun h3 sb3 => ⟨_, H', I2.turned (t' := s2.toks) (fun b o hb e => (sb3.2 b hb).trans e) f.1 f.2.1 f.2.2.2.1 f.2.2.2.2.1 f.2.2.2.2.2, q⟩⟩
end
end VS

set_option Elab.async false
set_option linter.all false
set_option maxRecDepth 100000
set_option maxHeartbeats 2000000
/-! VS27: enumerate of a tuple. -/
namespace VS
open PySem PySem.Spec L2 PyProof.Rows

section
abbrev enumO (I : Addr) : Obj := { cls := .type "enumerate", data := .fields #[.none, .bool false, .ref I, rawInt 0, .none, .none] }
theorem meets_enum1 {v : Value} {o : Obj} {H : Heap → Prop} (B : Begins v o H) : Meets (Builtin.«enumerate.__new__» ⟨[.type "enumerate", v], []⟩) (fun _ R s => H s.heap ∧
      R (.ok (.ret (.ref (s.heap.push o).objs.size))) { s with heap := (s.heap.push o).push (enumO s.heap.objs.size) }) :=
  .of_wp fun prog w A R s hh => by
    obtain ⟨hp, g, d, tk, os⟩ := s
    obtain ⟨h1, h⟩ := hh
    have hsub := sub_enumerate
    have it : ∀ {A' : Around} {E : Value → Shared → Prop} {Q : Value → Shared → Prop}, Q (.ref hp.objs.size) ⟨hp.push o, g, d, tk, os⟩ →
        wpAny (model prog w) A' (pyIter v) Q E ⟨hp, g, d, tk, os⟩ := fun q => B.iter prog w _ _ ⟨hp, g, d, tk, os⟩ _ h1 q
    wp_walk using it
    refine wpAny_stack_any fun st => wpAny_pure ?_
    split
    · rename_i c _ _ _ _ _
      cases (c == Value.type "enumerate") <;> (wp_walk using it; exact ⟨_, rfl, h⟩)
    · wp_walk using it
      exact ⟨_, rfl, h⟩
variable {prog : Program} {w : World} {A : Around} {E : Value → Shared → Prop} {s : Shared}
theorem enum1 {v : Value} {o : Obj} {H : Heap → Prop} {Q : Value → Shared → Prop} (B : Begins v o H) (h1 : H s.heap)
    (h : ∀ h', IsEnum h' (s.heap.objs.size + 1) s.heap.objs.size 0 .none → h'.get? s.heap.objs.size = some o →
      (∀ b o, s.heap.get? b = some o → h'.get? b = some o) → Q (.ref (s.heap.objs.size + 1)) { s with heap := h' }) :
    wpAny (model prog w) A (call (.type "enumerate") [v]) Q E s := by
  refine callType_new F.called_enumerate (by decide) (F.typeCall_enumerate_1 _) (F.newCall_enumerate_1 _) (fun obj => F.args_object_init_2 obj _) F.entry_enumerate_new (meets_enum1 B) ⟨h1, ?_⟩
  have sz : (s.heap.push o).objs.size = s.heap.objs.size + 1 := Heap.size_push ..
  have he : IsEnum ((s.heap.push o).push (enumO s.heap.objs.size)) (s.heap.objs.size + 1) s.heap.objs.size 0 .none := by
    have z := Heap.get?_push_size (s.heap.push o) (o := enumO s.heap.objs.size) rfl
    rw [sz] at z; exact z
  show _ ∧ _
  rw [sz]
  refine ⟨⟨_, he, rfl⟩, h _ he ?_ fun b u e => ?_⟩
  · exact Heap.get?_push_of_some _ (Heap.get?_push_size _ B.free)
  · exact Heap.get?_push_of_some _ (Heap.get?_push_of_some _ e)
end
/-- the tuple at a, each item in a new pair -/
def IteT (K : PySem.W.Frag) (a : Addr) : It where
  go := fun i H => ∃ (xs : List V) (x : V), SqT K H a xs ∧ xs[i]? = some x
  yld := fun i H v H' => ∃ T x, v = .ref T ∧ H T = none ∧ H' = upd H T (.tup [.int (i : Nat), x]) ∧ ∀ xs, SqT K H a xs → xs[i]? = some x
  stop := fun i H => ∃ xs : List V, SqT K H a xs ∧ xs.length ≤ i
theorem turn_enumT {P : Program} {w : World} {K : PySem.W.Frag} {elts : List Expr} {kk : Nat} {tpos : Pos} (a e it : Addr) :
    Turn P w K (.Tuple elts kk tpos) (IteT K a) [e, it] e (fun i h => (∃ old, IsEnum h e it ((i : Nat) : Int) old) ∧ h.IsTupleIter it a i ∧ e ≠ it ∧ a ≠ it ∧ e ≠ a) where
  mem := List.mem_cons_self
  obj := by
    intro i h st b hb
    obtain ⟨⟨old, he⟩, ⟨o, ho, hc, hd⟩, _⟩ := st
    rcases List.mem_cons.1 hb with rfl | hb
    · exact ⟨_, he, fun v q => nomatch q⟩
    · cases List.mem_singleton.1 hb
      exact ⟨o, ho, fun v q => by rw [hd] at q; cases q⟩
  keep := by
    intro i h h' st k
    obtain ⟨⟨old, he⟩, ⟨o, ho, hr⟩, hne⟩ := st
    exact ⟨⟨old, k e (by simp) _ he⟩, ⟨o, k it (by simp) _ ho, hr⟩, hne⟩
  item := by
    intro X eP ew eK hc i pins s σ H E I hf st hg
    subst eP ew eK
    obtain ⟨⟨old, he⟩, hit, n1, n2, n3⟩ := st
    obtain ⟨xs, x, hq, hx⟩ := hg
    obtain ⟨its, rv, hT, hz⟩ := I.tuple hq
    obtain ⟨u, hu, ru⟩ := rv.get hx
    have hel : e < s.heap.objs.size := Heap.lt_size he
    have hil : it < s.heap.objs.size := let ⟨_, q, _⟩ := hit; Heap.lt_size q
    have hlt : i < its.toArray.size := by simpa using (List.getElem?_eq_some_iff.1 hu).1
    have Dr := Draws.tuple (prog := X.prog) (w := X.w) (A := X.A.in1) (I.ok.hd hc) it a n2 its.toArray
    refine wpAny_pyNext_enum_itemC Dr he ⟨hit, hT⟩ hlt n1 (by simp [n1, n3]) fun x' h' tk hP ho hit' hT' hsz hk => ?_
    have ex : x' = u := by
      have q : its[i]? = some x' := by simpa using hP
      rw [hu] at q; exact (Option.some.inj q).symm
    subst ex
    refine ⟨_, rfl, wpAny_letOwnedTupleGo_enum (s := { s with heap := h', toks := tk + 1 }) ho fun h'' he' sb => ?_⟩
    have hT2 : h''.get? s.heap.objs.size = some { cls := .type "tuple", data := .seq #[.int i tk, x'] } := (sb.2 _ (Nat.ne_of_gt hel)).trans hT'
    have new : ObjOk X.prog X.w (upd H s.heap.objs.size (.tup [.int (i : Nat), x])) h'' s.heap.objs.size (.tup [.int (i : Nat), x]) :=
      ⟨by show 2 ≤ sizeLine; decide, [.int i tk, x'], .cons ⟨_, rfl⟩ (.cons ru .nil), ⟨_, hT2, rfl, _, rfl⟩⟩
    have I1 : Inv X pins σ (upd H s.heap.objs.size (.tup [.int (i : Nat), x])) { s with heap := h'', toks := tk + 1 } := by
      refine I.turnedNew (ch := [e, it]) (fun b ob hb q => ?_) hf (Nat.le_refl _) new
      have b1 : b ≠ e := fun z => hb (by simp [z])
      exact (sb.2 b b1).trans (hk b ob b1 (fun z => hb (by simp [z])) q)
    refine ⟨.ref s.heap.objs.size, _, I1, rfl, ⟨_, x, rfl, I.hok.fresh (Nat.le_refl _), rfl, fun ys hy => ?_⟩, ⟨⟨x', ?_⟩, ?_, n1, n2, n3⟩, fun b hb => ?_⟩
    · rw [I.tuple_inj hy hq]; exact hx
    · have e1 : ((i + 1 : Nat) : Int) = (i : Int) + 1 := by omega
      rw [e1]; exact he'
    · obtain ⟨o, ho2, hr⟩ := hit'.1
      exact ⟨o, (sb.2 it (Ne.symm n1)).trans ho2, hr⟩
    · have hb' : b < s.heap.objs.size := by
        rcases List.mem_cons.1 hb with rfl | hb
        · exact hel
        · cases List.mem_singleton.1 hb; exact hil
      exact (upd_ne (Nat.ne_of_lt hb')).trans (hf b hb).1
  done := by
    intro X eP ew eK hc i pins s σ H E I hf st hg
    subst eP ew eK
    obtain ⟨⟨old, he⟩, hit, n1, n2, n3⟩ := st
    obtain ⟨xs, hq, hx⟩ := hg
    obtain ⟨its, rv, hT, hz⟩ := I.tuple hq
    have hl := rv.length
    obtain ⟨f0, f1, f2, f3, f4, f5⟩ := hf it (by simp)
    have D' : Draws X.prog X.w X.A.in1 it [it, a] i (fun _ _ => True) (fun j h => j = i ∧ h.IsTupleIter it a i ∧ h.IsTuple a its.toArray) :=
      { live := fun _ _ st => let ⟨o, ho, _⟩ := st.2.1; ⟨o, ho⟩
        frame := fun _ _ _ st hk => ⟨st.1, (let ⟨o, ho, hr⟩ := st.2.1; ⟨o, hk it (by simp) o ho, hr⟩), (let ⟨o, ho, hr⟩ := st.2.2; ⟨o, hk a (by simp) o ho, hr⟩)⟩
        item := fun j s Q E hj st _ => absurd st.1 (Nat.ne_of_lt hj)
        done := fun s Q E st hE => wpAny_nextOf_tuple_end (show X.A.in1.handled = none from I.ok.hd hc) st.2.1 st.2.2 (by simp; omega) hE }
    exact wpAny_pyNext_enum_endD D' he ⟨rfl, hit, hT⟩ fun h' eb => ⟨rfl, I.turned (t' := s.toks) (fun b o hb q => eb b o hb q) f0 f1 f3 f4 f5⟩
  self := fun A i s Q E st h => let ⟨⟨_, he⟩, _⟩ := st; wpAny_pyIter_enum he h
def iEnumT (K : PySem.W.Frag) (ta : TA) : TI := fun σ H R => ta σ H fun vs H1 => ∃ a xs, vs = [.ref a] ∧ SqT K H1 a xs ∧ R (IteT K a) H1
theorem pi_enumT {X : Cx} {e : Expr} {ta : TA} {p pos tpos : Pos} {elts : List Expr} {kk : Nat} (hg : Gl X "enumerate") (hm : X.mg "enumerate" = none) (ha : PA X [e] ta) (hs : starEach [e] X.env = [(false, eval e X.env)] := by rfl) :
    PI X (.Tuple elts kk tpos) (.Call (.Name "enumerate" p) [e] [] pos) (iEnumT X.K ta) := by
  refine ⟨fun pins s σ H R I h => ?_⟩
  refine Call_ (ld_blt I hg hm boot_enumerate (PyProof.Rows.callWith_type1 (thn (ha.run pos pins s σ H _ I h) fun us s1 hh => ?_) hs rfl))
  obtain ⟨vs, H1, I1, r1, a, xs, rfl, hq, q⟩ := hh
  cases r1 with
  | cons r rr =>
    cases rr
    cases r
    obtain ⟨its, rv, hT, hz⟩ := I1.tuple hq
    have ha : a < s1.heap.objs.size := let ⟨_, q, _⟩ := hT; Heap.lt_size q
    refine enum1 (begins_tuple a its.toArray) hT fun h' he hit hk => wpAny_pyIter_enum he ?_
    have I2 : Inv X pins σ H1 { s1 with heap := h' } := I1.kept (t' := s1.toks) hk
    refine ⟨s1.heap.objs.size + 1, [s1.heap.objs.size + 1, s1.heap.objs.size], _, _, H1, rfl, I2, turn_enumT a (s1.heap.objs.size + 1) s1.heap.objs.size, ⟨⟨.none, he⟩, ⟨_, hit, rfl, rfl⟩, Nat.succ_ne_self _, Nat.ne_of_lt ha, ?_⟩, fun b hb => ?_, q⟩
    · exact Ne.symm (Nat.ne_of_lt (Nat.lt_succ_of_lt ha))
    · have hle : s1.heap.objs.size ≤ b := by
        rcases List.mem_cons.1 hb with rfl | hb
        · exact Nat.le_succ _
        · cases List.mem_singleton.1 hb; exact Nat.le_refl _
      exact I1.fpOk hle (I1.hok.fresh hle)
theorem enumT_ok {K : PySem.W.Frag} {H1 : Hp} {l : Addr} {xs : List V} {ds : List PV} (h1 : ∀ H', HLe H1 H' → SqT K H' l xs) (h2 : FzA K H1 xs ds) : ItOk K (IteT K l) (enumL 0 ds) H1 := by
  intro i H' l'
  have sq := h1 H' l'
  have fa := h2.le l'
  refine ⟨fun d hd => ?_, fun hl => ⟨xs, sq, by rw [enumL_len] at hl; rw [fa.length]; exact hl⟩⟩
  obtain ⟨x, hx, rfl⟩ := enumL_get hd
  obtain ⟨v, hv, fv⟩ := fa.get hx
  refine ⟨⟨xs, v, sq, hv⟩, fun y H2 z => ?_⟩
  obtain ⟨T, u, rfl, hT, rfl, hall⟩ := z
  have eu := hall xs sq
  rw [hv] at eu; cases eu
  have al : HLe H' (upd H' T (.tup [.int (i : Nat), v])) := .alloc hT
  refine ⟨?_, fun b o q => ?_⟩
  · refine .tup upd_same (.cons ?_ (.cons (Fz.le al fv) .nil))
    rw [Nat.zero_add]; exact .int _
  · rw [upd_ne (ne_of_none q hT)]; exact q
section
variable {X : Cx} {np : Nat} {W : WX} {a : Expr} {pos : Pos}
def iEt (m : Mo PV) : Mo (List PV) := mB m fun d => match d with
  | .tup ds => mR (enumL 0 ds)
  | .ktp ds => mR (enumL 0 ds)
  | _ => fun _ => .stuck
/-- a list, the script or a tuple -/
def iE2 (m : Mo PV) : Mo (List PV) := mB m fun d => match seqOf d with
  | some ds => mR (enumL 0 ds)
  | none => fun _ => .stuck
theorem ji_enumT {p tpos : Pos} {elts : List Expr} {kk : Nat} {m : Mo PV} (hm : X.mg "enumerate" = none) (h : JE X np W a m) (hg : Gl X "enumerate" := by rfl) (hs : starEach [a] X.env = [(false, eval a X.env)] := by rfl) : JI X np W (.Tuple elts kk tpos) (.Call (.Name "enumerate" p) [a] [] pos) (iEt m) := by
  refine PIi (pi_enumT hg hm (pa_cons h pa_nil hs) hs) fun σ H R h => tG.bind h fun P B H0 d e1 v H1 I r l h => ?_
  cases d with
  | tup ds =>
    obtain ⟨b, xs, rfl, h1, h2⟩ := Rr.tup (.inl r)
    exact ⟨b, xs, rfl, h1, h _ H1 I (enumT_ok (fun _ l1 => SqT.le l1 h1) h2) (.refl _)⟩
  | ktp ds =>
    obtain ⟨b, xs, rfl, h1, h2⟩ := Rr.ktp (.inl r)
    exact ⟨b, xs, rfl, h1, h _ H1 I (enumT_ok (fun _ l1 => SqT.le l1 h1) h2) (.refl _)⟩
  | _ => exact h.elim
theorem ji_enum2 {p tpos : Pos} {elts : List Expr} {kk : Nat} {m : Mo PV} (hm : X.mg "enumerate" = none) (h : JE X np W a m) (hg : Gl X "enumerate" := by rfl) (hs : starEach [a] X.env = [(false, eval a X.env)] := by rfl) : JI X np W (.Tuple elts kk tpos) (.Call (.Name "enumerate" p) [a] [] pos) (iE2 m) := by
  have l := ji_enum (elts := elts) (kk := kk) (tpos := tpos) (p := p) (pos := pos) hm h hg hs
  have t := ji_enumT (elts := elts) (kk := kk) (tpos := tpos) (p := p) (pos := pos) hm h hg hs
  refine ⟨fun pins s σ H R I ⟨P, B, H0, e, J, q⟩ => ?_⟩
  unfold iE2 mB at q
  generalize hm2 : m e = o at q
  cases o with
  | stuck => exact q.elim
  | exc C ds e1 => exact l.run pins s σ H R I ⟨P, B, H0, e, J, by unfold iE mB; rw [hm2]; exact q⟩
  | ok d e1 =>
    cases d with
    | lst ds => exact l.run pins s σ H R I ⟨P, B, H0, e, J, by unfold iE mB; rw [hm2]; exact q⟩
    | scr ds => exact l.run pins s σ H R I ⟨P, B, H0, e, J, by unfold iE mB; rw [hm2]; exact q⟩
    | tup ds => exact t.run pins s σ H R I ⟨P, B, H0, e, J, by unfold iEt mB; rw [hm2]; exact q⟩
    | ktp ds => exact t.run pins s σ H R I ⟨P, B, H0, e, J, by unfold iEt mB; rw [hm2]; exact q⟩
    | _ => exact q.elim
end
end VS

set_option Elab.async false
set_option linter.all false
set_option maxRecDepth 100000
set_option maxHeartbeats 2000000
/-! VS28: a list or a tuple times an int; unpacking lists; constants that are tuples. -/
namespace VS
open PySem PySem.Spec L2 PyProof.Rows

section
variable {X : Cx}
def rRepL : R2 := fun x y H Q => ∃ (l : Addr) (k : Int) (xs : List V), x = .ref l ∧ y = .int k ∧ Rd H l (.lst xs) ∧ (-(2 ^ 63) ≤ k ∧ k < 2 ^ 63) ∧ xs.length * k.toNat ≤ sizeLine ∧ ∀ p, H p = none → Q (.ref p) (upd H p (.lst (List.replicate k.toNat xs).flatten))
theorem op_repL : OpR X (binaryOp .Mult) rRepL := by
  intro pins s σ H x y v u Q I rx ry h
  obtain ⟨l, k, xs, rfl, rfl, hR, ⟨lo, hi⟩, hz, q⟩ := h
  cases rx
  obtain ⟨t, rfl⟩ := ry
  obtain ⟨z, its, n, r, e⟩ := (show ObjOk X.prog X.w H s.heap l (.lst xs) from rd_of I.hok hR)
  have sz : its.toArray.size * k.toNat ≤ sizeLine := by
    rw [List.size_toArray, ← r.length]; exact hz
  have cap : ¬ its.toArray.size * k.toNat > (2 ^ 63 - 1) / 8 := by
    have z : (sizeLine : Nat) ≤ (2 ^ 63 - 1) / 8 := by decide
    omega
  have fit : ¬ (!Builtin.List.listFitsIndex k) = true := by
    rw [fitsIndex_both lo hi]; exact Bool.false_ne_true
  have long : ¬ Builtin.List.listTooLong (its.toArray.size * k.toNat) = true := by
    rw [notLongL sz]; exact Bool.false_ne_true
  have new : List.foldl (fun a b => a ++ b) #[] (List.replicate (if its.toArray.isEmpty = true then 0 else k.toNat) its.toArray) = (List.replicate k.toNat its).flatten.toArray := by
    rw [size_rep]
    cases its with
    | nil => simp
    | cons a r' => rw [if_neg (by simp)]
  refine wpAny_binaryOp_repeat_ref (T := "list") (U := "int") (by decide) ⟨_, e, rfl⟩ (fun s' => typeIs_int s' k t) noFill_list_mul F.fills_int_mul F.slot_int_rmul repeat_list F.slot_int_index.lookup ?_
  refine call_meets F.slot_int_rmul (typeIs_int s k t) F.entry_int_rmul (F.args_int_rmul_2 _ _) (int___rmul___int_list k t l its.toArray n) ⟨e, rfl, ⟨_, e, rfl⟩, ?_⟩
  refine call_meets F.slot_list_mul ⟨_, e, rfl⟩ F.entry_list_mul (F.args_list_mul_2 _ _) (AutoListH.list___mul___list_int_3 l its.toArray n k t fit cap long) ⟨e, ?_⟩
  rw [new]
  exact ⟨.ref _, _, I.lnew (t' := s.toks) (r.rep k.toNat) (by rw [PyProof.Rows.lm_len_rep_flat, Nat.mul_comm]; exact hz), rfl, q _ I.fresh⟩
def fMul2 : PV → PV → Option Sl
  | .lst xs, .int k => if (-(2 ^ 63) ≤ k ∧ k < 2 ^ 63) ∧ xs.length * k.toNat ≤ sizeLine then some (.own (.lst (List.replicate k.toNat xs).flatten)) else none
  | .tup xs, .int k => if xs ≠ [] ∧ (2 ≤ k ∧ k ≤ 1000) ∧ xs.length ≤ 1000 then some (.fz (.tup (List.replicate k.toNat xs).flatten)) else none
  | .int i, .int j => fMul (.int i) (.int j)
  | _, _ => none
def rMul2 (K : PySem.W.Frag) : R2 := fun x y H Q => L2.rI CMul (fun i j => .int (i * j)) x y H Q ∨ (rRepL x y H Q ∨ rRepT K x y H Q)
theorem op_mul2 : OpR X (binaryOp .Mult) (rMul2 X.K) := OpR.or op_mul (OpR.or op_repL op_repT)
theorem FzA.flat {K : PySem.W.Frag} {H : Hp} {vs : List V} {ds : List PV} (h : FzA K H vs ds) : ∀ n : Nat, FzA K H (List.replicate n vs).flatten (List.replicate n ds).flatten
  | 0 => .nil
  | n + 1 => by
    rw [List.replicate_succ, List.replicate_succ, List.flatten_cons, List.flatten_cons]
    exact h.append (FzA.flat h n)
theorem f2_mul2 {K : PySem.W.Frag} : F2 K (rMul2 K) fMul2 := by
  intro H x y d1 d2 s Q r1 r2 h hs q
  unfold fMul2 at h
  split at h
  · rename_i xs k
    split at h
    · rename_i hc
      cases h
      obtain ⟨a, vs, e1, h1, h2⟩ := r1.lstR
      refine .inr (.inl ⟨a, k, vs, e1, r2.int, h1, hc.1, by rw [h2.length]; exact hc.2, fun p hp => ?_⟩)
      exact q p _ (fun b u z => by rw [upd_ne (ne_of_none z hp)]; exact z) ⟨_, upd_same, FzA.flat (FzA.le (.alloc hp) h2) _⟩ hp
    · cases h
  · rename_i xs k
    split at h
    · rename_i hc
      cases h
      obtain ⟨a, vs, e1, h1, h2⟩ := r1.tup
      have hne : vs ≠ [] := fun z => hc.1 (by
        have l := h2.length
        rw [z] at l
        exact List.eq_nil_of_length_eq_zero l.symm)
      refine .inr (.inr ⟨a, k, vs, e1, r2.int, h1, hne, hc.2.1.1, hc.2.1.2, by rw [h2.length]; exact hc.2.2, fun p hp => ?_⟩)
      exact q _ _ (fun b u z => by rw [upd_ne (ne_of_none z hp)]; exact z) (.tup upd_same (FzA.flat (FzA.le (.alloc hp) h2) _))
    · cases h
  · exact .inl (f2_mul H x y _ _ s Q r1 r2 h hs q)
  · cases h
end
/-! ### targets -/
section
variable {X : Cx} {np : Nat} {W : WX} {pos : Pos}
def gTq (n : Nat) (r : MGs) : MG := fun d e => match seqOf d with
  | some ds => if ds.length = n then r ds e else none
  | none => none
theorem jg_seq {es : List Expr} {k : Nat} {r : MGs} {n : Nat} {ws : List Nat} (hc : X.calm = true) (h : JGs X np es r ws)
    (hn : (assignEach es X.env).length = n := by rfl) (hst : (assignEach es X.env).findIdx? (·.1) = none := by rfl) : JG X np (.Tuple es k pos) (gTq n r) ws := by
  refine ⟨fun pins s σ H v u Q I rv hw => ?_⟩
  obtain ⟨P, B, H0, e, d, J, f, hm⟩ := hw
  unfold gTq at hm
  cases d with
  | tup ds =>
    dsimp only [seqOf] at hm
    cases f with
    | @tup a xs _ hq hf =>
      by_cases hl : ds.length = n
      case neg => rw [if_neg hl] at hm; exact hm.elim
      rw [if_pos hl] at hm
      exact (pg_tup hc h hn hst).run pins s σ H _ u Q I rv ⟨a, xs, rfl, SqT.of hq, hf.length.trans hl, P, B, H0, e, ds, J, hf, hm⟩
  | ktp ds =>
    dsimp only [seqOf] at hm
    cases f with
    | @ktp a xs _ hq hf =>
      by_cases hl : ds.length = n
      case neg => rw [if_neg hl] at hm; exact hm.elim
      rw [if_pos hl] at hm
      exact (pg_tup hc h hn hst).run pins s σ H _ u Q I rv ⟨a, xs, rfl, .inr hq, hf.length.trans hl, P, B, H0, e, ds, J, hf, hm⟩
  | lst ds =>
    dsimp only [seqOf] at hm
    cases f with
    | @lst a xs _ hq hf =>
      by_cases hl : ds.length = n
      case neg => rw [if_neg hl] at hm; exact hm.elim
      rw [if_pos hl] at hm
      exact (pg_unl hc h hn hst).run pins s σ H _ u Q I rv ⟨a, xs, rfl, hq.sq, hf.length.trans hl, P, B, H0, e, ds, J, hf, hm⟩
  | scr ds =>
    dsimp only [seqOf] at hm
    cases f with
    | @scr a xs _ hq hf =>
      by_cases hl : ds.length = n
      case neg => rw [if_neg hl] at hm; exact hm.elim
      rw [if_pos hl] at hm
      exact (pg_unl hc h hn hst).run pins s σ H _ u Q I rv ⟨a, xs, rfl, hq.sq, hf.length.trans hl, P, B, H0, e, ds, J, hf, hm⟩
  | _ => exact hm.elim
theorem js_gtup {x : Str} {ns : List Int} (hg : ∃ T, X.mg x = some (.ref T) ∧ KTup X.K T (ns.map V.int)) (hgl : Gl X x := by rfl) (hdb : (x == ("__debug__" : Str)) = false := by decide) : JS X np W (.Name x pos) (mC (.ktp (ns.map .int))) := by
  obtain ⟨T, h1, h2⟩ := hg
  exact js_glob hgl h1 (v := .ref T) rfl (fun H => .ktp h2 (fza_int ns)) hdb
end
/-! ### reckoning -/
section
variable {e : Fr}
@[simp] theorem fMul2_ii (i j : Int) : fMul2 (.int i) (.int j) = if mulB i j then some (.fz (.int (i * j))) else none := rfl
@[simp] theorem gTq_tup (n : Nat) (r : MGs) (ds : List PV) : gTq n r (.tup ds) e = if ds.length = n then r ds e else none := rfl
@[simp] theorem gTq_lst (n : Nat) (r : MGs) (ds : List PV) : gTq n r (.lst ds) e = if ds.length = n then r ds e else none := rfl
@[simp] theorem gTq_ktp (n : Nat) (r : MGs) (ds : List PV) : gTq n r (.ktp ds) e = if ds.length = n then r ds e else none := rfl
@[simp] theorem seqOf_k (ds : List PV) : seqOf (.ktp ds) = some ds := rfl
@[simp] theorem fIx_ki (xs : List PV) (i : Int) : fIx (.ktp xs) (.int i) = (atI xs i).map .fz := rfl
@[simp] theorem fLen_k (xs : List PV) : fLen (.ktp xs) = some (.fz (.int xs.length)) := rfl
@[simp] theorem fTuple_k (xs : List PV) : fTuple (.ktp xs) = some (.fz (.ktp xs)) := rfl
@[simp] theorem fList_k (xs : List PV) : fList (.ktp xs) = some (.own (.lst xs)) := rfl
@[simp] theorem iE2_ap (m : Mo PV) : iE2 m e = match m e with
  | .ok d e' => (match seqOf d with
    | some ds => .ok (enumL 0 ds) e'
    | none => .stuck)
  | .exc C ds e' => .exc C ds e'
  | .stuck => .stuck := by
  unfold iE2 mB
  cases m e with
  | ok d e' => dsimp only; cases seqOf d <;> rfl
  | exc C ds e' => rfl
  | stuck => rfl
@[simp] theorem sExcA_ap (C : Addr) (fl : List Str) (m : Mo (List PV)) : sExcA C fl m e = match m e with
  | .ok ds e' => if ds.length = fl.length then .exc C (keptD fl ds) e' else .stuck
  | .exc C ds e' => .exc C ds e'
  | .stuck => .stuck := by
  unfold sExcA mS
  cases m e <;> rfl
@[simp] theorem sTryN_ap (mb : MS) (hs : List HdN) : sTryN mb hs e = match mb e with
  | .exc C ds e' => tryN hs C ds e'
  | o => o := rfl
@[simp] theorem tryN_nil (C : Addr) (ds : List (Str × PV)) : tryN [] C ds e = .exc C ds e := rfl
@[simp] theorem tryN_cons (p : Addr → Option Bool) (o : Option Nat) (m : Addr → List (Str × PV) → MS) (r : List HdN) (C : Addr) (ds : List (Str × PV)) : tryN ((p, o, m) :: r) C ds e = match p C with
  | some true => runH o (m C ds) e
  | some false => tryN r C ds e
  | none => .stuck := rfl
@[simp] theorem runH_none (m : MS) : runH none m e = noX (m e) := rfl
@[simp] theorem runH_some (i : Nat) (m : MS) : runH (some i) m e = if i < e.length then unS i (noX (m (e.set i .un))) else .stuck := rfl
@[simp] theorem noX_ret (s : Sl) : noX (.ret s e) = .ret s e := rfl
@[simp] theorem noX_nx : noX (.nx e) = .nx e := rfl
@[simp] theorem unS_ret (i : Nat) (s : Sl) : unS i (.ret s e) = .ret s e := rfl
@[simp] theorem unS_nx (i : Nat) : unS i (.nx e) = .nx (e.set i .un) := rfl
@[simp] theorem xRet_ap (r : XR) (C : Addr) (ds : List (Str × PV)) : xRet r C ds e = match r C ds with
  | some y => .ret (.fz y) e
  | none => .stuck := rfl
@[simp] theorem xRetT_ap (r : XA) (C : Addr) (ds : List (Str × PV)) : xRetT r C ds e = match r C ds with
  | some ys => if ys.length ≤ sizeLine then .ret (.fz (.tup ys)) e else .stuck
  | none => .stuck := rfl
@[simp] theorem xRetL_ap (r : XA) (C : Addr) (ds : List (Str × PV)) : xRetL r C ds e = match r C ds with
  | some ys => if ys.length ≤ sizeLine then .ret (.own (.lst ys)) e else .stuck
  | none => .stuck := rfl
@[simp] theorem xSet_ap (np j : Nat) (r : XR) (C : Addr) (ds : List (Str × PV)) : xSet np j r C ds e = match r C ds with
  | some y => sPut np j (.fz y) e
  | none => .stuck := rfl
end
end VS

set_option Elab.async false
set_option linter.all false
set_option maxRecDepth 100000
set_option maxHeartbeats 2000000
/-! VS29: what the printer needs besides; lemmas to reckon with loops, comprehensions, gatherings. -/
namespace VS
open PySem PySem.Spec L2 PyProof.Rows
theorem hu0 {k : Nat} {A : Around} (hr : Room k A) : A.units < cLine := by have := hr.un; omega
/-- len of a row, a text, or a dict -/
def fLenU : PV → Option Sl
  | .dk ds => some (.fz (.int ds.length))
  | .dt ds => some (.fz (.int ds.length))
  | d => fLen d
theorem cr_lenU {X : Cx} : CallR X (.builtin "len") (fun xs H Q => rLenV X.K xs H Q ∨ rLenD xs H Q) := CallR.or cr_len cr_lenD
theorem f1_lenU {K : PySem.W.Frag} : F1 K (fun xs H Q => rLenV K xs H Q ∨ rLenD xs H Q) fLenU := by
  intro H x d1 s Q r1 h hs q
  unfold fLenU at h
  split at h
  · exact .inr (f1_lenD H x _ s Q r1 h hs q)
  · exact .inr (f1_lenD H x _ s Q r1 h hs q)
  · exact .inl (f1_len H x _ s Q r1 h hs q)
@[simp] theorem fLenU_dk (ds : List (Key × PV)) : fLenU (.dk ds) = some (.fz (.int ds.length)) := rfl
@[simp] theorem fLenU_dt (ds : List (List Key × PV)) : fLenU (.dt ds) = some (.fz (.int ds.length)) := rfl
@[simp] theorem fLenU_l (xs : List PV) : fLenU (.lst xs) = some (.fz (.int xs.length)) := rfl
@[simp] theorem fLenU_t (xs : List PV) : fLenU (.tup xs) = some (.fz (.int xs.length)) := rfl
@[simp] theorem fLenU_k (xs : List PV) : fLenU (.ktp xs) = some (.fz (.int xs.length)) := rfl
@[simp] theorem fLenU_s (z : Str) : fLenU (.str z) = if z.length ≤ sizeLine then some (.fz (.int z.length)) else none := rfl
/-- an empty dict, as a value -/
def mDk0 : Mo Sl := fun e => .ok (.own (.dk [])) e
@[simp] theorem mDk0_ap (e : Fr) : mDk0 e = .ok (.own (.dk [])) e := rfl
theorem js_dk0 {X : Cx} {np : Nat} {W : WX} {pos : Pos} : JS X np W (.Dict [] [] pos) mDk0 := js_dnewK
theorem jx_stuck {X : Cx} {np i : Nat} {a : Addr} {oe : Obj} {cls : Value} {d : Option Addr} {pn : List (Addr × Obj)} {su : List Stmt} : PSs (X.suite a ((a, oe) :: pn)) su (tXs X.K np i a cls d fun _ _ => sStuck) :=
  PSsi pss_never fun D σ H ⟨C, ds, P, B, H0, e, _, _, _, _, h⟩ => h.elim
end VS

set_option linter.all false
set_option maxRecDepth 100000
set_option maxHeartbeats 4000000
set_option pp.maxSteps 900
/-! Q1: reckoning, for every law: the simp lemmas and the general facts of k18's plain part. -/
namespace VS
@[simp] theorem iR2_ap {e : Fr} (m m2 : Mo PV) : iR2 m m2 e = match m e with
  | .ok d e1 => match m2 e1 with
    | .ok d2 e2 => (match d, d2 with
      | .int i, .int j => if inR i && inR j then .ok (rangeL i j) e2 else .stuck
      | _, _ => .stuck)
    | .exc C ds e' => .exc C ds e'
    | .stuck => .stuck
  | .exc C ds e' => .exc C ds e'
  | .stuck => .stuck := by
  unfold iR2 mB
  cases m e with
  | ok d e1 =>
    dsimp only
    cases m2 e1 with
    | ok d2 e2 =>
      cases d <;> cases d2 <;> first | rfl | (dsimp only; split <;> rfl)
    | exc C ds e' => rfl
    | stuck => rfl
  | exc C ds e' => rfl
  | stuck => rfl
@[simp] theorem fDiv_pos {i j : Int} (h1 : 0 < j) (h2 : j < 1073741824) : fDiv (.int i) (.int j) = some (.fz (.int (i / j))) := by simp [h1, h2]
@[simp] theorem fMod_pos {i j : Int} (h1 : 0 < j) : fMod (.int i) (.int j) = some (.fz (.int (i % j))) := by simp [h1]
@[simp] theorem sFor_ap {e : Fr} (mi : Mo (List PV)) (g : MG) (mb : MS) : sFor mi g mb e = match mi e with
  | .ok ds e' => forRun g mb ds e'
  | .exc C ds e' => .exc C ds e'
  | .stuck => .stuck := by
  unfold sFor
  unfold mS
  cases mi e <;> rfl
@[simp] theorem sWhile_ap {e : Fr} (n : Fr → Nat) (t : Mo Bool) (mb : MS) : sWhile n t mb e = whileRun t mb (n e) e := rfl
@[simp] theorem mComp_ap {e : Fr} (vs : List Nat) (mi : Mo (List PV)) (g : MG) (mt : Mo Bool) (me : Mo PV) : mComp vs mi g mt me e = match mi e with
  | .ok ds e' => compRun vs g mt me ds [] (wipeE e' vs)
  | .exc C ds e' => .exc C ds e'
  | .stuck => .stuck := by
  unfold mComp
  unfold mB
  cases mi e <;> rfl
end VS
namespace VS
open PySem L2
theorem atI_map {α β : Type} (f : α → β) (xs : List α) (i : Int) : atI (xs.map f) i = (atI xs i).map f := by
  unfold atI ixN
  simp only [List.length_map]
  split <;> simp <;> rfl
theorem atI_some {α : Type} {xs : List α} {i : Int} (h0 : 0 ≤ i) (h1 : i < xs.length) : ∃ x, atI xs i = some x ∧ x ∈ xs := by
  obtain ⟨n, rfl⟩ : ∃ n : Nat, i = n := ⟨i.toNat, by omega⟩
  have hn : n < xs.length := by omega
  exact ⟨xs[n], atI_nat (by simp [hn]), List.getElem_mem hn⟩
end VS
namespace VS
open PySem L2
theorem rangeL_0 (n : Nat) : rangeL 0 (n : Int) = (List.range n).map fun (k : Nat) => .int (k : Int) := by
  unfold rangeL; simp
theorem compRun_map {vs : List Nat} {g : MG} {mt : Mo Bool} {me : Mo PV} {e : Fr} (f : PV → PV) (ds : List PV)
    (h : ∀ d ∈ ds, ∃ e1 e2 e3, g d e = some e1 ∧ mt e1 = .ok true e2 ∧ me e2 = .ok (f d) e3 ∧ wipeE e3 vs = e) (hl : ds.length ≤ 16777216) :
    compRun vs g mt me ds [] e = .ok (.own (.lst (ds.map f))) e := by
  have z := compRun_pure (vs := vs) (g := g) (mt := mt) (me := me) (e := e) (fun _ => true) f ds [] (fun d hd => by
    obtain ⟨e1, e2, e3, h1, h2, h3, h4⟩ := h d hd
    exact ⟨e1, e2, h1, h2, nofun, fun _ => ⟨e3, h3, h4⟩⟩) (by simpa using hl)
  rw [z, List.nil_append, List.filter_eq_self.2 (fun _ _ => rfl)]
theorem inR_of' {j : Int} (h0 : -4611686018427387904 ≤ j) (h1 : j < 4611686018427387904) : inR j = true := by
  unfold inR; simp; omega
end VS
namespace VS
open PySem L2
open PySem.PyData (strOk)
/-- plain data of depth at most n -/
def OkN (n : Nat) (d : PV) : Prop := d.toD.canLay0 = true ∧ d.toD.depth ≤ n
theorem OkN.mono {n m : Nat} {d : PV} (h : OkN n d) (l : n ≤ m) : OkN m d := ⟨h.1, Nat.le_trans h.2 l⟩
theorem OkN.okD {n : Nat} {d : PV} (h : OkN n d) (l : n ≤ 64) : VS.okD d = true := by
  unfold VS.okD SeqAt.shaped
  rw [h.1, decide_eq_true (Nat.le_trans h.2 l)]; rfl
theorem OkN.int {n : Nat} (i : Int) : OkN n (.int i) := ⟨rfl, by simp [PV.toD, PyData.depth]⟩
theorem OkN.bl {n : Nat} (i : Bool) : OkN n (.bl i) := ⟨rfl, by simp [PV.toD, PyData.depth]⟩
theorem OkN.non {n : Nat} : OkN n .non := ⟨rfl, by simp [PV.toD, PyData.depth]⟩
theorem OkN.str {n : Nat} {x : Str} (h : strOk x = true) : OkN n (.str x) := ⟨by simpa [PV.toD, PyData.canLay0] using h, by simp [PV.toD, PyData.depth]⟩
theorem OkN.all {n : Nat} : ∀ {ds : List PV}, (∀ d ∈ ds, OkN n d) → PyData.canLayAll0 (toDs ds) = true ∧ PyData.depthAll (toDs ds) ≤ n
  | [], _ => ⟨rfl, by simp [toDs, PyData.depthAll]⟩
  | d :: ds, h => by
    have h1 := h d List.mem_cons_self
    have h2 := OkN.all (n := n) (ds := ds) fun d hd => h d (List.mem_cons_of_mem _ hd)
    refine ⟨by rw [toDs, PyData.canLayAll0, h1.1, h2.1]; rfl, ?_⟩
    rw [toDs, PyData.depthAll]
    have := h1.2
    have := h2.2
    omega
theorem OkN.tup {n : Nat} {ds : List PV} (h : ∀ d ∈ ds, OkN n d) : OkN (n + 1) (.tup ds) := by
  have := OkN.all h
  exact ⟨by simpa [PV.toD, PyData.canLay0] using this.1, by simp [PV.toD, PyData.depth]; omega⟩
theorem OkN.lst {n : Nat} {ds : List PV} (h : ∀ d ∈ ds, OkN n d) : OkN (n + 1) (.lst ds) := by
  have := OkN.all h
  exact ⟨by simpa [PV.toD, PyData.canLay0] using this.1, by simp [PV.toD, PyData.depth]; omega⟩
theorem OkN.strs {n : Nat} {xs : List Str} (h : ∀ x ∈ xs, strOk x = true) : ∀ d ∈ xs.map PV.str, OkN n d := by
  intro d hd
  obtain ⟨x, hx, rfl⟩ := List.mem_map.1 hd
  exact .str (h x hx)
theorem eqv_same {d : PV} (h : okD d = true) : PyData.eqv d.toD d.toD = true := SeqAt.eqv_refl _ (okD.lay h)
theorem fEq_same {d : PV} (h : okD d = true) : fEq d d = some (.fz (.bl true)) := by
  unfold fEq
  rw [h, eqv_same h]; rfl
theorem inD_strs (x : Str) (xs : List Str) : inD (.str x) (xs.map .str) = decide (x ∈ xs) := by
  unfold inD
  rw [List.any_map, Bool.eq_iff_iff, List.any_eq_true, decide_eq_true_eq]
  constructor
  · rintro ⟨y, hy, h⟩
    simp only [Function.comp, PV.toD, PyData.eqv, beq_iff_eq] at h
    rw [← h]; exact hy
  · intro h
    exact ⟨x, h, by simp [PV.toD, PyData.eqv]⟩
theorem okD_str {x : Str} (h : strOk x = true) : okD (.str x) = true := (OkN.str (n := 0) h).okD (by decide)
theorem okD_tstrs {xs : List Str} (h : ∀ x ∈ xs, strOk x = true) : okD (.tup (xs.map .str)) = true := (OkN.tup (OkN.strs (n := 0) h)).okD (by decide)
theorem okD_lstrs {xs : List Str} (h : ∀ x ∈ xs, strOk x = true) : okD (.lst (xs.map .str)) = true := (OkN.lst (OkN.strs (n := 0) h)).okD (by decide)
theorem fIn_tstrs {x : Str} {xs : List Str} (hx : strOk x = true) (h : ∀ x ∈ xs, strOk x = true) : fIn (.str x) (.tup (xs.map .str)) = some (.fz (.bl (decide (x ∈ xs)))) := by
  simp [fIn, okD_str hx, okD_tstrs h, inD_strs]
theorem fIn_lstrs {x : Str} {xs : List Str} (hx : strOk x = true) (h : ∀ x ∈ xs, strOk x = true) : fIn (.str x) (.lst (xs.map .str)) = some (.fz (.bl (decide (x ∈ xs)))) := by
  simp [fIn, okD_str hx, okD_lstrs h, inD_strs]
theorem strOk_app {x y : Str} (hx : strOk x = true) (hy : strOk y = true) : strOk (x ++ y) = true := by
  show (x.cps ++ y.cps).all _ = true
  rw [Array.all_append]
  unfold strOk at hx hy
  rw [hx, hy]; rfl
theorem len_app (x y : Str) : (x ++ y).length = x.length + y.length := by
  show (x.cps ++ y.cps).size = _
  rw [Array.size_append]; rfl
theorem alikeB_strs (xs : List Str) : alikeB (toDs (xs.map .str)) = true := by
  unfold alikeB
  rw [toDs_map, List.map_map]
  simp [Function.comp_def, PV.toD, PySem.W.alike]
theorem notTup_strs (xs : List Str) : (toDs (xs.map .str)).all notTup = true := by
  rw [toDs_map, List.map_map]
  simp [Function.comp_def, PV.toD, notTup]
theorem sortB_strs {xs : List Str} (h : ∀ x ∈ xs, strOk x = true) (hl : xs.length ≤ 16777216) : sortB (xs.map .str) = true := by
  unfold sortB
  rw [okD_lstrs h, alikeB_strs, notTup_strs]
  simp [hl]
def leS (x y : Str) : Bool := decide (x.cps.toList ≤ y.cps.toList)
theorem leD_str (x y : Str) : leD (.str x) (.str y) = leS x y := by
  have e := congrFun (congrFun (PySem.W.dataLe_str (fun z : Str => z)) x) y
  exact e
theorem leS_trans (a b c : Str) (h1 : leS a b = true) (h2 : leS b c = true) : leS a c = true := by
  unfold leS at *
  simp only [decide_eq_true_eq] at *
  exact List.le_trans h1 h2
theorem leS_total (a b : Str) : (leS a b || leS b a) = true := by
  unfold leS
  rw [Bool.or_eq_true, decide_eq_true_eq, decide_eq_true_eq]
  exact List.le_total ..
theorem leS_anti {a b : Str} (h1 : leS a b = true) (h2 : leS b a = true) : a = b := by
  unfold leS at *
  simp only [decide_eq_true_eq] at *
  have := List.le_antisymm h1 h2
  exact PySem.W.str_of_cps this
theorem mergeSort_strs (xs : List Str) : (xs.map PV.str).mergeSort leD = (xs.mergeSort leS).map .str := by
  rw [List.map_mergeSort]
  intro a _ b _
  exact (leD_str a b).symm
theorem fSorted_strs {xs : List Str} (h : ∀ x ∈ xs, strOk x = true) (hl : xs.length ≤ 16777216) : fSorted (.lst (xs.map .str)) = some (.own (.lst ((xs.mergeSort leS).map .str))) := by
  show (if sortB (xs.map PV.str) then some (Sl.own (PV.lst ((xs.map PV.str).mergeSort leD))) else none) = _
  rw [if_pos (sortB_strs h hl), mergeSort_strs]
end VS
namespace VS
open PySem L2
/-- a while loop that ends: a measure falls, an invariant stays -/
theorem whileRun_inv {t : Mo Bool} {mb : MS} (Inv Post : Fr → Prop) (mu : Fr → Nat)
    (hs : ∀ e, Inv e → (∃ e', t e = .ok false e' ∧ Post e') ∨ ∃ e1 e2, t e = .ok true e1 ∧ mb e1 = .nx e2 ∧ Inv e2 ∧ mu e2 < mu e) :
    ∀ (n : Nat) (e : Fr), Inv e → mu e < n → ∃ e', whileRun t mb n e = .nx e' ∧ Post e'
  | 0, _, _, h => absurd h (Nat.not_lt_zero _)
  | n + 1, e, I, h => by
    rcases hs e I with ⟨e', h1, h2⟩ | ⟨e1, e2, h1, h2, h3, h4⟩
    · refine ⟨e', ?_, h2⟩
      unfold whileRun
      simp only [h1]
    · obtain ⟨e', h5, h6⟩ := whileRun_inv Inv Post mu hs n e2 h3 (by omega)
      refine ⟨e', ?_, h6⟩
      unfold whileRun
      simp only [h1, h2, h5]
end VS
namespace VS
open PySem L2
section
variable {e : Fr}
@[simp] theorem ownO_own (C : Addr) (fs : List (Str × PV)) : ownO (some (.own (.obj C fs))) = some (C, fs) := rfl
@[simp] theorem sFldP_ap (C : Addr) (i : Nat) (f : Str) (m : Mo PV) : sFldP C i f m e = match m e with
  | .ok d e1 => (match ownO e1[i]? with
    | some (D, fs) => if D = C ∧ fs.length < 1000 then .nx (e1.set i (.own (.obj C (putP f d fs)))) else .stuck
    | none => .stuck)
  | .exc D ds e' => .exc D ds e'
  | .stuck => .stuck := by
  unfold sFldP mS
  cases m e with
  | ok d e1 => rfl
  | exc C ds e' => rfl
  | stuck => rfl
@[simp] theorem mMake_ap (C : Addr) (mf : MF) (mos : Mo (List Opd)) : mMake C mf mos e = match mos e with
  | .ok os e1 => (match getA os e1 with
    | none => .stuck
    | some as => if (ownIx os e1).Nodup then match mf (.own (.obj C []) :: as) with
        | .ret (.fz .non) (.own (.obj D fs) :: as') => (match putA os as' e1 e1 with
          | some e2 => .ok (.own (.obj D fs)) e2
          | none => .stuck)
        | .exc D ds (_ :: as') => (match putA os as' e1 e1 with
          | some e2 => .exc D ds e2
          | none => .stuck)
        | _ => .stuck
      else .stuck)
  | .exc D ds e' => .exc D ds e'
  | .stuck => .stuck := by
  unfold mMake mB
  cases mos e with
  | ok os e1 => rfl
  | exc C ds e' => rfl
  | stuck => rfl
@[simp] theorem mAppO_ap (m r : Mo (List Opd)) : mAppO m r e = match m e with
  | .ok os e1 => (match r e1 with
    | .ok ps e2 => if os.all (fun o => neB o e2) then .ok (os ++ ps) e2 else .stuck
    | .exc D ds e' => .exc D ds e'
    | .stuck => .stuck)
  | .exc D ds e' => .exc D ds e'
  | .stuck => .stuck := by
  unfold mAppO mB
  cases m e with
  | ok os e1 =>
    dsimp only
    cases r e1 with
    | ok ps e2 => rfl
    | exc C ds e' => rfl
    | stuck => rfl
  | exc C ds e' => rfl
  | stuck => rfl
end
theorem flatMap_len {α β : Type} {f : α → List β} {c : Nat} (h : ∀ a, (f a).length ≤ c) : ∀ xs : List α, (xs.flatMap f).length ≤ xs.length * c
  | [] => by simp
  | x :: xs => by
    rw [List.flatMap_cons, List.length_append, List.length_cons, Nat.succ_mul]
    have := flatMap_len h xs
    have := h x
    omega
theorem range_shift {β : Type} (m n : Nat) (G : Nat → List β) : ((List.range n).flatMap fun j => if m ≤ j then G j else []) = (List.range (n - m)).flatMap fun k => G (m + k) := by
  by_cases h : m ≤ n
  · obtain ⟨d, rfl⟩ := Nat.exists_eq_add_of_le h
    rw [Nat.add_sub_cancel_left, List.range_add, List.flatMap_append]
    have h1 : ((List.range m).flatMap fun j => if m ≤ j then G j else []) = [] := by
      rw [List.flatMap_eq_nil_iff]
      intro j hj
      rw [if_neg (by have := List.mem_range.1 hj; omega)]
    rw [h1, List.nil_append, List.flatMap_map]
    congr 1
    funext k
    rw [if_pos (by omega)]
  · rw [Nat.sub_eq_zero_of_le (by omega)]
    show _ = []
    rw [List.flatMap_eq_nil_iff]
    intro j hj
    rw [if_neg (by have := List.mem_range.1 hj; omega)]
theorem range_succ_flatMap {β : Type} (n : Nat) (G : Nat → List β) : (List.range (n + 1)).flatMap G = (List.range n).flatMap G ++ G n := by
  rw [List.range_succ, List.flatMap_append]; simp
end VS

set_option Elab.async false
set_option linter.all false
set_option maxRecDepth 100000
set_option maxHeartbeats 4000000
/-! printed by gen.py: each def as a plain function on rows of slots -/
namespace K02
open PySem L2 VS

structure Cs where
  z : Unit := ()
  Book : Addr
  BadBook : Addr
  BadHistory : Addr
  TooMany : Addr
  exB : Addr → Addr → Option Bool
  e_BadBook_BadHistory : exB BadBook BadHistory = some false
  e_BadBook_TooMany : exB BadBook TooMany = some false
  e_BadHistory_BadHistory : exB BadHistory BadHistory = some true
  e_BadHistory_TooMany : exB BadHistory TooMany = some false
  e_TooMany_BadHistory : exB TooMany BadHistory = some false
  e_TooMany_TooMany : exB TooMany TooMany = some true
def m_is_whole (cs : Cs) : MS :=
  sRet (mAndV (mOp1 (fIsi [.int]) (oN 0)) (mAndV (mNotV (mOp1 (fIsi [.bool]) (oN 0))) (mChain fLe fLe (oN 1) (oN 0) (oN 2))))
def mf_is_whole (cs : Cs) : MF := bodyRun 3 (m_is_whole cs)
def m_is_sequence (cs : Cs) : MS :=
  sRet (mOp1 (fIsi [.list, .tuple]) (oN 0))
def mf_is_sequence (cs : Cs) : MF := bodyRun 1 (m_is_sequence cs)
def m_is_way (cs : Cs) : MS :=
  sSq (sIf (mOr (mNot (mT (mCall (mf_is_sequence cs) (mConsO' (oV (mFz (mN 3 0))) (mNilO))))) (mT (mOp2 fNe (oV (mFz (mOp1 fLenU (oN 0)))) (oV (mFz (mC (.int 4))))))) (sRet (mC (.bl false))) (sNx)) (sSq (sTgt (gTq 4 (gCn (gN 3 3) (gCn (gN 3 4) (gCn (gN 3 5) (gCn (gN 3 6) (gNl)))))) (mFz (mN 3 0))) (sSq (sIf (mOr (mNot (mT (mCall (mf_is_whole cs) (mConsO' (oV (mFz (mN 3 3))) (mConsO' (oV (mFz (mC (.int 0)))) (mConsO' (oV (mFz (mOp2 fSub (oN 1) (oV (mFz (mC (.int 1))))))) (mNilO))))))) (mNot (mT (mCall (mf_is_whole cs) (mConsO' (oV (mFz (mN 3 4))) (mConsO' (oV (mFz (mC (.int 0)))) (mConsO' (oV (mFz (mOp2 fSub (oN 2) (oV (mFz (mC (.int 1))))))) (mNilO)))))))) (sRet (mC (.bl false))) (sNx)) (sRet (mAndV (mCall (mf_is_whole cs) (mConsO' (oV (mFz (mN 3 5))) (mConsO' (oV (mFz (mC (.int 0)))) (mConsO' (oV (mFz (mOp2 fSub (oV (mFz (mC (.int 3)))) (oV (mFz (mC (.int 1))))))) (mNilO))))) (mCall (mf_is_whole cs) (mConsO' (oV (mFz (mN 3 6))) (mConsO' (oV (mFz (mC (.int 0)))) (mConsO' (oV (mFz (mOp2 fSub (oN 1) (oV (mFz (mC (.int 1))))))) (mNilO)))))))))
def mf_is_way (cs : Cs) : MF := bodyRun 7 (m_is_way cs)
def b_check_ways_1 (cs : Cs) : MS :=
  sIf (mNot (mT (mCall (mf_is_way cs) (mConsO' (oV (mFz (mN 3 3))) (mConsO' (oV (mFz (mN 3 0))) (mConsO' (oV (mFz (mN 3 1))) (mNilO))))))) (sExcA cs.BadBook ["what"] (mCons (mFz (mC (.str "way"))) (mNil))) (sNx)
def l_check_ways_1 (cs : Cs) : MS :=
  sFor (iS (mFz (mN 3 2))) (gN 3 3) (b_check_ways_1 cs)
def k_check_ways_1 (cs : Cs) : Mo Sl :=
  mComp [3] (iS (mFz (mN 3 2))) (gN 3 3) (mR true) (mFz (mOp1 fTuple (oN 3)))
def b_check_ways_2 (cs : Cs) : MS :=
  sIf (mT (mOp2 fEq (oV (mFz (mOp2 fIx (oN 4) (oV (mFz (mOp2 fSub (oN 5) (oV (mFz (mC (.int 1)))))))))) (oV (mFz (mOp2 fIx (oN 4) (oN 5)))))) (sExcA cs.BadBook ["what"] (mCons (mFz (mC (.str "double"))) (mNil))) (sNx)
def l_check_ways_2 (cs : Cs) : MS :=
  sFor (iR2 (mFz (mC (.int 1))) (mFz (mOp1 fLenU (oN 4)))) (gN 3 5) (b_check_ways_2 cs)
def k_check_ways_2 (cs : Cs) : Mo Sl :=
  mDct [3] (iS (mFz (mN 3 4))) (gN 3 3) (mR true) (mFz (mTup (mCons (mFz (mOp2 fIx (oN 3) (oV (mFz (mC (.int 0)))))) (mCons (mFz (mOp2 fIx (oN 3) (oV (mFz (mC (.int 1)))))) (mNil))))) (mFz (mC (.bl true)))
def m_check_ways (cs : Cs) : MS :=
  sSq (sIf (mOr (mNot (mT (mCall (mf_is_sequence cs) (mConsO' (oV (mFz (mN 3 2))) (mNilO))))) (mT (mOp2 fGt (oV (mFz (mOp1 fLenU (oN 2)))) (oV (mFz (mC (.int 432))))))) (sExcA cs.BadBook ["what"] (mCons (mFz (mC (.str "way"))) (mNil))) (sNx)) (sSq (l_check_ways_1 cs) (sSq (sSet 3 4 (mOp1 fSorted (oV (mFz (k_check_ways_1 cs))))) (sSq (l_check_ways_2 cs) (sSq (sSet 3 6 (k_check_ways_2 cs)) (sSq (sIf (mT (mOp2 fLt (oV (mFz (mOp1 fLenU (oN 6)))) (oV (mFz (mOp2 fMul2 (oN 0) (oN 1)))))) (sExcA cs.BadBook ["what"] (mCons (mFz (mC (.str "lacking"))) (mNil))) (sNx)) (sRet (mOp1 fTuple (oN 4))))))))
def mf_check_ways (cs : Cs) : MF := bodyRun 7 (m_check_ways cs)
def m_Book___init__ (cs : Cs) : MS :=
  sSq (sIf (mNot (mT (mCall (mf_is_whole cs) (mConsO' (oV (mFz (mN 4 1))) (mConsO' (oV (mFz (mC (.int 1)))) (mConsO' (oV (mFz (mC (.int 6)))) (mNilO))))))) (sExcA cs.BadBook ["what"] (mCons (mFz (mC (.str "states"))) (mNil))) (sNx)) (sSq (sIf (mNot (mT (mCall (mf_is_whole cs) (mConsO' (oV (mFz (mN 4 2))) (mConsO' (oV (mFz (mC (.int 1)))) (mConsO' (oV (mFz (mC (.int 4)))) (mNilO))))))) (sExcA cs.BadBook ["what"] (mCons (mFz (mC (.str "calls"))) (mNil))) (sNx)) (sSq (sFldP cs.Book 0 "states" (mFz (mN 4 1))) (sSq (sFldP cs.Book 0 "calls" (mFz (mN 4 2))) (sFldP cs.Book 0 "ways" (mFz (mCall (mf_check_ways cs) (mConsO' (oV (mFz (mN 4 1))) (mConsO' (oV (mFz (mN 4 2))) (mConsO' (oV (mFz (mN 4 3))) (mNilO))))))))))
def mf_Book___init__ (cs : Cs) : MF := bodyRun 4 (m_Book___init__ cs)
def m_is_entry (cs : Cs) : MS :=
  sSq (sIf (mOr (mNot (mT (mCall (mf_is_sequence cs) (mConsO' (oV (mFz (mN 2 1))) (mNilO))))) (mT (mOp2 fNe (oV (mFz (mOp1 fLenU (oN 1)))) (oV (mFz (mC (.int 3))))))) (sRet (mC (.bl false))) (sNx)) (sSq (sIf (mOr (mNot (mT (mCall (mf_is_whole cs) (mConsO' (oV (mFz (mOp2 fIx (oN 1) (oV (mFz (mC (.int 0))))))) (mConsO' (oV (mFz (mC (.int 0)))) (mConsO' (oV (mFz (mC (.int 9)))) (mNilO))))))) (mNot (mT (mCall (mf_is_whole cs) (mConsO' (oV (mFz (mOp2 fIx (oN 1) (oV (mFz (mC (.int 1))))))) (mConsO' (oV (mFz (mC (.int 0)))) (mConsO' (oV (mFz (mOp2 fSub (oV (mFz (mOp1 (fFld cs.Book "calls") (oN 0)))) (oV (mFz (mC (.int 1))))))) (mNilO)))))))) (sRet (mC (.bl false))) (sNx)) (sRet (mCall (mf_is_whole cs) (mConsO' (oV (mFz (mOp2 fIx (oN 1) (oV (mFz (mC (.int 2))))))) (mConsO' (oV (mFz (mC (.int 0)))) (mConsO' (oV (mFz (mOp2 fSub (oV (mFz (mC (.int 3)))) (oV (mFz (mC (.int 1))))))) (mNilO)))))))
def mf_is_entry (cs : Cs) : MF := bodyRun 2 (m_is_entry cs)
def b_check_history_1 (cs : Cs) : MS :=
  sIf (mNot (mT (mCall (mf_is_entry cs) (mConsO' (oV (mFz (mN 2 0))) (mConsO' (oV (mFz (mN 2 3))) (mNilO)))))) (sExcA cs.BadHistory ["index"] (mCons (mFz (mN 2 2)) (mNil))) (sNx)
def l_check_history_1 (cs : Cs) : MS :=
  sFor (iE2 (mFz (mN 2 1))) (gTq 2 (gCn (gN 2 2) (gCn (gN 2 3) (gNl)))) (b_check_history_1 cs)
def k_check_history_1 (cs : Cs) : Mo Sl :=
  mComp [3] (iS (mFz (mN 2 1))) (gN 2 3) (mR true) (mFz (mOp1 fTuple (oN 3)))
def m_check_history (cs : Cs) : MS :=
  sSq (sIf (mNot (mT (mCall (mf_is_sequence cs) (mConsO' (oV (mFz (mN 2 1))) (mNilO))))) (sExcA cs.BadHistory ["index"] (mCons (mFz (mC (.int 0))) (mNil))) (sNx)) (sSq (sIf (mT (mOp2 fGt (oV (mFz (mOp1 fLenU (oN 1)))) (oV (mFz (mC (.int 400)))))) (sExcA cs.BadHistory ["index"] (mCons (mFz (mOp1 fLenU (oN 1))) (mNil))) (sNx)) (sSq (l_check_history_1 cs) (sRet (mOp1 fTuple (oV (mFz (k_check_history_1 cs)))))))
def mf_check_history (cs : Cs) : MF := bodyRun 4 (m_check_history cs)
def k_calls_of_1 (cs : Cs) : Mo Sl :=
  mComp [1, 2, 3] (iS (mFz (mN 1 0))) (gTq 3 (gCn (gN 1 1) (gCn (gN 1 2) (gCn (gN 1 3) (gNl))))) (mR true) (mFz (mTup (mCons (mFz (mN 1 2)) (mCons (mFz (mN 1 3)) (mNil)))))
def m_calls_of (cs : Cs) : MS :=
  sRet (mOp1 fTuple (oV (mFz (k_calls_of_1 cs))))
def mf_calls_of (cs : Cs) : MF := bodyRun 4 (m_calls_of cs)
def k_asks_made_1 (cs : Cs) : Mo Sl :=
  mComp [1, 2, 3] (iS (mFz (mN 1 0))) (gTq 3 (gCn (gN 1 1) (gCn (gN 1 2) (gCn (gN 1 3) (gNl))))) (mR true) (mFz (mTup (mCons (mFz (mN 1 1)) (mCons (mFz (mN 1 2)) (mNil)))))
def m_asks_made (cs : Cs) : MS :=
  sRet (mOp1 fTuple (oV (mFz (k_asks_made_1 cs))))
def mf_asks_made (cs : Cs) : MF := bodyRun 4 (m_asks_made cs)
def k_hands_of_1 (cs : Cs) : Mo Sl :=
  mSetS fSetI [1] (iS (mFz (mN 1 0))) (gN 1 1) (mR true) (mFz (mOp2 fIx (oN 1) (oV (mFz (mC (.int 0))))))
def m_hands_of (cs : Cs) : MS :=
  sRet (mOp1 fTuple (oV (mFz (k_hands_of_1 cs))))
def mf_hands_of (cs : Cs) : MF := bodyRun 2 (m_hands_of cs)
def k_part_of_1 (cs : Cs) : Mo Sl :=
  mComp [2] (iS (mFz (mN 2 0))) (gN 2 2) (mT (mOp2 fEq (oV (mFz (mOp2 fIx (oN 2) (oV (mFz (mC (.int 0))))))) (oN 1))) (mFz (mOp1 fTuple (oN 2)))
def m_part_of (cs : Cs) : MS :=
  sRet (mOp1 fTuple (oV (mFz (k_part_of_1 cs))))
def mf_part_of (cs : Cs) : MF := bodyRun 3 (m_part_of cs)
def b_beside_1 (cs : Cs) : MS :=
  sDrop (mApp 2 (mFz (mTup (mCons (mFz (mOp2 fAdd (oV (mFz (mOp2 fMul2 (oN 3) (oV (mFz (mOp1 (fFld cs.Book "states") (oN 1))))))) (oN 7))) (mCons (mFz (mN 2 4)) (mCons (mFz (mN 2 5)) (mCons (mFz (mOp2 fAdd (oV (mFz (mOp2 fMul2 (oN 6) (oV (mFz (mOp1 (fFld cs.Book "states") (oN 1))))))) (oN 7))) (mNil))))))))
def l_beside_1 (cs : Cs) : MS :=
  sFor (iR1 (mFz (mOp1 (fFld cs.Book "states") (oN 1)))) (gN 2 7) (b_beside_1 cs)
def b_beside_2 (cs : Cs) : MS :=
  l_beside_1 cs
def l_beside_2 (cs : Cs) : MS :=
  sFor (iS (mFz (mOp1 (fFld cs.Book "ways") (oN 0)))) (gTq 4 (gCn (gN 2 3) (gCn (gN 2 4) (gCn (gN 2 5) (gCn (gN 2 6) (gNl)))))) (b_beside_2 cs)
def b_beside_3 (cs : Cs) : MS :=
  sSq (sSet 2 8 (mOp2 fMul2 (oN 7) (oV (mFz (mOp1 (fFld cs.Book "states") (oN 1)))))) (sDrop (mApp 2 (mFz (mTup (mCons (mFz (mOp2 fAdd (oN 8) (oN 3))) (mCons (mFz (mOp2 fAdd (oV (mFz (mOp1 (fFld cs.Book "calls") (oN 0)))) (oN 4))) (mCons (mFz (mN 2 5)) (mCons (mFz (mOp2 fAdd (oN 8) (oN 6))) (mNil)))))))))
def l_beside_3 (cs : Cs) : MS :=
  sFor (iR1 (mFz (mOp1 (fFld cs.Book "states") (oN 0)))) (gN 2 7) (b_beside_3 cs)
def b_beside_4 (cs : Cs) : MS :=
  l_beside_3 cs
def l_beside_4 (cs : Cs) : MS :=
  sFor (iS (mFz (mOp1 (fFld cs.Book "ways") (oN 1)))) (gTq 4 (gCn (gN 2 3) (gCn (gN 2 4) (gCn (gN 2 5) (gCn (gN 2 6) (gNl)))))) (b_beside_4 cs)
def m_beside (cs : Cs) : MS :=
  sSq (sIf (mT (mOp2 fGt (oV (mFz (mOp2 fMul2 (oV (mFz (mOp1 (fFld cs.Book "states") (oN 0)))) (oV (mFz (mOp1 (fFld cs.Book "states") (oN 1))))))) (oV (mFz (mC (.int 6)))))) (sExcA cs.TooMany ["most"] (mCons (mFz (mC (.int 6))) (mNil))) (sNx)) (sSq (sIf (mT (mOp2 fGt (oV (mFz (mOp2 fAdd (oV (mFz (mOp1 (fFld cs.Book "calls") (oN 0)))) (oV (mFz (mOp1 (fFld cs.Book "calls") (oN 1))))))) (oV (mFz (mC (.int 4)))))) (sExcA cs.TooMany ["most"] (mCons (mFz (mC (.int 4))) (mNil))) (sNx)) (sSq (sSet 2 2 (mLst (mNil))) (sSq (l_beside_2 cs) (sSq (l_beside_4 cs) (sRet (mMake cs.Book (mf_Book___init__ cs) (mConsO' (oV (mFz (mOp2 fMul2 (oV (mFz (mOp1 (fFld cs.Book "states") (oN 0)))) (oV (mFz (mOp1 (fFld cs.Book "states") (oN 1))))))) (mConsO' (oV (mFz (mOp2 fAdd (oV (mFz (mOp1 (fFld cs.Book "calls") (oN 0)))) (oV (mFz (mOp1 (fFld cs.Book "calls") (oN 1))))))) (mConsO' (oV (mFz (mN 2 2))) (mNilO))))))))))
def mf_beside (cs : Cs) : MF := bodyRun 9 (m_beside cs)
def b_parted_history_1 (cs : Cs) : MS :=
  sIf (mT (mOp2 fLt (oN 7) (oV (mFz (mOp1 (fFld cs.Book "calls") (oN 0)))))) (sDrop (mApp 4 (mFz (mTup (mCons (mFz (mN 3 6)) (mCons (mFz (mN 3 7)) (mCons (mFz (mN 3 8)) (mNil)))))))) (sDrop (mApp 5 (mFz (mTup (mCons (mFz (mN 3 6)) (mCons (mFz (mOp2 fSub (oN 7) (oV (mFz (mOp1 (fFld cs.Book "calls") (oN 0)))))) (mCons (mFz (mN 3 8)) (mNil))))))))
def l_parted_history_1 (cs : Cs) : MS :=
  sFor (iS (mFz (mN 3 3))) (gTq 3 (gCn (gN 3 6) (gCn (gN 3 7) (gCn (gN 3 8) (gNl))))) (b_parted_history_1 cs)
def m_parted_history (cs : Cs) : MS :=
  sSq (sSet 3 3 (mCall (mf_check_history cs) (mConsO' (oV (mFz (mCall (mf_beside cs) (mConsO' (oV (mFz (mN 3 0))) (mConsO' (oV (mFz (mN 3 1))) (mNilO)))))) (mConsO' (oV (mFz (mN 3 2))) (mNilO))))) (sSq (sSet 3 4 (mLst (mNil))) (sSq (sSet 3 5 (mLst (mNil))) (sSq (l_parted_history_1 cs) (sRet (mTup (mCons (mFz (mOp1 fTuple (oN 4))) (mCons (mFz (mOp1 fTuple (oN 5))) (mNil))))))))
def mf_parted_history (cs : Cs) : MF := bodyRun 9 (m_parted_history cs)
def k_step_from_1 (cs : Cs) : Mo Sl :=
  mSetS fSetI [4, 5, 6, 7] (iS (mFz (mOp1 (fFld cs.Book "ways") (oN 0)))) (gTq 4 (gCn (gN 4 4) (gCn (gN 4 5) (gCn (gN 4 6) (gCn (gN 4 7) (gNl)))))) (mAnd (mT (mOp2 fEq (oN 5) (oN 2))) (mAnd (mT (mOp2 fEq (oN 6) (oN 3))) (mT (mOp2 fIn (oN 4) (oN 1))))) (mFz (mN 4 7))
def m_step_from (cs : Cs) : MS :=
  sRet (mOp1 fTuple (oV (mFz (k_step_from_1 cs))))
def mf_step_from (cs : Cs) : MF := bodyRun 8 (m_step_from cs)
def b_standing_of_1 (cs : Cs) : MS :=
  sSet 2 2 (mCall (mf_step_from cs) (mConsO' (oV (mFz (mN 2 0))) (mConsO' (oV (mFz (mN 2 2))) (mConsO' (oV (mFz (mOp2 fIx (oN 3) (oV (mFz (mC (.int 1))))))) (mConsO' (oV (mFz (mOp2 fIx (oN 3) (oV (mFz (mC (.int 2))))))) (mNilO))))))
def l_standing_of_1 (cs : Cs) : MS :=
  sFor (iS (mFz (mCall (mf_check_history cs) (mConsO' (oV (mFz (mN 2 0))) (mConsO' (oV (mFz (mN 2 1))) (mNilO)))))) (gN 2 3) (b_standing_of_1 cs)
def m_standing_of (cs : Cs) : MS :=
  sSq (sSet 2 2 (mC (.ktp [.int 0]))) (sSq (l_standing_of_1 cs) (sRet (mV 2 2)))
def mf_standing_of (cs : Cs) : MF := bodyRun 4 (m_standing_of cs)
def m_is_right (cs : Cs) : MS :=
  sRet (mOp2 fNe (oV (mFz (mCall (mf_standing_of cs) (mConsO' (oV (mFz (mN 2 0))) (mConsO' (oV (mFz (mN 2 1))) (mNilO)))))) (oV (mFz (mTup (mNil)))))
def mf_is_right (cs : Cs) : MF := bodyRun 2 (m_is_right cs)
def m_law_mix (cs : Cs) : MS :=
  sSq (sSet 2 2 (mOp2 fMod (oV (mFz (mOp1 fInt (oV (mFz (mOp2 fAdd (oV (mFz (mOp2 fAdd (oV (mFz (mOp2 fMul2 (oN 0) (oV (mFz (mC (.int 39373))))))) (oV (mFz (mOp2 fMul2 (oN 1) (oV (mFz (mC (.int 30323)))))))))) (oV (mFz (mC (.int 61)))))))))) (oV (mFz (mC (.int 2147483647)))))) (sSq (sSet 2 3 (mOp2 fMod (oV (mFz (mOp1 fInt (oV (mFz (mOp2 fAdd (oV (mFz (mOp2 fAdd (oV (mFz (mOp2 fMul2 (oN 2) (oN 2)))) (oV (mFz (mOp2 fMul2 (oV (mFz (mOp2 fDiv (oN 2) (oV (mFz (mC (.int 127))))))) (oV (mFz (mC (.int 45989)))))))))) (oV (mFz (mOp2 fMul2 (oN 1) (oV (mFz (mC (.int 52709))))))))))))) (oV (mFz (mC (.int 2147483399)))))) (sRet (mOp2 fDiv (oV (mFz (mOp2 fMod (oV (mFz (mOp1 fInt (oV (mFz (mOp2 fAdd (oV (mFz (mOp2 fDiv (oV (mFz (mOp2 fMul2 (oN 3) (oN 3)))) (oV (mFz (mC (.int 1009))))))) (oN 2))))))) (oV (mFz (mC (.int 2147483563))))))) (oV (mFz (mC (.int 16)))))))
def mf_law_mix (cs : Cs) : MF := bodyRun 4 (m_law_mix cs)
def b_law_hand_1 (cs : Cs) : MS :=
  sSet 1 1 (mOp2 fMod (oV (mFz (mOp1 fInt (oV (mFz (mOp2 fAdd (oV (mFz (mOp2 fMul2 (oN 1) (oV (mFz (mC (.int 41))))))) (oV (mFz (mOp2 fMul2 (oV (mFz (mOp1 fInt (oN 3)))) (oV (mFz (mOp2 fAdd (oN 2) (oV (mFz (mC (.int 3)))))))))))))))) (oV (mFz (mC (.int 2147483629)))))
def l_law_hand_1 (cs : Cs) : MS :=
  sFor (iE2 (mFz (mN 1 0))) (gTq 2 (gCn (gN 1 2) (gCn (gN 1 3) (gNl)))) (b_law_hand_1 cs)
def k_law_hand_1 (cs : Cs) : Mo Sl :=
  mComp [3] (iS (mFz (mN 1 0))) (gN 1 3) (mR true) (mFz (mOp1 fAbs (oV (mFz (mOp1 fInt (oN 3))))))
def m_law_hand (cs : Cs) : MS :=
  sSq (sSet 1 1 (mC (.int 7))) (sSq (l_law_hand_1 cs) (sRet (mLst (mCons (mFz (k_law_hand_1 cs)) (mCons (mFz (mC (.int 0))) (mCons (mFz (mC (.int 0))) (mCons (mFz (mN 1 1)) (mNil))))))))
def mf_law_hand (cs : Cs) : MF := bodyRun 4 (m_law_hand cs)
def m_law_draw (cs : Cs) : MS :=
  sSq (sIf (mAnd (mT (mOp2 fEq (oV (mFz (mOp2 fIx (oN 0) (oV (mFz (mC (.int 2))))))) (oV (mFz (mC (.int 0)))))) (mT (mOp2 fLt (oV (mFz (mOp2 fIx (oN 0) (oV (mFz (mC (.int 1))))))) (oV (mFz (mOp1 fLenU (oV (mFz (mOp2 fIx (oN 0) (oV (mFz (mC (.int 0))))))))))))) (sSq (sSet 2 2 (mOp2 fIx (oV (mFz (mOp2 fIx (oN 0) (oV (mFz (mC (.int 0))))))) (oV (mFz (mOp2 fIx (oN 0) (oV (mFz (mC (.int 1))))))))) (sSq (sSetIx 0 (mFz (mOp2 fAdd (oV (mFz (mOp2 fIx (oN 0) (oV (mFz (mC (.int 1))))))) (oV (mFz (mC (.int 1)))))) (mFz (mC (.int 1)))) (sSq (sIf (mT (mOp2 fLt (oN 2) (oV (mFz (mOp2 fPow (oV (mFz (mC (.int 10)))) (oV (mFz (mC (.int 18))))))))) (sRet (mOp2 fMod (oV (mFz (mOp1 fInt (oV (mFz (mCall (mf_law_mix cs) (mConsO' (oV (mFz (mOp2 fMod (oV (mFz (mOp1 fInt (oN 2)))) (oV (mFz (mC (.int 2147483647))))))) (mConsO' (oV (mFz (mOp2 fIx (oN 0) (oV (mFz (mC (.int 1))))))) (mNilO))))))))) (oN 1))) (sNx)) (sSetIx 0 (mFz (mN 2 2)) (mFz (mC (.int 2))))))) (sNx)) (sSq (sIf (mT (mOp2 fGt (oV (mFz (mOp2 fIx (oN 0) (oV (mFz (mC (.int 2))))))) (oV (mFz (mC (.int 0)))))) (sSq (sSet 2 3 (mOp2 fIx (oN 0) (oV (mFz (mC (.int 2)))))) (sSq (sSetIx 0 (mFz (mOp2 fDiv (oN 3) (oN 1))) (mFz (mC (.int 2)))) (sRet (mOp2 fMod (oV (mFz (mOp1 fInt (oN 3)))) (oN 1))))) (sNx)) (sSq (sSetIx 0 (mFz (mOp2 fMod (oV (mFz (mOp1 fInt (oV (mFz (mOp2 fAdd (oV (mFz (mOp2 fIx (oN 0) (oV (mFz (mC (.int 3))))))) (oV (mFz (mC (.int 1)))))))))) (oV (mFz (mC (.int 2147483629)))))) (mFz (mC (.int 3)))) (sRet (mOp2 fMod (oV (mFz (mOp1 fInt (oV (mFz (mCall (mf_law_mix cs) (mConsO' (oV (mFz (mOp2 fIx (oN 0) (oV (mFz (mC (.int 3))))))) (mConsO' (oV (mFz (mOp2 fIx (oN 0) (oV (mFz (mC (.int 1))))))) (mNilO))))))))) (oN 1)))))
def mf_law_draw (cs : Cs) : MF := bodyRun 4 (m_law_draw cs)
def k_law_exact_1 (cs : Cs) (rec : MF) : Mo Sl :=
  mComp [2] (iR1 (mFz (mOp1 fLenU (oN 1)))) (gN 2 2) (mNot (mT (mCall (rec) (mConsO' (oV (mFz (mOp2 fIx (oN 0) (oN 2)))) (mConsO' (oV (mFz (mOp2 fIx (oN 1) (oN 2)))) (mNilO)))))) (mFz (mN 2 2))
def m_law_exact (cs : Cs) (rec : MF) : MS :=
  sSq (sIf (mT (mOp1 (fIsi [.tuple]) (oN 1))) (sSq (sIf (mOr (mNot (mT (mOp1 (fIsi [.tuple]) (oN 0)))) (mT (mOp2 fNe (oV (mFz (mOp1 fLenU (oN 0)))) (oV (mFz (mOp1 fLenU (oN 1))))))) (sRet (mC (.bl false))) (sNx)) (sRet (mOp2 fEq (oV (mFz (k_law_exact_1 cs rec))) (oV (mFz (mLst (mNil))))))) (sNx)) (sSq (sIf (mT (mOp2 fIs (oN 1) (oV (mFz (mC .non))))) (sRet (mOp2 fIs (oN 0) (oV (mFz (mC .non))))) (sNx)) (sSq (sIf (mT (mOp1 (fIsi [.bool]) (oN 1))) (sRet (mIf (mT (mN 2 1)) (mOp2 fIs (oN 0) (oV (mFz (mC (.bl true))))) (mOp2 fIs (oN 0) (oV (mFz (mC (.bl false))))))) (sNx)) (sSq (sIf (mT (mOp1 (fIsi [.str]) (oN 1))) (sRet (mAndV (mOp1 (fIsi [.str]) (oN 0)) (mOp2 fEq (oN 0) (oN 1)))) (sNx)) (sRet (mAndV (mOp1 (fIsi [.int]) (oN 0)) (mAndV (mNotV (mOp1 (fIsi [.bool]) (oN 0))) (mOp2 fEq (oN 0) (oN 1))))))))
def mf_law_exact (cs : Cs) : Nat → MF
  | 0 => fun _ => .stuck
  | k + 1 => bodyRun 3 (m_law_exact cs (mf_law_exact cs k))
def b_law_ways_1 (cs : Cs) : MS :=
  sIf (mOr (mT (mOp2 fEq (oN 1) (oV (mFz (mLst (mNil)))))) (mT (mOp2 fNe (oV (mFz (mOp2 fIx (oN 1) (oV (mFz (mOp1 fNeg (oV (mFz (mC (.int 1)))))))))) (oN 2)))) (sDrop (mApp 1 (mFz (mN 1 2)))) (sNx)
def l_law_ways_1 (cs : Cs) : MS :=
  sFor (iS (mFz (mOp1 fSorted (oN 0)))) (gN 1 2) (b_law_ways_1 cs)
def m_law_ways (cs : Cs) : MS :=
  sSq (sSet 1 1 (mLst (mNil))) (sSq (l_law_ways_1 cs) (sRet (mOp1 fTuple (oN 1))))
def mf_law_ways (cs : Cs) : MF := bodyRun 3 (m_law_ways cs)
def b_law_flat_1 (cs : Cs) : MS :=
  sDrop (mApp 4 (mFz (mTup (mCons (mFz (mN 4 5)) (mCons (mFz (mN 4 6)) (mCons (mFz (mCall (mf_law_draw cs) (mConsO' (oN 0) (mConsO' (oV (mFz (mN 4 3))) (mNilO))))) (mCons (mFz (mCall (mf_law_draw cs) (mConsO' (oN 0) (mConsO' (oV (mFz (mN 4 1))) (mNilO))))) (mNil))))))))
def l_law_flat_1 (cs : Cs) : MS :=
  sFor (iR1 (mFz (mN 4 2))) (gN 4 6) (b_law_flat_1 cs)
def b_law_flat_2 (cs : Cs) : MS :=
  l_law_flat_1 cs
def l_law_flat_2 (cs : Cs) : MS :=
  sFor (iR1 (mFz (mN 4 1))) (gN 4 5) (b_law_flat_2 cs)
def m_law_flat (cs : Cs) : MS :=
  sSq (sSet 4 4 (mLst (mNil))) (sSq (l_law_flat_2 cs) (sRet (mV 4 4)))
def mf_law_flat (cs : Cs) : MF := bodyRun 7 (m_law_flat cs)
def b_law_onward_1 (cs : Cs) : MS :=
  sIf (mAnd (mT (mOp2 fEq (oV (mFz (mOp2 fIx (oN 5) (oV (mFz (mC (.int 1))))))) (oN 2))) (mAnd (mT (mOp2 fEq (oV (mFz (mOp2 fIx (oN 5) (oV (mFz (mC (.int 2))))))) (oN 3))) (mAnd (mT (mOp2 fIn (oV (mFz (mOp2 fIx (oN 5) (oV (mFz (mC (.int 0))))))) (oN 1))) (mT (mOp2 fNotIn (oV (mFz (mOp2 fIx (oN 5) (oV (mFz (mC (.int 3))))))) (oN 4)))))) (sDrop (mApp 4 (mFz (mOp2 fIx (oN 5) (oV (mFz (mC (.int 3)))))))) (sNx)
def l_law_onward_1 (cs : Cs) : MS :=
  sFor (iS (mFz (mN 4 0))) (gN 4 5) (b_law_onward_1 cs)
def m_law_onward (cs : Cs) : MS :=
  sSq (sSet 4 4 (mLst (mNil))) (sSq (l_law_onward_1 cs) (sRet (mOp1 fTuple (oV (mFz (mOp1 fSorted (oN 4)))))))
def mf_law_onward (cs : Cs) : MF := bodyRun 6 (m_law_onward cs)
def b_law_stand_1 (cs : Cs) : MS :=
  sSet 3 1 (mCall (mf_law_onward cs) (mConsO' (oV (mFz (mN 3 0))) (mConsO' (oV (mFz (mN 3 1))) (mConsO' (oV (mFz (mN 3 3))) (mConsO' (oV (mFz (mN 3 4))) (mNilO))))))
def l_law_stand_1 (cs : Cs) : MS :=
  sFor (iS (mFz (mN 3 2))) (gTq 2 (gCn (gN 3 3) (gCn (gN 3 4) (gNl)))) (b_law_stand_1 cs)
def m_law_stand (cs : Cs) : MS :=
  sSq (l_law_stand_1 cs) (sRet (mV 3 1))
def mf_law_stand (cs : Cs) : MF := bodyRun 5 (m_law_stand cs)
def k_law_lets_1 (cs : Cs) : Mo Sl :=
  mComp [3] (iR1 (mFz (mC (.int 3)))) (gN 3 3) (mT (mOp2 fNe (oV (mFz (mCall (mf_law_onward cs) (mConsO' (oV (mFz (mN 3 0))) (mConsO' (oV (mFz (mN 3 1))) (mConsO' (oV (mFz (mN 3 2))) (mConsO' (oV (mFz (mN 3 3))) (mNilO)))))))) (oV (mFz (mTup (mNil)))))) (mFz (mN 3 3))
def m_law_lets (cs : Cs) : MS :=
  sRet (k_law_lets_1 cs)
def mf_law_lets (cs : Cs) : MF := bodyRun 4 (m_law_lets cs)
def b_law_past_1 (cs : Cs) : MS :=
  sSq (sSet 4 7 (mCall (mf_law_draw cs) (mConsO' (oN 0) (mConsO' (oV (mFz (mN 4 1))) (mNilO))))) (sSq (sSet 4 8 (mCall (mf_law_lets cs) (mConsO' (oV (mFz (mN 4 2))) (mConsO' (oV (mFz (mN 4 5))) (mConsO' (oV (mFz (mN 4 7))) (mNilO)))))) (sSq (sSet 4 9 (mOp2 fIx (oN 8) (oV (mFz (mCall (mf_law_draw cs) (mConsO' (oN 0) (mConsO' (oV (mFz (mOp1 fLenU (oN 8)))) (mNilO)))))))) (sSq (sDrop (mApp 4 (mFz (mTup (mCons (mFz (mOp2 fIx (oV (mFz (mLst (mCons (mFz (mC (.int 0))) (mCons (mFz (mC (.int 1))) (mCons (mFz (mC (.int 2))) (mCons (mFz (mC (.int 3))) (mCons (mFz (mC (.int 4))) (mCons (mFz (mC (.int 9))) (mNil)))))))))) (oV (mFz (mCall (mf_law_draw cs) (mConsO' (oN 0) (mConsO' (oV (mFz (mC (.int 6)))) (mNilO)))))))) (mCons (mFz (mN 4 7)) (mCons (mFz (mN 4 9)) (mNil)))))))) (sSet 4 5 (mCall (mf_law_onward cs) (mConsO' (oV (mFz (mN 4 2))) (mConsO' (oV (mFz (mN 4 5))) (mConsO' (oV (mFz (mN 4 7))) (mConsO' (oV (mFz (mN 4 9))) (mNilO))))))))))
def l_law_past_1 (cs : Cs) : MS :=
  sFor (iR1 (mFz (mCall (mf_law_draw cs) (mConsO' (oN 0) (mConsO' (oV (mFz (mOp2 fAdd (oN 3) (oV (mFz (mC (.int 1))))))) (mNilO)))))) (gN 4 6) (b_law_past_1 cs)
def m_law_past (cs : Cs) : MS :=
  sSq (sSet 4 4 (mLst (mNil))) (sSq (sSet 4 5 (mTup (mCons (mFz (mC (.int 0))) (mNil)))) (sSq (l_law_past_1 cs) (sRet (mOp1 fTuple (oN 4)))))
def mf_law_past (cs : Cs) : MF := bodyRun 10 (m_law_past cs)
def m_law_large (cs : Cs) : MS :=
  sRet (mOp2 fAdd (oV (mFz (mOp2 fMul2 (oV (mFz (mCall (mf_law_draw cs) (mConsO' (oN 0) (mConsO' (oV (mFz (mOp2 fPow (oV (mFz (mC (.int 10)))) (oV (mFz (mC (.int 9))))))) (mNilO)))))) (oV (mFz (mOp2 fPow (oV (mFz (mC (.int 10)))) (oV (mFz (mC (.int 9)))))))))) (oV (mFz (mCall (mf_law_draw cs) (mConsO' (oN 0) (mConsO' (oV (mFz (mOp2 fPow (oV (mFz (mC (.int 10)))) (oV (mFz (mC (.int 9))))))) (mNilO)))))))
def mf_law_large (cs : Cs) : MF := bodyRun 1 (m_law_large cs)
def m_law_whole (cs : Cs) : MS :=
  sRet (mAndV (mOp1 (fIsi [.int]) (oN 0)) (mAndV (mNotV (mOp1 (fIsi [.bool]) (oN 0))) (mChain fLe fLe (oN 1) (oN 0) (oN 2))))
def mf_law_whole (cs : Cs) : MF := bodyRun 3 (m_law_whole cs)
def m_law_row (cs : Cs) : MS :=
  sRet (mOrV (mOp1 (fIsi [.list]) (oN 0)) (mOp1 (fIsi [.tuple]) (oN 0)))
def mf_law_row (cs : Cs) : MF := bodyRun 1 (m_law_row cs)
def b_law_large_book_1 (cs : Cs) : MS :=
  sIf (mOr (mT (mOp2 fGt (oV (mFz (mOp2 fMod (oV (mFz (mOp1 fInt (oN 5)))) (oN 4)))) (oV (mFz (mC (.int 0)))))) (mT (mOp2 fEq (oN 4) (oV (mFz (mC (.int 11))))))) (sSq (sSet 1 6 (mOp2 fDiv (oN 5) (oN 1))) (sDrop (mApp 3 (mFz (mTup (mCons (mFz (mOp2 fDiv (oN 6) (oV (mFz (mOp2 fMul2 (oV (mFz (mC (.int 3)))) (oN 2)))))) (mCons (mFz (mOp2 fMod (oV (mFz (mOp1 fInt (oV (mFz (mOp2 fDiv (oN 6) (oV (mFz (mC (.int 3)))))))))) (oN 2))) (mCons (mFz (mOp2 fMod (oV (mFz (mOp1 fInt (oN 6)))) (oV (mFz (mC (.int 3)))))) (mCons (mFz (mOp2 fMod (oV (mFz (mOp1 fInt (oN 5)))) (oN 1))) (mNil)))))))))) (sNx)
def l_law_large_book_1 (cs : Cs) : MS :=
  sFor (iR1 (mFz (mOp2 fMul2 (oV (mFz (mOp2 fMul2 (oV (mFz (mOp2 fMul2 (oN 1) (oN 2)))) (oV (mFz (mC (.int 3))))))) (oN 1)))) (gN 1 5) (b_law_large_book_1 cs)
def b_law_large_book_2 (cs : Cs) : MS :=
  sSq (sSet 1 8 (mCall (mf_law_draw cs) (mConsO' (oN 0) (mConsO' (oV (mFz (mN 1 1))) (mNilO))))) (sDrop (mApp 3 (mFz (mTup (mCons (mFz (mN 1 8)) (mCons (mFz (mCall (mf_law_draw cs) (mConsO' (oN 0) (mConsO' (oV (mFz (mN 1 2))) (mNilO))))) (mCons (mFz (mCall (mf_law_draw cs) (mConsO' (oN 0) (mConsO' (oV (mFz (mC (.int 3)))) (mNilO))))) (mCons (mFz (mCall (mf_law_draw cs) (mConsO' (oN 0) (mConsO' (oV (mFz (mN 1 1))) (mNilO))))) (mNil)))))))))
def l_law_large_book_2 (cs : Cs) : MS :=
  sFor (iR1 (mFz (mCall (mf_law_draw cs) (mConsO' (oN 0) (mConsO' (oV (mFz (mC (.int 13)))) (mNilO)))))) (gN 1 7) (b_law_large_book_2 cs)
def m_law_large_book (cs : Cs) : MS :=
  sSq (sSet 1 1 (mOp2 fAdd (oV (mFz (mC (.int 1)))) (oV (mFz (mCall (mf_law_draw cs) (mConsO' (oN 0) (mConsO' (oV (mFz (mC (.int 6)))) (mNilO)))))))) (sSq (sSet 1 2 (mOp2 fAdd (oV (mFz (mC (.int 1)))) (oV (mFz (mCall (mf_law_draw cs) (mConsO' (oN 0) (mConsO' (oV (mFz (mC (.int 4)))) (mNilO)))))))) (sSq (sSet 1 3 (mCall (mf_law_flat cs) (mConsO' (oN 0) (mConsO' (oV (mFz (mN 1 1))) (mConsO' (oV (mFz (mN 1 2))) (mConsO' (oV (mFz (mC (.int 3)))) (mNilO))))))) (sSq (sIf (mT (mOp2 fEq (oV (mFz (mCall (mf_law_draw cs) (mConsO' (oN 0) (mConsO' (oV (mFz (mC (.int 6)))) (mNilO)))))) (oV (mFz (mC (.int 0)))))) (sSq (sSet 1 4 (mOp2 fAdd (oV (mFz (mC (.int 2)))) (oV (mFz (mCall (mf_law_draw cs) (mConsO' (oN 0) (mConsO' (oV (mFz (mC (.int 10)))) (mNilO)))))))) (l_law_large_book_1 cs)) (l_law_large_book_2 cs)) (sRet (mTup (mCons (mFz (mN 1 1)) (mCons (mFz (mN 1 2)) (mCons (mFz (mCall (mf_law_ways cs) (mConsO' (oV (mFz (mN 1 3))) (mNilO)))) (mNil)))))))))
def mf_law_large_book (cs : Cs) : MF := bodyRun 9 (m_law_large_book cs)
def b_law_entries_1 (cs : Cs) : MS :=
  sDrop (mApp 3 (mFz (mTup (mCons (mFz (mCall (mf_law_draw cs) (mConsO' (oN 0) (mConsO' (oV (mFz (mC (.int 10)))) (mNilO))))) (mCons (mFz (mCall (mf_law_draw cs) (mConsO' (oN 0) (mConsO' (oV (mFz (mN 3 1))) (mNilO))))) (mCons (mFz (mCall (mf_law_draw cs) (mConsO' (oN 0) (mConsO' (oV (mFz (mC (.int 3)))) (mNilO))))) (mNil)))))))
def l_law_entries_1 (cs : Cs) : MS :=
  sFor (iR1 (mFz (mCall (mf_law_draw cs) (mConsO' (oN 0) (mConsO' (oV (mFz (mOp2 fAdd (oN 2) (oV (mFz (mC (.int 1))))))) (mNilO)))))) (gN 3 4) (b_law_entries_1 cs)
def m_law_entries (cs : Cs) : MS :=
  sSq (sSet 3 3 (mLst (mNil))) (sSq (l_law_entries_1 cs) (sRet (mV 3 3)))
def mf_law_entries (cs : Cs) : MF := bodyRun 5 (m_law_entries cs)
def b_law_couple_ways_1 (cs : Cs) : MS :=
  sDrop (mApp 6 (mFz (mTup (mCons (mFz (mOp2 fAdd (oV (mFz (mOp2 fMul2 (oN 7) (oN 3)))) (oN 11))) (mCons (mFz (mN 6 8)) (mCons (mFz (mN 6 9)) (mCons (mFz (mOp2 fAdd (oV (mFz (mOp2 fMul2 (oN 10) (oN 3)))) (oN 11))) (mNil))))))))
def l_law_couple_ways_1 (cs : Cs) : MS :=
  sFor (iR1 (mFz (mN 6 3))) (gN 6 11) (b_law_couple_ways_1 cs)
def b_law_couple_ways_2 (cs : Cs) : MS :=
  l_law_couple_ways_1 cs
def l_law_couple_ways_2 (cs : Cs) : MS :=
  sFor (iS (mFz (mN 6 2))) (gTq 4 (gCn (gN 6 7) (gCn (gN 6 8) (gCn (gN 6 9) (gCn (gN 6 10) (gNl)))))) (b_law_couple_ways_2 cs)
def b_law_couple_ways_3 (cs : Cs) : MS :=
  sDrop (mApp 6 (mFz (mTup (mCons (mFz (mOp2 fAdd (oV (mFz (mOp2 fMul2 (oN 11) (oN 3)))) (oN 7))) (mCons (mFz (mOp2 fAdd (oN 1) (oN 8))) (mCons (mFz (mN 6 9)) (mCons (mFz (mOp2 fAdd (oV (mFz (mOp2 fMul2 (oN 11) (oN 3)))) (oN 10))) (mNil))))))))
def l_law_couple_ways_3 (cs : Cs) : MS :=
  sFor (iR1 (mFz (mN 6 0))) (gN 6 11) (b_law_couple_ways_3 cs)
def b_law_couple_ways_4 (cs : Cs) : MS :=
  l_law_couple_ways_3 cs
def l_law_couple_ways_4 (cs : Cs) : MS :=
  sFor (iS (mFz (mN 6 5))) (gTq 4 (gCn (gN 6 7) (gCn (gN 6 8) (gCn (gN 6 9) (gCn (gN 6 10) (gNl)))))) (b_law_couple_ways_4 cs)
def m_law_couple_ways (cs : Cs) : MS :=
  sSq (sSet 6 6 (mLst (mNil))) (sSq (l_law_couple_ways_2 cs) (sSq (l_law_couple_ways_4 cs) (sRet (mOp1 fTuple (oV (mFz (mOp1 fSorted (oN 6))))))))
def mf_law_couple_ways (cs : Cs) : MF := bodyRun 12 (m_law_couple_ways cs)
def b_law_small_book_1 (cs : Cs) : MS :=
  sSq (sSet 3 6 (mCall (mf_law_draw cs) (mConsO' (oN 0) (mConsO' (oV (mFz (mN 3 3))) (mNilO))))) (sDrop (mApp 4 (mFz (mTup (mCons (mFz (mN 3 6)) (mCons (mFz (mCall (mf_law_draw cs) (mConsO' (oN 0) (mConsO' (oV (mFz (mN 3 2))) (mNilO))))) (mCons (mFz (mCall (mf_law_draw cs) (mConsO' (oN 0) (mConsO' (oV (mFz (mC (.int 3)))) (mNilO))))) (mCons (mFz (mCall (mf_law_draw cs) (mConsO' (oN 0) (mConsO' (oV (mFz (mN 3 3))) (mNilO))))) (mNil)))))))))
def l_law_small_book_1 (cs : Cs) : MS :=
  sFor (iR1 (mFz (mCall (mf_law_draw cs) (mConsO' (oN 0) (mConsO' (oV (mFz (mC (.int 5)))) (mNilO)))))) (gN 3 5) (b_law_small_book_1 cs)
def m_law_small_book (cs : Cs) : MS :=
  sSq (sSet 3 3 (mOp2 fAdd (oV (mFz (mC (.int 1)))) (oV (mFz (mCall (mf_law_draw cs) (mConsO' (oN 0) (mConsO' (oV (mFz (mN 3 1))) (mNilO)))))))) (sSq (sSet 3 4 (mCall (mf_law_flat cs) (mConsO' (oN 0) (mConsO' (oV (mFz (mN 3 3))) (mConsO' (oV (mFz (mN 3 2))) (mConsO' (oV (mFz (mC (.int 2)))) (mNilO))))))) (sSq (l_law_small_book_1 cs) (sRet (mTup (mCons (mFz (mN 3 3)) (mCons (mFz (mN 3 2)) (mCons (mFz (mCall (mf_law_ways cs) (mConsO' (oV (mFz (mN 3 4))) (mNilO)))) (mNil))))))))
def mf_law_small_book (cs : Cs) : MF := bodyRun 7 (m_law_small_book cs)
def m_law_two_books (cs : Cs) : MS :=
  sSq (sSet 1 1 (mOp2 fAdd (oV (mFz (mC (.int 1)))) (oV (mFz (mCall (mf_law_draw cs) (mConsO' (oN 0) (mConsO' (oV (mFz (mC (.int 3)))) (mNilO)))))))) (sSq (sSet 1 2 (mOp2 fAdd (oV (mFz (mC (.int 1)))) (oV (mFz (mCall (mf_law_draw cs) (mConsO' (oN 0) (mConsO' (oV (mFz (mOp2 fSub (oV (mFz (mC (.int 4)))) (oN 1)))) (mNilO)))))))) (sSq (sSet 1 3 (mCall (mf_law_small_book cs) (mConsO' (oN 0) (mConsO' (oV (mFz (mC (.int 6)))) (mConsO' (oV (mFz (mN 1 1))) (mNilO)))))) (sRet (mTup (mCons (mFz (mN 1 3)) (mCons (mFz (mCall (mf_law_small_book cs) (mConsO' (oN 0) (mConsO' (oV (mFz (mOp2 fDiv (oV (mFz (mC (.int 6)))) (oV (mFz (mOp2 fIx (oN 3) (oV (mFz (mC (.int 0)))))))))) (mConsO' (oV (mFz (mN 1 2))) (mNilO)))))) (mNil)))))))
def mf_law_two_books (cs : Cs) : MF := bodyRun 4 (m_law_two_books cs)
def m_law_checked (cs : Cs) : MS :=
  sTryN (sRet (mCall (mf_check_history cs) (mConsO' (oV (mFz (mN 2 0))) (mConsO' (oV (mFz (mN 2 1))) (mNilO))))) [(fun A => cs.exB A cs.BadHistory, some 2, xRetL (xCons (fun _ _ => some (.str "bad")) (xCons (xF [cs.BadHistory] "index") xNil)))]
def mf_law_checked (cs : Cs) : MF := bodyRun 3 (m_law_checked cs)
def b_law_due_check_1 (cs : Cs) : MS :=
  sSq (sSet 2 3 (mOp2 fIx (oN 1) (oN 2))) (sSq (sIf (mOr (mNot (mT (mCall (mf_law_row cs) (mConsO' (oV (mFz (mN 2 3))) (mNilO))))) (mOr (mT (mOp2 fNe (oV (mFz (mOp1 fLenU (oN 3)))) (oV (mFz (mC (.int 3)))))) (mNot (mT (mCall (mf_law_whole cs) (mConsO' (oV (mFz (mOp2 fIx (oN 3) (oV (mFz (mC (.int 0))))))) (mConsO' (oV (mFz (mC (.int 0)))) (mConsO' (oV (mFz (mC (.int 9)))) (mNilO))))))))) (sRet (mLst (mCons (mFz (mC (.str "bad"))) (mCons (mFz (mN 2 2)) (mNil))))) (sNx)) (sIf (mOr (mNot (mT (mCall (mf_law_whole cs) (mConsO' (oV (mFz (mOp2 fIx (oN 3) (oV (mFz (mC (.int 1))))))) (mConsO' (oV (mFz (mC (.int 0)))) (mConsO' (oV (mFz (mOp2 fSub (oN 0) (oV (mFz (mC (.int 1))))))) (mNilO))))))) (mNot (mT (mCall (mf_law_whole cs) (mConsO' (oV (mFz (mOp2 fIx (oN 3) (oV (mFz (mC (.int 2))))))) (mConsO' (oV (mFz (mC (.int 0)))) (mConsO' (oV (mFz (mC (.int 2)))) (mNilO)))))))) (sRet (mLst (mCons (mFz (mC (.str "bad"))) (mCons (mFz (mN 2 2)) (mNil))))) (sNx)))
def l_law_due_check_1 (cs : Cs) : MS :=
  sFor (iR1 (mFz (mOp1 fLenU (oN 1)))) (gN 2 2) (b_law_due_check_1 cs)
def k_law_due_check_1 (cs : Cs) : Mo Sl :=
  mComp [3] (iS (mFz (mN 2 1))) (gN 2 3) (mR true) (mFz (mOp1 fTuple (oN 3)))
def m_law_due_check (cs : Cs) : MS :=
  sSq (sIf (mNot (mT (mCall (mf_law_row cs) (mConsO' (oV (mFz (mN 2 1))) (mNilO))))) (sRet (mLst (mCons (mFz (mC (.str "bad"))) (mCons (mFz (mC (.int 0))) (mNil))))) (sNx)) (sSq (sIf (mT (mOp2 fGt (oV (mFz (mOp1 fLenU (oN 1)))) (oV (mFz (mC (.int 400)))))) (sRet (mLst (mCons (mFz (mC (.str "bad"))) (mCons (mFz (mOp1 fLenU (oN 1))) (mNil))))) (sNx)) (sSq (l_law_due_check_1 cs) (sRet (mOp1 fTuple (oV (mFz (k_law_due_check_1 cs)))))))
def mf_law_due_check (cs : Cs) : MF := bodyRun 4 (m_law_due_check cs)
def m_law_same (cs : Cs) : MS :=
  sSq (sIf (mT (mOp1 (fIsi [.list]) (oN 1))) (sRet (mAndV (mOp1 (fIsi [.list]) (oN 0)) (mOp2 fEq (oN 0) (oN 1)))) (sNx)) (sRet (mCall (mf_law_exact cs 6) (mConsO' (oV (mFz (mN 2 0))) (mConsO' (oV (mFz (mN 2 1))) (mNilO)))))
def mf_law_same (cs : Cs) : MF := bodyRun 2 (m_law_same cs)
def m_law_odd_entry (cs : Cs) : MS :=
  sSq (sSet 2 2 (mTup (mCons (mFz (mCall (mf_law_draw cs) (mConsO' (oN 0) (mConsO' (oV (mFz (mC (.int 10)))) (mNilO))))) (mCons (mFz (mCall (mf_law_draw cs) (mConsO' (oN 0) (mConsO' (oV (mFz (mN 2 1))) (mNilO))))) (mCons (mFz (mCall (mf_law_draw cs) (mConsO' (oN 0) (mConsO' (oV (mFz (mC (.int 3)))) (mNilO))))) (mNil)))))) (sSq (sSet 2 3 (mCall (mf_law_draw cs) (mConsO' (oN 0) (mConsO' (oV (mFz (mC (.int 5)))) (mNilO))))) (sSq (sIf (mT (mOp2 fEq (oN 3) (oV (mFz (mC (.int 0)))))) (sRet (mOp2 fIx (oV (mFz (mLst (mCons (mFz (mC .non)) (mCons (mFz (mC (.int 3))) (mCons (mFz (mC (.str "0:0"))) (mCons (mFz (mSlice (oN 2) (mPart0) (mPart (mFz (mC (.int 2)))))) (mCons (mFz (mOp2 fAdd (oN 2) (oV (mFz (mTup (mCons (mFz (mC (.int 0))) (mNil))))))) (mCons (mFz (mTup (mNil))) (mNil)))))))))) (oV (mFz (mCall (mf_law_draw cs) (mConsO' (oN 0) (mConsO' (oV (mFz (mC (.int 6)))) (mNilO)))))))) (sNx)) (sSq (sSet 2 4 (mCall (mf_law_draw cs) (mConsO' (oN 0) (mConsO' (oV (mFz (mC (.int 3)))) (mNilO))))) (sSq (sSet 2 5 (mOp2 fIx (oV (mFz (mTup (mCons (mFz (mC (.int 10))) (mCons (mFz (mN 2 1)) (mCons (mFz (mC (.int 3))) (mNil))))))) (oN 4))) (sSq (sSet 2 6 (mOp2 fIx (oV (mFz (mLst (mCons (mFz (mN 2 5)) (mCons (mFz (mOp1 fNeg (oV (mFz (mC (.int 1)))))) (mCons (mFz (mC .non)) (mCons (mFz (mC (.bl true))) (mCons (mFz (mC (.bl false))) (mCons (mFz (mOp2 fAdd (oN 5) (oV (mFz (mCall (mf_law_large cs) (mConsO' (oN 0) (mNilO))))))) (mNil)))))))))) (oV (mFz (mCall (mf_law_draw cs) (mConsO' (oN 0) (mConsO' (oV (mFz (mC (.int 6)))) (mNilO)))))))) (sRet (mOp2 fAdd (oV (mFz (mOp2 fAdd (oV (mFz (mSlice (oN 2) (mPart0) (mPart (mFz (mN 2 4)))))) (oV (mFz (mTup (mCons (mFz (mN 2 6)) (mNil)))))))) (oV (mFz (mSlice (oN 2) (mPart (mFz (mOp2 fAdd (oN 4) (oV (mFz (mC (.int 1))))))) (mPart0)))))))))))
def mf_law_odd_entry (cs : Cs) : MF := bodyRun 7 (m_law_odd_entry cs)
def m_law_spoilt_history (cs : Cs) : MS :=
  sSq (sSet 3 3 (mCall (mf_law_draw cs) (mConsO' (oN 0) (mConsO' (oV (mFz (mC (.int 6)))) (mNilO))))) (sSq (sSet 3 4 (mCall (mf_law_draw cs) (mConsO' (oN 0) (mConsO' (oV (mFz (mOp2 fAdd (oV (mFz (mOp1 fLenU (oN 2)))) (oV (mFz (mC (.int 1))))))) (mNilO))))) (sSq (sIf (mT (mOp2 fEq (oN 3) (oV (mFz (mC (.int 0)))))) (sRet (mOp2 fIx (oV (mFz (mLst (mCons (mFz (mC .non)) (mCons (mFz (mC (.int 0))) (mCons (mFz (mC (.str ""))) (mCons (mFz (mDk0)) (mNil)))))))) (oV (mFz (mCall (mf_law_draw cs) (mConsO' (oN 0) (mConsO' (oV (mFz (mC (.int 4)))) (mNilO)))))))) (sNx)) (sSq (sIf (mAnd (mT (mOp2 fEq (oN 3) (oV (mFz (mC (.int 1)))))) (mT (mOp2 fEq (oV (mFz (mCall (mf_law_draw cs) (mConsO' (oN 0) (mConsO' (oV (mFz (mC (.int 4)))) (mNilO)))))) (oV (mFz (mC (.int 0))))))) (sSq (sSet 3 5 (mOp2 fAdd (oV (mFz (mOp2 fMul2 (oV (mFz (mLst (mCons (mFz (mTup (mCons (mFz (mC (.int 1))) (mCons (mFz (mC (.int 0))) (mCons (mFz (mC (.int 0))) (mNil)))))) (mNil))))) (oV (mFz (mOp2 fSub (oV (mFz (mOp2 fAdd (oV (mFz (mC (.int 400)))) (oV (mFz (mCall (mf_law_draw cs) (mConsO' (oN 0) (mConsO' (oV (mFz (mC (.int 2)))) (mNilO))))))))) (oV (mFz (mOp1 fLenU (oN 2)))))))))) (oN 2))) (sSq (sIf (mT (mOp2 fEq (oV (mFz (mCall (mf_law_draw cs) (mConsO' (oN 0) (mConsO' (oV (mFz (mC (.int 2)))) (mNilO)))))) (oV (mFz (mC (.int 0)))))) (sSetIx 5 (mFz (mC .non)) (mFz (mC (.int 0)))) (sNx)) (sRet (mV 3 5)))) (sNx)) (sRet (mOp2 fAdd (oV (mFz (mOp2 fAdd (oV (mFz (mSlice (oN 2) (mPart0) (mPart (mFz (mN 3 4)))))) (oV (mFz (mLst (mCons (mFz (mCall (mf_law_odd_entry cs) (mConsO' (oN 0) (mConsO' (oV (mFz (mN 3 1))) (mNilO))))) (mNil)))))))) (oV (mFz (mSlice (oN 2) (mPart (mFz (mN 3 4))) (mPart0)))))))))
def mf_law_spoilt_history (cs : Cs) : MF := bodyRun 6 (m_law_spoilt_history cs)
def k_law_parts_told_1 (cs : Cs) : Mo Sl :=
  mComp [3] (iS (mFz (mN 1 0))) (gN 1 3) (mR true) (mFz (mTup (mCons (mFz (mOp2 fIx (oN 3) (oV (mFz (mC (.int 1)))))) (mCons (mFz (mOp2 fIx (oN 3) (oV (mFz (mC (.int 2)))))) (mNil)))))
def k_law_parts_told_2 (cs : Cs) : Mo Sl :=
  mComp [3] (iS (mFz (mN 1 0))) (gN 1 3) (mR true) (mFz (mTup (mCons (mFz (mOp2 fIx (oN 3) (oV (mFz (mC (.int 0)))))) (mCons (mFz (mOp2 fIx (oN 3) (oV (mFz (mC (.int 1)))))) (mNil)))))
def k_law_parts_told_3 (cs : Cs) : Mo Sl :=
  mComp [3] (iS (mFz (mN 1 0))) (gN 1 3) (mT (mOp2 fEq (oV (mFz (mOp2 fIx (oN 3) (oV (mFz (mC (.int 0))))))) (oN 2))) (mFz (mN 1 3))
def k_law_parts_told_4 (cs : Cs) : Mo Sl :=
  mComp [2] (iR1 (mFz (mC (.int 10)))) (gN 1 2) (mT (mOp2 fNe (oV (mFz (k_law_parts_told_3 cs))) (oV (mFz (mLst (mNil)))))) (mFz (mN 1 2))
def k_law_parts_told_5 (cs : Cs) : Mo Sl :=
  mComp [3] (iS (mFz (mN 1 0))) (gN 1 3) (mT (mOp2 fEq (oV (mFz (mOp2 fIx (oN 3) (oV (mFz (mC (.int 0))))))) (oN 2))) (mFz (mOp1 fTuple (oN 3)))
def b_law_parts_told_1 (cs : Cs) : MS :=
  sIf (mNot (mT (mCall (mf_law_exact cs 6) (mConsO' (oV (mFz (mCall (mf_part_of cs) (mConsO' (oV (mFz (mN 1 0))) (mConsO' (oV (mFz (mN 1 2))) (mNilO)))))) (mConsO' (oV (mFz (mOp1 fTuple (oV (mFz (k_law_parts_told_5 cs)))))) (mNilO)))))) (sRet (mC (.bl false))) (sNx)
def l_law_parts_told_1 (cs : Cs) : MS :=
  sFor (iR1 (mFz (mC (.int 10)))) (gN 1 2) (b_law_parts_told_1 cs)
def m_law_parts_told (cs : Cs) : MS :=
  sSq (sIf (mNot (mT (mCall (mf_law_exact cs 6) (mConsO' (oV (mFz (mCall (mf_calls_of cs) (mConsO' (oV (mFz (mN 1 0))) (mNilO))))) (mConsO' (oV (mFz (mOp1 fTuple (oV (mFz (k_law_parts_told_1 cs)))))) (mNilO)))))) (sRet (mC (.bl false))) (sNx)) (sSq (sIf (mNot (mT (mCall (mf_law_exact cs 6) (mConsO' (oV (mFz (mCall (mf_asks_made cs) (mConsO' (oV (mFz (mN 1 0))) (mNilO))))) (mConsO' (oV (mFz (mOp1 fTuple (oV (mFz (k_law_parts_told_2 cs)))))) (mNilO)))))) (sRet (mC (.bl false))) (sNx)) (sSq (sSet 1 1 (k_law_parts_told_4 cs)) (sSq (sIf (mNot (mT (mCall (mf_law_exact cs 6) (mConsO' (oV (mFz (mCall (mf_hands_of cs) (mConsO' (oV (mFz (mN 1 0))) (mNilO))))) (mConsO' (oV (mFz (mOp1 fTuple (oN 1)))) (mNilO)))))) (sRet (mC (.bl false))) (sNx)) (sSq (l_law_parts_told_1 cs) (sRet (mC (.bl true)))))))
def mf_law_parts_told (cs : Cs) : MF := bodyRun 4 (m_law_parts_told cs)
def m_law_beside (cs : Cs) : MS :=
  sSq (sTryN (sSet 2 2 (mCall (mf_beside cs) (mConsO' (oV (mFz (mN 2 0))) (mConsO' (oV (mFz (mN 2 1))) (mNilO))))) [(fun A => cs.exB A cs.TooMany, some 3, xRet (xF [cs.TooMany] "most"))]) (sRet (mTup (mCons (mFz (mOp1 (fFld cs.Book "states") (oN 2))) (mCons (mFz (mOp1 (fFld cs.Book "calls") (oN 2))) (mCons (mFz (mOp1 (fFld cs.Book "ways") (oN 2))) (mNil))))))
def mf_law_beside (cs : Cs) : MF := bodyRun 4 (m_law_beside cs)
def m_law_beside_refused (cs : Cs) : MS :=
  sSq (sTryN (sDrop (mCall (mf_parted_history cs) (mConsO' (oV (mFz (mN 3 0))) (mConsO' (oV (mFz (mN 3 1))) (mConsO' (oV (mFz (mN 3 2))) (mNilO)))))) [(fun A => cs.exB A cs.TooMany, some 3, xRetL (xCons (fun _ _ => some (.str "many")) (xCons (xF [cs.TooMany] "most") xNil))), (fun A => cs.exB A cs.BadHistory, some 3, xRetL (xCons (fun _ _ => some (.str "bad")) (xCons (xF [cs.BadHistory] "index") xNil)))]) (sRet (mC (.str "let")))
def mf_law_beside_refused (cs : Cs) : MF := bodyRun 4 (m_law_beside_refused cs)
def m_law_beside_due (cs : Cs) : MS :=
  sSq (sIf (mT (mOp2 fGt (oV (mFz (mOp2 fMul2 (oV (mFz (mOp2 fIx (oN 0) (oV (mFz (mC (.int 0))))))) (oV (mFz (mOp2 fIx (oN 1) (oV (mFz (mC (.int 0)))))))))) (oV (mFz (mC (.int 6)))))) (sRet (mC (.int 6))) (sNx)) (sSq (sIf (mT (mOp2 fGt (oV (mFz (mOp2 fAdd (oV (mFz (mOp2 fIx (oN 0) (oV (mFz (mC (.int 1))))))) (oV (mFz (mOp2 fIx (oN 1) (oV (mFz (mC (.int 1)))))))))) (oV (mFz (mC (.int 4)))))) (sRet (mC (.int 4))) (sNx)) (sSq (sSet 2 2 (mCall (mf_law_couple_ways cs) (mConsO' (oV (mFz (mOp2 fIx (oN 0) (oV (mFz (mC (.int 0))))))) (mConsO' (oV (mFz (mOp2 fIx (oN 0) (oV (mFz (mC (.int 1))))))) (mConsO' (oV (mFz (mOp2 fIx (oN 0) (oV (mFz (mC (.int 2))))))) (mConsO' (oV (mFz (mOp2 fIx (oN 1) (oV (mFz (mC (.int 0))))))) (mConsO' (oV (mFz (mOp2 fIx (oN 1) (oV (mFz (mC (.int 1))))))) (mConsO' (oV (mFz (mOp2 fIx (oN 1) (oV (mFz (mC (.int 2))))))) (mNilO))))))))) (sRet (mTup (mCons (mFz (mOp2 fMul2 (oV (mFz (mOp2 fIx (oN 0) (oV (mFz (mC (.int 0))))))) (oV (mFz (mOp2 fIx (oN 1) (oV (mFz (mC (.int 0))))))))) (mCons (mFz (mOp2 fAdd (oV (mFz (mOp2 fIx (oN 0) (oV (mFz (mC (.int 1))))))) (oV (mFz (mOp2 fIx (oN 1) (oV (mFz (mC (.int 1))))))))) (mCons (mFz (mN 2 2)) (mNil))))))))
def mf_law_beside_due (cs : Cs) : MF := bodyRun 3 (m_law_beside_due cs)
def k_law_parting_1 (cs : Cs) : Mo Sl :=
  mComp [14] (iS (mFz (mN 6 7))) (gN 6 14) (mT (mOp2 fLt (oV (mFz (mOp2 fIx (oN 14) (oV (mFz (mC (.int 1))))))) (oV (mFz (mOp2 fIx (oN 3) (oV (mFz (mC (.int 1))))))))) (mFz (mN 6 14))
def k_law_parting_2 (cs : Cs) : Mo Sl :=
  mComp [14] (iS (mFz (mN 6 7))) (gN 6 14) (mT (mOp2 fGe (oV (mFz (mOp2 fIx (oN 14) (oV (mFz (mC (.int 1))))))) (oV (mFz (mOp2 fIx (oN 3) (oV (mFz (mC (.int 1))))))))) (mFz (mTup (mCons (mFz (mOp2 fIx (oN 14) (oV (mFz (mC (.int 0)))))) (mCons (mFz (mOp2 fSub (oV (mFz (mOp2 fIx (oN 14) (oV (mFz (mC (.int 1))))))) (oV (mFz (mOp2 fIx (oN 3) (oV (mFz (mC (.int 1))))))))) (mCons (mFz (mOp2 fIx (oN 14) (oV (mFz (mC (.int 2)))))) (mNil))))))
def k_law_parting_3 (cs : Cs) : Mo Sl :=
  mComp [14] (iS (mFz (mN 6 7))) (gN 6 14) (mR true) (mFz (mOp1 fList (oN 14)))
def k_law_parting_4 (cs : Cs) : Mo Sl :=
  mComp [14] (iS (mFz (mN 6 8))) (gN 6 14) (mR true) (mFz (mTup (mCons (mFz (mOp2 fIx (oN 14) (oV (mFz (mC (.int 1)))))) (mCons (mFz (mOp2 fIx (oN 14) (oV (mFz (mC (.int 2)))))) (mNil)))))
def k_law_parting_5 (cs : Cs) : Mo Sl :=
  mComp [14] (iS (mFz (mN 6 9))) (gN 6 14) (mR true) (mFz (mTup (mCons (mFz (mOp2 fIx (oN 14) (oV (mFz (mC (.int 1)))))) (mCons (mFz (mOp2 fIx (oN 14) (oV (mFz (mC (.int 2)))))) (mNil)))))
def m_law_parting (cs : Cs) : MS :=
  sSq (sSet 6 6 (mMake cs.Book (mf_Book___init__ cs) (mConsO' (oV (mFz (mOp2 fIx (oN 5) (oV (mFz (mC (.int 0))))))) (mConsO' (oV (mFz (mOp2 fIx (oN 5) (oV (mFz (mC (.int 1))))))) (mConsO' (oV (mFz (mOp1 fList (oV (mFz (mOp2 fIx (oN 5) (oV (mFz (mC (.int 2)))))))))) (mNilO)))))) (sSq (sSet 6 7 (mCall (mf_law_entries cs) (mConsO' (oN 0) (mConsO' (oV (mFz (mOp2 fIx (oN 5) (oV (mFz (mC (.int 1))))))) (mConsO' (oV (mFz (mC (.int 12)))) (mNilO)))))) (sSq (sIf (mT (mOp2 fEq (oV (mFz (mCall (mf_law_draw cs) (mConsO' (oN 0) (mConsO' (oV (mFz (mC (.int 2)))) (mNilO)))))) (oV (mFz (mC (.int 0)))))) (sSet 6 7 (mOp1 fList (oV (mFz (mCall (mf_law_past cs) (mConsO' (oN 0) (mConsO' (oV (mFz (mOp2 fIx (oN 5) (oV (mFz (mC (.int 1))))))) (mConsO' (oV (mFz (mOp2 fIx (oN 5) (oV (mFz (mC (.int 2))))))) (mConsO' (oV (mFz (mC (.int 12)))) (mNilO)))))))))) (sNx)) (sSq (sSet 6 8 (mOp1 fTuple (oV (mFz (k_law_parting_1 cs))))) (sSq (sSet 6 9 (mOp1 fTuple (oV (mFz (k_law_parting_2 cs))))) (sSq (sSet 6 10 (mCall (mf_parted_history cs) (mConsO' (oV (mFz (mN 6 1))) (mConsO' (oV (mFz (mN 6 2))) (mConsO' (oV (mFz (k_law_parting_3 cs))) (mNilO)))))) (sSq (sIf (mNot (mT (mCall (mf_law_exact cs 6) (mConsO' (oV (mFz (mN 6 10))) (mConsO' (oV (mFz (mTup (mCons (mFz (mN 6 8)) (mCons (mFz (mN 6 9)) (mNil)))))) (mNilO)))))) (sRet (mC (.bl false))) (sNx)) (sSq (sSet 6 11 (mOp2 fNe (oV (mFz (mCall (mf_law_stand cs) (mConsO' (oV (mFz (mOp2 fIx (oN 3) (oV (mFz (mC (.int 2))))))) (mConsO' (oV (mFz (mTup (mCons (mFz (mC (.int 0))) (mNil))))) (mConsO' (oV (mFz (k_law_parting_4 cs))) (mNilO))))))) (oV (mFz (mTup (mNil)))))) (sSq (sSet 6 12 (mOp2 fNe (oV (mFz (mCall (mf_law_stand cs) (mConsO' (oV (mFz (mOp2 fIx (oN 4) (oV (mFz (mC (.int 2))))))) (mConsO' (oV (mFz (mTup (mCons (mFz (mC (.int 0))) (mNil))))) (mConsO' (oV (mFz (k_law_parting_5 cs))) (mNilO))))))) (oV (mFz (mTup (mNil)))))) (sSq (sSet 6 13 (mAndV (mN 6 11) (mN 6 12))) (sSq (sIf (mOr (mNot (mT (mCall (mf_law_exact cs 6) (mConsO' (oV (mFz (mCall (mf_is_right cs) (mConsO' (oV (mFz (mN 6 6))) (mConsO' (oV (mFz (mN 6 7))) (mNilO)))))) (mConsO' (oV (mFz (mN 6 13))) (mNilO)))))) (mNot (mT (mCall (mf_law_exact cs 6) (mConsO' (oV (mFz (mCall (mf_is_right cs) (mConsO' (oV (mFz (mN 6 1))) (mConsO' (oV (mFz (mN 6 8))) (mNilO)))))) (mConsO' (oV (mFz (mN 6 11))) (mNilO))))))) (sRet (mC (.bl false))) (sNx)) (sRet (mAndV (mCall (mf_law_exact cs 6) (mConsO' (oV (mFz (mCall (mf_is_right cs) (mConsO' (oV (mFz (mN 6 2))) (mConsO' (oV (mFz (mN 6 9))) (mNilO)))))) (mConsO' (oV (mFz (mN 6 12))) (mNilO)))) (mCall (mf_law_exact cs 6) (mConsO' (oV (mFz (mCall (mf_is_right cs) (mConsO' (oV (mFz (mCall (mf_beside cs) (mConsO' (oV (mFz (mN 6 1))) (mConsO' (oV (mFz (mN 6 2))) (mNilO)))))) (mConsO' (oV (mFz (mOp1 fTuple (oN 7)))) (mNilO)))))) (mConsO' (oV (mFz (mN 6 13))) (mNilO))))))))))))))))
def mf_law_parting (cs : Cs) : MF := bodyRun 15 (m_law_parting cs)
def k_law_1 (cs : Cs) : Mo Sl :=
  mComp [13] (iS (mFz (mN 1 6))) (gN 1 13) (mR true) (mFz (mOp1 fList (oN 13)))
def k_law_2 (cs : Cs) : Mo Sl :=
  mComp [13] (iS (mFz (mN 1 6))) (gN 1 13) (mR true) (mFz (mOp1 fList (oN 13)))
def b_law_1 (cs : Cs) : MS :=
  sSq (sSet 1 9 (mCall (mf_law_spoilt_history cs) (mConsO' (oN 1) (mConsO' (oV (mFz (mOp2 fIx (oN 2) (oV (mFz (mC (.int 1))))))) (mConsO' (oV (mFz (mN 1 6))) (mNilO)))))) (sIf (mNot (mT (mCall (mf_law_same cs) (mConsO' (oV (mFz (mCall (mf_law_checked cs) (mConsO' (oV (mFz (mN 1 4))) (mConsO' (oV (mFz (mN 1 9))) (mNilO)))))) (mConsO' (oV (mFz (mCall (mf_law_due_check cs) (mConsO' (oV (mFz (mOp2 fIx (oN 2) (oV (mFz (mC (.int 1))))))) (mConsO' (oV (mFz (mN 1 9))) (mNilO)))))) (mNilO)))))) (sRet (mC (.bl false))) (sNx))
def l_law_1 (cs : Cs) : MS :=
  sFor (iR1 (mFz (mC (.int 3)))) (gN 1 8) (b_law_1 cs)
def m_law (cs : Cs) : MS :=
  sSq (sSet 1 1 (mCall (mf_law_hand cs) (mConsO' (oV (mFz (mN 1 0))) (mNilO)))) (sSq (sSet 1 2 (mCall (mf_law_large_book cs) (mConsO' (oN 1) (mNilO)))) (sSq (sSet 1 3 (mCall (mf_law_large_book cs) (mConsO' (oN 1) (mNilO)))) (sSq (sIf (mT (mOp2 fEq (oV (mFz (mCall (mf_law_draw cs) (mConsO' (oN 1) (mConsO' (oV (mFz (mC (.int 2)))) (mNilO)))))) (oV (mFz (mC (.int 0)))))) (sTgt (gTq 2 (gCn (gN 1 2) (gCn (gN 1 3) (gNl)))) (mFz (mCall (mf_law_two_books cs) (mConsO' (oN 1) (mNilO))))) (sNx)) (sSq (sSet 1 4 (mMake cs.Book (mf_Book___init__ cs) (mConsO' (oV (mFz (mOp2 fIx (oN 2) (oV (mFz (mC (.int 0))))))) (mConsO' (oV (mFz (mOp2 fIx (oN 2) (oV (mFz (mC (.int 1))))))) (mConsO' (oV (mFz (mOp1 fList (oV (mFz (mOp2 fIx (oN 2) (oV (mFz (mC (.int 2)))))))))) (mNilO)))))) (sSq (sSet 1 5 (mMake cs.Book (mf_Book___init__ cs) (mConsO' (oV (mFz (mOp2 fIx (oN 3) (oV (mFz (mC (.int 0))))))) (mConsO' (oV (mFz (mOp2 fIx (oN 3) (oV (mFz (mC (.int 1))))))) (mConsO' (oV (mFz (mOp1 fList (oV (mFz (mOp2 fIx (oN 3) (oV (mFz (mC (.int 2)))))))))) (mNilO)))))) (sSq (sSet 1 6 (mCall (mf_law_entries cs) (mConsO' (oN 1) (mConsO' (oV (mFz (mOp2 fIx (oN 2) (oV (mFz (mC (.int 1))))))) (mConsO' (oV (mFz (mC (.int 30)))) (mNilO)))))) (sSq (sSet 1 7 (k_law_1 cs)) (sSq (sIf (mOr (mNot (mT (mCall (mf_law_same cs) (mConsO' (oV (mFz (mCall (mf_law_checked cs) (mConsO' (oV (mFz (mN 1 4))) (mConsO' (oV (mFz (mN 1 7))) (mNilO)))))) (mConsO' (oV (mFz (mOp1 fTuple (oN 6)))) (mNilO)))))) (mT (mOp2 fNe (oN 7) (oV (mFz (k_law_2 cs)))))) (sRet (mC (.bl false))) (sNx)) (sSq (sIf (mOr (mNot (mT (mCall (mf_law_same cs) (mConsO' (oV (mFz (mCall (mf_law_checked cs) (mConsO' (oV (mFz (mN 1 4))) (mConsO' (oV (mFz (mOp1 fTuple (oN 6)))) (mNilO)))))) (mConsO' (oV (mFz (mOp1 fTuple (oN 6)))) (mNilO)))))) (mOr (mNot (mT (mCall (mf_law_parts_told cs) (mConsO' (oV (mFz (mN 1 6))) (mNilO))))) (mNot (mT (mCall (mf_law_parts_told cs) (mConsO' (oV (mFz (mN 1 7))) (mNilO))))))) (sRet (mC (.bl false))) (sNx)) (sSq (l_law_1 cs) (sSq (sSet 1 10 (mCall (mf_law_beside_due cs) (mConsO' (oV (mFz (mN 1 2))) (mConsO' (oV (mFz (mN 1 3))) (mNilO))))) (sSq (sSet 1 11 (mCall (mf_law_beside cs) (mConsO' (oV (mFz (mN 1 4))) (mConsO' (oV (mFz (mN 1 5))) (mNilO))))) (sSq (sSet 1 9 (mCall (mf_law_spoilt_history cs) (mConsO' (oN 1) (mConsO' (oV (mFz (mC (.int 4)))) (mConsO' (oV (mFz (mN 1 6))) (mNilO)))))) (sSq (sIf (mT (mOp1 (fIsi [.int]) (oN 10))) (sRet (mAndV (mOp1 (fIsi [.int]) (oN 11)) (mAndV (mOp2 fEq (oN 11) (oN 10)) (mOp2 fEq (oV (mFz (mCall (mf_law_beside_refused cs) (mConsO' (oV (mFz (mN 1 4))) (mConsO' (oV (mFz (mN 1 5))) (mConsO' (oV (mFz (mN 1 9))) (mNilO))))))) (oV (mFz (mLst (mCons (mFz (mC (.str "many"))) (mCons (mFz (mN 1 10)) (mNil)))))))))) (sNx)) (sSq (sIf (mOr (mNot (mT (mCall (mf_law_exact cs 6) (mConsO' (oV (mFz (mN 1 11))) (mConsO' (oV (mFz (mN 1 10))) (mNilO)))))) (mNot (mT (mCall (mf_law_parting cs) (mConsO' (oN 1) (mConsO' (oV (mFz (mN 1 4))) (mConsO' (oV (mFz (mN 1 5))) (mConsO' (oV (mFz (mN 1 2))) (mConsO' (oV (mFz (mN 1 3))) (mConsO' (oV (mFz (mN 1 10))) (mNilO))))))))))) (sRet (mC (.bl false))) (sNx)) (sSq (sSet 1 12 (mCall (mf_law_due_check cs) (mConsO' (oV (mFz (mOp2 fIx (oN 10) (oV (mFz (mC (.int 1))))))) (mConsO' (oV (mFz (mN 1 9))) (mNilO))))) (sRet (mOp2 fEq (oV (mFz (mCall (mf_law_beside_refused cs) (mConsO' (oV (mFz (mN 1 4))) (mConsO' (oV (mFz (mN 1 5))) (mConsO' (oV (mFz (mN 1 9))) (mNilO))))))) (oV (mFz (mIf (mT (mOp1 (fIsi [.list]) (oN 12))) (mN 1 12) (mC (.str "let")))))))))))))))))))))))
def mf_law (cs : Cs) : MF := bodyRun 14 (m_law cs)
end K02

set_option linter.all false
set_option maxRecDepth 100000
set_option maxHeartbeats 4000000
set_option pp.maxSteps 900
/-! Q2: loops that fold, rows of rgI, sorting, gathering. -/
namespace VS
open PySem L2
open PySem.PyData (strOk)

/-! ### statements -/
theorem sSq_nx {a b : MS} {e e1 : Fr} (h : a e = .nx e1) : sSq a b e = b e1 := by unfold sSq; rw [h]
theorem sSq_ret {a b : MS} {e e1 : Fr} {s : Sl} (h : a e = .ret s e1) : sSq a b e = .ret s e1 := by unfold sSq; rw [h]
theorem sSq_exc {a b : MS} {e e1 : Fr} {C : Addr} {xs : List (Str × PV)} (h : a e = .exc C xs e1) : sSq a b e = .exc C xs e1 := by unfold sSq; rw [h]
theorem body_ret {N : Nat} {m : MS} {as : List Sl} {s : Sl} {e : Fr} (h : m (as ++ List.replicate (N - as.length) .un) = .ret s e) : bodyRun N m as = .ret s (outA as e) := by unfold bodyRun; rw [h]
theorem body_nx {N : Nat} {m : MS} {as : List Sl} {e : Fr} (h : m (as ++ List.replicate (N - as.length) .un) = .nx e) : bodyRun N m as = .ret (.fz .non) (outA as e) := by unfold bodyRun; rw [h]
theorem body_exc {N : Nat} {m : MS} {as : List Sl} {e : Fr} {C : Addr} {xs : List (Str × PV)} (h : m (as ++ List.replicate (N - as.length) .un) = .exc C xs e) : bodyRun N m as = .exc C xs (outA as e) := by unfold bodyRun; rw [h]
theorem sIf_true {t : Mo Bool} {a b : MS} {e e1 : Fr} (h : t e = .ok true e1) : sIf t a b e = a e1 := by
  unfold sIf mS; rw [h]; rfl
theorem sIf_false {t : Mo Bool} {a b : MS} {e e1 : Fr} (h : t e = .ok false e1) : sIf t a b e = b e1 := by
  unfold sIf mS; rw [h]; rfl
/-! ### loops -/
theorem forRun_nil {g : MG} {mb : MS} {e : Fr} : forRun g mb [] e = .nx e := rfl
theorem forRun_go {g : MG} {mb : MS} {d : PV} {ds : List PV} {e e1 e2 : Fr} (h1 : g d e = some e1) (h2 : mb e1 = .nx e2) : forRun g mb (d :: ds) e = forRun g mb ds e2 := by
  conv => lhs; unfold forRun
  rw [h1]; simp only [h2]
theorem forRun_ret {g : MG} {mb : MS} {d : PV} {ds : List PV} {e e1 e2 : Fr} {s : Sl} (h1 : g d e = some e1) (h2 : mb e1 = .ret s e2) : forRun g mb (d :: ds) e = .ret s e2 := by
  unfold forRun
  rw [h1]; simp only [h2]
theorem forRun_exc {g : MG} {mb : MS} {d : PV} {ds : List PV} {e e1 e2 : Fr} {C : Addr} {xs : List (Str × PV)} (h1 : g d e = some e1) (h2 : mb e1 = .exc C xs e2) : forRun g mb (d :: ds) e = .exc C xs e2 := by
  unfold forRun
  rw [h1]; simp only [h2]
theorem forRun_brk {g : MG} {mb : MS} {d : PV} {ds : List PV} {e e1 e2 : Fr} (h1 : g d e = some e1) (h2 : mb e1 = .brk e2) : forRun g mb (d :: ds) e = .nx e2 := by
  unfold forRun
  rw [h1]; simp only [h2]
/-- a loop that folds: F tells the slots of a state -/
theorem forRun_fold {σ : Type} (F : σ → Fr) (step : σ → PV → σ) (I : σ → Prop) {g : MG} {mb : MS} : ∀ (ds : List PV) (s : σ), I s →
    (∀ s d, d ∈ ds → I s → ∃ e1, g d (F s) = some e1 ∧ mb e1 = .nx (F (step s d)) ∧ I (step s d)) → forRun g mb ds (F s) = .nx (F (ds.foldl step s)) ∧ I (ds.foldl step s)
  | [], s, h, _ => ⟨rfl, h⟩
  | d :: ds, s, h, k => by
    obtain ⟨e1, h1, h2, h3⟩ := k s d List.mem_cons_self h
    rw [forRun_go h1 h2]
    exact forRun_fold F step I ds _ h3 fun s d hd hs => k s d (List.mem_cons_of_mem _ hd) hs
def lastS : Sl → List PV → Sl
  | j, [] => j
  | _, d :: ds => lastS (.fz d) ds
/-- a loop that only looks -/
theorem forRun_look (F : Sl → Fr) {g : MG} {mb : MS} : ∀ (ds : List PV) (j : Sl), (∀ d ∈ ds, ∀ j, ∃ e1, g d (F j) = some e1 ∧ mb e1 = .nx (F (.fz d))) → forRun g mb ds (F j) = .nx (F (lastS j ds))
  | [], j, _ => rfl
  | d :: ds, j, h => by
    obtain ⟨e1, h1, h2⟩ := h d List.mem_cons_self j
    rw [forRun_go h1 h2]
    exact forRun_look F ds _ fun d hd => h d (List.mem_cons_of_mem _ hd)
/-- .. up to what ends it -/
theorem forRun_end (F : Sl → Fr) {g : MG} {mb : MS} {o : OutS} (ho : ∀ {d ds e e1}, g d e = some e1 → mb e1 = o → forRun g mb (d :: ds) e = o) {d : PV} {b : List PV} : ∀ (a : List PV) (j : Sl), (∀ d ∈ a, ∀ j, ∃ e1, g d (F j) = some e1 ∧ mb e1 = .nx (F (.fz d))) →
    (∀ j, ∃ e1, g d (F j) = some e1 ∧ mb e1 = o) → forRun g mb (a ++ d :: b) (F j) = o
  | [], j, _, k => by
    obtain ⟨e1, h1, h2⟩ := k j
    exact ho h1 h2
  | x :: a, j, h, k => by
    obtain ⟨e1, h1, h2⟩ := h x List.mem_cons_self j
    rw [List.cons_append, forRun_go h1 h2]
    exact forRun_end F ho a _ (fun d hd => h d (List.mem_cons_of_mem _ hd)) k
/-- the first that fails -/
theorem split_first {α : Type} (p : α → Bool) : ∀ l : List α, (∀ x ∈ l, p x = true) ∨ ∃ a x b, l = a ++ x :: b ∧ (∀ y ∈ a, p y = true) ∧ p x = false
  | [] => .inl nofun
  | x :: l => by
    cases h : p x with
    | false => exact .inr ⟨[], x, l, rfl, nofun, h⟩
    | true =>
      rcases split_first p l with k | ⟨a, y, b, rfl, k1, k2⟩
      · exact .inl fun z hz => by
          rcases List.mem_cons.1 hz with rfl | hz
          · exact h
          · exact k z hz
      · exact .inr ⟨x :: a, y, b, rfl, fun z hz => by
          rcases List.mem_cons.1 hz with rfl | hz
          · exact h
          · exact k1 z hz, k2⟩
/-! ### comprehensions into a dict -/
theorem compRunD_map {vs : List Nat} {g : MG} {mt : Mo Bool} {mk mv : Mo PV} {e : Fr} (f : PV → PV × PV) : ∀ (ds : List PV) (acc : List (PV × PV)) {dd : List (List Key × PV)},
    (∀ d ∈ ds, ∃ e1 e2 e3 e4, g d e = some e1 ∧ mt e1 = .ok true e2 ∧ mk e2 = .ok (f d).1 e3 ∧ mv e3 = .ok (f d).2 e4 ∧ wipeE e4 vs = e) → acc.length + ds.length ≤ 16777216 → gathT (acc ++ ds.map f) = some dd →
    compRunD vs g mt mk mv ds acc e = .ok (.own (.dt dd)) e
  | [], acc, dd, _, _, hg => by
    unfold compRunD
    rw [List.map_nil, List.append_nil] at hg
    rw [hg]
  | d :: ds, acc, dd, h, hl, hg => by
    obtain ⟨e1, e2, e3, e4, h1, h2, h3, h4, h5⟩ := h d List.mem_cons_self
    unfold compRunD
    rw [h1]; dsimp only
    rw [h2]; dsimp only
    rw [h3]; dsimp only
    rw [h4]; dsimp only
    rw [List.map_cons, List.append_cons] at hg
    obtain ⟨d', hd'⟩ := gath_pre hg
    rw [if_pos ⟨by rw [List.length_cons] at hl; rw [sizeLine_eq]; omega, by rw [show ((f d).1, (f d).2) = f d from rfl, hd']; rfl⟩, h5]
    exact compRunD_map f ds _ (fun d hd => h d (List.mem_cons_of_mem _ hd)) (by simp at hl ⊢; omega) hg
@[simp] theorem mDct_ap {e : Fr} (vs : List Nat) (mi : Mo (List PV)) (g : MG) (mt : Mo Bool) (mk mv : Mo PV) : mDct vs mi g mt mk mv e = match mi e with
  | .ok ds e' => compRunD vs g mt mk mv ds [] (wipeE e' vs)
  | .exc C ds e' => .exc C ds e'
  | .stuck => .stuck := by
  unfold mDct mB
  cases mi e <;> rfl
@[simp] theorem mSetS_ap {e : Fr} (f : List PV → Option Sl) (vs : List Nat) (mi : Mo (List PV)) (g : MG) (mt : Mo Bool) (me : Mo PV) : mSetS f vs mi g mt me e = match mi e with
  | .ok ds e' => finS f (compRun vs g mt me ds [] (wipeE e' vs))
  | .exc C ds e' => .exc C ds e'
  | .stuck => .stuck := by
  unfold mSetS mB
  cases mi e <;> rfl
@[simp] theorem finS_ok {e : Fr} (f : List PV → Option Sl) (a : List PV) : finS f (.ok (.own (.lst a)) e) = sl? (f a) e := rfl
/-! ### counting -/
theorem nodup_le {α : Type} [DecidableEq α] : ∀ {l D : List α}, l.Nodup → (∀ x ∈ l, x ∈ D) → l.length ≤ D.length
  | [], _, _, _ => Nat.zero_le _
  | x :: l, D, h, k => by
    rw [List.nodup_cons] at h
    have hx : x ∈ D := k x List.mem_cons_self
    have h2 : ∀ y ∈ l, y ∈ D.erase x := fun y hy => (List.mem_erase_of_ne (fun e => h.1 (by rw [← e]; exact hy))).2 (k y (List.mem_cons_of_mem _ hy))
    have := nodup_le h.2 h2
    rw [List.length_erase_of_mem hx] at this
    have : 0 < D.length := List.length_pos_of_mem hx
    rw [List.length_cons]; omega
theorem nub_len_le {α : Type} [DecidableEq α] {ns D : List α} (h : ∀ k ∈ ns, k ∈ D) : (nubL ns).length ≤ D.length := nodup_le (nodup_nub ns) fun k hk => h k (mem_nub.1 hk)
theorem nub_len_ge {α : Type} [DecidableEq α] {ns D : List α} (hD : D.Nodup) (h : ∀ k ∈ D, k ∈ ns) : D.length ≤ (nubL ns).length := nodup_le hD fun k hk => mem_nub.2 (h k hk)
def rgI (n : Nat) : List Int := (List.range n).map fun (k : Nat) => (k : Int)
theorem mem_rgI {n : Nat} {k : Int} : k ∈ rgI n ↔ 0 ≤ k ∧ k < n := by
  unfold rgI
  rw [List.mem_map]
  constructor
  · rintro ⟨a, ha, rfl⟩
    have := List.mem_range.1 ha
    omega
  · rintro ⟨h1, h2⟩
    exact ⟨k.toNat, List.mem_range.2 (by omega), by omega⟩
theorem rgI_len (n : Nat) : (rgI n).length = n := by simp [rgI]
theorem rgI_nodup (n : Nat) : (rgI n).Nodup := by
  unfold rgI List.Nodup
  rw [List.pairwise_map]
  exact List.nodup_range.imp fun h => by omega
theorem rangeL_rgI (n : Nat) : rangeL 0 (n : Int) = (rgI n).map .int := by
  rw [rangeL_0]; unfold rgI; rw [List.map_map]; rfl
theorem nub_few {ns : List Int} {hi : Nat} (h : ∀ k ∈ ns, 0 ≤ k ∧ k < hi) : (nubL ns).length ≤ hi := by
  have := nub_len_le (D := rgI hi) fun k hk => mem_rgI.2 (h k hk)
  rwa [rgI_len] at this
theorem fSetI_ok {ns : List Int} (h : (nubL ns).length < 64) : fSetI (ns.map .int) = some (.own (.lst ((sortI ns).map .int))) := by
  unfold fSetI
  rw [allI_map]; dsimp only
  rw [if_pos h]
/-! ### rows of rgI -/
def tI (ns : List Int) : PV := .tup (ns.map .int)
def lI (ns : List Int) : PV := .lst (ns.map .int)
theorem OkN.intsD {n : Nat} (ns : List Int) : ∀ d ∈ ns.map PV.int, OkN n d := fun d hd => by
  obtain ⟨x, _, rfl⟩ := List.mem_map.1 hd
  exact .int x
theorem okN_tI {n : Nat} (ns : List Int) : OkN (n + 1) (tI ns) := .tup (.intsD ns)
theorem okN_lI {n : Nat} (ns : List Int) : OkN (n + 1) (lI ns) := .lst (.intsD ns)
theorem okN_tIs {n : Nat} (xs : List (List Int)) : ∀ d ∈ xs.map tI, OkN (n + 1) d := fun d hd => by
  obtain ⟨x, _, rfl⟩ := List.mem_map.1 hd
  exact okN_tI x
theorem okN_lIs {n : Nat} (xs : List (List Int)) : ∀ d ∈ xs.map lI, OkN (n + 1) d := fun d hd => by
  obtain ⟨x, _, rfl⟩ := List.mem_map.1 hd
  exact okN_lI x
@[simp] theorem okD_tI (ns : List Int) : okD (tI ns) = true := (okN_tI (n := 0) ns).okD (by decide)
@[simp] theorem okD_lI (ns : List Int) : okD (lI ns) = true := (okN_lI (n := 0) ns).okD (by decide)
@[simp] theorem okD_tT (xs : List (List Int)) : okD (.tup (xs.map tI)) = true := (OkN.tup (okN_tIs (n := 0) xs)).okD (by decide)
@[simp] theorem okD_lT (xs : List (List Int)) : okD (.lst (xs.map tI)) = true := (OkN.lst (okN_tIs (n := 0) xs)).okD (by decide)
@[simp] theorem okD_lL (xs : List (List Int)) : okD (.lst (xs.map lI)) = true := (OkN.lst (okN_lIs (n := 0) xs)).okD (by decide)
@[simp] theorem okD_tupI (xs : List Int) : okD (.tup (xs.map .int)) = true := okD_tI xs
@[simp] theorem okD_lstI (xs : List Int) : okD (.lst (xs.map .int)) = true := okD_lI xs
@[simp] theorem okD_kI (xs : List Int) : okD (.ktp (xs.map .int)) = true := okD_tI xs
theorem eqvAll_ints : ∀ (a b : List Int), PyData.eqvAll (toDs (a.map .int)) (toDs (b.map .int)) = decide (a = b)
  | [], [] => by simp [toDs, PyData.eqvAll]
  | [], y :: b => by simp [toDs, PyData.eqvAll]
  | x :: a, [] => by simp [toDs, PyData.eqvAll]
  | x :: a, y :: b => by
    rw [List.map_cons, List.map_cons, toDs, toDs, PyData.eqvAll, eqv_int, eqvAll_ints a b]
    by_cases h : x = y <;> simp [h]
theorem eqv_tI (a b : List Int) : PyData.eqv (tI a).toD (tI b).toD = decide (a = b) := by
  show PyData.eqv (.tuple (toDs (a.map .int))) (.tuple (toDs (b.map .int))) = _
  rw [PyData.eqv, eqvAll_ints]
theorem eqv_lI (a b : List Int) : PyData.eqv (lI a).toD (lI b).toD = decide (a = b) := by
  show PyData.eqv (.list (toDs (a.map .int))) (.list (toDs (b.map .int))) = _
  rw [PyData.eqv, eqvAll_ints]
theorem eqvAll_map {α : Type} [DecidableEq α] (f : α → PV) (h : ∀ a b, PyData.eqv (f a).toD (f b).toD = decide (a = b)) : ∀ (a b : List α), PyData.eqvAll (toDs (a.map f)) (toDs (b.map f)) = decide (a = b)
  | [], [] => by simp [toDs, PyData.eqvAll]
  | [], y :: b => by simp [toDs, PyData.eqvAll]
  | x :: a, [] => by simp [toDs, PyData.eqvAll]
  | x :: a, y :: b => by
    rw [List.map_cons, List.map_cons, toDs, toDs, PyData.eqvAll, h, eqvAll_map f h a b]
    by_cases e : x = y <;> simp [e]
@[simp] theorem fEq_tI (a b : List Int) : fEq (tI a) (tI b) = some (.fz (.bl (decide (a = b)))) := by simp [fEq, eqv_tI]
@[simp] theorem fNe_tI (a b : List Int) : fNe (tI a) (tI b) = some (.fz (.bl (!decide (a = b)))) := by simp [fNe, eqv_tI]
@[simp] theorem fEq_tupI (a b : List Int) : fEq (.tup (a.map .int)) (.tup (b.map .int)) = some (.fz (.bl (decide (a = b)))) := fEq_tI a b
@[simp] theorem fNe_tupI (a b : List Int) : fNe (.tup (a.map .int)) (.tup (b.map .int)) = some (.fz (.bl (!decide (a = b)))) := fNe_tI a b
theorem inD_map {α : Type} [DecidableEq α] (f : α → PV) (h : ∀ a b, PyData.eqv (f a).toD (f b).toD = decide (a = b)) (x : α) (xs : List α) : inD (f x) (xs.map f) = decide (x ∈ xs) := by
  unfold inD
  rw [List.any_map, Bool.eq_iff_iff, List.any_eq_true, decide_eq_true_eq]
  constructor
  · rintro ⟨y, hy, q⟩
    simp only [Function.comp, h, decide_eq_true_eq] at q
    exact q ▸ hy
  · intro q
    exact ⟨x, q, by simp [h]⟩
theorem fIn_ints (x : Int) (xs : List Int) : fIn (.int x) (.tup (xs.map .int)) = some (.fz (.bl (decide (x ∈ xs)))) := by
  simp [fIn, inD_map PV.int (fun a b => eqv_int a b)]
theorem fIn_intsK (x : Int) (xs : List Int) : fIn (.int x) (.ktp (xs.map .int)) = some (.fz (.bl (decide (x ∈ xs)))) := by
  simp [fIn, inD_map PV.int (fun a b => eqv_int a b)]
theorem fIn_intsL (x : Int) (xs : List Int) : fIn (.int x) (.lst (xs.map .int)) = some (.fz (.bl (decide (x ∈ xs)))) := by
  simp [fIn, inD_map PV.int (fun a b => eqv_int a b)]
theorem fNotIn_intsL (x : Int) (xs : List Int) : fNotIn (.int x) (.lst (xs.map .int)) = some (.fz (.bl (!decide (x ∈ xs)))) := by
  simp [fNotIn, inD_map PV.int (fun a b => eqv_int a b)]
theorem fIn_tI (x : List Int) (xs : List (List Int)) : fIn (tI x) (.tup (xs.map tI)) = some (.fz (.bl (decide (x ∈ xs)))) := by
  simp [fIn, inD_map tI eqv_tI]
theorem fIn_tIL (x : List Int) (xs : List (List Int)) : fIn (tI x) (.lst (xs.map tI)) = some (.fz (.bl (decide (x ∈ xs)))) := by
  simp [fIn, inD_map tI eqv_tI]
/-! ### sorting rows of rgI -/
theorem leD_tot : PySem.W.TotalLe leD := PySem.W.sortLe_total (PyProof.Rows.listOrd PyProof.Rows.itemOrd) false fun b => PySem.W.keyToks (PV.toD b)
theorem leD_trans (a b c : PV) (h1 : leD a b = true) (h2 : leD b c = true) : leD a c = true := leD_tot.trans a b c h1 h2
theorem leD_total (a b : PV) : (leD a b || leD b a) = true := (Bool.or_eq_true _ _).mpr (leD_tot.total a b)
def leL (a b : List Int) : Bool := leD (tI a) (tI b)
theorem toks_ints : ∀ (a b : List Int), PySem.W.keyToksAll (toDs (a.map .int)) = PySem.W.keyToksAll (toDs (b.map .int)) → a = b
  | [], [], _ => rfl
  | [], y :: b, h => by simp [toDs, PySem.W.keyToksAll] at h
  | x :: a, [], h => by simp [toDs, PySem.W.keyToksAll] at h
  | x :: a, y :: b, h => by
    simp only [List.map_cons, toDs, PySem.W.keyToksAll, PV.toD, PySem.W.keyToks, List.cons_append, List.nil_append, List.cons.injEq, Sum.inl.injEq, true_and] at h
    rw [h.1, toks_ints a b h.2]
theorem leL_anti {a b : List Int} (h1 : leL a b = true) (h2 : leL b a = true) : a = b := by
  unfold leL leD PySem.W.dataLe PySem.W.sortLe at h1 h2
  simp only [cond_false, Bool.not_eq_true'] at h1 h2
  have e := PyProof.Rows.lex_total _ _ h2 h1
  exact toks_ints a b (by simpa [tI, PV.toD, PySem.W.keyToks] using e)
theorem sort_tI (xs : List (List Int)) : (xs.map tI).mergeSort leD = (xs.mergeSort leL).map tI := by
  rw [List.map_mergeSort]
  intro a _ b _
  rfl
theorem alike_ints : ∀ a b : List Int, PySem.W.alikeAll (toDs (a.map .int)) (toDs (b.map .int)) = true
  | [], _ => by simp [toDs, PySem.W.alikeAll]
  | _ :: _, [] => by simp [toDs, PySem.W.alikeAll]
  | x :: a, y :: b => by simp [toDs, PySem.W.alikeAll, PV.toD, PySem.W.alike, alike_ints a b]
theorem sortB_tI {xs : List (List Int)} (h : ∀ x ∈ xs, x ≠ []) (hl : xs.length ≤ 16777216) : sortB (xs.map tI) = true := by
  unfold sortB
  have h1 : alikeB (toDs (xs.map tI)) = true := by
    unfold alikeB
    rw [toDs_map, List.map_map, List.all_eq_true]
    intro d hd
    obtain ⟨x, _, rfl⟩ := List.mem_map.1 hd
    rw [List.all_eq_true]
    intro d' hd'
    obtain ⟨y, _, rfl⟩ := List.mem_map.1 hd'
    show PySem.W.alike (.tuple (toDs (x.map .int))) (.tuple (toDs (y.map .int))) = true
    rw [PySem.W.alike]; exact alike_ints x y
  have h2 : (toDs (xs.map tI)).all tup1 = true := by
    rw [toDs_map, List.map_map, List.all_eq_true]
    intro d hd
    obtain ⟨x, hx, rfl⟩ := List.mem_map.1 hd
    have := h x hx
    cases x with
    | nil => exact absurd rfl this
    | cons a r => rfl
  rw [okD_lT, h1, h2]
  simp [hl]
theorem fSorted_tI {xs : List (List Int)} (h : ∀ x ∈ xs, x ≠ []) (hl : xs.length ≤ 16777216) : fSorted (.lst (xs.map tI)) = some (.own (.lst ((xs.mergeSort leL).map tI))) := by
  show (if sortB (xs.map tI) then some (Sl.own (PV.lst ((xs.map tI).mergeSort leD))) else none) = _
  rw [if_pos (sortB_tI h hl), sort_tI]
theorem leL_trans (a b c : List Int) (h1 : leL a b = true) (h2 : leL b c = true) : leL a c = true := leD_trans _ _ _ h1 h2
theorem leL_total (a b : List Int) : (leL a b || leL b a) = true := leD_total _ _
theorem sort_sorted {xs : List (List Int)} (h : xs.Pairwise fun a b => leL a b = true) : xs.mergeSort leL = xs := List.mergeSort_of_pairwise h
theorem sort_pairwise (xs : List (List Int)) : (xs.mergeSort leL).Pairwise fun a b => leL a b = true := List.pairwise_mergeSort leL_trans leL_total xs
theorem sort_eq_of_perm {xs ys : List (List Int)} (h : xs.Perm ys) : xs.mergeSort leL = ys.mergeSort leL :=
  (((List.mergeSort_perm xs leL).trans h).trans (List.mergeSort_perm ys leL).symm).eq_of_pairwise (fun a b _ _ h1 h2 => leL_anti h1 h2) (sort_pairwise xs) (sort_pairwise ys)
/-! ### a dict of rows -/
theorem ksP_ints : ∀ ns : List Int, ksP (ns.map .int) = some (ns.map Sum.inl)
  | [] => rfl
  | n :: ns => by simp [ksP, kP, ksP_ints ns]
theorem inl_inj {a b : List Int} (h : a.map (Sum.inl : Int → Key) = b.map Sum.inl) : a = b := List.map_inj_right (fun x y h => Sum.inl.inj h) |>.1 h
theorem gath_rows (v : PV) (ks : List (List Int)) : gathT (ks.map fun k => (tI k, v)) = some ((nubL ks).map fun k => (k.map Sum.inl, v)) := by
  suffices q : ∀ ks : List (List Int), gathT (ks.reverse.map fun k => (tI k, v)) = some ((nubL ks.reverse).map fun k => (k.map Sum.inl, v)) by
    simpa using q ks.reverse
  intro ks
  induction ks with
  | nil => rfl
  | cons k ks ih =>
    rw [List.reverse_cons]
    revert ih
    generalize ks.reverse = ks
    intro ih
    rw [List.map_append, List.map_singleton, gath_snoc, ih, nub_snoc]
    unfold gathStep
    simp only [Option.bind_some]
    show (ksP (k.map .int)).map _ = _
    rw [ksP_ints, Option.map_some]
    congr 1
    unfold putD addN
    have e : ((nubL ks).map fun k => ((k.map Sum.inl : List Key), v)).any (fun kv => decide (kv.1 = k.map Sum.inl)) = decide (k ∈ nubL ks) := by
      rw [List.any_map, Bool.eq_iff_iff, List.any_eq_true, decide_eq_true_eq]
      constructor
      · rintro ⟨y, hy, q⟩
        simp only [Function.comp, decide_eq_true_eq] at q
        exact inl_inj q ▸ hy
      · intro q
        exact ⟨k, q, by simp⟩
    rw [e]
    by_cases q : k ∈ nubL ks
    · rw [if_pos (by simpa using q), if_pos q, List.map_map]
      refine List.map_congr_left fun a _ => ?_
      simp only [Function.comp]
      split <;> rfl
    · rw [if_neg (by simpa using q), if_neg q, List.map_append]; rfl
end VS

set_option linter.all false
set_option maxRecDepth 100000
set_option maxHeartbeats 4000000
set_option pp.maxSteps 900
/-! Q3: what each law begins with: mix, hand, draw, exact. -/
namespace VS
theorem mulB_of {i j : Int} (h : (-(2 ^ 64) < i ∧ i < 2 ^ 64) ∨ (-(2 ^ 64) < j ∧ j < 2 ^ 64)) : mulB i j = true := by
  rcases h with ⟨a, b⟩ | ⟨a, b⟩
  · exact mulB_l a b
  · exact mulB_r a b
end VS
namespace K02
open PySem L2 VS
theorem mix_ok (cs : Cs) {n t : Int} (hn : 0 ≤ n) (hn2 : n < 4294967296) (ht : 0 ≤ t) (ht2 : t < 4294967296) :
    ∃ v : Int, 0 ≤ v ∧ mf_law_mix cs [.fz (.int n), .fz (.int t)] = .ret (.fz (.int v)) [.fz (.int n), .fz (.int t)] := by
  have m1 : mulB n 39373 = true := mulB_r (by decide) (by decide)
  have m2 : mulB t 30323 = true := mulB_r (by decide) (by decide)
  generalize ho : (n * 39373 + t * 30323 + 61) % 2147483647 = o
  have o1 : 0 ≤ o ∧ o < 2147483647 := by omega
  have m3 : mulB o o = true := mulB_l (by omega) (by omega)
  have m4 : mulB (o / 127) 45989 = true := mulB_r (by decide) (by decide)
  have m5 : mulB t 52709 = true := mulB_r (by decide) (by decide)
  generalize hp : (o * o + o / 127 * 45989 + t * 52709) % 2147483399 = p
  have p1 : 0 ≤ p ∧ p < 2147483399 := by omega
  have m6 : mulB p p = true := mulB_l (by omega) (by omega)
  refine ⟨(p * p / 1009 + o) % 2147483563 / 16, by omega, ?_⟩
  simp [mf_law_mix, bodyRun, m_law_mix, m1, m2, m3, m4, m5, m6, ho, hp]
def Hand (d : PV) : Prop := ∃ (ns : List Int) (i r t : Int), d = .lst [.lst (ns.map .int), .int i, .int r, .int t] ∧ (∀ c ∈ ns, 0 ≤ c) ∧ ns.length ≤ 63 ∧ 0 ≤ i ∧ i ≤ 63 ∧ 0 ≤ r ∧ 0 ≤ t ∧ t < 2147483629
theorem draw_ok (cs : Cs) {h : PV} (hh : Hand h) {many : Int} (h1 : 0 < many) (h2 : many < 1073741824) :
    ∃ (v : Int) (h' : PV), 0 ≤ v ∧ v < many ∧ Hand h' ∧ mf_law_draw cs [.own h, .fz (.int many)] = .ret (.fz (.int v)) [.own h', .fz (.int many)] := by
  obtain ⟨ns, i, r, t, rfl, hn, hl, hi, hi2, hr, ht, ht2⟩ := hh
  by_cases c1 : r = 0 ∧ i < ns.length
  · obtain ⟨rfl, c1⟩ := c1
    obtain ⟨c, hc, hcm⟩ := atI_some (xs := ns) hi c1
    have hc' : atI (ns.map PV.int) i = some (.int c) := by rw [atI_map, hc]; rfl
    have hc0 := hn c hcm
    by_cases c2 : c < 1000000000000000000
    · obtain ⟨v, hv, hm⟩ := mix_ok cs (n := c % 2147483647) (t := i + 1) (by omega) (by omega) (by omega) (by omega)
      refine ⟨v % many, .lst [.lst (ns.map .int), .int (i + 1), .int 0, .int t], Int.emod_nonneg _ (by omega), Int.emod_lt_of_pos _ h1, ⟨ns, i + 1, 0, t, rfl, hn, hl, by omega, by omega, by omega, ht, ht2⟩, ?_⟩
      simp [mf_law_draw, bodyRun, m_law_draw, c1, c2, hc', hm, h1]
    · refine ⟨c % many, .lst [.lst (ns.map .int), .int (i + 1), .int (c / many), .int t], Int.emod_nonneg _ (by omega), Int.emod_lt_of_pos _ h1, ⟨ns, i + 1, c / many, t, rfl, hn, hl, by omega, by omega, Int.ediv_nonneg (by omega) (by omega), ht, ht2⟩, ?_⟩
      simp [mf_law_draw, bodyRun, m_law_draw, c1, c2, hc', h1, h2, show 0 < c by omega]
  · by_cases c3 : 0 < r
    · refine ⟨r % many, .lst [.lst (ns.map .int), .int i, .int (r / many), .int t], Int.emod_nonneg _ (by omega), Int.emod_lt_of_pos _ h1, ⟨ns, i, r / many, t, rfl, hn, hl, by omega, by omega, Int.ediv_nonneg (by omega) (by omega), ht, ht2⟩, ?_⟩
      simp [mf_law_draw, bodyRun, m_law_draw, h1, h2, c3, show r ≠ 0 by omega]
    · have hr0 : r = 0 := by omega
      subst hr0
      have c1' : ¬ i < ns.length := fun z => c1 ⟨rfl, z⟩
      obtain ⟨v, hv, hm⟩ := mix_ok cs (n := (t + 1) % 2147483629) (t := i) (by omega) (by omega) (by omega) (by omega)
      refine ⟨v % many, .lst [.lst (ns.map .int), .int i, .int 0, .int ((t + 1) % 2147483629)], Int.emod_nonneg _ (by omega), Int.emod_lt_of_pos _ h1, ⟨ns, i, 0, (t + 1) % 2147483629, rfl, hn, hl, by omega, by omega, by omega, by omega, by omega⟩, ?_⟩
      simp [mf_law_draw, bodyRun, m_law_draw, h1, h2, c1', hm]
/-- a draw as a whole number -/
theorem draw_nat (cs : Cs) {h : PV} (hh : Hand h) {many : Nat} (h1 : 0 < many) (h2 : many < 1073741824) :
    ∃ (v : Nat) (h' : PV), v < many ∧ Hand h' ∧ mf_law_draw cs [.own h, .fz (.int many)] = .ret (.fz (.int v)) [.own h', .fz (.int many)] := by
  obtain ⟨v, h', a, b, c, d⟩ := draw_ok cs hh (many := many) (by omega) (by omega)
  obtain ⟨n, rfl⟩ : ∃ n : Nat, v = n := ⟨v.toNat, by omega⟩
  exact ⟨n, h', by omega, c, d⟩
theorem hand_ok (cs : Cs) (ns : List Int) (hl : ns.length ≤ 63) : ∃ h, Hand h ∧ mf_law_hand cs [.fz (.scr (ns.map .int))] = .ret (.own h) [.fz (.scr (ns.map .int))] := by
  have hfor : ∃ e', forRun (gTq 2 (gCn (gN 1 2) (gCn (gN 1 3) (gNl)))) (b_law_hand_1 cs) (enumL 0 (ns.map PV.int)) [.fz (.scr (ns.map .int)), .fz (.int 7), .un, .un] = .nx e' ∧ ∃ t a b, 0 ≤ t ∧ t < 2147483629 ∧ e' = [.fz (.scr (ns.map .int)), .fz (.int t), a, b] := by
    refine forRun_inv (fun _ e => ∃ t a b, 0 ≤ t ∧ t < 2147483629 ∧ e = [.fz (.scr (ns.map .int)), .fz (.int t), a, b]) ⟨7, _, _, by omega, by omega, rfl⟩ ?_
    rintro i d e hd ⟨t, a, b, h0, h1, rfl⟩
    obtain ⟨x, hx, rfl⟩ := enumL_get hd
    rw [List.getElem?_map] at hx
    obtain ⟨c, hc, rfl⟩ := Option.map_eq_some_iff.1 hx
    have hi : i < ns.length := (List.getElem?_eq_some_iff.1 hc).1
    have m1 : mulB t 41 = true := mulB_r (by decide) (by decide)
    have m2 : mulB c (i + 3) = true := mulB_r (by omega) (by omega)
    have m2' : mulB c (((0 + i : Nat) : Int) + 3) = true := mulB_r (by omega) (by omega)
    refine ⟨_, [.fz (.scr (ns.map .int)), .fz (.int ((t * 41 + c * (i + 3)) % 2147483629)), .fz (.int i), .fz (.int c)], rfl, .inl ?_, _, _, _, Int.emod_nonneg _ (by decide), Int.emod_lt_of_pos _ (by decide), rfl⟩
    simp [b_law_hand_1, m1, m2, m2']
  obtain ⟨e', he, t, a, b, t0, t1, rfl⟩ := hfor
  have hc := compRun_map (vs := [3]) (g := gN 1 3) (mt := mR true) (me := mFz (mOp1 fAbs (oV (mFz (mOp1 fInt (oN 3)))))) (e := [.fz (.scr (ns.map .int)), .fz (.int t), a, .un]) (fun d => match d with | .int c => .int (if c < 0 then -c else c) | d => d) (ns.map .int) (by
    intro d hd
    obtain ⟨c, hc, rfl⟩ := List.mem_map.1 hd
    refine ⟨_, _, [.fz (.scr (ns.map .int)), .fz (.int t), a, .fz (.int c)], rfl, rfl, ?_, ?_⟩
    · simp
    · simp [wipeE]) (by simp; omega)
  refine ⟨.lst [.lst ((ns.map fun c => if c < 0 then -c else c).map .int), .int 0, .int 0, .int t], ⟨_, 0, 0, t, rfl, ?_, by simpa using hl, by omega, by omega, by omega, t0, t1⟩, ?_⟩
  · intro c hc
    obtain ⟨x, hx, rfl⟩ := List.mem_map.1 hc
    split <;> omega
  · simp [mf_law_hand, bodyRun, m_law_hand, l_law_hand_1, k_law_hand_1, he, wipeE]
    simp [hc]
open PySem.PyData (strOk)
def DX : Nat → PV → Prop
  | 0, _ => False
  | k + 1, .tup ds => ds.length ≤ 1000000 ∧ ∀ d ∈ ds, DX k d
  | _ + 1, .int _ => True
  | _ + 1, .bl _ => True
  | _ + 1, .non => True
  | _ + 1, .str x => strOk x = true
  | _ + 1, _ => False
theorem exact_ok (cs : Cs) : ∀ (k : Nat) (d : PV), DX k d → mf_law_exact cs k [.fz d, .fz d] = .ret (.fz (.bl true)) [.fz d, .fz d]
  | 0, _, h => h.elim
  | k + 1, d, h => by
    have ne : fEq (.lst []) (.lst []) = some (.fz (.bl true)) := fEq_same rfl
    cases d with
    | tup ds =>
      obtain ⟨hl, h⟩ := h
      have hin : inR (ds.length : Int) = true := inR_of' (by omega) (by omega)
      have z := compRun_pure (vs := [2]) (g := gN 2 2) (mt := mNot (mT (mCall (mf_law_exact cs k) (mConsO' (oV (mFz (mOp2 fIx (oN 0) (oN 2)))) (mConsO' (oV (mFz (mOp2 fIx (oN 1) (oN 2)))) (mNilO)))))) (me := mFz (mN 2 2))
        (e := [.fz (.tup ds), .fz (.tup ds), .un]) (fun _ => false) (fun d => d) (rangeL 0 (ds.length : Int)) [] (fun d hd => by
          obtain ⟨i, hi⟩ := List.mem_iff_getElem?.1 hd
          obtain ⟨hi5, rfl⟩ := rangeL_get hi
          have hlt : i < ds.length := by simpa using hi5
          have ha : atI ds (i : Int) = some ds[i] := atI_nat (by simp [hlt])
          have hr := exact_ok cs k ds[i] (h _ (List.getElem_mem hlt))
          refine ⟨_, [.fz (.tup ds), .fz (.tup ds), .fz (.int (0 + i))], rfl, ?_, fun _ => rfl, nofun⟩
          simp [ha, hr]) (by rw [rangeL_len]; simp; omega)
      have hf : (rangeL 0 (ds.length : Int)).filter (fun _ => false) = [] := by simp
      rw [hf] at z
      simp [mf_law_exact, bodyRun, m_law_exact, k_law_exact_1, fIsi, PV.bt, BT.sub, hin, wipeE, z, ne]
    | int i => simp [mf_law_exact, bodyRun, m_law_exact, fIsi, PV.bt, BT.sub, PV.isN]
    | bl b => cases b <;> simp [mf_law_exact, bodyRun, m_law_exact, fIsi, PV.bt, BT.sub, PV.isN]
    | non => simp [mf_law_exact, bodyRun, m_law_exact, fIsi, PV.bt, BT.sub, PV.isN]
    | str x => simp [mf_law_exact, bodyRun, m_law_exact, fIsi, PV.bt, BT.sub, PV.isN, fEq_same (okD_str h)]
    | _ => exact h.elim
theorem DX.row {n : Nat} {r : List Int} (h : r.length ≤ 1000000) : DX (n + 2) (tI r) := ⟨by simpa using h, fun d hd => by
  obtain ⟨x, _, rfl⟩ := List.mem_map.1 hd
  trivial⟩
theorem DX.rows {n : Nat} {rs : List (List Int)} (h : ∀ r ∈ rs, r.length ≤ 1000000) (hl : rs.length ≤ 1000000) : DX (n + 3) (.tup (rs.map tI)) := ⟨by simpa using hl, fun d hd => by
  obtain ⟨x, hx, rfl⟩ := List.mem_map.1 hd
  exact .row (h x hx)⟩
end K02

set_option linter.all false
set_option maxRecDepth 100000
set_option maxHeartbeats 4000000
set_option pp.maxSteps 900
/-! Q4: plain facts: ways, sorted rows without doubles, ints in order. -/
namespace VS
open PySem L2
theorem sorted_ext : ∀ {a b : List Int}, a.Pairwise (· < ·) → b.Pairwise (· < ·) → (∀ x, x ∈ a ↔ x ∈ b) → a = b
  | [], [], _, _, _ => rfl
  | [], y :: b, _, _, h => absurd ((h y).2 List.mem_cons_self) (by simp)
  | x :: a, [], _, _, h => absurd ((h x).1 List.mem_cons_self) (by simp)
  | x :: a, y :: b, ha, hb, h => by
    obtain ⟨ha1, ha2⟩ := List.pairwise_cons.1 ha
    obtain ⟨hb1, hb2⟩ := List.pairwise_cons.1 hb
    have e : x = y := by
      rcases List.mem_cons.1 ((h x).1 List.mem_cons_self) with q | q
      · exact q
      · rcases List.mem_cons.1 ((h y).2 List.mem_cons_self) with r | r
        · exact r.symm
        · have := hb1 x q; have := ha1 y r; omega
    subst e
    rw [sorted_ext ha2 hb2 fun z => ?_]
    constructor
    · intro hz
      rcases List.mem_cons.1 ((h z).1 (List.mem_cons_of_mem _ hz)) with q | q
      · have := ha1 z hz; omega
      · exact q
    · intro hz
      rcases List.mem_cons.1 ((h z).2 (List.mem_cons_of_mem _ hz)) with q | q
      · have := hb1 z hz; omega
      · exact q
theorem strict_of {l : List Int} (h : l.Pairwise (fun a b => decide (a ≤ b) = true)) (hn : l.Nodup) : l.Pairwise (· < ·) := by
  refine List.Pairwise.imp ?_ (List.Pairwise.and h hn)
  rintro a b ⟨h1, h2⟩
  have := of_decide_eq_true h1
  omega
theorem sortI_strict (ns : List Int) : (sortI ns).Pairwise (· < ·) := by
  refine strict_of (List.pairwise_mergeSort (fun a b c h1 h2 => ?_) (fun a b => ?_) _) ((List.mergeSort_perm _ _).nodup_iff.2 (nodup_nub ns))
  · simp only [decide_eq_true_eq] at *; omega
  · simp only [Bool.or_eq_true, decide_eq_true_eq]; omega
theorem sortI_of {ns l : List Int} (hl : l.Pairwise (· < ·)) (h : ∀ x, x ∈ l ↔ x ∈ ns) : sortI ns = l := sorted_ext (sortI_strict ns) hl fun x => by rw [sortI_mem, h]
theorem sortI_congr {a b : List Int} (h : ∀ x, x ∈ a ↔ x ∈ b) : sortI a = sortI b := sorted_ext (sortI_strict a) (sortI_strict b) fun x => by rw [sortI_mem, sortI_mem, h]
theorem sortI_nil {ns : List Int} : sortI ns = [] ↔ ns = [] := by
  constructor
  · intro h
    cases ns with
    | nil => rfl
    | cons a r =>
      have : a ∈ sortI (a :: r) := sortI_mem.2 List.mem_cons_self
      rw [h] at this; cases this
  · rintro rfl; simp [sortI, nubL]
theorem rgI_strict (n : Nat) : (rgI n).Pairwise (· < ·) := by
  unfold rgI
  rw [List.pairwise_map]
  exact List.pairwise_lt_range.imp fun h => by omega
theorem leD_int (a b : Int) : leD (.int a) (.int b) = decide (a ≤ b) := by
  unfold leD PySem.W.dataLe PySem.W.sortLe
  simp only [cond_false, PV.toD, PySem.W.keyToks]
  by_cases h : a ≤ b
  · have : ¬ b < a := by omega
    simp [h, PyProof.Rows.lexLt, PyProof.Rows.itemLt, this]
  · have : b < a := by omega
    simp [h, PyProof.Rows.lexLt, PyProof.Rows.itemLt, this]
theorem sort_ints (xs : List Int) : (xs.map PV.int).mergeSort leD = (xs.mergeSort fun a b => decide (a ≤ b)).map .int := by
  rw [List.map_mergeSort]
  intro a _ b _
  exact (leD_int a b).symm
theorem sortB_ints {xs : List Int} (hl : xs.length ≤ 16777216) : sortB (xs.map .int) = true := by
  unfold sortB
  have h1 : alikeB (toDs (xs.map .int)) = true := by
    unfold alikeB
    rw [toDs_map, List.map_map]
    simp [Function.comp_def, PV.toD, PySem.W.alike]
  have h2 : (toDs (xs.map .int)).all notTup = true := by
    rw [toDs_map, List.map_map]
    simp [Function.comp_def, PV.toD, notTup]
  rw [okD_lstI, h1, h2]
  simp [hl]
theorem fSorted_ints {xs : List Int} (hl : xs.length ≤ 16777216) : fSorted (.lst (xs.map .int)) = some (.own (.lst ((xs.mergeSort fun a b => decide (a ≤ b)).map .int))) := by
  show (if sortB (xs.map PV.int) then some (Sl.own (PV.lst ((xs.map PV.int).mergeSort leD))) else none) = _
  rw [if_pos (sortB_ints hl), sort_ints]
/-! ### q = s * n + r -/
theorem pack_inj {n s r s' r' : Int} (h0 : 0 ≤ r) (h1 : r < n) (h0' : 0 ≤ r') (h1' : r' < n) (h : s * n + r = s' * n + r') : s = s' ∧ r = r' := by
  have e1 : (s * n + r) / n = s := by rw [Int.add_comm, Int.add_mul_ediv_right _ _ (by omega), Int.ediv_eq_zero_of_lt h0 h1]; omega
  have e2 : (s' * n + r') / n = s' := by rw [Int.add_comm, Int.add_mul_ediv_right _ _ (by omega), Int.ediv_eq_zero_of_lt h0' h1']; omega
  have : s = s' := by rw [← e1, ← e2, h]
  subst this
  exact ⟨rfl, by omega⟩
theorem pack_lt {m n s r : Int} (h0 : 0 ≤ s) (h1 : s < m) (h2 : 0 ≤ r) (h3 : r < n) : 0 ≤ s * n + r ∧ s * n + r < m * n := by
  have a : 0 ≤ s * n := Int.mul_nonneg h0 (by omega)
  have b : (s + 1) * n ≤ m * n := Int.mul_le_mul_of_nonneg_right (by omega) (by omega)
  rw [Int.add_mul] at b
  omega
theorem unpack {m n q : Int} (hn : 0 < n) (h0 : 0 ≤ q) (h1 : q < m * n) : ∃ s r, 0 ≤ s ∧ s < m ∧ 0 ≤ r ∧ r < n ∧ q = s * n + r := by
  refine ⟨q / n, q % n, Int.ediv_nonneg h0 (by omega), ?_, Int.emod_nonneg _ (by omega), Int.emod_lt_of_pos _ hn, ?_⟩
  · exact Int.ediv_lt_of_lt_mul hn h1
  · have := Int.mul_ediv_add_emod q n
    rw [Int.mul_comm] at this; omega
/-! ### ways -/
def Wy (S C : Int) (w : List Int) : Prop := ∃ s c a t, w = [s, c, a, t] ∧ (0 ≤ s ∧ s < S) ∧ (0 ≤ c ∧ c < C) ∧ (0 ≤ a ∧ a < 3) ∧ 0 ≤ t ∧ t < S
structure Bks (S C : Nat) (ws : List (List Int)) : Prop where
  s1 : 1 ≤ S
  s2 : S ≤ 6
  c1 : 1 ≤ C
  c2 : C ≤ 4
  way : ∀ w ∈ ws, Wy S C w
  nd : ws.Nodup
  full : ∀ s c : Int, 0 ≤ s → s < S → 0 ≤ c → c < C → ∃ a t, [s, c, a, t] ∈ ws
def allW : List (List Int) := (rgI 6).flatMap fun s => (rgI 4).flatMap fun c => (rgI 3).flatMap fun a => (rgI 6).map fun t => [s, c, a, t]
theorem allW_len : allW.length = 432 := by decide +kernel
theorem wy_allW {S C : Int} {w : List Int} (hS : S ≤ 6) (hC : C ≤ 4) (h : Wy S C w) : w ∈ allW := by
  obtain ⟨s, c, a, t, rfl, h1, h2, h3, h4⟩ := h
  unfold allW
  simp only [List.mem_flatMap, List.mem_map, mem_rgI]
  exact ⟨s, by omega, c, by omega, a, by omega, t, by omega, rfl⟩
theorem ways_len {S C : Int} {ws : List (List Int)} (hS : S ≤ 6) (hC : C ≤ 4) (hn : ws.Nodup) (h : ∀ w ∈ ws, Wy S C w) : ws.length ≤ 432 := by
  have := nodup_le hn fun w hw => wy_allW hS hC (h w hw)
  rwa [allW_len] at this
theorem Bks.len {S C : Nat} {ws : List (List Int)} (h : Bks S C ws) : ws.length ≤ 432 := ways_len (S := S) (C := C) (by have := h.s2; omega) (by have := h.c2; omega) h.nd h.way
theorem Bks.perm {S C : Nat} {ws vs : List (List Int)} (h : Bks S C ws) (p : vs.Perm ws) : Bks S C vs :=
  ⟨h.s1, h.s2, h.c1, h.c2, fun w hw => h.way w (p.mem_iff.1 hw), p.nodup_iff.2 h.nd, fun s c a b d e => by
    obtain ⟨x, t, q⟩ := h.full s c a b d e
    exact ⟨x, t, p.mem_iff.2 q⟩⟩
theorem Bks.sort {S C : Nat} {ws : List (List Int)} (h : Bks S C ws) : Bks S C (ws.mergeSort leL) := h.perm (List.mergeSort_perm _ _)
def pairsSC (S C : Nat) : List (List Int) := (rgI S).flatMap fun s => (rgI C).map fun c => [s, c]
theorem pairs_ok : ∀ S < 7, ∀ C < 5, (pairsSC S C).Nodup ∧ (pairsSC S C).length = S * C := by decide +kernel
def begL (w : List Int) : List Int := w.take 2
theorem Bks.begins {S C : Nat} {ws : List (List Int)} (h : Bks S C ws) : S * C ≤ (nubL (ws.map begL)).length := by
  obtain ⟨a, b⟩ := pairs_ok S (by have := h.s2; omega) C (by have := h.c2; omega)
  rw [← b]
  refine nub_len_ge a fun k hk => ?_
  unfold pairsSC at hk
  simp only [List.mem_flatMap, List.mem_map, mem_rgI] at hk
  obtain ⟨s, hs, c, hc, rfl⟩ := hk
  obtain ⟨x, t, q⟩ := h.full s c hs.1 hs.2 hc.1 hc.2
  exact List.mem_map.2 ⟨_, q, rfl⟩
/-! ### sorted, without doubles -/
def ddS (acc : List (List Int)) (w : List Int) : List (List Int) := if acc.getLast? = some w then acc else acc ++ [w]
theorem dd_spec : ∀ (l acc : List (List Int)), (acc ++ l).Pairwise (fun a b => leL a b = true) → acc.Nodup → (l.foldl ddS acc).Pairwise (fun a b => leL a b = true) ∧ (l.foldl ddS acc).Nodup ∧ ∀ x, x ∈ l.foldl ddS acc ↔ x ∈ acc ∨ x ∈ l
  | [], acc, h, hn => ⟨by simpa using h, hn, by simp⟩
  | w :: l, acc, h, hn => by
    rw [List.foldl_cons]
    by_cases q : acc.getLast? = some w
    · have e : ddS acc w = acc := if_pos q
      rw [e]
      have hw : w ∈ acc := List.mem_of_getLast? q
      obtain ⟨k1, k2, k3⟩ := dd_spec l acc (h.sublist (List.Sublist.append (List.Sublist.refl _) (List.sublist_cons_self _ _))) hn
      refine ⟨k1, k2, fun x => ?_⟩
      rw [k3, List.mem_cons]
      constructor
      · rintro (z | z)
        · exact .inl z
        · exact .inr (.inr z)
      · rintro (z | rfl | z)
        · exact .inl z
        · exact .inl hw
        · exact .inr z
    · have e : ddS acc w = acc ++ [w] := if_neg q
      rw [e]
      have hw : w ∉ acc := by
        intro hw
        obtain ⟨ini, z, rfl⟩ : ∃ ini z, acc = ini ++ [z] := ⟨acc.dropLast, acc.getLast (List.ne_nil_of_mem hw), (List.dropLast_concat_getLast _).symm⟩
        rw [List.getLast?_concat] at q
        rw [List.pairwise_append] at h
        have hz : leL z w = true := h.2.2 z (by simp) w List.mem_cons_self
        rcases List.mem_append.1 hw with y | y
        · have := (List.pairwise_append.1 h.1).2.2 w y z (by simp)
          exact q (by rw [leL_anti hz this])
        · exact q (by rw [List.mem_singleton.1 y])
      obtain ⟨k1, k2, k3⟩ := dd_spec l (acc ++ [w]) (by simpa using h) (by
        rw [List.nodup_append]
        exact ⟨hn, by simp, fun a ha b hb => by rw [List.mem_singleton.1 hb]; rintro rfl; exact hw ha⟩)
      refine ⟨k1, k2, fun x => ?_⟩
      rw [k3]
      simp [or_assoc]
def waysL (rows : List (List Int)) : List (List Int) := (rows.mergeSort leL).foldl ddS []
theorem waysL_spec (rows : List (List Int)) : (waysL rows).Pairwise (fun a b => leL a b = true) ∧ (waysL rows).Nodup ∧ ∀ x, x ∈ waysL rows ↔ x ∈ rows := by
  obtain ⟨a, b, c⟩ := dd_spec (rows.mergeSort leL) [] (by simpa using sort_pairwise rows) List.nodup_nil
  exact ⟨a, b, fun x => by rw [waysL, c]; simp⟩
theorem waysL_sort (rows : List (List Int)) : (waysL rows).mergeSort leL = waysL rows := sort_sorted (waysL_spec rows).1
theorem waysL_book {S C : Nat} {rows : List (List Int)} (s1 : 1 ≤ S) (s2 : S ≤ 6) (c1 : 1 ≤ C) (c2 : C ≤ 4) (hw : ∀ w ∈ rows, Wy S C w) (hf : ∀ s c : Int, 0 ≤ s → s < S → 0 ≤ c → c < C → ∃ a t, [s, c, a, t] ∈ rows) : Bks S C (waysL rows) :=
  ⟨s1, s2, c1, c2, fun w h => hw w ((waysL_spec rows).2.2 w |>.1 h), (waysL_spec rows).2.1, fun s c a b d e => by
    obtain ⟨x, t, q⟩ := hf s c a b d e
    exact ⟨x, t, (waysL_spec rows).2.2 _ |>.2 q⟩⟩
/-! ### coupled ways -/
def coupA (S2 : Nat) (ws : List (List Int)) : List (List Int) := ws.flatMap fun w => (rgI S2).map fun r => [w.getD 0 0 * S2 + r, w.getD 1 0, w.getD 2 0, w.getD 3 0 * S2 + r]
def coupB (S1 C1 S2 : Nat) (ws : List (List Int)) : List (List Int) := ws.flatMap fun w => (rgI S1).map fun r => [r * S2 + w.getD 0 0, C1 + w.getD 1 0, w.getD 2 0, r * S2 + w.getD 3 0]
def coup (S1 C1 : Nat) (w1 : List (List Int)) (S2 : Nat) (w2 : List (List Int)) : List (List Int) := coupA S2 w1 ++ coupB S1 C1 S2 w2
theorem mem_coupA {S1 C1 S2 : Nat} {w1 : List (List Int)} (h : ∀ w ∈ w1, Wy S1 C1 w) {x : List Int} : x ∈ coupA S2 w1 ↔ ∃ s c a t r, [s, c, a, t] ∈ w1 ∧ 0 ≤ r ∧ r < (S2 : Int) ∧ x = [s * S2 + r, c, a, t * S2 + r] := by
  unfold coupA
  simp only [List.mem_flatMap, List.mem_map, mem_rgI]
  constructor
  · rintro ⟨w, hw, r, hr, rfl⟩
    obtain ⟨s, c, a, t, rfl, _⟩ := h w hw
    exact ⟨s, c, a, t, r, hw, hr.1, hr.2, rfl⟩
  · rintro ⟨s, c, a, t, r, hw, h1, h2, rfl⟩
    exact ⟨_, hw, r, ⟨h1, h2⟩, rfl⟩
theorem mem_coupB {S1 C1 S2 C2 : Nat} {w2 : List (List Int)} (h : ∀ w ∈ w2, Wy S2 C2 w) {x : List Int} : x ∈ coupB S1 C1 S2 w2 ↔ ∃ s c a t r, [s, c, a, t] ∈ w2 ∧ 0 ≤ r ∧ r < (S1 : Int) ∧ x = [r * S2 + s, C1 + c, a, r * S2 + t] := by
  unfold coupB
  simp only [List.mem_flatMap, List.mem_map, mem_rgI]
  constructor
  · rintro ⟨w, hw, r, hr, rfl⟩
    obtain ⟨s, c, a, t, rfl, _⟩ := h w hw
    exact ⟨s, c, a, t, r, hw, hr.1, hr.2, rfl⟩
  · rintro ⟨s, c, a, t, r, hw, h1, h2, rfl⟩
    exact ⟨_, hw, r, ⟨h1, h2⟩, rfl⟩
theorem nodup_flatMap' {α β : Type} {f : α → List β} : ∀ {xs : List α}, xs.Nodup → (∀ x ∈ xs, (f x).Nodup) → (∀ x ∈ xs, ∀ y ∈ xs, ∀ z, z ∈ f x → z ∈ f y → x = y) → (xs.flatMap f).Nodup
  | [], _, _, _ => by simp
  | x :: xs, h, k, j => by
    rw [List.nodup_cons] at h
    rw [List.flatMap_cons, List.nodup_append]
    refine ⟨k x List.mem_cons_self, nodup_flatMap' h.2 (fun y hy => k y (List.mem_cons_of_mem _ hy)) (fun y hy z hz => j y (List.mem_cons_of_mem _ hy) z (List.mem_cons_of_mem _ hz)), fun a ha b hb => ?_⟩
    rintro rfl
    obtain ⟨y, hy, q⟩ := List.mem_flatMap.1 hb
    have := j x List.mem_cons_self y (List.mem_cons_of_mem _ hy) a ha q
    exact h.1 (by rw [this]; exact hy)
theorem nodup_map' {α β : Type} {f : α → β} {xs : List α} (h : xs.Nodup) (hf : ∀ x ∈ xs, ∀ y ∈ xs, f x = f y → x = y) : (xs.map f).Nodup := by
  unfold List.Nodup
  rw [List.pairwise_map]
  refine List.Pairwise.imp_of_mem (fun {a b} ha hb hab => ?_) h
  exact fun e => hab (hf a ha b hb e)
theorem coup_book {S1 C1 S2 C2 : Nat} {w1 w2 : List (List Int)} (h1 : Bks S1 C1 w1) (h2 : Bks S2 C2 w2) (hs : S1 * S2 ≤ 6) (hc : C1 + C2 ≤ 4) : Bks (S1 * S2) (C1 + C2) (coup S1 C1 w1 S2 w2) := by
  have a1 := h1.s1
  have a2 := h2.s1
  refine ⟨Nat.mul_pos a1 a2, hs, by have := h1.c1; omega, hc, ?_, ?_, ?_⟩
  · intro x hx
    rw [Int.natCast_mul, Int.natCast_add]
    rcases List.mem_append.1 hx with hx | hx
    · obtain ⟨s, c, a, t, r, hw, r0, r1, rfl⟩ := (mem_coupA h1.way).1 hx
      obtain ⟨s', c', a', t', e, z1, z2, z3, z4⟩ := h1.way _ hw
      cases e
      exact ⟨_, _, _, _, rfl, pack_lt z1.1 z1.2 r0 r1, by omega, z3, pack_lt z4.1 z4.2 r0 r1⟩
    · obtain ⟨s, c, a, t, r, hw, r0, r1, rfl⟩ := (mem_coupB h2.way).1 hx
      obtain ⟨s', c', a', t', e, z1, z2, z3, z4⟩ := h2.way _ hw
      cases e
      exact ⟨_, _, _, _, rfl, pack_lt r0 r1 z1.1 z1.2, by omega, z3, pack_lt r0 r1 z4.1 z4.2⟩
  · unfold coup
    rw [List.nodup_append]
    refine ⟨nodup_flatMap' h1.nd (fun w hw => ?_) (fun w hw v hv z => ?_), nodup_flatMap' h2.nd (fun w hw => ?_) (fun w hw v hv z => ?_), ?_⟩
    · exact nodup_map' (rgI_nodup _) fun x hx y hy e => by
        have := (List.cons.inj e).1
        omega
    · obtain ⟨s, c, a, t, rfl, _⟩ := h1.way w hw
      obtain ⟨s', c', a', t', rfl, _⟩ := h1.way v hv
      simp only [List.mem_map, mem_rgI]
      rintro ⟨r, hr, rfl⟩ ⟨r', hr', e⟩
      simp only [List.getD_cons_zero, List.getD_cons_succ, List.cons.injEq] at e
      obtain ⟨e1, e2, e3, e4, _⟩ := e
      obtain ⟨k1, k2⟩ := pack_inj hr'.1 hr'.2 hr.1 hr.2 e1
      obtain ⟨k3, k4⟩ := pack_inj hr'.1 hr'.2 hr.1 hr.2 e4
      rw [k1, k3, e2, e3]
    · exact nodup_map' (rgI_nodup _) fun x hx y hy e => by
        have e := (List.cons.inj e).1
        obtain ⟨s, c, a, t, rfl, z1, _⟩ := h2.way w hw
        exact (pack_inj z1.1 z1.2 z1.1 z1.2 e).1
    · obtain ⟨s, c, a, t, rfl, z1, z2, z3, z4⟩ := h2.way w hw
      obtain ⟨s', c', a', t', rfl, y1, y2, y3, y4⟩ := h2.way v hv
      simp only [List.mem_map, mem_rgI]
      rintro ⟨r, hr, rfl⟩ ⟨r', hr', e⟩
      simp only [List.getD_cons_zero, List.getD_cons_succ, List.cons.injEq] at e
      obtain ⟨e1, e2, e3, e4, _⟩ := e
      obtain ⟨k1, k2⟩ := pack_inj y1.1 y1.2 z1.1 z1.2 e1
      obtain ⟨k3, k4⟩ := pack_inj y4.1 y4.2 z4.1 z4.2 e4
      rw [k2, k4, e3, show c = c' by omega]
    · intro x hx y hy
      obtain ⟨s, c, a, t, r, hw, r0, r1, rfl⟩ := (mem_coupA h1.way).1 hx
      obtain ⟨s', c', a', t', r', hw', r0', r1', rfl⟩ := (mem_coupB h2.way).1 hy
      obtain ⟨_, _, _, _, e, z1, z2, z3, z4⟩ := h1.way _ hw
      cases e
      obtain ⟨_, _, _, _, e, y1, y2, y3, y4⟩ := h2.way _ hw'
      cases e
      intro e
      simp only [List.cons.injEq] at e
      omega
  · intro q c q0 q1 c0 c1
    rw [Int.natCast_mul] at q1
    rw [Int.natCast_add] at c1
    obtain ⟨s, r, s0, s1, r0, r1, rfl⟩ := unpack (by omega) q0 q1
    by_cases hc : c < C1
    · obtain ⟨a, t, hw⟩ := h1.full s c s0 s1 c0 hc
      exact ⟨a, t * S2 + r, List.mem_append_left _ ((mem_coupA h1.way).2 ⟨s, c, a, t, r, hw, r0, r1, rfl⟩)⟩
    · obtain ⟨a, t, hw⟩ := h2.full r (c - C1) r0 r1 (by omega) (by omega)
      exact ⟨a, s * S2 + t, List.mem_append_right _ ((mem_coupB h2.way).2 ⟨r, c - C1, a, t, s, hw, s0, s1, by rw [show (C1 : Int) + (c - C1) = c by omega]⟩)⟩
/-! ### walks -/
def hitB (st : List Int) (c a : Int) (w : List Int) : Bool := decide (w.getD 1 0 = c) && (decide (w.getD 2 0 = a) && decide (w.getD 0 0 ∈ st))
def endsL (ws : List (List Int)) (st : List Int) (c a : Int) : List Int := (ws.filter (hitB st c a)).map fun w => w.getD 3 0
def stp (ws : List (List Int)) (st : List Int) (c a : Int) : List Int := sortI (endsL ws st c a)
def walk (ws : List (List Int)) (st : List Int) (h : List (List Int)) : List Int := h.foldl (fun st x => stp ws st (x.getD 1 0) (x.getD 2 0)) st
def Ent (C : Int) (x : List Int) : Prop := ∃ h c a, x = [h, c, a] ∧ (0 ≤ h ∧ h ≤ 9) ∧ (0 ≤ c ∧ c < C) ∧ 0 ≤ a ∧ a < 3
theorem mem_ends {S C : Int} {ws : List (List Int)} (h : ∀ w ∈ ws, Wy S C w) {st : List Int} {c a t : Int} : t ∈ endsL ws st c a ↔ ∃ s, s ∈ st ∧ [s, c, a, t] ∈ ws := by
  unfold endsL hitB
  simp only [List.mem_map, List.mem_filter, Bool.and_eq_true, decide_eq_true_eq]
  constructor
  · rintro ⟨w, ⟨hw, h1, h2, h3⟩, rfl⟩
    obtain ⟨s, c', a', t, rfl, _⟩ := h w hw
    simp only [List.getD_cons_zero, List.getD_cons_succ] at *
    subst h1; subst h2
    exact ⟨s, h3, hw⟩
  · rintro ⟨s, hs, hw⟩
    exact ⟨_, ⟨hw, rfl, rfl, hs⟩, rfl⟩
theorem mem_stp {S C : Int} {ws : List (List Int)} (h : ∀ w ∈ ws, Wy S C w) {st : List Int} {c a t : Int} : t ∈ stp ws st c a ↔ ∃ s, s ∈ st ∧ [s, c, a, t] ∈ ws := by
  unfold stp; rw [sortI_mem, mem_ends h]
theorem mem_coup {S1 C1 S2 C2 : Nat} {w1 w2 : List (List Int)} (h1 : Bks S1 C1 w1) (h2 : Bks S2 C2 w2) (x : List Int) : x ∈ (coup S1 C1 w1 S2 w2).mergeSort leL ↔ (∃ s c a t r, [s, c, a, t] ∈ w1 ∧ 0 ≤ r ∧ r < (S2 : Int) ∧ x = [s * S2 + r, c, a, t * S2 + r]) ∨ ∃ s c a t r, [s, c, a, t] ∈ w2 ∧ 0 ≤ r ∧ r < (S1 : Int) ∧ x = [r * S2 + s, C1 + c, a, r * S2 + t] := by
  rw [List.mem_mergeSort]
  unfold coup
  rw [List.mem_append, mem_coupA h1.way, mem_coupB h2.way]
/-- the standing of a coupled book: all pairs -/
def Prod (S1 S2 : Nat) (p a b : List Int) : Prop := (∀ x ∈ a, 0 ≤ x ∧ x < S1) ∧ (∀ x ∈ b, 0 ≤ x ∧ x < S2) ∧ ∀ q, q ∈ p ↔ ∃ s r, s ∈ a ∧ r ∈ b ∧ q = s * S2 + r
theorem prod_empty {S1 S2 : Nat} {p a b : List Int} (h : Prod S1 S2 p a b) : p ≠ [] ↔ a ≠ [] ∧ b ≠ [] := by
  obtain ⟨_, _, h⟩ := h
  constructor
  · intro hp
    obtain ⟨q, hq⟩ := List.exists_mem_of_ne_nil _ hp
    obtain ⟨s, r, hs, hr, _⟩ := (h q).1 hq
    exact ⟨List.ne_nil_of_mem hs, List.ne_nil_of_mem hr⟩
  · rintro ⟨ha, hb⟩
    obtain ⟨s, hs⟩ := List.exists_mem_of_ne_nil _ ha
    obtain ⟨r, hr⟩ := List.exists_mem_of_ne_nil _ hb
    exact List.ne_nil_of_mem ((h _).2 ⟨s, r, hs, hr, rfl⟩)
theorem walk_prod {S1 C1 S2 C2 : Nat} {w1 w2 : List (List Int)} (h1 : Bks S1 C1 w1) (h2 : Bks S2 C2 w2) : ∀ (h : List (List Int)) (p a b : List Int), Prod S1 S2 p a b → (∀ x ∈ h, Ent ((C1 : Int) + C2) x) →
    Prod S1 S2 (walk ((coup S1 C1 w1 S2 w2).mergeSort leL) p h) (walk w1 a (h.filter fun x => decide (x.getD 1 0 < C1))) (walk w2 b ((h.filter fun x => decide ((C1 : Int) ≤ x.getD 1 0)).map fun x => [x.getD 0 0, x.getD 1 0 - C1, x.getD 2 0]))
  | [], p, a, b, q, _ => q
  | x :: h, p, a, b, q, hx => by
    obtain ⟨hd, c, o, rfl, _, c0, _⟩ := hx x List.mem_cons_self
    obtain ⟨qa, qb, qp⟩ := q
    have step : ∀ t, t ∈ stp ((coup S1 C1 w1 S2 w2).mergeSort leL) p c o ↔ ∃ s, s ∈ p ∧ [s, c, o, t] ∈ (coup S1 C1 w1 S2 w2).mergeSort leL := by
      intro t
      unfold stp
      rw [sortI_mem]
      unfold endsL hitB
      simp only [List.mem_map, List.mem_filter, Bool.and_eq_true, decide_eq_true_eq]
      constructor
      · rintro ⟨w, ⟨hw, h3, h4, h5⟩, rfl⟩
        have e : ∃ s c' a' t, w = [s, c', a', t] := by
          rcases (mem_coup h1 h2 w).1 hw with ⟨s, c, a, t, r, _, _, _, rfl⟩ | ⟨s, c, a, t, r, _, _, _, rfl⟩ <;> exact ⟨_, _, _, _, rfl⟩
        obtain ⟨s, c', a', t, rfl⟩ := e
        simp only [List.getD_cons_zero, List.getD_cons_succ] at *
        subst h3; subst h4
        exact ⟨s, h5, hw⟩
      · rintro ⟨s, hs, hw⟩
        exact ⟨_, ⟨hw, rfl, rfl, hs⟩, rfl⟩
    show Prod S1 S2 (walk _ (stp _ p c o) h) _ _
    by_cases hc : c < C1
    · have hc' : ¬ (C1 : Int) ≤ c := by omega
      have e1 : ([hd, c, o] :: h).filter (fun x => decide (x.getD 1 0 < (C1 : Int))) = [hd, c, o] :: h.filter fun x => decide (x.getD 1 0 < (C1 : Int)) := by
        rw [List.filter_cons_of_pos (by simpa using hc)]
      have e2 : ([hd, c, o] :: h).filter (fun x => decide ((C1 : Int) ≤ x.getD 1 0)) = h.filter fun x => decide ((C1 : Int) ≤ x.getD 1 0) := by
        rw [List.filter_cons_of_neg (by simpa using hc)]
      rw [e1, e2]
      show Prod S1 S2 _ (walk w1 (stp w1 a c o) _) _
      refine walk_prod h1 h2 h _ _ _ ⟨fun t ht => ?_, qb, fun z => ?_⟩ fun y hy => hx y (List.mem_cons_of_mem _ hy)
      · obtain ⟨s, hs, hw⟩ := (mem_stp h1.way).1 ht
        obtain ⟨_, _, _, _, e, _, _, _, z4⟩ := h1.way _ hw
        cases e
        exact z4
      · rw [step]
        constructor
        · rintro ⟨s, hs, hw⟩
          obtain ⟨s1, r1, g1, g2, rfl⟩ := (qp s).1 hs
          rcases (mem_coup h1 h2 _).1 hw with ⟨s', c', a', t', r', hw', r0, rr, e⟩ | ⟨s', c', a', t', r', hw', r0, rr, e⟩
          · simp only [List.cons.injEq] at e
            obtain ⟨e1, rfl, rfl, rfl, _⟩ := e
            obtain ⟨rfl, rfl⟩ := pack_inj (qb _ g2).1 (qb _ g2).2 r0 rr e1
            exact ⟨t', r1, (mem_stp h1.way).2 ⟨_, g1, hw'⟩, g2, rfl⟩
          · simp only [List.cons.injEq] at e
            obtain ⟨_, _, _, _, ee, _, z2, _⟩ := h2.way _ hw'
            cases ee
            omega
        · rintro ⟨t, r, ht, hr, rfl⟩
          obtain ⟨s, hs, hw⟩ := (mem_stp h1.way).1 ht
          exact ⟨s * S2 + r, (qp _).2 ⟨s, r, hs, hr, rfl⟩, (mem_coup h1 h2 _).2 (.inl ⟨s, c, o, t, r, hw, (qb _ hr).1, (qb _ hr).2, rfl⟩)⟩
    · have hc' : (C1 : Int) ≤ c := by omega
      have e1 : ([hd, c, o] :: h).filter (fun x => decide (x.getD 1 0 < (C1 : Int))) = h.filter fun x => decide (x.getD 1 0 < (C1 : Int)) := by
        rw [List.filter_cons_of_neg (by simpa using hc')]
      have e2 : ([hd, c, o] :: h).filter (fun x => decide ((C1 : Int) ≤ x.getD 1 0)) = [hd, c, o] :: h.filter fun x => decide ((C1 : Int) ≤ x.getD 1 0) := by
        rw [List.filter_cons_of_pos (by simpa using hc')]
      rw [e1, e2, List.map_cons]
      show Prod S1 S2 _ _ (walk w2 (stp w2 b (c - C1) o) _)
      refine walk_prod h1 h2 h _ _ _ ⟨qa, fun t ht => ?_, fun z => ?_⟩ fun y hy => hx y (List.mem_cons_of_mem _ hy)
      · obtain ⟨s, hs, hw⟩ := (mem_stp h2.way).1 ht
        obtain ⟨_, _, _, _, e, _, _, _, z4⟩ := h2.way _ hw
        cases e
        exact z4
      · rw [step]
        constructor
        · rintro ⟨s, hs, hw⟩
          obtain ⟨s1, r1, g1, g2, rfl⟩ := (qp s).1 hs
          rcases (mem_coup h1 h2 _).1 hw with ⟨s', c', a', t', r', hw', r0, rr, e⟩ | ⟨s', c', a', t', r', hw', r0, rr, e⟩
          · simp only [List.cons.injEq] at e
            obtain ⟨_, _, _, _, ee, _, z2, _⟩ := h1.way _ hw'
            cases ee
            omega
          · simp only [List.cons.injEq] at e
            obtain ⟨e1, e2, rfl, rfl, _⟩ := e
            obtain ⟨_, _, _, _, ee, z1, z2, _⟩ := h2.way _ hw'
            cases ee
            obtain ⟨rfl, rfl⟩ := pack_inj (qb _ g2).1 (qb _ g2).2 z1.1 z1.2 e1
            exact ⟨_, t', g1, (mem_stp h2.way).2 ⟨_, g2, by rw [show c - C1 = c' by omega]; exact hw'⟩, rfl⟩
        · rintro ⟨s, t, hs, ht, rfl⟩
          obtain ⟨r, hr, hw⟩ := (mem_stp h2.way).1 ht
          exact ⟨s * S2 + r, (qp _).2 ⟨s, r, hs, hr, rfl⟩, (mem_coup h1 h2 _).2 (.inr ⟨r, c - C1, o, t, s, hw, (qa _ hs).1, (qa _ hs).2, by rw [show (C1 : Int) + (c - C1) = c by omega]⟩)⟩
end VS

set_option linter.all false
set_option maxRecDepth 100000
set_option maxHeartbeats 4000000
set_option pp.maxSteps 900


/-! Q5: the book's making, the law's ways and steps. -/
namespace K02
open PySem L2 VS
def wholeB (lo hi : Int) : PV → Bool
  | .int i => decide (lo ≤ i) && decide (i ≤ hi)
  | _ => false
/-- a thing inside a row -/
inductive Smp : PV → Prop
  | int (i : Int) : Smp (.int i)
  | bl (b : Bool) : Smp (.bl b)
  | non : Smp .non
theorem is_whole_ok (cs : Cs) {d : PV} (h : Smp d) (lo hi : Int) : mf_is_whole cs [.fz d, .fz (.int lo), .fz (.int hi)] = .ret (.fz (.bl (wholeB lo hi d))) [.fz d, .fz (.int lo), .fz (.int hi)] := by
  cases h with
  | int i =>
    by_cases h1 : lo ≤ i <;> by_cases h2 : i ≤ hi <;> simp [mf_is_whole, bodyRun, m_is_whole, fIsi, PV.bt, BT.sub, wholeB, h1, h2]
  | bl b => simp [mf_is_whole, bodyRun, m_is_whole, fIsi, PV.bt, BT.sub, wholeB]
  | non => simp [mf_is_whole, bodyRun, m_is_whole, fIsi, PV.bt, BT.sub, wholeB]
theorem law_whole_ok (cs : Cs) {d : PV} (h : Smp d) (lo hi : Int) : mf_law_whole cs [.fz d, .fz (.int lo), .fz (.int hi)] = .ret (.fz (.bl (wholeB lo hi d))) [.fz d, .fz (.int lo), .fz (.int hi)] := by
  cases h with
  | int i =>
    by_cases h1 : lo ≤ i <;> by_cases h2 : i ≤ hi <;> simp [mf_law_whole, bodyRun, m_law_whole, fIsi, PV.bt, BT.sub, wholeB, h1, h2]
  | bl b => simp [mf_law_whole, bodyRun, m_law_whole, fIsi, PV.bt, BT.sub, wholeB]
  | non => simp [mf_law_whole, bodyRun, m_law_whole, fIsi, PV.bt, BT.sub, wholeB]
theorem is_seq_t (cs : Cs) (xs : List PV) : mf_is_sequence cs [.fz (.tup xs)] = .ret (.fz (.bl true)) [.fz (.tup xs)] := by
  simp [mf_is_sequence, bodyRun, m_is_sequence, fIsi, PV.bt, BT.sub]
theorem is_seq_l (cs : Cs) (xs : List PV) : mf_is_sequence cs [.fz (.lst xs)] = .ret (.fz (.bl true)) [.fz (.lst xs)] := by
  simp [mf_is_sequence, bodyRun, m_is_sequence, fIsi, PV.bt, BT.sub]
theorem is_way_ok (cs : Cs) {S C : Int} {w : List Int} (h : Wy S C w) : mf_is_way cs [.fz (tI w), .fz (.int S), .fz (.int C)] = .ret (.fz (.bl true)) [.fz (tI w), .fz (.int S), .fz (.int C)] := by
  obtain ⟨s, c, a, t, rfl, h1, h2, h3, h4⟩ := h
  have q : mf_is_sequence cs [.fz (.tup [.int s, .int c, .int a, .int t])] = _ := is_seq_t cs _
  have e1 := is_whole_ok cs (.int s) 0 (S - 1)
  have e2 := is_whole_ok cs (.int c) 0 (C - 1)
  have e3 := is_whole_ok cs (.int a) 0 2
  have e4 := is_whole_ok cs (.int t) 0 (S - 1)
  simp only [wholeB, decide_eq_true h1.1, decide_eq_true h2.1, decide_eq_true h3.1, decide_eq_true h4.1, decide_eq_true (show s ≤ S - 1 by omega), decide_eq_true (show c ≤ C - 1 by omega), decide_eq_true (show a ≤ 2 by omega), decide_eq_true (show t ≤ S - 1 by omega), Bool.and_self] at e1 e2 e3 e4
  simp [mf_is_way, bodyRun, m_is_way, tI, q, e1, e2, e3, e4]
def bk (cs : Cs) (S C : Int) (ws : List (List Int)) : PV := .obj cs.Book [("states", .int S), ("calls", .int C), ("ways", .tup (ws.map tI))]
theorem ne1 : (("states" : String) : Str) ≠ (("calls" : String) : Str) := by decide +kernel
theorem ne2 : (("states" : String) : Str) ≠ (("ways" : String) : Str) := by decide +kernel
theorem ne3 : (("calls" : String) : Str) ≠ (("ways" : String) : Str) := by decide +kernel
theorem fld_states (cs : Cs) (S C : Int) (ws : List (List Int)) : fFld cs.Book "states" (bk cs S C ws) = some (.fz (.int S)) := by
  simp [fFld, bk, List.lookup]
theorem fld_calls (cs : Cs) (S C : Int) (ws : List (List Int)) : fFld cs.Book "calls" (bk cs S C ws) = some (.fz (.int C)) := by
  have h : (((("calls" : String) : Str)) == (("states" : String) : Str)) = false := by decide +kernel
  simp [fFld, bk, List.lookup, h]
theorem fld_ways (cs : Cs) (S C : Int) (ws : List (List Int)) : fFld cs.Book "ways" (bk cs S C ws) = some (.fz (.tup (ws.map tI))) := by
  have h : (((("ways" : String) : Str)) == (("states" : String) : Str)) = false := by decide +kernel
  have h2 : (((("ways" : String) : Str)) == (("calls" : String) : Str)) = false := by decide +kernel
  simp [fFld, bk, List.lookup, h, h2]
theorem rng_map (n m : Nat) : rangeL (n : Int) (m : Int) = (List.range (m - n)).map fun (k : Nat) => PV.int ((n + k : Nat) : Int) := by
  refine List.ext_getElem? fun i => ?_
  by_cases h : i < m - n
  · have hl : i < (rangeL (n : Int) (m : Int)).length := by rw [rangeL_len]; omega
    obtain ⟨_, e⟩ := rangeL_get (List.getElem?_eq_getElem hl)
    rw [List.getElem?_eq_getElem hl, e]
    simp [h]
  · rw [List.getElem?_eq_none (by rw [rangeL_len]; omega), List.getElem?_eq_none (by simp; omega)]
theorem cw_loop1 (cs : Cs) {S C : Nat} {rows : List (List Int)} (h : ∀ w ∈ rows, Wy S C w) (R : PV) :
    ∃ j, forRun (gN 3 3) (b_check_ways_1 cs) (rows.map tI) [.fz (.int S), .fz (.int C), .fz R, .un, .un, .un, .un] = .nx [.fz (.int S), .fz (.int C), .fz R, j, .un, .un, .un] := by
  refine ⟨_, forRun_look (fun j => [.fz (.int S), .fz (.int C), .fz R, j, .un, .un, .un]) (rows.map tI) .un ?_⟩
  intro d hd j
  obtain ⟨w, hw, rfl⟩ := List.mem_map.1 hd
  refine ⟨_, rfl, ?_⟩
  have e := is_way_ok cs (h w hw)
  simp [b_check_ways_1, e]
theorem cw_comp1 (cs : Cs) {rows : List (List Int)} (hl : rows.length ≤ 16777216) (a b : PV) (R : PV) :
    compRun [3] (gN 3 3) (mR true) (mFz (mOp1 fTuple (oN 3))) (rows.map tI) [] [.fz a, .fz b, .fz R, .un, .un, .un, .un] = .ok (.own (.lst (rows.map tI))) [.fz a, .fz b, .fz R, .un, .un, .un, .un] := by
  have comp1 := compRun_map (vs := [3]) (g := gN 3 3) (mt := mR true) (me := mFz (mOp1 fTuple (oN 3))) (e := [.fz a, .fz b, .fz R, .un, .un, .un, .un]) (fun d => d) (rows.map tI) (by
    intro d hd
    obtain ⟨w, hw, rfl⟩ := List.mem_map.1 hd
    exact ⟨_, _, [.fz a, .fz b, .fz R, .fz (tI w), .un, .un, .un], rfl, rfl, by simp [tI], rfl⟩) (by rw [List.length_map]; exact hl)
  rwa [List.map_id'] at comp1
theorem cw_loop2 (cs : Cs) {ks : List (List Int)} (hn : ks.Nodup) (a b R : PV) :
    ∃ j, forRun (gN 3 5) (b_check_ways_2 cs) (rangeL 1 (ks.length : Int)) [.fz a, .fz b, .fz R, .un, .own (.lst (ks.map tI)), .un, .un] = .nx [.fz a, .fz b, .fz R, .un, .own (.lst (ks.map tI)), j, .un] := by
  refine ⟨_, forRun_look (fun j => [.fz a, .fz b, .fz R, .un, .own (.lst (ks.map tI)), j, .un]) (rangeL 1 (ks.length : Int)) .un ?_⟩
  intro d hd j
  have e1 := rng_map 1 ks.length
  rw [show ((1 : Nat) : Int) = 1 from rfl] at e1
  rw [e1] at hd
  obtain ⟨i, hi, rfl⟩ := List.mem_map.1 hd
  rw [List.mem_range] at hi
  have g1 : atI (ks.map tI) (((1 + i : Nat) : Int) - 1) = some (tI ks[i]) := by
    rw [show ((1 + i : Nat) : Int) - 1 = (i : Int) by omega]
    exact atI_nat (by simp [show i < ks.length by omega])
  have g2 : atI (ks.map tI) ((1 + i : Nat) : Int) = some (tI (ks[1 + i]'(by omega))) := atI_nat (by simp [show 1 + i < ks.length by omega])
  have hne : ks[i] ≠ ks[1 + i]'(by omega) := by
    intro e
    have := (List.getElem_inj hn).1 e
    omega
  refine ⟨_, rfl, ?_⟩
  simp only [b_check_ways_2]
  generalize ((1 + i : Nat) : Int) = v at *
  simp [g1, g2, hne]
theorem cw_comp2 (cs : Cs) {ks : List (List Int)} {S C : Int} (hw : ∀ w ∈ ks, Wy S C w) (hl : ks.length ≤ 16777216) (a b R : PV) (j2 : Sl) :
    compRunD [3] (gN 3 3) (mR true) (mFz (mTup (mCons (mFz (mOp2 fIx (oN 3) (oV (mFz (mC (.int 0)))))) (mCons (mFz (mOp2 fIx (oN 3) (oV (mFz (mC (.int 1)))))) (mNil))))) (mFz (mC (.bl true))) (ks.map tI) [] [.fz a, .fz b, .fz R, .un, .fz (.lst (ks.map tI)), j2, .un] =
      .ok (.own (.dt ((nubL (ks.map begL)).map fun k => (k.map Sum.inl, .bl true)))) [.fz a, .fz b, .fz R, .un, .fz (.lst (ks.map tI)), j2, .un] := by
  refine compRunD_map (fun d => match d with | .tup (a :: b :: _) => (.tup [a, b], .bl true) | _ => (.non, .non)) (ks.map tI) [] ?_ ?_ ?_
  · intro d hd
    obtain ⟨w, hw', rfl⟩ := List.mem_map.1 hd
    obtain ⟨s, c, a', t, rfl, _⟩ := hw w hw'
    refine ⟨_, [.fz a, .fz b, .fz R, .fz (tI [s, c, a', t]), .fz (.lst (ks.map tI)), j2, .un], [.fz a, .fz b, .fz R, .fz (tI [s, c, a', t]), .fz (.lst (ks.map tI)), j2, .un], [.fz a, .fz b, .fz R, .fz (tI [s, c, a', t]), .fz (.lst (ks.map tI)), j2, .un], rfl, rfl, ?_, rfl, rfl⟩
    simp [tI]
  · rw [List.length_map]; simpa using hl
  · rw [← gath_rows, List.nil_append, List.map_map, List.map_map]
    congr 1
    refine List.map_congr_left fun w hw' => ?_
    obtain ⟨s, c, a, t, rfl, _⟩ := hw w hw'
    rfl
theorem cw_q6 (cs : Cs) {S C p : Int} (dd : List (List Key × PV)) (mS : mulB S C = true) (hp : S * C = p) (n : ¬ (dd.length : Int) < p) (R x : PV) (j2 : Sl) : (sIf (mT (mOp2 fLt (oV (mFz (mOp1 fLenU (oN 6)))) (oV (mFz (mOp2 fMul2 (oN 0) (oN 1)))))) (sExcA cs.BadBook ["what"] (mCons (mFz (mC (.str "lacking"))) (mNil))) (sNx)) [.fz (.int S), .fz (.int C), .fz R, .un, .fz x, j2, .own (.dt dd)] = .nx [.fz (.int S), .fz (.int C), .fz R, .un, .fz x, j2, .own (.dt dd)] := by
  simp [mS, hp, n]
theorem check_ways_ok (cs : Cs) {S C : Nat} {rows : List (List Int)} (h : Bks S C rows) :
    mf_check_ways cs [.fz (.int S), .fz (.int C), .fz (.lst (rows.map tI))] = .ret (.fz (.tup ((rows.mergeSort leL).map tI))) [.fz (.int S), .fz (.int C), .fz (.lst (rows.map tI))] := by
  have hlen := h.len
  have q := is_seq_l cs (rows.map tI)
  obtain ⟨j, loop1⟩ := cw_loop1 cs h.way (.lst (rows.map tI))
  have comp1 := cw_comp1 cs (rows := rows) (by omega) (.int S) (.int C) (.lst (rows.map tI))
  have srt := fSorted_tI (xs := rows) (fun x hx => by obtain ⟨s, c, a, t, rfl, _⟩ := h.way x hx; simp) (by omega)
  have hB := h.sort
  generalize hk : rows.mergeSort leL = ks at *
  have hkl : ks.length ≤ 432 := hB.len
  obtain ⟨j2, loop2⟩ := cw_loop2 cs hB.nd (.int S) (.int C) (.lst (rows.map tI))
  have comp2 := cw_comp2 cs hB.way (by omega) (.int S) (.int C) (.lst (rows.map tI)) j2
  have hbeg := hB.begins
  have i0 : inR 1 = true := inR_of' (by omega) (by omega)
  have i1 : inR (ks.length : Int) = true := inR_of' (by omega) (by omega)
  have mS : mulB (S : Int) (C : Int) = true := mulB_l (by omega) (by have := h.s2; omega)
  have n1 : ¬ ((432 : Int) < rows.length) := by omega
  have n2 : ¬ (((nubL (ks.map begL)).length : Int) < (S : Int) * C) := by rw [← Int.natCast_mul]; omega
  have q6 := cw_q6 cs ((nubL (ks.map begL)).map fun k => (k.map Sum.inl, .bl true)) mS rfl (by rw [List.length_map]; exact n2) (.lst (rows.map tI)) (.lst (ks.map tI)) j2
  unfold mf_check_ways
  refine (body_ret (e := [.fz (.int S), .fz (.int C), .fz (.lst (rows.map tI)), .un, .fz (.lst (ks.map tI)), j2, .own (.dt ((nubL (ks.map begL)).map fun k => (k.map Sum.inl, .bl true)))]) ?_).trans rfl
  unfold m_check_ways
  refine (sSq_nx (e1 := [.fz (.int S), .fz (.int C), .fz (.lst (rows.map tI)), .un, .un, .un, .un]) (by simp [q, n1])).trans ?_
  refine (sSq_nx (e1 := [.fz (.int S), .fz (.int C), .fz (.lst (rows.map tI)), j, .un, .un, .un]) (by simp [l_check_ways_1, loop1])).trans ?_
  refine (sSq_nx (e1 := [.fz (.int S), .fz (.int C), .fz (.lst (rows.map tI)), .un, .own (.lst (ks.map tI)), .un, .un]) (by simp [k_check_ways_1, wipeE, comp1, srt])).trans ?_
  refine (sSq_nx (e1 := [.fz (.int S), .fz (.int C), .fz (.lst (rows.map tI)), .un, .own (.lst (ks.map tI)), j2, .un]) (by simp [l_check_ways_2, i0, i1, loop2])).trans ?_
  refine (sSq_nx (e1 := [.fz (.int S), .fz (.int C), .fz (.lst (rows.map tI)), .un, .fz (.lst (ks.map tI)), j2, .own (.dt ((nubL (ks.map begL)).map fun k => (k.map Sum.inl, .bl true)))]) (by simp [k_check_ways_2, wipeE, comp2])).trans ?_
  refine (sSq_nx q6).trans ?_
  simp
theorem init_ok (cs : Cs) {S C : Nat} {rows : List (List Int)} (h : Bks S C rows) :
    mf_Book___init__ cs [.own (.obj cs.Book []), .fz (.int S), .fz (.int C), .fz (.lst (rows.map tI))] = .ret (.fz .non) [.own (bk cs S C (rows.mergeSort leL)), .fz (.int S), .fz (.int C), .fz (.lst (rows.map tI))] := by
  have e1 := is_whole_ok cs (.int S) 1 6
  have e2 := is_whole_ok cs (.int C) 1 4
  have a1 := h.s1
  have a2 := h.s2
  have a3 := h.c1
  have a4 := h.c2
  simp only [wholeB, decide_eq_true (show (1 : Int) ≤ S by omega), decide_eq_true (show (S : Int) ≤ 6 by omega), decide_eq_true (show (1 : Int) ≤ C by omega), decide_eq_true (show (C : Int) ≤ 4 by omega), Bool.and_self] at e1 e2
  have e3 := check_ways_ok cs h
  generalize rows.mergeSort leL = ks at *
  clear h a1 a2 a3 a4
  generalize (S : Int) = s at *
  generalize (C : Int) = c at *
  generalize PV.lst (rows.map tI) = R at *
  simp [mf_Book___init__, bodyRun, m_Book___init__, putP, ne1, ne2, ne3, bk, e1, e2, e3]
end K02

set_option linter.all false
set_option maxRecDepth 100000
set_option maxHeartbeats 4000000
set_option pp.maxSteps 900
/-! Q6: the drawn books and histories. -/
namespace VS
open PySem L2
theorem forRun_pre {α : Type} (f : α → PV) (P : List α → Fr → Prop) {g : MG} {mb : MS} {xs : List α} {e : Fr} (h0 : P [] e)
    (h : ∀ pre x post e, xs = pre ++ x :: post → P pre e → ∃ e1 e2, g (f x) e = some e1 ∧ mb e1 = .nx e2 ∧ P (pre ++ [x]) e2) :
    ∃ e', forRun g mb (xs.map f) e = .nx e' ∧ P xs e' := by
  suffices q : ∀ (post pre : List α) (e : Fr), xs = pre ++ post → P pre e → ∃ e', forRun g mb (post.map f) e = .nx e' ∧ P xs e' from q xs [] e rfl h0
  intro post
  induction post with
  | nil =>
    intro pre e hx hp
    exact ⟨e, rfl, by rw [hx, List.append_nil]; exact hp⟩
  | cons x post ih =>
    intro pre e hx hp
    obtain ⟨e1, e2, h1, h2, h3⟩ := h pre x post e hx hp
    obtain ⟨e', h4, h5⟩ := ih (pre ++ [x]) e2 (by rw [hx]; simp) h3
    exact ⟨e', by rw [List.map_cons, forRun_go h1 h2, h4], h5⟩
theorem tup4 (a b c d : Int) : PV.tup [.int a, .int b, .int c, .int d] = tI [a, b, c, d] := rfl
theorem tup3 (a b c : Int) : PV.tup [.int a, .int b, .int c] = tI [a, b, c] := rfl
theorem tup2 (a b : Int) : PV.tup [.int a, .int b] = tI [a, b] := rfl
theorem atI_lastG {α : Type} (xs : List α) : atI xs (-1) = xs.getLast? := by
  cases xs with
  | nil => rfl
  | cons x xs =>
    have e : ixN (x :: xs).length (-1) = some xs.length := by
      unfold ixN
      rw [if_neg (by decide), if_pos (by simp; omega)]
      congr 1
      rw [List.length_cons]; omega
    unfold atI
    rw [e, List.getLast?_eq_getElem?]
    simp
theorem eqv_lT (a b : List (List Int)) : PyData.eqv (PV.lst (a.map tI)).toD (PV.lst (b.map tI)).toD = decide (a = b) := by
  show PyData.eqv (.list (toDs (a.map tI))) (.list (toDs (b.map tI))) = _
  rw [PyData.eqv, eqvAll_map tI eqv_tI]
theorem eqv_lL (a b : List (List Int)) : PyData.eqv (PV.lst (a.map lI)).toD (PV.lst (b.map lI)).toD = decide (a = b) := by
  show PyData.eqv (.list (toDs (a.map lI))) (.list (toDs (b.map lI))) = _
  rw [PyData.eqv, eqvAll_map lI eqv_lI]
theorem fEq_lT (a b : List (List Int)) : fEq (.lst (a.map tI)) (.lst (b.map tI)) = some (.fz (.bl (decide (a = b)))) := by simp [fEq, eqv_lT]
theorem fNe_lT (a b : List (List Int)) : fNe (.lst (a.map tI)) (.lst (b.map tI)) = some (.fz (.bl (!decide (a = b)))) := by simp [fNe, eqv_lT]
theorem fNe_lL (a b : List (List Int)) : fNe (.lst (a.map lI)) (.lst (b.map lI)) = some (.fz (.bl (!decide (a = b)))) := by simp [fNe, eqv_lL]
theorem fNe_lI (a b : List Int) : fNe (.lst (a.map .int)) (.lst (b.map .int)) = some (.fz (.bl (!decide (a = b)))) := by
  have := eqv_lI a b
  unfold lI at this
  simp [fNe, this]
theorem rangeL_nat (n : Nat) : rangeL 0 (n : Int) = (rgI n).map PV.int := rangeL_rgI n
theorem fEq_lT0 (a : List (List Int)) : fEq (.lst (a.map tI)) (.lst []) = some (.fz (.bl (decide (a = [])))) := fEq_lT a []
theorem fNe_tI0 (a : List Int) : fNe (.tup (a.map .int)) (.tup []) = some (.fz (.bl (!decide (a = [])))) := fNe_tupI a []
end VS
namespace K02
open PySem L2 VS
theorem law_ways_ok (cs : Cs) {rows : List (List Int)} (hne : ∀ x ∈ rows, x ≠ []) (hl : rows.length ≤ 1000) :
    mf_law_ways cs [.fz (.lst (rows.map tI))] = .ret (.fz (.tup ((waysL rows).map tI))) [.fz (.lst (rows.map tI))] := by
  have srt := fSorted_tI hne (by omega)
  have hks : (rows.mergeSort leL).length ≤ 1000 := by rw [List.length_mergeSort]; exact hl
  unfold waysL
  generalize rows.mergeSort leL = ks at *
  generalize PV.lst (rows.map tI) = R at *
  obtain ⟨e', loop, j, rfl⟩ := forRun_pre tI (fun pre e => ∃ j : Sl, e = [.fz R, .own (.lst ((pre.foldl ddS []).map tI)), j]) (g := gN 1 2) (mb := b_law_ways_1 cs) (xs := ks) (e := [.fz R, .own (.lst []), .un]) ⟨.un, rfl⟩ (by
    rintro pre x post e hx ⟨j, rfl⟩
    have hlen : (pre.foldl ddS []).length ≤ pre.length := by
      suffices q : ∀ (l acc : List (List Int)), (l.foldl ddS acc).length ≤ acc.length + l.length by simpa using q pre []
      intro l
      induction l with
      | nil => intro acc; simp
      | cons a l ih =>
        intro acc
        refine Nat.le_trans (ih _) ?_
        unfold ddS
        split <;> simp <;> omega
    have hpre : pre.length ≤ 1000 := by rw [hx] at hks; simp at hks; omega
    rw [List.foldl_append, List.foldl_cons, List.foldl_nil]
    generalize pre.foldl ddS [] = acc at *
    refine ⟨_, [.fz R, .own (.lst ((ddS acc x).map tI)), .fz (tI x)], rfl, ?_, _, rfl⟩
    have l1 : acc.length < 16777216 := by omega
    have e0 := fEq_lT0 acc
    by_cases h0 : acc = []
    · subst h0
      have e0' : fEq (.lst []) (.lst []) = some (.fz (.bl true)) := fEq_same rfl
      simp [b_law_ways_1, ddS, e0']
    · rw [decide_eq_false h0] at e0
      obtain ⟨z, hz⟩ : ∃ z, acc.getLast? = some z := by
        cases h : acc.getLast? with
        | none => exact absurd (List.getLast?_eq_none_iff.1 h) h0
        | some z => exact ⟨z, rfl⟩
      have a1 : atI (acc.map tI) (-1) = some (tI z) := by rw [atI_map, atI_lastG, hz]; rfl
      by_cases hzx : z = x
      · subst hzx
        simp [b_law_ways_1, ddS, e0, a1, hz]
      · simp [b_law_ways_1, ddS, e0, a1, hz, hzx, l1])
  refine (body_ret (e := [.fz R, .own (.lst ((ks.foldl ddS []).map tI)), j]) ?_).trans rfl
  unfold m_law_ways
  refine (sSq_nx (e1 := [.fz R, .own (.lst []), .un]) (by simp)).trans ?_
  refine (sSq_nx (e1 := [.fz R, .own (.lst ((ks.foldl ddS []).map tI)), j]) (by simp [l_law_ways_1, srt, loop])).trans ?_
  simp
theorem flat_inner (cs : Cs) {S C A : Nat} (s1 : 1 ≤ S) (s2 : S ≤ 6) (a1 : 1 ≤ A) (a2 : A ≤ 3) (s : Int) (hs : 0 ≤ s ∧ s < S) (y : Sl) {h : PV} (hh : Hand h) {rows : List (List Int)} (hl : rows.length ≤ 1000) (hC : C ≤ 4) (hw : ∀ w ∈ rows, Wy S C w) :
    ∃ (h' : PV) (rows' : List (List Int)) (y' : Sl), Hand h' ∧ (∀ w ∈ rows', Wy S C w) ∧ (∀ w ∈ rows, w ∈ rows') ∧ (∀ c : Int, 0 ≤ c → c < C → ∃ a t, [s, c, a, t] ∈ rows') ∧ rows'.length = rows.length + C ∧
      forRun (gN 4 6) (b_law_flat_1 cs) ((rgI C).map .int) [.own h, .fz (.int S), .fz (.int C), .fz (.int A), .own (.lst (rows.map tI)), .fz (.int s), y] = .nx [.own h', .fz (.int S), .fz (.int C), .fz (.int A), .own (.lst (rows'.map tI)), .fz (.int s), y'] := by
  obtain ⟨e', loop, h', rows', y', hh', hw', hsub, hful, hlen, rfl⟩ := forRun_pre PV.int (fun pre e => ∃ (h' : PV) (rows' : List (List Int)) (y' : Sl), Hand h' ∧ (∀ w ∈ rows', Wy S C w) ∧ (∀ w ∈ rows, w ∈ rows') ∧ (∀ c ∈ pre, ∃ a t, [s, c, a, t] ∈ rows') ∧ rows'.length = rows.length + pre.length ∧ e = [.own h', .fz (.int S), .fz (.int C), .fz (.int A), .own (.lst (rows'.map tI)), .fz (.int s), y'])
    (g := gN 4 6) (mb := b_law_flat_1 cs) (xs := rgI C) (e := [.own h, .fz (.int S), .fz (.int C), .fz (.int A), .own (.lst (rows.map tI)), .fz (.int s), y]) ⟨h, rows, y, hh, hw, fun _ z => z, nofun, rfl, rfl⟩ (by
      rintro pre c post e hx ⟨h', rows', y', hh', hw', hsub, hful, hlen, rfl⟩
      have hc : c ∈ rgI C := by rw [hx]; simp
      rw [mem_rgI] at hc
      have hp : pre.length ≤ 4 := by have := congrArg List.length hx; rw [rgI_len] at this; simp at this; omega
      obtain ⟨a, h1, ha, hh1, e1⟩ := draw_nat cs hh' (many := A) (by omega) (by omega)
      obtain ⟨t, h2, ht, hh2, e2⟩ := draw_nat cs hh1 (many := S) (by omega) (by omega)
      have l1 : rows'.length < 16777216 := by omega
      refine ⟨_, [.own h2, .fz (.int S), .fz (.int C), .fz (.int A), .own (.lst ((rows' ++ [[s, c, (a : Int), (t : Int)]]).map tI)), .fz (.int s), .fz (.int c)], rfl, ?_, h2, _, _, hh2, ?_, ?_, ?_, ?_, rfl⟩
      · simp [b_law_flat_1, e1, e2, l1, tup4]
      · intro w hw
        rcases List.mem_append.1 hw with z | z
        · exact hw' w z
        · rw [List.mem_singleton.1 z]
          exact ⟨_, _, _, _, rfl, hs, hc, by omega, by omega⟩
      · intro w z; exact List.mem_append_left _ (hsub w z)
      · intro c' hc'
        rcases List.mem_append.1 hc' with z | z
        · obtain ⟨a, t, q⟩ := hful c' z
          exact ⟨a, t, List.mem_append_left _ q⟩
        · rw [List.mem_singleton.1 z]
          exact ⟨_, _, List.mem_append_right _ (List.mem_singleton.2 rfl)⟩
      · simp [hlen]; omega)
  exact ⟨h', rows', y', hh', hw', hsub, fun c c0 c1 => hful c (mem_rgI.2 ⟨c0, c1⟩), by rw [hlen, rgI_len], loop⟩
theorem law_flat_ok (cs : Cs) {S C A : Nat} (s1 : 1 ≤ S) (s2 : S ≤ 6) (c2 : C ≤ 4) (a1 : 1 ≤ A) (a2 : A ≤ 3) {h : PV} (hh : Hand h) :
    ∃ (h' : PV) (rows : List (List Int)), Hand h' ∧ (∀ w ∈ rows, Wy S C w) ∧ (∀ s c : Int, 0 ≤ s → s < S → 0 ≤ c → c < C → ∃ a t, [s, c, a, t] ∈ rows) ∧ rows.length ≤ 24 ∧
      mf_law_flat cs [.own h, .fz (.int S), .fz (.int C), .fz (.int A)] = .ret (.own (.lst (rows.map tI))) [.own h', .fz (.int S), .fz (.int C), .fz (.int A)] := by
  have i1 : inR (S : Int) = true := inR_of' (by omega) (by omega)
  have i2 : inR (C : Int) = true := inR_of' (by omega) (by omega)
  obtain ⟨e', loop, h', rows', x', y', hh', hw', hful, hlen, rfl⟩ := forRun_pre PV.int (fun pre e => ∃ (h' : PV) (rows' : List (List Int)) (x' y' : Sl), Hand h' ∧ (∀ w ∈ rows', Wy S C w) ∧ (∀ s ∈ pre, ∀ c : Int, 0 ≤ c → c < C → ∃ a t, [s, c, a, t] ∈ rows') ∧ rows'.length = pre.length * C ∧ e = [.own h', .fz (.int S), .fz (.int C), .fz (.int A), .own (.lst (rows'.map tI)), x', y'])
    (g := gN 4 5) (mb := b_law_flat_2 cs) (xs := rgI S) (e := [.own h, .fz (.int S), .fz (.int C), .fz (.int A), .own (.lst []), .un, .un]) ⟨h, [], .un, .un, hh, nofun, nofun, by simp, rfl⟩ (by
      rintro pre s post e hx ⟨h', rows', x', y', hh', hw', hful, hlen, rfl⟩
      have hs : s ∈ rgI S := by rw [hx]; simp
      rw [mem_rgI] at hs
      have hp : pre.length ≤ 6 := by have := congrArg List.length hx; rw [rgI_len] at this; simp at this; omega
      have hl : rows'.length ≤ 6 * 4 := by rw [hlen]; exact Nat.mul_le_mul hp c2
      obtain ⟨h2, rows2, y2, hh2, hw2, hsub, hf2, hl2, e2⟩ := flat_inner cs s1 s2 a1 a2 s hs y' hh' (rows := rows') (by omega) c2 hw'
      refine ⟨_, [.own h2, .fz (.int S), .fz (.int C), .fz (.int A), .own (.lst (rows2.map tI)), .fz (.int s), y2], rfl, ?_, h2, rows2, _, _, hh2, hw2, ?_, ?_, rfl⟩
      · simp [b_law_flat_2, l_law_flat_1, i2, rangeL_nat, e2]
      · intro s' hs' c c0 c1
        rcases List.mem_append.1 hs' with z | z
        · obtain ⟨a, t, q⟩ := hful s' z c c0 c1
          exact ⟨a, t, hsub _ q⟩
        · rw [List.mem_singleton.1 z]; exact hf2 c c0 c1
      · rw [hl2, hlen]; simp [Nat.add_mul])
  refine ⟨h', rows', hh', hw', fun s c a b => hful s (mem_rgI.2 ⟨a, b⟩) c, ?_, ?_⟩
  · rw [hlen, rgI_len]; exact Nat.mul_le_mul s2 c2
  · refine (body_ret (e := [.own h', .fz (.int S), .fz (.int C), .fz (.int A), .un, x', y']) ?_).trans rfl
    unfold m_law_flat
    refine (sSq_nx (e1 := [.own h, .fz (.int S), .fz (.int C), .fz (.int A), .own (.lst []), .un, .un]) (by simp)).trans ?_
    refine (sSq_nx (e1 := [.own h', .fz (.int S), .fz (.int C), .fz (.int A), .own (.lst (rows'.map tI)), x', y']) (by simp [l_law_flat_2, i1, rangeL_nat, loop])).trans ?_
    simp
def bkT (S C : Nat) (ws : List (List Int)) : PV := .tup [.int S, .int C, .tup (ws.map tI)]
theorem large_2 (cs : Cs) {S C : Nat} (s1 : 1 ≤ S) (s2 : S ≤ 6) (c1 : 1 ≤ C) (c2 : C ≤ 4) (x4 x5 x6 : Sl) {h : PV} (hh : Hand h) {rows : List (List Int)} (hl : rows.length ≤ 24) (hw : ∀ w ∈ rows, Wy S C w) (n : Nat) (hn : n ≤ 13) :
    ∃ (h' : PV) (rows' : List (List Int)) (y7 y8 : Sl), Hand h' ∧ (∀ w ∈ rows', Wy S C w) ∧ (∀ w ∈ rows, w ∈ rows') ∧ rows'.length ≤ 1000 ∧
      forRun (gN 1 7) (b_law_large_book_2 cs) ((rgI n).map .int) [.own h, .fz (.int S), .fz (.int C), .own (.lst (rows.map tI)), x4, x5, x6, .un, .un] = .nx [.own h', .fz (.int S), .fz (.int C), .own (.lst (rows'.map tI)), x4, x5, x6, y7, y8] := by
  obtain ⟨e', loop, h', rows', y7, y8, hh', hw', hsub, hlen, rfl⟩ := forRun_pre PV.int (fun pre e => ∃ (h' : PV) (rows' : List (List Int)) (y7 y8 : Sl), Hand h' ∧ (∀ w ∈ rows', Wy S C w) ∧ (∀ w ∈ rows, w ∈ rows') ∧ rows'.length = rows.length + pre.length ∧ e = [.own h', .fz (.int S), .fz (.int C), .own (.lst (rows'.map tI)), x4, x5, x6, y7, y8])
    (g := gN 1 7) (mb := b_law_large_book_2 cs) (xs := rgI n) (e := [.own h, .fz (.int S), .fz (.int C), .own (.lst (rows.map tI)), x4, x5, x6, .un, .un]) ⟨h, rows, .un, .un, hh, hw, fun _ z => z, rfl, rfl⟩ (by
      rintro pre k post e hx ⟨h', rows', y7, y8, hh', hw', hsub, hlen, rfl⟩
      have hp : pre.length ≤ 13 := by have := congrArg List.length hx; rw [rgI_len] at this; simp at this; omega
      obtain ⟨s, h1, hs, hh1, e1⟩ := draw_nat cs hh' (many := S) (by omega) (by omega)
      obtain ⟨c, h2, hc, hh2, e2⟩ := draw_nat cs hh1 (many := C) (by omega) (by omega)
      obtain ⟨a, h3, ha, hh3, e3⟩ := draw_nat cs hh2 (many := 3) (by omega) (by omega)
      obtain ⟨t, h4, ht, hh4, e4⟩ := draw_nat cs hh3 (many := S) (by omega) (by omega)
      have l1 : rows'.length < 16777216 := by omega
      rw [show ((3 : Nat) : Int) = 3 from rfl] at e3
      refine ⟨_, [.own h4, .fz (.int S), .fz (.int C), .own (.lst ((rows' ++ [[(s : Int), (c : Int), (a : Int), (t : Int)]]).map tI)), x4, x5, x6, .fz (.int k), .fz (.int s)], rfl, ?_, h4, _, _, _, hh4, ?_, ?_, ?_, rfl⟩
      · simp [b_law_large_book_2, e1, e2, e3, e4, l1, tup4]
      · intro w hw
        rcases List.mem_append.1 hw with z | z
        · exact hw' w z
        · rw [List.mem_singleton.1 z]
          exact ⟨_, _, _, _, rfl, by omega, by omega, by omega, by omega⟩
      · intro w z; exact List.mem_append_left _ (hsub w z)
      · simp [hlen]; omega)
  exact ⟨h', rows', y7, y8, hh', hw', hsub, by rw [hlen, rgI_len]; omega, loop⟩
theorem large_1 (cs : Cs) {S C : Nat} (s1 : 1 ≤ S) (s2 : S ≤ 6) (c1 : 1 ≤ C) (c2 : C ≤ 4) (gap : Int) (g2 : 2 ≤ gap) (g3 : gap ≤ 12) {h : PV} {rows : List (List Int)} (hl : rows.length ≤ 24) (hw : ∀ w ∈ rows, Wy S C w) (n : Nat) (hn : n = S * C * 3 * S) (hn2 : n ≤ 432) :
    ∃ (rows' : List (List Int)) (y5 y6 : Sl), (∀ w ∈ rows', Wy S C w) ∧ (∀ w ∈ rows, w ∈ rows') ∧ rows'.length ≤ 1000 ∧
      forRun (gN 1 5) (b_law_large_book_1 cs) ((rgI n).map .int) [.own h, .fz (.int S), .fz (.int C), .own (.lst (rows.map tI)), .fz (.int gap), .un, .un, .un, .un] = .nx [.own h, .fz (.int S), .fz (.int C), .own (.lst (rows'.map tI)), .fz (.int gap), y5, y6, .un, .un] := by
  obtain ⟨e', loop, rows', y5, y6, hw', hsub, hlen, rfl⟩ := forRun_pre PV.int (fun pre e => ∃ (rows' : List (List Int)) (y5 y6 : Sl), (∀ w ∈ rows', Wy S C w) ∧ (∀ w ∈ rows, w ∈ rows') ∧ rows'.length ≤ rows.length + pre.length ∧ e = [.own h, .fz (.int S), .fz (.int C), .own (.lst (rows'.map tI)), .fz (.int gap), y5, y6, .un, .un])
    (g := gN 1 5) (mb := b_law_large_book_1 cs) (xs := rgI n) (e := [.own h, .fz (.int S), .fz (.int C), .own (.lst (rows.map tI)), .fz (.int gap), .un, .un, .un, .un]) ⟨rows, .un, .un, hw, fun _ z => z, by simp, rfl⟩ (by
      rintro pre k post e hx ⟨rows', y5, y6, hw', hsub, hlen, rfl⟩
      have hp : pre.length ≤ 432 := by have := congrArg List.length hx; rw [rgI_len] at this; simp at this; omega
      have hk : k ∈ rgI n := by rw [hx]; simp
      rw [mem_rgI] at hk
      have l1 : rows'.length < 16777216 := by omega
      have g0 : 0 < gap := by omega
      have S0 : (0 : Int) < S := by omega
      have S0' : 0 < S := by omega
      have C0' : 0 < C := by omega
      have C0 : (0 : Int) < C := by omega
      have C3 : (0 : Int) < 3 * (C : Int) := by omega
      have C3' : 3 * (C : Int) < 1073741824 := by omega
      have Sb : (S : Int) < 1073741824 := by omega
      have m3 : mulB 3 (C : Int) = true := mulB_l (by decide) (by decide)
      have hr0 : 0 ≤ k / (S : Int) := Int.ediv_nonneg hk.1 (by omega)
      have hr1 : k / (S : Int) < (S : Int) * (3 * C) := by
        refine Int.ediv_lt_of_lt_mul S0 ?_
        have e : (S : Int) * (3 * C) * S = (n : Int) := by
          rw [hn]; push_cast; ac_rfl
        rw [e]; exact hk.2
      have hw1 : Wy S C [k / (S : Int) / (3 * C), k / (S : Int) / 3 % C, k / (S : Int) % 3, k % (S : Int)] :=
        ⟨_, _, _, _, rfl, ⟨Int.ediv_nonneg hr0 (by omega), Int.ediv_lt_of_lt_mul C3 hr1⟩, ⟨Int.emod_nonneg _ (by omega), Int.emod_lt_of_pos _ C0⟩, ⟨Int.emod_nonneg _ (by omega), Int.emod_lt_of_pos _ (by decide)⟩, Int.emod_nonneg _ (by omega), Int.emod_lt_of_pos _ S0⟩
      by_cases hc : 0 < k % gap ∨ gap = 11
      · refine ⟨_, [.own h, .fz (.int S), .fz (.int C), .own (.lst ((rows' ++ [[k / (S : Int) / (3 * C), k / (S : Int) / 3 % C, k / (S : Int) % 3, k % (S : Int)]]).map tI)), .fz (.int gap), .fz (.int k), .fz (.int (k / S)), .un, .un], rfl, ?_, _, _, _, ?_, ?_, ?_, rfl⟩
        · by_cases hc1 : 0 < k % gap
          · simp [b_law_large_book_1, g0, hc1, S0', C0', S0, Sb, C0, C3, C3', m3, l1, tup4]
          · have hc2 : gap = 11 := hc.resolve_left hc1
            subst hc2
            simp [b_law_large_book_1, hc1, S0', C0', S0, Sb, C0, C3, C3', m3, l1, tup4]
        · intro w hw
          rcases List.mem_append.1 hw with z | z
          · exact hw' w z
          · rw [List.mem_singleton.1 z]; exact hw1
        · intro w z; exact List.mem_append_left _ (hsub w z)
        · simp; omega
      · have hc1 : ¬ 0 < k % gap := fun z => hc (.inl z)
        have hc2 : ¬ gap = 11 := fun z => hc (.inr z)
        refine ⟨_, [.own h, .fz (.int S), .fz (.int C), .own (.lst (rows'.map tI)), .fz (.int gap), .fz (.int k), y6, .un, .un], rfl, ?_, _, _, _, hw', hsub, ?_, rfl⟩
        · simp [b_law_large_book_1, g0, hc1, hc2]
        · simp; omega)
  exact ⟨rows', y5, y6, hw', hsub, by rw [rgI_len] at hlen; omega, loop⟩
end K02

set_option linter.all false
set_option maxRecDepth 100000
set_option maxHeartbeats 4000000
set_option pp.maxSteps 900
/-! Q7: the drawn books and histories, the law's walks. -/
namespace VS
open PySem L2
theorem compRun_fm {α : Type} {vs : List Nat} {g : MG} {mt : Mo Bool} {me : Mo PV} {e : Fr} (k : α → PV) (p : α → Bool) (f : α → PV) (xs : List α)
    (h : ∀ x ∈ xs, ∃ e1 e2, g (k x) e = some e1 ∧ mt e1 = .ok (p x) e2 ∧ (p x = false → wipeE e2 vs = e) ∧ (p x = true → ∃ e3, me e2 = .ok (f x) e3 ∧ wipeE e3 vs = e)) (hl : xs.length ≤ 16777216) :
    compRun vs g mt me (xs.map k) [] e = .ok (.own (.lst ((xs.filter p).map f))) e := by
  suffices q : ∀ (xs : List α) (acc : List PV), (∀ x ∈ xs, ∃ e1 e2, g (k x) e = some e1 ∧ mt e1 = .ok (p x) e2 ∧ (p x = false → wipeE e2 vs = e) ∧ (p x = true → ∃ e3, me e2 = .ok (f x) e3 ∧ wipeE e3 vs = e)) → acc.length + xs.length ≤ 16777216 →
      compRun vs g mt me (xs.map k) acc e = .ok (.own (.lst (acc ++ (xs.filter p).map f))) e from q xs [] h (by simpa using hl)
  intro xs
  induction xs with
  | nil =>
    intro acc _ _
    unfold compRun; simp
  | cons x xs ih =>
    intro acc h hl
    obtain ⟨e1, e2, h1, h2, h3, h4⟩ := h x List.mem_cons_self
    rw [List.length_cons] at hl
    rw [List.map_cons]
    unfold compRun
    rw [h1]; dsimp only
    rw [h2]
    cases hp : p x with
    | false =>
      dsimp only
      rw [h3 hp, ih acc (fun y hy => h y (List.mem_cons_of_mem _ hy)) (by omega), List.filter_cons_of_neg (by rw [hp]; decide)]
    | true =>
      obtain ⟨e3, h5, h6⟩ := h4 hp
      dsimp only
      rw [h5]; dsimp only
      rw [if_pos (by rw [sizeLine_eq]; omega), h6, ih _ (fun y hy => h y (List.mem_cons_of_mem _ hy)) (by simp; omega), List.filter_cons_of_pos hp]
      simp
def walk2 (ws : List (List Int)) (st : List Int) (tr : List (List Int)) : List Int := tr.foldl (fun st x => stp ws st (x.getD 0 0) (x.getD 1 0)) st
def trail (x : List Int) : List Int := [x.getD 1 0, x.getD 2 0]
theorem walk_trail (ws : List (List Int)) (st : List Int) (h : List (List Int)) : walk2 ws st (h.map trail) = walk ws st h := by
  unfold walk2 walk; rw [List.foldl_map]; rfl
def letsL (ws : List (List Int)) (st : List Int) (c : Int) : List Int := (rgI 3).filter fun a => !decide (stp ws st c a = [])
theorem lets_ne {S C : Nat} {ws : List (List Int)} (h : Bks S C ws) {st : List Int} (hs : st ≠ []) (hst : ∀ x ∈ st, 0 ≤ x ∧ x < S) {c : Int} (c0 : 0 ≤ c) (c1 : c < C) : 0 < (letsL ws st c).length := by
  obtain ⟨s, hs⟩ := List.exists_mem_of_ne_nil _ hs
  obtain ⟨a, t, hw⟩ := h.full s c (hst s hs).1 (hst s hs).2 c0 c1
  obtain ⟨_, _, _, _, e, _, _, ha, _⟩ := h.way _ hw
  cases e
  refine List.length_pos_of_mem (a := a) ?_
  unfold letsL
  rw [List.mem_filter, mem_rgI]
  refine ⟨ha, ?_⟩
  rw [Bool.not_eq_true', decide_eq_false_iff_not]
  exact List.ne_nil_of_mem ((mem_stp h.way).2 ⟨s, hs, hw⟩)
theorem stp_range {S C : Nat} {ws : List (List Int)} (h : Bks S C ws) {st : List Int} {c a : Int} : ∀ x ∈ stp ws st c a, 0 ≤ x ∧ x < S := by
  intro x hx
  obtain ⟨s, hs, hw⟩ := (mem_stp h.way).1 hx
  obtain ⟨_, _, _, _, e, _, _, _, z⟩ := h.way _ hw
  cases e
  exact z
theorem ends_snoc (pre : List (List Int)) (w : List Int) (st : List Int) (c a : Int) : endsL (pre ++ [w]) st c a = endsL pre st c a ++ if hitB st c a w then [w.getD 3 0] else [] := by
  unfold endsL
  rw [List.filter_append, List.map_append]
  congr 1
  cases h : hitB st c a w <;> simp [List.filter, h]
end VS
namespace K02
open PySem L2 VS
theorem lb_if1 (cs : Cs) {h3 h4 h5 : PV} {s c v p1 p3 : Int} {rows : List (List Int)} {E : Fr} (m1 : mulB s c = true) (m2 : mulB p1 3 = true) (m3 : mulB (p1 * 3) s = true) (hp1 : s * c = p1) (hp3 : p1 * 3 * s = p3) (i1 : inR p3 = true)
    (e4 : mf_law_draw cs [.own h3, .fz (.int 6)] = .ret (.fz (.int 0)) [.own h4, .fz (.int 6)]) (e5 : mf_law_draw cs [.own h4, .fz (.int 10)] = .ret (.fz (.int v)) [.own h5, .fz (.int 10)])
    (e6 : forRun (gN 1 5) (b_law_large_book_1 cs) (rangeL 0 p3) [.own h5, .fz (.int s), .fz (.int c), .own (.lst (rows.map tI)), .fz (.int (2 + v)), .un, .un, .un, .un] = .nx E) :
    (sIf (mT (mOp2 fEq (oV (mFz (mCall (mf_law_draw cs) (mConsO' (oN 0) (mConsO' (oV (mFz (mC (.int 6)))) (mNilO)))))) (oV (mFz (mC (.int 0)))))) (sSq (sSet 1 4 (mOp2 fAdd (oV (mFz (mC (.int 2)))) (oV (mFz (mCall (mf_law_draw cs) (mConsO' (oN 0) (mConsO' (oV (mFz (mC (.int 10)))) (mNilO)))))))) (l_law_large_book_1 cs)) (l_law_large_book_2 cs)) [.own h3, .fz (.int s), .fz (.int c), .own (.lst (rows.map tI)), .un, .un, .un, .un, .un] = .nx E := by
  simp [e4, e5, l_law_large_book_1, m1, m2, m3, hp1, hp3, i1, e6]
theorem large_book_ok (cs : Cs) {h : PV} (hh : Hand h) : ∃ (S C : Nat) (ws : List (List Int)) (h' : PV), Bks S C ws ∧ ws.mergeSort leL = ws ∧ Hand h' ∧ mf_law_large_book cs [.own h] = .ret (.fz (bkT S C ws)) [.own h'] := by
  obtain ⟨v1, h1, a1, hh1, e1⟩ := draw_nat cs hh (many := 6) (by omega) (by omega)
  obtain ⟨v2, h2, a2, hh2, e2⟩ := draw_nat cs hh1 (many := 4) (by omega) (by omega)
  obtain ⟨S, hS⟩ : ∃ S : Nat, S = 1 + v1 := ⟨_, rfl⟩
  obtain ⟨C, hC⟩ : ∃ C : Nat, C = 1 + v2 := ⟨_, rfl⟩
  obtain ⟨h3, rows, hh3, hw3, hf3, hl3, e3⟩ := law_flat_ok cs (S := S) (C := C) (A := 3) (by omega) (by omega) (by omega) (by omega) (by omega) hh2
  obtain ⟨v4, h4, a4, hh4, e4⟩ := draw_nat cs hh3 (many := 6) (by omega) (by omega)
  have eS : (1 : Int) + v1 = S := by omega
  have eC : (1 : Int) + v2 = C := by omega
  rw [show ((6 : Nat) : Int) = 6 from rfl] at e1 e4
  rw [show ((4 : Nat) : Int) = 4 from rfl] at e2
  rw [show ((3 : Nat) : Int) = 3 from rfl] at e3
  have fin : ∀ (h5 : PV) (rows' : List (List Int)) (x4 x5 x6 x7 x8 : Sl), Hand h5 → (∀ w ∈ rows', Wy S C w) → (∀ w ∈ rows, w ∈ rows') → rows'.length ≤ 1000 →
      (sIf (mT (mOp2 fEq (oV (mFz (mCall (mf_law_draw cs) (mConsO' (oN 0) (mConsO' (oV (mFz (mC (.int 6)))) (mNilO)))))) (oV (mFz (mC (.int 0)))))) (sSq (sSet 1 4 (mOp2 fAdd (oV (mFz (mC (.int 2)))) (oV (mFz (mCall (mf_law_draw cs) (mConsO' (oN 0) (mConsO' (oV (mFz (mC (.int 10)))) (mNilO)))))))) (l_law_large_book_1 cs)) (l_law_large_book_2 cs)) [.own h3, .fz (.int S), .fz (.int C), .own (.lst (rows.map tI)), .un, .un, .un, .un, .un] = .nx [.own h5, .fz (.int S), .fz (.int C), .own (.lst (rows'.map tI)), x4, x5, x6, x7, x8] →
      ∃ (S C : Nat) (ws : List (List Int)) (h' : PV), Bks S C ws ∧ ws.mergeSort leL = ws ∧ Hand h' ∧ mf_law_large_book cs [.own h] = .ret (.fz (bkT S C ws)) [.own h'] := by
    intro h5 rows' x4 x5 x6 x7 x8 hh5 hw' hsub hl' e5
    refine ⟨S, C, waysL rows', h5, waysL_book (by omega) (by omega) (by omega) (by omega) hw' (fun s c b d e f => ?_), waysL_sort _, hh5, ?_⟩
    · obtain ⟨a, t, q⟩ := hf3 s c b d e f
      exact ⟨a, t, hsub _ q⟩
    · have e6 := law_ways_ok cs (rows := rows') (fun x hx => by obtain ⟨s, c, a, t, rfl, _⟩ := hw' x hx; simp) hl'
      refine (body_ret (e := [.own h5, .fz (.int S), .fz (.int C), .fz (.lst (rows'.map tI)), x4, x5, x6, x7, x8]) ?_).trans rfl
      unfold m_law_large_book
      refine (sSq_nx (e1 := [.own h1, .fz (.int S), .un, .un, .un, .un, .un, .un, .un]) (by simp [e1, eS])).trans ?_
      refine (sSq_nx (e1 := [.own h2, .fz (.int S), .fz (.int C), .un, .un, .un, .un, .un, .un]) (by simp [e2, eC])).trans ?_
      refine (sSq_nx (e1 := [.own h3, .fz (.int S), .fz (.int C), .own (.lst (rows.map tI)), .un, .un, .un, .un, .un]) (by simp [e3])).trans ?_
      refine (sSq_nx e5).trans ?_
      simp [e6, bkT]
  by_cases hz : v4 = 0
  · subst hz
    obtain ⟨v5, h5, a5, hh5, e5⟩ := draw_nat cs hh4 (many := 10) (by omega) (by omega)
    rw [show ((10 : Nat) : Int) = 10 from rfl] at e5
    have b1 : S * C ≤ 6 * 4 := Nat.mul_le_mul (by omega) (by omega)
    have b2 : S * C * 3 * S ≤ 72 * 6 := Nat.mul_le_mul (by omega) (by omega)
    obtain ⟨rows', y5, y6, hw', hsub, hl', e6⟩ := large_1 cs (S := S) (C := C) (by omega) (by omega) (by omega) (by omega) (2 + v5) (by omega) (by omega) (h := h5) hl3 hw3 (S * C * 3 * S) rfl (by omega)
    have i1 : inR ((S * C * 3 * S : Nat) : Int) = true := inR_of' (by omega) (by omega)
    have m1 : mulB (S : Int) (C : Int) = true := mulB_l (by omega) (by omega)
    have m2 : mulB ((S : Int) * C) 3 = true := mulB_r (by decide) (by decide)
    have m3 : mulB ((S : Int) * C * 3) (S : Int) = true := mulB_r (by omega) (by omega)
    rw [← rangeL_nat] at e6
    have en : ((S * C * 3 * S : Nat) : Int) = (S : Int) * C * 3 * S := by push_cast; rfl
    rw [en] at e6 i1
    refine fin h5 rows' (.fz (.int (2 + v5))) y5 y6 .un .un hh5 hw' hsub hl' ?_
    exact lb_if1 cs m1 m2 m3 rfl rfl i1 e4 e5 e6
  · obtain ⟨v5, h5, a5, hh5, e5⟩ := draw_nat cs hh4 (many := 13) (by omega) (by omega)
    rw [show ((13 : Nat) : Int) = 13 from rfl] at e5
    obtain ⟨h', rows', y7, y8, hh', hw', hsub, hl', e6⟩ := large_2 cs (S := S) (C := C) (by omega) (by omega) (by omega) (by omega) .un .un .un hh5 hl3 hw3 v5 (by omega)
    have i1 : inR (v5 : Int) = true := inR_of' (by omega) (by omega)
    rw [← rangeL_nat] at e6
    refine fin h' rows' .un .un .un y7 y8 hh' hw' hsub hl' ?_
    simp [e4, hz, e5, l_law_large_book_2, i1, e6]
theorem small_1 (cs : Cs) {S C : Nat} (s1 : 1 ≤ S) (s2 : S ≤ 6) (c1 : 1 ≤ C) (c2 : C ≤ 4) (x1 : Sl) {h : PV} (hh : Hand h) {rows : List (List Int)} (hl : rows.length ≤ 24) (hw : ∀ w ∈ rows, Wy S C w) (n : Nat) (hn : n ≤ 13) :
    ∃ (h' : PV) (rows' : List (List Int)) (y5 y6 : Sl), Hand h' ∧ (∀ w ∈ rows', Wy S C w) ∧ (∀ w ∈ rows, w ∈ rows') ∧ rows'.length ≤ 1000 ∧
      forRun (gN 3 5) (b_law_small_book_1 cs) ((rgI n).map .int) [.own h, x1, .fz (.int C), .fz (.int S), .own (.lst (rows.map tI)), .un, .un] = .nx [.own h', x1, .fz (.int C), .fz (.int S), .own (.lst (rows'.map tI)), y5, y6] := by
  obtain ⟨e', loop, h', rows', y7, y8, hh', hw', hsub, hlen, rfl⟩ := forRun_pre PV.int (fun pre e => ∃ (h' : PV) (rows' : List (List Int)) (y7 y8 : Sl), Hand h' ∧ (∀ w ∈ rows', Wy S C w) ∧ (∀ w ∈ rows, w ∈ rows') ∧ rows'.length = rows.length + pre.length ∧ e = [.own h', x1, .fz (.int C), .fz (.int S), .own (.lst (rows'.map tI)), y7, y8])
    (g := gN 3 5) (mb := b_law_small_book_1 cs) (xs := rgI n) (e := [.own h, x1, .fz (.int C), .fz (.int S), .own (.lst (rows.map tI)), .un, .un]) ⟨h, rows, .un, .un, hh, hw, fun _ z => z, rfl, rfl⟩ (by
      rintro pre k post e hx ⟨h', rows', y7, y8, hh', hw', hsub, hlen, rfl⟩
      have hp : pre.length ≤ 13 := by have := congrArg List.length hx; rw [rgI_len] at this; simp at this; omega
      obtain ⟨s, h1, hs, hh1, e1⟩ := draw_nat cs hh' (many := S) (by omega) (by omega)
      obtain ⟨c, h2, hc, hh2, e2⟩ := draw_nat cs hh1 (many := C) (by omega) (by omega)
      obtain ⟨a, h3, ha, hh3, e3⟩ := draw_nat cs hh2 (many := 3) (by omega) (by omega)
      obtain ⟨t, h4, ht, hh4, e4⟩ := draw_nat cs hh3 (many := S) (by omega) (by omega)
      have l1 : rows'.length < 16777216 := by omega
      rw [show ((3 : Nat) : Int) = 3 from rfl] at e3
      refine ⟨_, [.own h4, x1, .fz (.int C), .fz (.int S), .own (.lst ((rows' ++ [[(s : Int), (c : Int), (a : Int), (t : Int)]]).map tI)), .fz (.int k), .fz (.int s)], rfl, ?_, h4, _, _, _, hh4, ?_, ?_, ?_, rfl⟩
      · simp [b_law_small_book_1, e1, e2, e3, e4, l1, tup4]
      · intro w hw
        rcases List.mem_append.1 hw with z | z
        · exact hw' w z
        · rw [List.mem_singleton.1 z]
          exact ⟨_, _, _, _, rfl, by omega, by omega, by omega, by omega⟩
      · intro w z; exact List.mem_append_left _ (hsub w z)
      · simp [hlen]; omega)
  exact ⟨h', rows', y7, y8, hh', hw', hsub, by rw [hlen, rgI_len]; omega, loop⟩
theorem small_book_ok (cs : Cs) {h : PV} (hh : Hand h) {M C : Nat} (m1 : 1 ≤ M) (m2 : M ≤ 6) (c1 : 1 ≤ C) (c2 : C ≤ 4) : ∃ (S : Nat) (ws : List (List Int)) (h' : PV), S ≤ M ∧ Bks S C ws ∧ ws.mergeSort leL = ws ∧ Hand h' ∧ mf_law_small_book cs [.own h, .fz (.int M), .fz (.int C)] = .ret (.fz (bkT S C ws)) [.own h', .fz (.int M), .fz (.int C)] := by
  obtain ⟨v1, h1, a1, hh1, e1⟩ := draw_nat cs hh (many := M) (by omega) (by omega)
  obtain ⟨S, hS⟩ : ∃ S : Nat, S = 1 + v1 := ⟨_, rfl⟩
  obtain ⟨h3, rows, hh3, hw3, hf3, hl3, e3⟩ := law_flat_ok cs (S := S) (C := C) (A := 2) (by omega) (by omega) (by omega) (by omega) (by omega) hh1
  have eS : (1 : Int) + v1 = S := by omega
  rw [show ((2 : Nat) : Int) = 2 from rfl] at e3
  obtain ⟨v5, h5, a5, hh5, e5⟩ := draw_nat cs hh3 (many := 5) (by omega) (by omega)
  rw [show ((5 : Nat) : Int) = 5 from rfl] at e5
  obtain ⟨h', rows', y5, y6, hh', hw', hsub, hl', e6⟩ := small_1 cs (S := S) (C := C) (by omega) (by omega) (by omega) (by omega) (.fz (.int M)) hh5 hl3 hw3 v5 (by omega)
  have i1 : inR (v5 : Int) = true := inR_of' (by omega) (by omega)
  rw [← rangeL_nat] at e6
  refine ⟨S, waysL rows', h', by omega, waysL_book (by omega) (by omega) (by omega) (by omega) hw' (fun s c b d e f => ?_), waysL_sort _, hh', ?_⟩
  · obtain ⟨a, t, q⟩ := hf3 s c b d e f
    exact ⟨a, t, hsub _ q⟩
  · have e7 := law_ways_ok cs (rows := rows') (fun x hx => by obtain ⟨s, c, a, t, rfl, _⟩ := hw' x hx; simp) hl'
    refine (body_ret (e := [.own h', .fz (.int M), .fz (.int C), .fz (.int S), .fz (.lst (rows'.map tI)), y5, y6]) ?_).trans rfl
    unfold m_law_small_book
    refine (sSq_nx (e1 := [.own h1, .fz (.int M), .fz (.int C), .fz (.int S), .un, .un, .un]) (by simp [e1, eS])).trans ?_
    refine (sSq_nx (e1 := [.own h3, .fz (.int M), .fz (.int C), .fz (.int S), .own (.lst (rows.map tI)), .un, .un]) (by simp [e3])).trans ?_
    refine (sSq_nx (e1 := [.own h', .fz (.int M), .fz (.int C), .fz (.int S), .own (.lst (rows'.map tI)), y5, y6]) (by simp [e5, l_law_small_book_1, i1, e6])).trans ?_
    simp [e7, bkT]
theorem two_books_ok (cs : Cs) {h : PV} (hh : Hand h) : ∃ (S C S2 C2 : Nat) (ws ws2 : List (List Int)) (h' : PV), Bks S C ws ∧ ws.mergeSort leL = ws ∧ Bks S2 C2 ws2 ∧ ws2.mergeSort leL = ws2 ∧ Hand h' ∧ mf_law_two_books cs [.own h] = .ret (.fz (.tup [bkT S C ws, bkT S2 C2 ws2])) [.own h'] := by
  obtain ⟨v1, h1, a1, hh1, e1⟩ := draw_nat cs hh (many := 3) (by omega) (by omega)
  obtain ⟨C, hC⟩ : ∃ C : Nat, C = 1 + v1 := ⟨_, rfl⟩
  obtain ⟨v2, h2, a2, hh2, e2⟩ := draw_nat cs hh1 (many := 4 - C) (by omega) (by omega)
  obtain ⟨C2, hC2⟩ : ∃ C2 : Nat, C2 = 1 + v2 := ⟨_, rfl⟩
  have eC : (1 : Int) + v1 = C := by omega
  have eC2 : (1 : Int) + v2 = C2 := by omega
  rw [show ((3 : Nat) : Int) = 3 from rfl] at e1
  rw [show ((4 - C : Nat) : Int) = 4 - C by omega] at e2
  obtain ⟨S, ws, h3, q1, B, so, hh3, e3⟩ := small_book_ok cs hh2 (M := 6) (C := C) (by omega) (by omega) (by omega) (by omega)
  rw [show ((6 : Nat) : Int) = 6 from rfl] at e3
  have s1 := B.s1
  have s2 := B.s2
  obtain ⟨S2, ws2, h4, q2, B2, so2, hh4, e4⟩ := small_book_ok cs hh3 (M := 6 / S) (C := C2) (by rw [Nat.le_div_iff_mul_le (by omega)]; omega) (Nat.div_le_self _ _) (by omega) (by omega)
  rw [show ((6 / S : Nat) : Int) = 6 / (S : Int) from rfl] at e4
  refine ⟨S, C, S2, C2, ws, ws2, h4, B, so, B2, so2, hh4, ?_⟩
  have f0 : fIx (bkT S C ws) (.int 0) = some (.fz (.int S)) := by simp [bkT]
  have z1 : 0 < S := by omega
  have z2 : (S : Int) < 1073741824 := by omega
  have z3 : S < 1073741824 := by omega
  generalize bkT S C ws = b1 at *
  generalize bkT S2 C2 ws2 = b2 at *
  refine (body_ret (e := [.own h4, .fz (.int C), .fz (.int C2), .fz b1]) ?_).trans rfl
  unfold m_law_two_books
  refine (sSq_nx (e1 := [.own h1, .fz (.int C), .un, .un]) (by simp [e1, eC])).trans ?_
  refine (sSq_nx (e1 := [.own h2, .fz (.int C), .fz (.int C2), .un]) (by simp [e2, eC2])).trans ?_
  refine (sSq_nx (e1 := [.own h3, .fz (.int C), .fz (.int C2), .fz b1]) (by simp [e3])).trans ?_
  simp [f0, z1, z2, z3, e4]
end K02

set_option linter.all false
set_option maxRecDepth 100000
set_option maxHeartbeats 4000000
set_option pp.maxSteps 900
/-! Q8: the law's entries, its walks, its right pasts. -/
namespace K02
open PySem L2 VS
theorem entries_ok (cs : Cs) {h : PV} (hh : Hand h) {C M : Nat} (c1 : 1 ≤ C) (c2 : C ≤ 4) (hM : M ≤ 30) :
    ∃ (h' : PV) (rows : List (List Int)), Hand h' ∧ (∀ x ∈ rows, Ent C x) ∧ rows.length ≤ 30 ∧ mf_law_entries cs [.own h, .fz (.int C), .fz (.int M)] = .ret (.own (.lst (rows.map tI))) [.own h', .fz (.int C), .fz (.int M)] := by
  obtain ⟨n, h1, hn, hh1, e1⟩ := draw_nat cs hh (many := M + 1) (by omega) (by omega)
  have i1 : inR (n : Int) = true := inR_of' (by omega) (by omega)
  obtain ⟨e', loop, h', rows, y, hh', hw, hlen, rfl⟩ := forRun_pre PV.int (fun pre e => ∃ (h' : PV) (rows : List (List Int)) (y : Sl), Hand h' ∧ (∀ w ∈ rows, Ent C w) ∧ rows.length = pre.length ∧ e = [.own h', .fz (.int C), .fz (.int M), .own (.lst (rows.map tI)), y])
    (g := gN 3 4) (mb := b_law_entries_1 cs) (xs := rgI n) (e := [.own h1, .fz (.int C), .fz (.int M), .own (.lst []), .un]) ⟨h1, [], .un, hh1, nofun, rfl, rfl⟩ (by
      rintro pre k post e hx ⟨h', rows, y, hh', hw, hlen, rfl⟩
      have hp : pre.length ≤ 30 := by have := congrArg List.length hx; rw [rgI_len] at this; simp at this; omega
      obtain ⟨a, h1, ha, hh1, e1⟩ := draw_nat cs hh' (many := 10) (by omega) (by omega)
      obtain ⟨c, h2, hc, hh2, e2⟩ := draw_nat cs hh1 (many := C) (by omega) (by omega)
      obtain ⟨o, h3, ho, hh3, e3⟩ := draw_nat cs hh2 (many := 3) (by omega) (by omega)
      have l1 : rows.length < 16777216 := by omega
      rw [show ((3 : Nat) : Int) = 3 from rfl] at e3
      rw [show ((10 : Nat) : Int) = 10 from rfl] at e1
      refine ⟨_, [.own h3, .fz (.int C), .fz (.int M), .own (.lst ((rows ++ [[(a : Int), (c : Int), (o : Int)]]).map tI)), .fz (.int k)], rfl, ?_, h3, _, _, hh3, ?_, ?_, rfl⟩
      · simp [b_law_entries_1, e1, e2, e3, l1, tup3]
      · intro w hw'
        rcases List.mem_append.1 hw' with z | z
        · exact hw w z
        · rw [List.mem_singleton.1 z]
          exact ⟨_, _, _, rfl, by omega, by omega, by omega⟩
      · simp [hlen])
  rw [rgI_len] at hlen
  refine ⟨h', rows, hh', hw, by omega, ?_⟩
  refine (body_ret (e := [.own h', .fz (.int C), .fz (.int M), .un, y]) ?_).trans rfl
  unfold m_law_entries
  have em : ((M + 1 : Nat) : Int) = (M : Int) + 1 := by omega
  rw [em] at e1
  refine (sSq_nx (e1 := [.own h, .fz (.int C), .fz (.int M), .own (.lst []), .un]) (by simp)).trans ?_
  refine (sSq_nx (e1 := [.own h', .fz (.int C), .fz (.int M), .own (.lst (rows.map tI)), y]) (by simp [l_law_entries_1, e1, i1, rangeL_nat, loop])).trans ?_
  simp
theorem onward_ok (cs : Cs) {S C : Int} {ws : List (List Int)} (hw : ∀ w ∈ ws, Wy S C w) (hl : ws.length ≤ 1000) (st : List Int) (c a : Int) :
    mf_law_onward cs [.fz (.tup (ws.map tI)), .fz (.tup (st.map .int)), .fz (.int c), .fz (.int a)] = .ret (.fz (.tup ((stp ws st c a).map .int))) [.fz (.tup (ws.map tI)), .fz (.tup (st.map .int)), .fz (.int c), .fz (.int a)] := by
  have hnl : ∀ l : List (List Int), (nubL (endsL l st c a)).length ≤ l.length := fun l => by
    refine Nat.le_trans (nodup_le (nodup_nub _) fun k hk => mem_nub.1 hk) ?_
    unfold endsL
    rw [List.length_map]; exact List.length_filter_le _ _
  obtain ⟨e', loop, j, rfl⟩ := forRun_pre tI (fun pre e => ∃ j : Sl, e = [.fz (.tup (ws.map tI)), .fz (.tup (st.map .int)), .fz (.int c), .fz (.int a), .own (.lst ((nubL (endsL pre st c a)).map .int)), j]) (g := gN 4 5) (mb := b_law_onward_1 cs) (xs := ws)
    (e := [.fz (.tup (ws.map tI)), .fz (.tup (st.map .int)), .fz (.int c), .fz (.int a), .own (.lst []), .un]) ⟨.un, rfl⟩ (by
      rintro pre w post e hx ⟨j, rfl⟩
      have hp : pre.length ≤ 1000 := by have := congrArg List.length hx; simp at this; omega
      have hlen := hnl pre
      obtain ⟨s, c', a', t, rfl, _⟩ := hw w (by rw [hx]; simp)
      refine ⟨_, [.fz (.tup (ws.map tI)), .fz (.tup (st.map .int)), .fz (.int c), .fz (.int a), .own (.lst ((nubL (endsL (pre ++ [[s, c', a', t]]) st c a)).map .int)), .fz (tI [s, c', a', t])], rfl, ?_, _, rfl⟩
      rw [ends_snoc]
      generalize endsL pre st c a = acc at *
      have q1 := fIn_ints s st
      have q2 := fNotIn_intsL t (nubL acc)
      have a3 : atI (List.map PV.int [s, c', a', t]) 3 = some (.int t) := rfl
      generalize PV.tup (ws.map tI) = W at *
      generalize PV.tup (st.map .int) = T at *
      have l1 : (nubL acc).length < 16777216 := by omega
      by_cases h1 : c' = c
      · by_cases h2 : a' = a
        · by_cases h3 : s ∈ st
          · by_cases h4 : t ∈ nubL acc
            · simp [b_law_onward_1, tI, hitB, h1, h2, h3, h4, q1, q2, nub_snoc, addN]
            · simp [b_law_onward_1, tI, hitB, h1, h2, h3, h4, q1, q2, nub_snoc, addN, l1]
          · simp [b_law_onward_1, tI, hitB, h1, h2, h3, q1]
        · simp [b_law_onward_1, tI, hitB, h1, h2]
      · simp [b_law_onward_1, tI, hitB, h1])
  have srt := fSorted_ints (xs := nubL (endsL ws st c a)) (by have := hnl ws; omega)
  refine (body_ret (e := [.fz (.tup (ws.map tI)), .fz (.tup (st.map .int)), .fz (.int c), .fz (.int a), .own (.lst ((nubL (endsL ws st c a)).map .int)), j]) ?_).trans rfl
  unfold m_law_onward
  refine (sSq_nx (e1 := [.fz (.tup (ws.map tI)), .fz (.tup (st.map .int)), .fz (.int c), .fz (.int a), .own (.lst []), .un]) (by simp)).trans ?_
  refine (sSq_nx (e1 := [.fz (.tup (ws.map tI)), .fz (.tup (st.map .int)), .fz (.int c), .fz (.int a), .own (.lst ((nubL (endsL ws st c a)).map .int)), j]) (by simp [l_law_onward_1, loop])).trans ?_
  simp [srt, stp, sortI]
theorem stand_ok (cs : Cs) {S C : Int} {ws : List (List Int)} (hw : ∀ w ∈ ws, Wy S C w) (hl : ws.length ≤ 1000) (st : List Int) (tr : List (List Int)) (ht : ∀ x ∈ tr, ∃ c a, x = [c, a]) :
    mf_law_stand cs [.fz (.tup (ws.map tI)), .fz (.tup (st.map .int)), .fz (.lst (tr.map tI))] = .ret (.fz (.tup ((walk2 ws st tr).map .int))) [.fz (.tup (ws.map tI)), .fz (.tup (st.map .int)), .fz (.lst (tr.map tI))] := by
  obtain ⟨e', loop, j, k, rfl⟩ := forRun_pre tI (fun pre e => ∃ j k : Sl, e = [.fz (.tup (ws.map tI)), .fz (.tup ((walk2 ws st pre).map .int)), .fz (.lst (tr.map tI)), j, k]) (g := gTq 2 (gCn (gN 3 3) (gCn (gN 3 4) (gNl)))) (mb := b_law_stand_1 cs) (xs := tr)
    (e := [.fz (.tup (ws.map tI)), .fz (.tup (st.map .int)), .fz (.lst (tr.map tI)), .un, .un]) ⟨.un, .un, rfl⟩ (by
      rintro pre x post e hx ⟨j, k, rfl⟩
      obtain ⟨c, a, rfl⟩ := ht x (by rw [hx]; simp)
      have e1 := onward_ok cs hw hl (walk2 ws st pre) c a
      refine ⟨_, [.fz (.tup (ws.map tI)), .fz (.tup ((walk2 ws st (pre ++ [[c, a]])).map .int)), .fz (.lst (tr.map tI)), .fz (.int c), .fz (.int a)], rfl, ?_, _, _, rfl⟩
      have ew : walk2 ws st (pre ++ [[c, a]]) = stp ws (walk2 ws st pre) c a := by unfold walk2; rw [List.foldl_append]; rfl
      rw [ew]
      generalize walk2 ws st pre = q at *
      simp [b_law_stand_1, e1])
  refine (body_ret (e := [.fz (.tup (ws.map tI)), .fz (.tup ((walk2 ws st tr).map .int)), .fz (.lst (tr.map tI)), j, k]) ?_).trans rfl
  unfold m_law_stand
  refine (sSq_nx (e1 := [.fz (.tup (ws.map tI)), .fz (.tup ((walk2 ws st tr).map .int)), .fz (.lst (tr.map tI)), j, k]) (by simp [l_law_stand_1, loop])).trans ?_
  simp
theorem lets_ok (cs : Cs) {S C : Int} {ws : List (List Int)} (hw : ∀ w ∈ ws, Wy S C w) (hl : ws.length ≤ 1000) (st : List Int) (c : Int) :
    mf_law_lets cs [.fz (.tup (ws.map tI)), .fz (.tup (st.map .int)), .fz (.int c)] = .ret (.own (.lst ((letsL ws st c).map .int))) [.fz (.tup (ws.map tI)), .fz (.tup (st.map .int)), .fz (.int c)] := by
  have comp := compRun_fm (vs := [3]) (g := gN 3 3) (mt := mT (mOp2 fNe (oV (mFz (mCall (mf_law_onward cs) (mConsO' (oV (mFz (mN 3 0))) (mConsO' (oV (mFz (mN 3 1))) (mConsO' (oV (mFz (mN 3 2))) (mConsO' (oV (mFz (mN 3 3))) (mNilO)))))))) (oV (mFz (mTup (mNil)))))) (me := mFz (mN 3 3))
    (e := [.fz (.tup (ws.map tI)), .fz (.tup (st.map .int)), .fz (.int c), .un]) PV.int (fun a => !decide (stp ws st c a = [])) PV.int (rgI 3) (by
      intro a ha
      have e1 := onward_ok cs hw hl st c a
      have e2 := fNe_tI0 (stp ws st c a)
      refine ⟨_, [.fz (.tup (ws.map tI)), .fz (.tup (st.map .int)), .fz (.int c), .fz (.int a)], rfl, ?_, fun _ => rfl, fun _ => ⟨[.fz (.tup (ws.map tI)), .fz (.tup (st.map .int)), .fz (.int c), .fz (.int a)], rfl, rfl⟩⟩
      simp [e1, e2]) (by rw [rgI_len]; decide)
  have r3 : rangeL 0 3 = (rgI 3).map PV.int := rangeL_nat 3
  have i3 : inR 3 = true := inR_of' (by omega) (by omega)
  unfold mf_law_lets
  refine (body_ret (e := [.fz (.tup (ws.map tI)), .fz (.tup (st.map .int)), .fz (.int c), .un]) ?_).trans rfl
  unfold m_law_lets
  simp [k_law_lets_1, i3, r3, wipeE, comp, letsL]
theorem past_ok (cs : Cs) {h : PV} (hh : Hand h) {S C : Nat} {ws : List (List Int)} (hB : Bks S C ws) {M : Nat} (hM : M ≤ 30) :
    ∃ (h' : PV) (rows : List (List Int)), Hand h' ∧ (∀ x ∈ rows, Ent C x) ∧ rows.length ≤ 30 ∧ mf_law_past cs [.own h, .fz (.int C), .fz (.tup (ws.map tI)), .fz (.int M)] = .ret (.fz (.tup (rows.map tI))) [.own h', .fz (.int C), .fz (.tup (ws.map tI)), .fz (.int M)] := by
  obtain ⟨n, h1, hn, hh1, e1⟩ := draw_nat cs hh (many := M + 1) (by omega) (by omega)
  have i1 : inR (n : Int) = true := inR_of' (by omega) (by omega)
  have c1 := hB.c1
  have c2 := hB.c2
  have s1 := hB.s1
  have hwl := hB.len
  obtain ⟨e', loop, h', rows, st, y6, y7, y8, y9, hh', hw, hlen, hst, hsr, rfl⟩ := forRun_pre PV.int (fun pre e => ∃ (h' : PV) (rows : List (List Int)) (st : List Int) (y6 y7 y8 y9 : Sl), Hand h' ∧ (∀ w ∈ rows, Ent C w) ∧ rows.length = pre.length ∧ st ≠ [] ∧ (∀ x ∈ st, 0 ≤ x ∧ x < (S : Int)) ∧ e = [.own h', .fz (.int C), .fz (.tup (ws.map tI)), .fz (.int M), .own (.lst (rows.map tI)), .fz (.tup (st.map .int)), y6, y7, y8, y9])
    (g := gN 4 6) (mb := b_law_past_1 cs) (xs := rgI n) (e := [.own h1, .fz (.int C), .fz (.tup (ws.map tI)), .fz (.int M), .own (.lst []), .fz (.tup [.int 0]), .un, .un, .un, .un]) ⟨h1, [], [0], .un, .un, .un, .un, hh1, nofun, rfl, by simp, by simp; omega, rfl⟩ (by
      rintro pre k post e hx ⟨h', rows, st, y6, y7, y8, y9, hh', hw, hlen, hst, hsr, rfl⟩
      have hp : pre.length ≤ 30 := by have := congrArg List.length hx; rw [rgI_len] at this; simp at this; omega
      obtain ⟨c, h1, hc, hh1, e1⟩ := draw_nat cs hh' (many := C) (by omega) (by omega)
      have hll := lets_ne hB hst hsr (c := c) (by omega) (by omega)
      have hl3 : (letsL ws st c).length ≤ 3 := by unfold letsL; exact Nat.le_trans (List.length_filter_le _ _) (by rw [rgI_len]; decide)
      obtain ⟨v, h2, hv, hh2, e2⟩ := draw_nat cs hh1 (many := (letsL ws st c).length) hll (by omega)
      obtain ⟨u, h3, hu, hh3, e3⟩ := draw_nat cs hh2 (many := 6) (by omega) (by omega)
      rw [show ((6 : Nat) : Int) = 6 from rfl] at e3
      have e4 := lets_ok cs hB.way (by omega) st c
      obtain ⟨a, ha, ham⟩ := atI_some (xs := letsL ws st c) (i := v) (by omega) (by omega)
      have ha' : atI ((letsL ws st c).map PV.int) (v : Int) = some (.int a) := by rw [atI_map, ha]; rfl
      obtain ⟨d, hd, hdm⟩ := atI_some (xs := [0, 1, 2, 3, 4, (9 : Int)]) (i := u) (by omega) (by simp; omega)
      have hd' : atI [PV.int 0, PV.int 1, PV.int 2, PV.int 3, PV.int 4, PV.int 9] (u : Int) = some (.int d) := by
        show atI (([0, 1, 2, 3, 4, 9] : List Int).map PV.int) (u : Int) = _
        rw [atI_map, hd]; rfl
      have hd9 : 0 ≤ d ∧ d ≤ 9 := by simp at hdm; omega
      unfold letsL at ham
      rw [List.mem_filter, mem_rgI, Bool.not_eq_true', decide_eq_false_iff_not] at ham
      have e5 := onward_ok cs hB.way (by omega) st c a
      have l1 : rows.length < 16777216 := by omega
      refine ⟨_, [.own h3, .fz (.int C), .fz (.tup (ws.map tI)), .fz (.int M), .own (.lst ((rows ++ [[d, (c : Int), a]]).map tI)), .fz (.tup ((stp ws st c a).map .int)), .fz (.int k), .fz (.int c), .own (.lst ((letsL ws st c).map .int)), .fz (.int a)], rfl, ?_, h3, _, _, _, _, _, _, hh3, ?_, ?_, ham.2, stp_range hB, rfl⟩
      · generalize letsL ws st c = ll at *
        generalize stp ws st c a = st2 at *
        simp [b_law_past_1, e1, e2, e3, e4, e5, ha', hd', l1, tup3]
      · intro w hw'
        rcases List.mem_append.1 hw' with z | z
        · exact hw w z
        · rw [List.mem_singleton.1 z]
          exact ⟨_, _, _, rfl, hd9, by omega, ham.1⟩
      · simp [hlen])
  rw [rgI_len] at hlen
  refine ⟨h', rows, hh', hw, by omega, ?_⟩
  have em : ((M + 1 : Nat) : Int) = (M : Int) + 1 := by omega
  rw [em] at e1
  refine (body_ret (e := [.own h', .fz (.int C), .fz (.tup (ws.map tI)), .fz (.int M), .own (.lst (rows.map tI)), .fz (.tup (st.map .int)), y6, y7, y8, y9]) ?_).trans rfl
  unfold m_law_past
  refine (sSq_nx (e1 := [.own h, .fz (.int C), .fz (.tup (ws.map tI)), .fz (.int M), .own (.lst []), .un, .un, .un, .un, .un]) (by simp)).trans ?_
  refine (sSq_nx (e1 := [.own h, .fz (.int C), .fz (.tup (ws.map tI)), .fz (.int M), .own (.lst []), .fz (.tup [.int 0]), .un, .un, .un, .un]) (by simp)).trans ?_
  refine (sSq_nx (e1 := [.own h', .fz (.int C), .fz (.tup (ws.map tI)), .fz (.int M), .own (.lst (rows.map tI)), .fz (.tup (st.map .int)), y6, y7, y8, y9]) (by simp [l_law_past_1, e1, i1, rangeL_nat, loop])).trans ?_
  simp
theorem large_ok (cs : Cs) {h : PV} (hh : Hand h) : ∃ (v : Int) (h' : PV), 0 ≤ v ∧ Hand h' ∧ mf_law_large cs [.own h] = .ret (.fz (.int v)) [.own h'] := by
  obtain ⟨v1, h1, a0, a1, hh1, e1⟩ := draw_ok cs hh (many := 1000000000) (by decide) (by decide)
  obtain ⟨v2, h2, b0, b1, hh2, e2⟩ := draw_ok cs hh1 (many := 1000000000) (by decide) (by decide)
  have m1 : mulB v1 1000000000 = true := mulB_r (by decide) (by decide)
  refine ⟨v1 * 1000000000 + v2, h2, by omega, hh2, ?_⟩
  simp [mf_law_large, bodyRun, m_law_large, e1, e2, m1]
end K02

set_option linter.all false
set_option maxRecDepth 100000
set_option maxHeartbeats 4000000
set_option pp.maxSteps 900
/-! Q9: check_history and what the law has for it, for any odd thing. -/
namespace K02
open PySem L2 VS
open PySem.PyData (strOk)
inductive OddE : PV → Prop
  | tup {ds : List PV} (h : ∀ d ∈ ds, Smp d) : OddE (.tup ds)
  | lst {ds : List PV} (h : ∀ d ∈ ds, Smp d) : OddE (.lst ds)
  | non : OddE .non
  | int (i : Int) : OddE (.int i)
  | str (x : Str) : OddE (.str x)
inductive Odd : PV → Prop
  | lst {xs : List PV} (h : ∀ x ∈ xs, OddE x) : Odd (.lst xs)
  | tup {xs : List PV} (h : ∀ x ∈ xs, OddE x) : Odd (.tup xs)
  | non : Odd .non
  | int (i : Int) : Odd (.int i)
  | str (x : Str) : Odd (.str x)
  | dk : Odd (.dk [])
def seqL : PV → Option (List PV)
  | .tup xs => some xs
  | .lst xs => some xs
  | _ => none
def entB (C : Int) (x : PV) : Bool := match seqL x with
  | some [a, b, c] => wholeB 0 9 a && (wholeB 0 (C - 1) b && wholeB 0 2 c)
  | _ => false
theorem entB_none {C : Int} {x : PV} (h : seqL x = none) : entB C x = false := by unfold entB; rw [h]
theorem entB_3 {C : Int} {x a b c : PV} (h : seqL x = some [a, b, c]) : entB C x = (wholeB 0 9 a && (wholeB 0 (C - 1) b && wholeB 0 2 c)) := by unfold entB; rw [h]
theorem entB_len {C : Int} {x : PV} {ys : List PV} (h : seqL x = some ys) (hl : ys.length ≠ 3) : entB C x = false := by
  unfold entB
  split
  · rename_i a b c q
    rw [h] at q
    cases q
    exact absurd rfl hl
  · rfl
def intO : PV → Int
  | .int i => i
  | _ => 0
def rowOf (x : PV) : List Int := match seqL x with
  | some xs => xs.map intO
  | none => []
def firstBad (C : Int) : List PV → Option Nat
  | [] => none
  | x :: xs => if entB C x then (firstBad C xs).map (· + 1) else some 0
def chk (C : Int) (d : PV) : Int ⊕ List (List Int) := match seqL d with
  | none => .inl 0
  | some xs => if 400 < xs.length then .inl xs.length else match firstBad C xs with
    | some k => .inl k
    | none => .inr (xs.map rowOf)
theorem wholeB_int {lo hi : Int} {d : PV} (h : wholeB lo hi d = true) : ∃ i, d = .int i ∧ lo ≤ i ∧ i ≤ hi := by
  cases d with
  | int i => simp [wholeB] at h; exact ⟨i, rfl, h⟩
  | _ => simp [wholeB] at h
theorem entB_row {C : Int} {x : PV} (h : entB C x = true) : ∃ r, Ent C r ∧ (x = tI r ∨ x = lI r) ∧ rowOf x = r := by
  unfold entB at h
  split at h
  · rename_i a b c hs
    simp only [Bool.and_eq_true] at h
    obtain ⟨i, rfl, h1⟩ := wholeB_int h.1
    obtain ⟨j, rfl, h2⟩ := wholeB_int h.2.1
    obtain ⟨k, rfl, h3⟩ := wholeB_int h.2.2
    refine ⟨[i, j, k], ⟨_, _, _, rfl, h1, by omega, by omega⟩, ?_, by unfold rowOf; rw [hs]; rfl⟩
    cases x with
    | tup ds => cases hs; exact .inl rfl
    | lst ds => cases hs; exact .inr rfl
    | _ => cases hs
  · cases h
theorem entB_ent {C : Int} {r : List Int} (h : Ent C r) : entB C (tI r) = true ∧ entB C (lI r) = true ∧ rowOf (tI r) = r ∧ rowOf (lI r) = r := by
  obtain ⟨a, b, c, rfl, h1, h2, h3⟩ := h
  have q : (wholeB 0 9 (.int a) && (wholeB 0 (C - 1) (.int b) && wholeB 0 2 (.int c))) = true := by
    simp only [wholeB, Bool.and_eq_true, decide_eq_true_eq]; omega
  exact ⟨q, q, rfl, rfl⟩
theorem firstBad_none {C : Int} : ∀ {xs : List PV}, firstBad C xs = none ↔ ∀ x ∈ xs, entB C x = true
  | [] => ⟨fun _ => nofun, fun _ => rfl⟩
  | x :: xs => by
    unfold firstBad
    by_cases h : entB C x = true
    · rw [if_pos h, Option.map_eq_none_iff, firstBad_none]
      exact ⟨fun k y hy => by
        rcases List.mem_cons.1 hy with rfl | hy
        · exact h
        · exact k y hy, fun k y hy => k y (List.mem_cons_of_mem _ hy)⟩
    · rw [if_neg h]
      exact ⟨nofun, fun k => absurd (k x List.mem_cons_self) h⟩
theorem chk_rows {C : Int} {rows : List (List Int)} (f : List Int → PV) (hf : f = tI ∨ f = lI) (h : ∀ x ∈ rows, Ent C x) (hl : rows.length ≤ 400) {d : PV} (hd : seqL d = some (rows.map f)) : chk C d = .inr rows := by
  have hb : firstBad C (rows.map f) = none := firstBad_none.2 fun x hx => by
    obtain ⟨r, hr, rfl⟩ := List.mem_map.1 hx
    rcases hf with rfl | rfl
    · exact (entB_ent (h r hr)).1
    · exact (entB_ent (h r hr)).2.1
  unfold chk
  rw [hd]
  dsimp only
  rw [if_neg (by simp; omega), hb]
  dsimp only
  rw [List.map_map]
  congr 1
  conv => rhs; rw [← List.map_id rows]
  refine List.map_congr_left fun r hr => ?_
  rcases hf with rfl | rfl
  · exact (entB_ent (h r hr)).2.2.1
  · exact (entB_ent (h r hr)).2.2.2
theorem is_seq_e (cs : Cs) {x : PV} (h : OddE x) : mf_is_sequence cs [.fz x] = .ret (.fz (.bl (seqL x).isSome)) [.fz x] := by
  cases h <;> simp [mf_is_sequence, bodyRun, m_is_sequence, fIsi, PV.bt, BT.sub, seqL]
theorem is_seq_o (cs : Cs) {x : PV} (h : Odd x) : mf_is_sequence cs [.fz x] = .ret (.fz (.bl (seqL x).isSome)) [.fz x] := by
  cases h <;> simp [mf_is_sequence, bodyRun, m_is_sequence, fIsi, PV.bt, BT.sub, seqL]
theorem row_e (cs : Cs) {x : PV} (h : OddE x) : mf_law_row cs [.fz x] = .ret (.fz (.bl (seqL x).isSome)) [.fz x] := by
  cases h <;> simp [mf_law_row, bodyRun, m_law_row, fIsi, PV.bt, BT.sub, seqL]
theorem row_o (cs : Cs) {x : PV} (h : Odd x) : mf_law_row cs [.fz x] = .ret (.fz (.bl (seqL x).isSome)) [.fz x] := by
  cases h <;> simp [mf_law_row, bodyRun, m_law_row, fIsi, PV.bt, BT.sub, seqL]
theorem fLenU_seq {x : PV} {xs : List PV} (h : seqL x = some xs) : fLenU x = some (.fz (.int xs.length)) := by
  cases x with
  | tup ds => cases h; rfl
  | lst ds => cases h; rfl
  | _ => cases h
theorem fIx_seq {x : PV} {xs : List PV} (h : seqL x = some xs) (i : Int) : fIx x (.int i) = (atI xs i).map .fz := by
  cases x with
  | tup ds => cases h; rfl
  | lst ds => cases h; rfl
  | _ => cases h
theorem seqOf_seq {x : PV} {xs : List PV} (h : seqL x = some xs) : seqOf x = some xs := by
  cases x with
  | tup ds => cases h; rfl
  | lst ds => cases h; rfl
  | _ => cases h
theorem smp_e {x : PV} (h : OddE x) {xs : List PV} (hs : seqL x = some xs) : ∀ d ∈ xs, Smp d := by
  cases h with
  | tup h => cases hs; exact h
  | lst h => cases hs; exact h
  | _ => cases hs
theorem is_entry_ok (cs : Cs) (S C : Int) (ws : List (List Int)) {x : PV} (h : OddE x) : mf_is_entry cs [.fz (bk cs S C ws), .fz x] = .ret (.fz (.bl (entB C x))) [.fz (bk cs S C ws), .fz x] := by
  have q := is_seq_e cs h
  have fc := fld_calls cs S C ws
  unfold entB
  cases hs : seqL x with
  | none =>
    rw [hs] at q
    simp [mf_is_entry, bodyRun, m_is_entry, q]
  | some xs =>
    rw [hs] at q
    have ln := fLenU_seq hs
    have hx := smp_e h hs
    have ix := fIx_seq hs
    generalize bk cs S C ws = B at *
    clear h hs
    by_cases hl : xs.length = 3
    · obtain ⟨a, b, c, rfl⟩ : ∃ a b c, xs = [a, b, c] := by
        match xs, hl with
        | [a, b, c], _ => exact ⟨a, b, c, rfl⟩
      have e1 := is_whole_ok cs (hx a (by simp)) 0 9
      have e2 := is_whole_ok cs (hx b (by simp)) 0 (C - 1)
      have e3 := is_whole_ok cs (hx c (by simp)) 0 2
      dsimp only
      clear hx
      generalize wholeB 0 9 a = A at *
      generalize wholeB 0 (C - 1) b = B1 at *
      generalize wholeB 0 2 c = C1 at *
      have ln' : fLenU x = some (.fz (.int 3)) := ln
      cases A <;> cases B1 <;> simp [mf_is_entry, bodyRun, m_is_entry, q, ln', ix, e1, e2, e3, fc]
    · have hl' : ¬ (xs.length : Int) = 3 := by omega
      have er : (match some xs with | some [a, b, c] => wholeB 0 9 a && (wholeB 0 (C - 1) b && wholeB 0 2 c) | _ => false) = false := by
        split
        · rename_i h; cases h; exact absurd rfl hl
        · rfl
      rw [er]
      generalize (xs.length : Int) = n at *
      simp [mf_is_entry, bodyRun, m_is_entry, q, ln, hl']
theorem check_loop (cs : Cs) (S C : Int) (ws : List (List Int)) (d : PV) : ∀ (xs : List PV) (i : Nat) (a b : Sl), (∀ x ∈ xs, OddE x) →
    (firstBad C xs = none → ∃ a' b', forRun (gTq 2 (gCn (gN 2 2) (gCn (gN 2 3) (gNl)))) (b_check_history_1 cs) (enumL i xs) [.fz (bk cs S C ws), .fz d, a, b] = .nx [.fz (bk cs S C ws), .fz d, a', b']) ∧
    ∀ k, firstBad C xs = some k → ∃ a' b', forRun (gTq 2 (gCn (gN 2 2) (gCn (gN 2 3) (gNl)))) (b_check_history_1 cs) (enumL i xs) [.fz (bk cs S C ws), .fz d, a, b] = .exc cs.BadHistory (keptD ["index"] [.int ((i + k : Nat) : Int)]) [.fz (bk cs S C ws), .fz d, a', b']
  | [], i, a, b, _ => ⟨fun _ => ⟨a, b, rfl⟩, nofun⟩
  | x :: xs, i, a, b, h => by
    have e := is_entry_ok cs S C ws (h x List.mem_cons_self)
    have ih := check_loop cs S C ws d xs (i + 1) (.fz (.int (i : Nat))) (.fz x) fun y hy => h y (List.mem_cons_of_mem _ hy)
    generalize bk cs S C ws = B at *
    have g1 : (gTq 2 (gCn (gN 2 2) (gCn (gN 2 3) (gNl)))) (.tup [.int (i : Nat), x]) [.fz B, .fz d, a, b] = some [.fz B, .fz d, .fz (.int (i : Nat)), .fz x] := rfl
    unfold firstBad
    generalize entB C x = E at *
    cases E with
    | true =>
      have m1 : b_check_history_1 cs [.fz B, .fz d, .fz (.int (i : Nat)), .fz x] = .nx [.fz B, .fz d, .fz (.int (i : Nat)), .fz x] := by simp [b_check_history_1, e]
      show (_ → ∃ a' b', forRun _ _ (PV.tup [.int (i : Nat), x] :: enumL (i + 1) xs) _ = _) ∧ ∀ k, _ → ∃ a' b', forRun _ _ (PV.tup [.int (i : Nat), x] :: enumL (i + 1) xs) _ = _
      rw [forRun_go g1 m1, if_pos rfl]
      refine ⟨fun hn => ih.1 (Option.map_eq_none_iff.1 hn), fun k hk => ?_⟩
      obtain ⟨k', hk', rfl⟩ := Option.map_eq_some_iff.1 hk
      rw [show i + (k' + 1) = i + 1 + k' by omega]
      exact ih.2 k' hk'
    | false =>
      have m1 : b_check_history_1 cs [.fz B, .fz d, .fz (.int (i : Nat)), .fz x] = .exc cs.BadHistory (keptD ["index"] [.int (i : Nat)]) [.fz B, .fz d, .fz (.int (i : Nat)), .fz x] := by simp [b_check_history_1, e]
      show (_ → ∃ a' b', forRun _ _ (PV.tup [.int (i : Nat), x] :: enumL (i + 1) xs) _ = _) ∧ ∀ k, _ → ∃ a' b', forRun _ _ (PV.tup [.int (i : Nat), x] :: enumL (i + 1) xs) _ = _
      rw [forRun_exc g1 m1, if_neg (by decide)]
      refine ⟨nofun, fun k hk => ?_⟩
      cases hk
      exact ⟨_, _, rfl⟩
/-- what check_history answers -/
def chkOut (cs : Cs) (B d : PV) : Int ⊕ List (List Int) → OutF
  | .inl k => .exc cs.BadHistory (keptD ["index"] [.int k]) [.fz B, .fz d]
  | .inr rows => .ret (.fz (.tup (rows.map tI))) [.fz B, .fz d]
theorem tup_comp (cs : Cs) (pv : List Sl) {C : Int} {xs : List PV} (hb : ∀ x ∈ xs, entB C x = true) (hl : xs.length ≤ 400) (B d : PV) (a : Sl) :
    compRun [3] (gN 2 3) (mR true) (mFz (mOp1 fTuple (oN 3))) xs [] [.fz B, .fz d, a, .un] = .ok (.own (.lst ((xs.map rowOf).map tI))) [.fz B, .fz d, a, .un] := by
  have z := compRun_fm (vs := [3]) (g := gN 2 3) (mt := mR true) (me := mFz (mOp1 fTuple (oN 3))) (e := [.fz B, .fz d, a, .un]) (fun x : PV => x) (fun _ => true) (fun x => tI (rowOf x)) xs (by
    intro x hx
    obtain ⟨r, hr, hx', hr'⟩ := entB_row (hb x hx)
    refine ⟨_, [.fz B, .fz d, a, .fz x], rfl, rfl, nofun, fun _ => ⟨[.fz B, .fz d, a, .fz x], ?_, rfl⟩⟩
    rw [hr']
    rcases hx' with rfl | rfl <;> simp [tI, lI]) (by omega)
  rw [List.map_id', List.filter_eq_self.2 (fun _ _ => rfl)] at z
  rw [z, List.map_map]; rfl
theorem odd_e {d : PV} (h : Odd d) {xs : List PV} (hs : seqL d = some xs) : ∀ x ∈ xs, OddE x := by
  cases h with
  | lst h => cases hs; exact h
  | tup h => cases hs; exact h
  | _ => cases hs
theorem check_history_ok (cs : Cs) (S C : Int) (ws : List (List Int)) {d : PV} (h : Odd d) : mf_check_history cs [.fz (bk cs S C ws), .fz d] = chkOut cs (bk cs S C ws) d (chk C d) := by
  have q := is_seq_o cs h
  unfold chk
  cases hs : seqL d with
  | none =>
    rw [hs] at q
    generalize bk cs S C ws = B at *
    simp [mf_check_history, bodyRun, m_check_history, q, chkOut]
  | some xs =>
    rw [hs] at q
    dsimp only
    have ln := fLenU_seq hs
    have sq := seqOf_seq hs
    have lp := check_loop cs S C ws d xs 0 .un .un (odd_e h hs)
    generalize bk cs S C ws = B at *
    have s1 : (sIf (mNot (mT (mCall (mf_is_sequence cs) (mConsO' (oV (mFz (mN 2 1))) (mNilO))))) (sExcA cs.BadHistory ["index"] (mCons (mFz (mC (.int 0))) (mNil))) (sNx)) [.fz B, .fz d, .un, .un] = .nx [.fz B, .fz d, .un, .un] := by simp [q]
    by_cases hl : 400 < xs.length
    · rw [if_pos hl]
      refine (body_exc (e := [.fz B, .fz d, .un, .un]) ?_).trans rfl
      unfold m_check_history
      refine (sSq_nx s1).trans ?_
      have hl' : (400 : Int) < xs.length := by omega
      generalize (xs.length : Int) = n at *
      exact sSq_exc (by simp [ln, hl'])
    · rw [if_neg hl]
      have s2 : (sIf (mT (mOp2 fGt (oV (mFz (mOp1 fLenU (oN 1)))) (oV (mFz (mC (.int 400)))))) (sExcA cs.BadHistory ["index"] (mCons (mFz (mOp1 fLenU (oN 1))) (mNil))) (sNx)) [.fz B, .fz d, .un, .un] = .nx [.fz B, .fz d, .un, .un] := by
        have hl' : ¬ (400 : Int) < xs.length := by omega
        generalize (xs.length : Int) = n at *
        simp [ln, hl']
      cases hf : firstBad C xs with
      | some k =>
        obtain ⟨a, b, e⟩ := lp.2 k hf
        refine (body_exc (C := cs.BadHistory) (xs := keptD ["index"] [.int k]) (e := [.fz B, .fz d, a, b]) ?_).trans rfl
        unfold m_check_history
        refine (sSq_nx s1).trans ?_
        refine (sSq_nx s2).trans ?_
        refine sSq_exc ?_
        rw [Nat.zero_add] at e
        simp [l_check_history_1, sq, e]
      | none =>
        obtain ⟨a, b, e⟩ := lp.1 hf
        have comp := tup_comp cs [] (firstBad_none.1 hf) (by omega) B d a
        refine (body_ret (e := [.fz B, .fz d, a, .un]) ?_).trans rfl
        unfold m_check_history
        refine (sSq_nx s1).trans ?_
        refine (sSq_nx s2).trans ?_
        refine (sSq_nx (e1 := [.fz B, .fz d, a, b]) (by simp [l_check_history_1, sq, e])).trans ?_
        simp [k_check_history_1, sq, wipeE]
        rw [comp]
        simp
end K02

set_option linter.all false
set_option maxRecDepth 100000
set_option maxHeartbeats 4000000
set_option pp.maxSteps 900
/-! Q10: the law's checks of a history; odd entries, spoilt histories. -/
namespace VS
open PySem L2
theorem cutP_sub {α : Type} {xs : List α} {lo hi : Option Int} {x : α} (h : x ∈ cutP xs lo hi) : x ∈ xs := List.mem_of_mem_drop (List.mem_of_mem_take h)
theorem cutP_len {α : Type} (xs : List α) (lo hi : Option Int) : (cutP xs lo hi).length ≤ xs.length := by
  unfold cutP
  rw [List.length_take, List.length_drop]; omega
end VS
namespace K02
open PySem L2 VS
open PySem.PyData (strOk)
def badV (k : Int) : PV := .lst [.str "bad", .int k]
def chkV : Int ⊕ List (List Int) → PV
  | .inl k => badV k
  | .inr rows => .tup (rows.map tI)
def chkS : Int ⊕ List (List Int) → Sl
  | .inl k => .own (badV k)
  | .inr rows => .fz (.tup (rows.map tI))
theorem chkS_or (r : Int ⊕ List (List Int)) : chkS r = .own (chkV r) ∨ chkS r = .fz (chkV r) := by
  cases r with
  | inl k => exact .inl rfl
  | inr rows => exact .inr rfl
theorem law_checked_ok (cs : Cs) (S C : Int) (ws : List (List Int)) {d : PV} (h : Odd d) : mf_law_checked cs [.fz (bk cs S C ws), .fz d] = .ret (chkS (chk C d)) [.fz (bk cs S C ws), .fz d] := by
  have e := check_history_ok cs S C ws h
  generalize bk cs S C ws = B at *
  have hx := cs.e_BadHistory_BadHistory
  cases hr : chk C d with
  | inl k =>
    rw [hr] at e
    have e' : mf_check_history cs [.fz B, .fz d] = .exc cs.BadHistory (keptD ["index"] [.int k]) [.fz B, .fz d] := e
    simp [mf_law_checked, bodyRun, m_law_checked, e', hx, xCons, xNil, xF, keptD, List.lookup, chkS, badV]
  | inr rows =>
    rw [hr] at e
    have e' : mf_check_history cs [.fz B, .fz d] = .ret (.fz (.tup (rows.map tI))) [.fz B, .fz d] := e
    simp [mf_law_checked, bodyRun, m_law_checked, e', chkS]
theorem due_body (cs : Cs) (C : Int) (d : PV) {xs : List PV} (hs : seqL d = some xs) {i : Nat} {x : PV} (hi : atI xs (i : Int) = some x) (h : OddE x) (a b : Sl) :
    b_law_due_check_1 cs [.fz (.int C), .fz d, .fz (.int (i : Nat)), b] = cond (entB C x) (.nx [.fz (.int C), .fz d, .fz (.int (i : Nat)), .fz x]) (.ret (.own (badV (i : Nat))) [.fz (.int C), .fz d, .fz (.int (i : Nat)), .fz x]) := by
  have q := row_e cs h
  have ixd := fIx_seq hs (i : Int)
  rw [hi] at ixd
  cases hx : seqL x with
  | none =>
    rw [hx] at q
    rw [entB_none hx]
    generalize ((i : Nat) : Int) = v at *
    simp [b_law_due_check_1, ixd, q, badV]
  | some ys =>
    rw [hx] at q
    have ln := fLenU_seq hx
    have hsm := smp_e h hx
    have ix := fIx_seq hx
    by_cases hl : ys.length = 3
    · obtain ⟨a, b, c, rfl⟩ : ∃ a b c, ys = [a, b, c] := by
        match ys, hl with
        | [a, b, c], _ => exact ⟨a, b, c, rfl⟩
      have e1 := law_whole_ok cs (hsm a (by simp)) 0 9
      have e2 := law_whole_ok cs (hsm b (by simp)) 0 (C - 1)
      have e3 := law_whole_ok cs (hsm c (by simp)) 0 2
      rw [entB_3 hx]
      clear hsm h hx hs hi
      generalize ((i : Nat) : Int) = v at *
      generalize wholeB 0 9 a = A at *
      generalize wholeB 0 (C - 1) b = B1 at *
      generalize wholeB 0 2 c = C1 at *
      have ln' : fLenU x = some (.fz (.int 3)) := ln
      cases A <;> cases B1 <;> cases C1 <;> simp [b_law_due_check_1, ixd, q, ln', ix, e1, e2, e3, badV]
    · have hl' : ¬ (ys.length : Int) = 3 := by omega
      rw [entB_len hx hl]
      clear h hx hs hi
      generalize ((i : Nat) : Int) = v at *
      generalize (ys.length : Int) = n at *
      simp [b_law_due_check_1, ixd, q, ln, hl', badV]
theorem due_loop (cs : Cs) (C : Int) (d : PV) {xs : List PV} (hs : seqL d = some xs) (ho : ∀ x ∈ xs, OddE x) : ∀ (post pre : List PV) (a b : Sl), xs = pre ++ post →
    (firstBad C post = none → ∃ a' b', forRun (gN 2 2) (b_law_due_check_1 cs) (rangeL (pre.length : Int) (xs.length : Int)) [.fz (.int C), .fz d, a, b] = .nx [.fz (.int C), .fz d, a', b']) ∧
    ∀ k, firstBad C post = some k → ∃ a' b', forRun (gN 2 2) (b_law_due_check_1 cs) (rangeL (pre.length : Int) (xs.length : Int)) [.fz (.int C), .fz d, a, b] = .ret (.own (badV ((pre.length + k : Nat) : Int))) [.fz (.int C), .fz d, a', b']
  | [], pre, a, b, hx => by
    rw [List.append_nil] at hx
    subst hx
    rw [rng_map, Nat.sub_self]
    exact ⟨fun _ => ⟨a, b, rfl⟩, nofun⟩
  | x :: post, pre, a, b, hx => by
    have hi : atI xs (pre.length : Int) = some x := atI_nat (by rw [hx]; simp)
    have m1 := due_body cs C d hs hi (ho x (by rw [hx]; simp)) a b
    have ih := due_loop cs C d hs ho post (pre ++ [x]) (.fz (.int (pre.length : Nat))) (.fz x) (by rw [hx]; simp)
    have er : rangeL (pre.length : Int) (xs.length : Int) = .int (pre.length : Nat) :: rangeL ((pre ++ [x]).length : Int) (xs.length : Int) := by
      rw [rng_map, rng_map]
      have el : xs.length - pre.length = (xs.length - (pre ++ [x]).length) + 1 := by rw [hx]; simp; omega
      rw [el, List.range_succ_eq_map, List.map_cons, List.map_map]
      congr 1
      refine List.map_congr_left fun j _ => ?_
      simp only [Function.comp, List.length_append, List.length_singleton]
      congr 1; omega
    have g1 : (gN 2 2) (.int (pre.length : Nat)) [.fz (.int C), .fz d, a, b] = some [.fz (.int C), .fz d, .fz (.int (pre.length : Nat)), b] := rfl
    rw [er]
    unfold firstBad
    generalize entB C x = E at *
    cases E with
    | true =>
      rw [forRun_go g1 (show _ = OutS.nx _ from m1), if_pos rfl]
      refine ⟨fun hn => ih.1 (Option.map_eq_none_iff.1 hn), fun k hk => ?_⟩
      obtain ⟨k', hk', rfl⟩ := Option.map_eq_some_iff.1 hk
      have := ih.2 k' hk'
      rw [List.length_append, List.length_singleton] at this ⊢
      rw [show pre.length + (k' + 1) = pre.length + 1 + k' by omega]
      exact this
    | false =>
      rw [forRun_ret g1 (show _ = OutS.ret _ _ from m1), if_neg (by decide)]
      refine ⟨nofun, fun k hk => ?_⟩
      cases hk
      exact ⟨_, _, rfl⟩
theorem due_check_ok (cs : Cs) (C : Int) {d : PV} (h : Odd d) : mf_law_due_check cs [.fz (.int C), .fz d] = .ret (chkS (chk C d)) [.fz (.int C), .fz d] := by
  have q := row_o cs h
  unfold chk
  cases hs : seqL d with
  | none =>
    rw [hs] at q
    simp [mf_law_due_check, bodyRun, m_law_due_check, q, chkS, badV]
  | some xs =>
    rw [hs] at q
    dsimp only
    have ln := fLenU_seq hs
    have sq := seqOf_seq hs
    have lp := due_loop cs C d hs (odd_e h hs) xs [] .un .un rfl
    have s1 : (sIf (mNot (mT (mCall (mf_law_row cs) (mConsO' (oV (mFz (mN 2 1))) (mNilO))))) (sRet (mLst (mCons (mFz (mC (.str "bad"))) (mCons (mFz (mC (.int 0))) (mNil))))) (sNx)) [.fz (.int C), .fz d, .un, .un] = .nx [.fz (.int C), .fz d, .un, .un] := by simp [q]
    by_cases hl : 400 < xs.length
    · rw [if_pos hl]
      refine (body_ret (e := [.fz (.int C), .fz d, .un, .un]) ?_).trans rfl
      unfold m_law_due_check
      refine (sSq_nx s1).trans ?_
      have hl' : (400 : Int) < xs.length := by omega
      generalize (xs.length : Int) = n at *
      exact sSq_ret (by simp [ln, hl', chkS, badV])
    · rw [if_neg hl]
      have s2 : (sIf (mT (mOp2 fGt (oV (mFz (mOp1 fLenU (oN 1)))) (oV (mFz (mC (.int 400)))))) (sRet (mLst (mCons (mFz (mC (.str "bad"))) (mCons (mFz (mOp1 fLenU (oN 1))) (mNil))))) (sNx)) [.fz (.int C), .fz d, .un, .un] = .nx [.fz (.int C), .fz d, .un, .un] := by
        have hl' : ¬ (400 : Int) < xs.length := by omega
        generalize (xs.length : Int) = n at *
        simp [ln, hl']
      have i1 : inR (xs.length : Int) = true := inR_of' (by omega) (by omega)
      have r0 : ((([] : List PV).length : Nat) : Int) = 0 := rfl
      rw [r0] at lp
      cases hf : firstBad C xs with
      | some k =>
        obtain ⟨a, b, e⟩ := lp.2 k hf
        rw [show ([] : List PV).length + k = k from Nat.zero_add k] at e
        refine (body_ret (s := .own (badV k)) (e := [.fz (.int C), .fz d, a, b]) ?_).trans rfl
        unfold m_law_due_check
        refine (sSq_nx s1).trans ?_
        refine (sSq_nx s2).trans ?_
        refine sSq_ret ?_
        generalize (xs.length : Int) = n at *
        simp [l_law_due_check_1, ln, i1, e]
      | none =>
        obtain ⟨a, b, e⟩ := lp.1 hf
        have comp : compRun [3] (gN 2 3) (mR true) (mFz (mOp1 fTuple (oN 3))) xs [] [.fz (.int C), .fz d, a, .un] = _ := tup_comp cs [] (firstBad_none.1 hf) (by omega) (.int C) d a
        refine (body_ret (e := [.fz (.int C), .fz d, a, .un]) ?_).trans rfl
        unfold m_law_due_check
        refine (sSq_nx s1).trans ?_
        refine (sSq_nx s2).trans ?_
        refine (sSq_nx (e1 := [.fz (.int C), .fz d, a, b]) ?_).trans ?_
        · generalize (xs.length : Int) = n at *
          simp [l_law_due_check_1, ln, i1, e]
        · simp [k_law_due_check_1, sq, wipeE]
          rw [comp]
          simp [chkS]
theorem dx_ents {C : Int} {rows : List (List Int)} (h : ∀ x ∈ rows, Ent C x) (hl : rows.length ≤ 1000) : DX 6 (.tup (rows.map tI)) := DX.rows (n := 3) (fun r hr => by obtain ⟨a, b, c, rfl, _⟩ := h r hr; simp) (by omega)
theorem chk_ents {C : Int} {d : PV} (h : Odd d) {rows : List (List Int)} (hr : chk C d = .inr rows) : (∀ x ∈ rows, Ent C x) ∧ rows.length ≤ 400 := by
  unfold chk at hr
  split at hr
  · cases hr
  · split at hr
    · cases hr
    · split at hr
      · cases hr
      · rename_i xs hs h1 hf
        cases hr
        refine ⟨fun x hx => ?_, by rw [List.length_map]; omega⟩
        obtain ⟨y, hy, rfl⟩ := List.mem_map.1 hx
        obtain ⟨r, hr, _, rfl⟩ := entB_row (firstBad_none.1 hf y hy)
        exact hr
theorem law_same_ok (cs : Cs) {C : Int} {d : PV} (h : Odd d) : mf_law_same cs [.fz (chkV (chk C d)), .fz (chkV (chk C d))] = .ret (.fz (.bl true)) [.fz (chkV (chk C d)), .fz (chkV (chk C d))] := by
  cases hr : chk C d with
  | inl k =>
    have q : fEq (badV k) (badV k) = some (.fz (.bl true)) := fEq_same ((OkN.lst (n := 0) (by
      intro d hd
      simp only [List.mem_cons, List.not_mem_nil, or_false] at hd
      rcases hd with rfl | rfl
      · exact .str (by decide +kernel)
      · exact .int _)).okD (by decide))
    show mf_law_same cs [.fz (badV k), .fz (badV k)] = .ret (.fz (.bl true)) [.fz (badV k), .fz (badV k)]
    have b1 : (badV k).bt = some .list := rfl
    generalize badV k = b at *
    simp [mf_law_same, bodyRun, m_law_same, fIsi, b1, BT.sub, q]
  | inr rows =>
    obtain ⟨h1, h2⟩ := chk_ents h hr
    have ex := exact_ok cs 6 _ (dx_ents h1 (by omega))
    show mf_law_same cs [.fz (.tup (rows.map tI)), .fz (.tup (rows.map tI))] = .ret (.fz (.bl true)) [.fz (.tup (rows.map tI)), .fz (.tup (rows.map tI))]
    simp [mf_law_same, bodyRun, m_law_same, fIsi, PV.bt, BT.sub, ex]
theorem odd_entry_ok (cs : Cs) {h : PV} (hh : Hand h) {C : Nat} (c1 : 1 ≤ C) (c2 : C ≤ 4) : ∃ (x h' : PV), OddE x ∧ Hand h' ∧ mf_law_odd_entry cs [.own h, .fz (.int C)] = .ret (.fz x) [.own h', .fz (.int C)] := by
  obtain ⟨a, h1, ha, hh1, e1⟩ := draw_nat cs hh (many := 10) (by omega) (by omega)
  obtain ⟨b, h2, hb, hh2, e2⟩ := draw_nat cs hh1 (many := C) (by omega) (by omega)
  obtain ⟨c, h3, hc, hh3, e3⟩ := draw_nat cs hh2 (many := 3) (by omega) (by omega)
  obtain ⟨w, h4, hw, hh4, e4⟩ := draw_nat cs hh3 (many := 5) (by omega) (by omega)
  rw [show ((10 : Nat) : Int) = 10 from rfl] at e1
  rw [show ((3 : Nat) : Int) = 3 from rfl] at e3
  rw [show ((5 : Nat) : Int) = 5 from rfl] at e4
  obtain ⟨good, hg⟩ : ∃ good : List PV, good = [.int a, .int b, .int c] := ⟨_, rfl⟩
  have hgs : ∀ d ∈ good, Smp d := by
    intro d hd
    rw [hg] at hd
    simp only [List.mem_cons, List.not_mem_nil, or_false] at hd
    rcases hd with rfl | rfl | rfl <;> exact .int _
  have hgl : good.length = 3 := by rw [hg]; rfl
  have s1 : (sSet 2 2 (mTup (mCons (mFz (mCall (mf_law_draw cs) (mConsO' (oN 0) (mConsO' (oV (mFz (mC (.int 10)))) (mNilO))))) (mCons (mFz (mCall (mf_law_draw cs) (mConsO' (oN 0) (mConsO' (oV (mFz (mN 2 1))) (mNilO))))) (mCons (mFz (mCall (mf_law_draw cs) (mConsO' (oN 0) (mConsO' (oV (mFz (mC (.int 3)))) (mNilO))))) (mNil)))))) [.own h, .fz (.int C), .un, .un, .un, .un, .un] = .nx [.own h3, .fz (.int C), .fz (.tup good), .un, .un, .un, .un] := by
    rw [hg]; simp [e1, e2, e3]
  have s2 : (sSet 2 3 (mCall (mf_law_draw cs) (mConsO' (oN 0) (mConsO' (oV (mFz (mC (.int 5)))) (mNilO))))) [.own h3, .fz (.int C), .fz (.tup good), .un, .un, .un, .un] = .nx [.own h4, .fz (.int C), .fz (.tup good), .fz (.int (w : Nat)), .un, .un, .un] := by simp [e4]
  by_cases hw0 : w = 0
  · subst hw0
    obtain ⟨u, h5, hu, hh5, e5⟩ := draw_nat cs hh4 (many := 6) (by omega) (by omega)
    rw [show ((6 : Nat) : Int) = 6 from rfl] at e5
    obtain ⟨x, hx, hxm⟩ := atI_some (xs := ([.non, .int 3, .str "0:0", .tup (cutP good none (some 2)), .tup (good ++ [.int 0]), .tup []] : List PV)) (i := u) (by omega) (by simp; omega)
    have lg : good.length + 1 ≤ sizeLine := by rw [sizeLine_eq]; omega
    refine ⟨x, h5, ?_, hh5, ?_⟩
    · simp only [List.mem_cons, List.not_mem_nil, or_false] at hxm
      rcases hxm with rfl | rfl | rfl | rfl | rfl | rfl
      · exact .non
      · exact .int _
      · exact .str _
      · exact .tup fun d hd => hgs d (cutP_sub hd)
      · refine .tup fun d hd => ?_
        rcases List.mem_append.1 hd with z | z
        · exact hgs d z
        · rw [List.mem_singleton.1 z]; exact .int _
      · exact .tup nofun
    · refine (body_ret (e := [.own h5, .fz (.int C), .fz (.tup good), .fz (.int 0), .un, .un, .un]) ?_).trans rfl
      unfold m_law_odd_entry
      refine (sSq_nx s1).trans ?_
      refine (sSq_nx s2).trans ?_
      clear s1 s2 hg
      generalize ((u : Nat) : Int) = v at *
      refine sSq_ret ?_
      simp [lg, e5, hx]
  · obtain ⟨at', h5, hat, hh5, e5⟩ := draw_nat cs hh4 (many := 3) (by omega) (by omega)
    rw [show ((3 : Nat) : Int) = 3 from rfl] at e5
    obtain ⟨hi, hhi, him⟩ := atI_some (xs := ([.int 10, .int C, .int 3] : List PV)) (i := at') (by omega) (by simp; omega)
    obtain ⟨hv, rfl⟩ : ∃ z : Int, hi = .int z := by
      simp only [List.mem_cons, List.not_mem_nil, or_false] at him
      rcases him with rfl | rfl | rfl <;> exact ⟨_, rfl⟩
    obtain ⟨lv, h6, _, hh6, e6⟩ := large_ok cs hh5
    obtain ⟨u, h7, hu, hh7, e7⟩ := draw_nat cs hh6 (many := 6) (by omega) (by omega)
    rw [show ((6 : Nat) : Int) = 6 from rfl] at e7
    obtain ⟨x, hx, hxm⟩ := atI_some (xs := ([.int hv, .int (-1), .non, .bl true, .bl false, .int (hv + lv)] : List PV)) (i := u) (by omega) (by simp; omega)
    have hxs : Smp x := by
      simp only [List.mem_cons, List.not_mem_nil, or_false] at hxm
      rcases hxm with rfl | rfl | rfl | rfl | rfl | rfl
      · exact .int _
      · exact .int _
      · exact .non
      · exact .bl _
      · exact .bl _
      · exact .int _
    have l1 := cutP_len good none (some (at' : Int))
    have l2 := cutP_len good (some ((at' : Int) + 1)) none
    have l3 : (cutP good none (some (at' : Int))).length + 1 ≤ sizeLine := by rw [sizeLine_eq]; omega
    have l4 : (cutP good none (some (at' : Int))).length + 1 + (cutP good (some ((at' : Int) + 1)) none).length ≤ sizeLine := by rw [sizeLine_eq]; omega
    refine ⟨.tup (cutP good none (some (at' : Int)) ++ [x] ++ cutP good (some ((at' : Int) + 1)) none), h7, .tup fun d hd => ?_, hh7, ?_⟩
    · rcases List.mem_append.1 hd with z | z
      · rcases List.mem_append.1 z with z | z
        · exact hgs d (cutP_sub z)
        · rw [List.mem_singleton.1 z]; exact hxs
      · exact hgs d (cutP_sub z)
    · have hw0' : ¬ (w : Int) = 0 := by omega
      refine (body_ret (e := [.own h7, .fz (.int C), .fz (.tup good), .fz (.int (w : Nat)), .fz (.int (at' : Nat)), .fz (.int hv), .fz x]) ?_).trans rfl
      unfold m_law_odd_entry
      refine (sSq_nx s1).trans ?_
      refine (sSq_nx s2).trans ?_
      clear s1 s2 hg l1 l2
      generalize ((at' : Nat) : Int) = v at *
      generalize ((u : Nat) : Int) = v2 at *
      generalize ((w : Nat) : Int) = v3 at *
      refine (sSq_nx (e1 := [.own h4, .fz (.int C), .fz (.tup good), .fz (.int v3), .un, .un, .un]) (by simp [hw0'])).trans ?_
      refine (sSq_nx (e1 := [.own h5, .fz (.int C), .fz (.tup good), .fz (.int v3), .fz (.int v), .un, .un]) (by simp [e5])).trans ?_
      refine (sSq_nx (e1 := [.own h5, .fz (.int C), .fz (.tup good), .fz (.int v3), .fz (.int v), .fz (.int hv), .un]) (by simp [hhi])).trans ?_
      refine (sSq_nx (e1 := [.own h7, .fz (.int C), .fz (.tup good), .fz (.int v3), .fz (.int v), .fz (.int hv), .fz x]) (by simp [e6, e7, hx])).trans ?_
      rw [sizeLine_eq] at l3 l4
      have l3' : (cutP good none (some v)).length ≤ 16777215 := by omega
      simp [l3, l3', l4]
end K02

set_option linter.all false
set_option maxRecDepth 100000
set_option maxHeartbeats 4000000
set_option pp.maxSteps 900
/-! Q11: spoilt histories; the parts of a history. -/
namespace K02
open PySem L2 VS
theorem odd_row {C : Int} {r : List Int} (h : Ent C r) : OddE (tI r) := .tup fun d hd => by
  obtain ⟨x, _, rfl⟩ := List.mem_map.1 hd
  exact .int x
theorem fMul_rep (x : PV) {k : Int} (h0 : 0 ≤ k) (h1 : k ≤ 1000) : fMul2 (.lst [x]) (.int k) = some (.own (.lst (List.replicate k.toNat x))) := by
  have e : (List.replicate k.toNat [x]).flatten = List.replicate k.toNat x := by
    generalize k.toNat = n
    induction n with
    | zero => rfl
    | succ n ih => rw [List.replicate_succ, List.flatten_cons, ih]; rfl
  show (if (-2 ^ 63 ≤ k ∧ k < 2 ^ 63) ∧ [x].length * k.toNat ≤ sizeLine then some (Sl.own (PV.lst (List.replicate k.toNat [x]).flatten)) else none) = _
  rw [if_pos ⟨⟨by omega, by omega⟩, by rw [sizeLine_eq]; simp; omega⟩, e]
theorem spoilt_ok (cs : Cs) {h : PV} (hh : Hand h) {C D : Nat} (c1 : 1 ≤ C) (c2 : C ≤ 4) {rows : List (List Int)} (hr : ∀ x ∈ rows, Ent D x) (hl : rows.length ≤ 30) :
    ∃ (d : PV) (s : Sl) (h' : PV), Odd d ∧ (s = .own d ∨ s = .fz d) ∧ Hand h' ∧ mf_law_spoilt_history cs [.own h, .fz (.int C), .fz (.lst (rows.map tI))] = .ret s [.own h', .fz (.int C), .fz (.lst (rows.map tI))] := by
  obtain ⟨w, h1, hw, hh1, e1⟩ := draw_nat cs hh (many := 6) (by omega) (by omega)
  obtain ⟨p, h2, hp, hh2, e2⟩ := draw_nat cs hh1 (many := rows.length + 1) (by omega) (by omega)
  rw [show ((6 : Nat) : Int) = 6 from rfl] at e1
  rw [show ((rows.length + 1 : Nat) : Int) = (rows.length : Int) + 1 by omega] at e2
  have hro : ∀ x ∈ rows.map tI, OddE x := fun x hx => by
    obtain ⟨r, hr', rfl⟩ := List.mem_map.1 hx
    exact odd_row (hr r hr')
  have hll : (rows.map tI).length ≤ 30 := by rw [List.length_map]; exact hl
  have elen : ((rows.map tI).length : Int) = rows.length := by rw [List.length_map]
  rw [← elen] at e2
  generalize hR : rows.map tI = R at *
  have hn1 : rows.length = R.length := by rw [← hR, List.length_map]
  have s1 : (sSet 3 3 (mCall (mf_law_draw cs) (mConsO' (oN 0) (mConsO' (oV (mFz (mC (.int 6)))) (mNilO))))) [.own h, .fz (.int C), .fz (.lst R), .un, .un, .un] = .nx [.own h1, .fz (.int C), .fz (.lst R), .fz (.int (w : Nat)), .un, .un] := by simp [e1]
  have s2 : (sSet 3 4 (mCall (mf_law_draw cs) (mConsO' (oN 0) (mConsO' (oV (mFz (mOp2 fAdd (oV (mFz (mOp1 fLenU (oN 2)))) (oV (mFz (mC (.int 1))))))) (mNilO))))) [.own h1, .fz (.int C), .fz (.lst R), .fz (.int (w : Nat)), .un, .un] = .nx [.own h2, .fz (.int C), .fz (.lst R), .fz (.int (w : Nat)), .fz (.int (p : Nat)), .un] := by
    generalize ((w : Nat) : Int) = v at *
    simp [e2]
  by_cases hw0 : w = 0
  · subst hw0
    obtain ⟨u, h5, hu, hh5, e5⟩ := draw_nat cs hh2 (many := 4) (by omega) (by omega)
    rw [show ((4 : Nat) : Int) = 4 from rfl] at e5
    obtain ⟨x, hx, hxm⟩ := atI_some (xs := ([.non, .int 0, .str "", .dk []] : List PV)) (i := u) (by omega) (by simp; omega)
    refine ⟨x, .fz x, h5, ?_, .inr rfl, hh5, ?_⟩
    · simp only [List.mem_cons, List.not_mem_nil, or_false] at hxm
      rcases hxm with rfl | rfl | rfl | rfl
      · exact .non
      · exact .int _
      · exact .str _
      · exact .dk
    · refine (body_ret (e := [.own h5, .fz (.int C), .fz (.lst R), .fz (.int 0), .fz (.int (p : Nat)), .un]) ?_).trans rfl
      unfold m_law_spoilt_history
      refine (sSq_nx s1).trans ?_
      refine (sSq_nx s2).trans ?_
      clear s1 s2
      generalize ((u : Nat) : Int) = v at *
      refine sSq_ret ?_
      simp [e5, hx]
  have hw0' : ¬ ((w : Nat) : Int) = 0 := by omega
  have s3 : (sIf (mT (mOp2 fEq (oN 3) (oV (mFz (mC (.int 0)))))) (sRet (mOp2 fIx (oV (mFz (mLst (mCons (mFz (mC .non)) (mCons (mFz (mC (.int 0))) (mCons (mFz (mC (.str ""))) (mCons (mFz (mDk0)) (mNil)))))))) (oV (mFz (mCall (mf_law_draw cs) (mConsO' (oN 0) (mConsO' (oV (mFz (mC (.int 4)))) (mNilO)))))))) (sNx)) [.own h2, .fz (.int C), .fz (.lst R), .fz (.int (w : Nat)), .fz (.int (p : Nat)), .un] = .nx [.own h2, .fz (.int C), .fz (.lst R), .fz (.int (w : Nat)), .fz (.int (p : Nat)), .un] := by
    generalize ((w : Nat) : Int) = v at *
    simp [hw0']
  have fin : ∀ (h3 : PV), Hand h3 → (sIf (mAnd (mT (mOp2 fEq (oN 3) (oV (mFz (mC (.int 1)))))) (mT (mOp2 fEq (oV (mFz (mCall (mf_law_draw cs) (mConsO' (oN 0) (mConsO' (oV (mFz (mC (.int 4)))) (mNilO)))))) (oV (mFz (mC (.int 0))))))) (sSq (sSet 3 5 (mOp2 fAdd (oV (mFz (mOp2 fMul2 (oV (mFz (mLst (mCons (mFz (mTup (mCons (mFz (mC (.int 1))) (mCons (mFz (mC (.int 0))) (mCons (mFz (mC (.int 0))) (mNil)))))) (mNil))))) (oV (mFz (mOp2 fSub (oV (mFz (mOp2 fAdd (oV (mFz (mC (.int 400)))) (oV (mFz (mCall (mf_law_draw cs) (mConsO' (oN 0) (mConsO' (oV (mFz (mC (.int 2)))) (mNilO))))))))) (oV (mFz (mOp1 fLenU (oN 2)))))))))) (oN 2))) (sSq (sIf (mT (mOp2 fEq (oV (mFz (mCall (mf_law_draw cs) (mConsO' (oN 0) (mConsO' (oV (mFz (mC (.int 2)))) (mNilO)))))) (oV (mFz (mC (.int 0)))))) (sSetIx 5 (mFz (mC .non)) (mFz (mC (.int 0)))) (sNx)) (sRet (mV 3 5)))) (sNx)) [.own h2, .fz (.int C), .fz (.lst R), .fz (.int (w : Nat)), .fz (.int (p : Nat)), .un] = .nx [.own h3, .fz (.int C), .fz (.lst R), .fz (.int (w : Nat)), .fz (.int (p : Nat)), .un] →
      ∃ (d : PV) (s : Sl) (h' : PV), Odd d ∧ (s = .own d ∨ s = .fz d) ∧ Hand h' ∧ mf_law_spoilt_history cs [.own h, .fz (.int C), .fz (.lst R)] = .ret s [.own h', .fz (.int C), .fz (.lst R)] := by
    intro h3 hh3 s4
    obtain ⟨x, h6, hx, hh6, e6⟩ := odd_entry_ok cs hh3 c1 c2
    have l1 := cutP_len R none (some (p : Int))
    have l2 := cutP_len R (some (p : Int)) none
    refine ⟨.lst (cutP R none (some (p : Int)) ++ [x] ++ cutP R (some (p : Int)) none), _, h6, .lst fun y hy => ?_, .inl rfl, hh6, ?_⟩
    · rcases List.mem_append.1 hy with z | z
      · rcases List.mem_append.1 z with z | z
        · exact hro y (cutP_sub z)
        · rw [List.mem_singleton.1 z]; exact hx
      · exact hro y (cutP_sub z)
    · refine (body_ret (e := [.own h6, .fz (.int C), .fz (.lst R), .fz (.int (w : Nat)), .fz (.int (p : Nat)), .un]) ?_).trans rfl
      unfold m_law_spoilt_history
      refine (sSq_nx s1).trans ?_
      refine (sSq_nx s2).trans ?_
      refine (sSq_nx s3).trans ?_
      refine (sSq_nx s4).trans ?_
      clear s1 s2 s3 s4
      generalize ((p : Nat) : Int) = v at *
      generalize ((w : Nat) : Int) = v2 at *
      have l3 : (cutP R none (some v)).length + 1 ≤ 16777216 := by omega
      have l3' : (cutP R none (some v)).length ≤ 16777215 := by omega
      have l4 : (cutP R none (some v)).length + 1 + (cutP R (some v) none).length ≤ 16777216 := by omega
      have l4' : (cutP R none (some v)).length + (1 + (cutP R (some v) none).length) ≤ 16777216 := by omega
      have l4'' : (cutP R none (some v)).length + ((cutP R (some v) none).length + 1) ≤ 16777216 := by omega
      simp [e6, l3, l3', l4, l4', l4'']
  by_cases hw1 : w = 1
  · subst hw1
    obtain ⟨u, h5, hu, hh5, e5⟩ := draw_nat cs hh2 (many := 4) (by omega) (by omega)
    rw [show ((4 : Nat) : Int) = 4 from rfl] at e5
    by_cases hu0 : u = 0
    · subst hu0
      obtain ⟨v, h6, hv, hh6, e6⟩ := draw_nat cs hh5 (many := 2) (by omega) (by omega)
      obtain ⟨z, h7, hz, hh7, e7⟩ := draw_nat cs hh6 (many := 2) (by omega) (by omega)
      rw [show ((2 : Nat) : Int) = 2 from rfl] at e6 e7
      obtain ⟨k, hk⟩ : ∃ k : Int, k = 400 + v - R.length := ⟨_, rfl⟩
      have fm := fMul_rep (.tup [.int 1, .int 0, .int 0]) (k := k) (by omega) (by omega)
      have hrl : (List.replicate k.toNat (PV.tup [.int 1, .int 0, .int 0])).length = k.toNat := List.length_replicate
      have hrm : ∀ y ∈ List.replicate k.toNat (PV.tup [.int 1, .int 0, .int 0]), OddE y := fun y hy => by
        rw [List.eq_of_mem_replicate hy]
        exact .tup fun d hd => by
          simp only [List.mem_cons, List.not_mem_nil, or_false] at hd
          rcases hd with rfl | rfl | rfl <;> exact .int _
      generalize List.replicate k.toNat (PV.tup [.int 1, .int 0, .int 0]) = L at *
      have hLo : ∀ y ∈ L ++ R, OddE y := fun y hy => by
        rcases List.mem_append.1 hy with q | q
        · exact hrm y q
        · exact hro y q
      have hLl : 0 < (L ++ R).length := by rw [List.length_append]; omega
      have lsum : L.length + R.length ≤ 16777216 := by omega
      have s5 : (sSet 3 5 (mOp2 fAdd (oV (mFz (mOp2 fMul2 (oV (mFz (mLst (mCons (mFz (mTup (mCons (mFz (mC (.int 1))) (mCons (mFz (mC (.int 0))) (mCons (mFz (mC (.int 0))) (mNil)))))) (mNil))))) (oV (mFz (mOp2 fSub (oV (mFz (mOp2 fAdd (oV (mFz (mC (.int 400)))) (oV (mFz (mCall (mf_law_draw cs) (mConsO' (oN 0) (mConsO' (oV (mFz (mC (.int 2)))) (mNilO))))))))) (oV (mFz (mOp1 fLenU (oN 2)))))))))) (oN 2))) [.own h5, .fz (.int C), .fz (.lst R), .fz (.int 1), .fz (.int (p : Nat)), .un] = .nx [.own h6, .fz (.int C), .fz (.lst R), .fz (.int 1), .fz (.int (p : Nat)), .own (.lst (L ++ R))] := by
        generalize ((v : Nat) : Int) = v' at *
        simp [e6, ← hk, fm, lsum]
      have t1 : (mAnd (mT (mOp2 fEq (oN 3) (oV (mFz (mC (.int 1)))))) (mT (mOp2 fEq (oV (mFz (mCall (mf_law_draw cs) (mConsO' (oN 0) (mConsO' (oV (mFz (mC (.int 4)))) (mNilO)))))) (oV (mFz (mC (.int 0))))))) [.own h2, .fz (.int C), .fz (.lst R), .fz (.int 1), .fz (.int (p : Nat)), .un] = .ok true [.own h5, .fz (.int C), .fz (.lst R), .fz (.int 1), .fz (.int (p : Nat)), .un] := by
        simp [e5]
      have ixz : ixN (L ++ R).length 0 = some 0 := by
        unfold ixN
        rw [if_pos (by decide), if_pos (by omega)]; rfl
      generalize L ++ R = LR at *
      have main : ∀ (L2 : List PV), (∀ y ∈ L2, OddE y) → (sIf (mT (mOp2 fEq (oV (mFz (mCall (mf_law_draw cs) (mConsO' (oN 0) (mConsO' (oV (mFz (mC (.int 2)))) (mNilO)))))) (oV (mFz (mC (.int 0)))))) (sSetIx 5 (mFz (mC .non)) (mFz (mC (.int 0)))) (sNx)) [.own h6, .fz (.int C), .fz (.lst R), .fz (.int 1), .fz (.int (p : Nat)), .own (.lst LR)] = .nx [.own h7, .fz (.int C), .fz (.lst R), .fz (.int 1), .fz (.int (p : Nat)), .own (.lst L2)] →
          ∃ (d : PV) (s : Sl) (h' : PV), Odd d ∧ (s = .own d ∨ s = .fz d) ∧ Hand h' ∧ mf_law_spoilt_history cs [.own h, .fz (.int C), .fz (.lst R)] = .ret s [.own h', .fz (.int C), .fz (.lst R)] := by
        intro L2 hL2 s6
        refine ⟨.lst L2, _, h7, .lst hL2, .inl rfl, hh7, ?_⟩
        refine (body_ret (e := [.own h7, .fz (.int C), .fz (.lst R), .fz (.int 1), .fz (.int (p : Nat)), .un]) ?_).trans rfl
        unfold m_law_spoilt_history
        refine (sSq_nx s1).trans ?_
        refine (sSq_nx s2).trans ?_
        refine (sSq_nx s3).trans ?_
        refine sSq_ret ?_
        refine (sIf_true t1).trans ?_
        refine (sSq_nx s5).trans ?_
        refine (sSq_nx s6).trans ?_
        generalize ((p : Nat) : Int) = v4 at *
        simp
      by_cases hz0 : z = 0
      · subst hz0
        refine main (LR.set 0 .non) (fun y hy => ?_) ?_
        · rcases List.mem_or_eq_of_mem_set hy with q | q
          · exact hLo y q
          · rw [q]; exact .non
        · generalize ((p : Nat) : Int) = v4 at *
          simp [e7, ixz]
      · refine main LR hLo ?_
        have hz0' : ¬ ((z : Nat) : Int) = 0 := by omega
        generalize ((p : Nat) : Int) = v4 at *
        generalize ((z : Nat) : Int) = v5 at *
        simp [e7, hz0']
    · refine fin h5 hh5 ?_
      have hu0' : ¬ ((u : Nat) : Int) = 0 := by omega
      generalize ((p : Nat) : Int) = v4 at *
      generalize ((u : Nat) : Int) = v5 at *
      simp [e5, hu0']
  · refine fin h2 hh2 ?_
    have hw1' : ¬ ((w : Nat) : Int) = 1 := by omega
    generalize ((p : Nat) : Int) = v4 at *
    generalize ((w : Nat) : Int) = v5 at *
    simp [hw1']
end K02

set_option linter.all false
set_option maxRecDepth 100000
set_option maxHeartbeats 4000000
set_option pp.maxSteps 900
/-! Q12: the parts of a history, told. -/
namespace K02
open PySem L2 VS
/-- rows as tuples or as lists -/
def Rw (f : List Int → PV) : Prop := f = tI ∨ f = lI
theorem Rw.ix {f : List Int → PV} (h : Rw f) (r : List Int) (i : Int) : fIx (f r) (.int i) = (atI (r.map PV.int) i).map .fz := by
  rcases h with rfl | rfl <;> rfl
theorem Rw.tq {f : List Int → PV} (h : Rw f) (n : Nat) (q : MGs) (r : List Int) (e : Fr) : gTq n q (f r) e = if r.length = n then q (r.map .int) e else none := by
  rcases h with rfl | rfl <;> simp [tI, lI]
theorem Rw.tup {f : List Int → PV} (h : Rw f) (r : List Int) : fTuple (f r) = some (.fz (tI r)) := by
  rcases h with rfl | rfl <;> simp [tI, lI]
theorem Rw.ne0 {f : List Int → PV} (h : Rw f) (a : List (List Int)) : fNe (.lst (a.map f)) (.lst []) = some (.fz (.bl (!decide (a = [])))) := by
  rcases h with rfl | rfl
  · exact fNe_lT a []
  · exact fNe_lL a []
def hd (r : List Int) : Int := r.getD 0 0
section
variable {f : List Int → PV} {C : Int} {rows : List (List Int)} (hf : Rw f) (hr : ∀ x ∈ rows, Ent C x) (hl : rows.length ≤ 1000)
include hf hr hl
theorem calls_of_ok (cs : Cs) : mf_calls_of cs [.fz (.lst (rows.map f))] = .ret (.fz (.tup ((rows.map trail).map tI))) [.fz (.lst (rows.map f))] := by
  have z := compRun_fm (vs := [1, 2, 3]) (g := gTq 3 (gCn (gN 1 1) (gCn (gN 1 2) (gCn (gN 1 3) (gNl))))) (mt := mR true) (me := mFz (mTup (mCons (mFz (mN 1 2)) (mCons (mFz (mN 1 3)) (mNil))))) (e := [.fz (.lst (rows.map f)), .un, .un, .un]) f (fun _ => true) (fun x => tI (trail x)) rows (by
    intro x hx
    obtain ⟨a, b, c, rfl, _⟩ := hr x hx
    refine ⟨[.fz (.lst (rows.map f)), .fz (.int a), .fz (.int b), .fz (.int c)], [.fz (.lst (rows.map f)), .fz (.int a), .fz (.int b), .fz (.int c)], by rw [hf.tq]; rfl, rfl, nofun, fun _ => ⟨[.fz (.lst (rows.map f)), .fz (.int a), .fz (.int b), .fz (.int c)], ?_, rfl⟩⟩
    simp [trail, tup2]) (by omega)
  rw [List.filter_eq_self.2 (fun _ _ => rfl)] at z
  unfold mf_calls_of
  refine (body_ret (e := [.fz (.lst (rows.map f)), .un, .un, .un]) ?_).trans rfl
  unfold m_calls_of k_calls_of_1
  simp [wipeE]
  rw [z]
  simp
theorem asks_made_ok (cs : Cs) : mf_asks_made cs [.fz (.lst (rows.map f))] = .ret (.fz (.tup ((rows.map (List.take 2)).map tI))) [.fz (.lst (rows.map f))] := by
  have z := compRun_fm (vs := [1, 2, 3]) (g := gTq 3 (gCn (gN 1 1) (gCn (gN 1 2) (gCn (gN 1 3) (gNl))))) (mt := mR true) (me := mFz (mTup (mCons (mFz (mN 1 1)) (mCons (mFz (mN 1 2)) (mNil))))) (e := [.fz (.lst (rows.map f)), .un, .un, .un]) f (fun _ => true) (fun x => tI (x.take 2)) rows (by
    intro x hx
    obtain ⟨a, b, c, rfl, _⟩ := hr x hx
    refine ⟨[.fz (.lst (rows.map f)), .fz (.int a), .fz (.int b), .fz (.int c)], [.fz (.lst (rows.map f)), .fz (.int a), .fz (.int b), .fz (.int c)], by rw [hf.tq]; rfl, rfl, nofun, fun _ => ⟨[.fz (.lst (rows.map f)), .fz (.int a), .fz (.int b), .fz (.int c)], ?_, rfl⟩⟩
    simp [tup2]) (by omega)
  rw [List.filter_eq_self.2 (fun _ _ => rfl)] at z
  unfold mf_asks_made
  refine (body_ret (e := [.fz (.lst (rows.map f)), .un, .un, .un]) ?_).trans rfl
  unfold m_asks_made k_asks_made_1
  simp [wipeE]
  rw [z]
  simp
theorem hands_of_ok (cs : Cs) : mf_hands_of cs [.fz (.lst (rows.map f))] = .ret (.fz (.tup ((sortI (rows.map hd)).map .int))) [.fz (.lst (rows.map f))] := by
  have z := compRun_fm (vs := [1]) (g := gN 1 1) (mt := mR true) (me := mFz (mOp2 fIx (oN 1) (oV (mFz (mC (.int 0)))))) (e := [.fz (.lst (rows.map f)), .un]) f (fun _ => true) (fun x => .int (hd x)) rows (by
    intro x hx
    obtain ⟨a, b, c, rfl, _⟩ := hr x hx
    have ix := hf.ix [a, b, c]
    refine ⟨[.fz (.lst (rows.map f)), .fz (f [a, b, c])], [.fz (.lst (rows.map f)), .fz (f [a, b, c])], rfl, rfl, nofun, fun _ => ⟨[.fz (.lst (rows.map f)), .fz (f [a, b, c])], ?_, rfl⟩⟩
    generalize f [a, b, c] = F at *
    simp [ix, hd]) (by omega)
  rw [List.filter_eq_self.2 (fun _ _ => rfl)] at z
  have hs : fSetI (rows.map fun x => PV.int (hd x)) = some (.own (.lst ((sortI (rows.map hd)).map .int))) := by
    have e : (rows.map fun x => PV.int (hd x)) = (rows.map hd).map .int := by rw [List.map_map]; rfl
    rw [e]
    refine fSetI_ok ?_
    have := nub_few (ns := rows.map hd) (hi := 10) (fun k hk => by
      obtain ⟨x, hx, rfl⟩ := List.mem_map.1 hk
      obtain ⟨a, b, c, rfl, h1, _⟩ := hr x hx
      exact ⟨h1.1, by show a < 10; omega⟩)
    omega
  unfold mf_hands_of
  refine (body_ret (e := [.fz (.lst (rows.map f)), .un]) ?_).trans rfl
  unfold m_hands_of k_hands_of_1
  simp [wipeE]
  rw [z]
  simp [hs]
theorem part_of_ok (cs : Cs) (k : Int) : mf_part_of cs [.fz (.lst (rows.map f)), .fz (.int k)] = .ret (.fz (.tup ((rows.filter fun x => decide (hd x = k)).map tI))) [.fz (.lst (rows.map f)), .fz (.int k)] := by
  have z := compRun_fm (vs := [2]) (g := gN 2 2) (mt := (mT (mOp2 fEq (oV (mFz (mOp2 fIx (oN 2) (oV (mFz (mC (.int 0))))))) (oN 1)))) (me := mFz (mOp1 fTuple (oN 2))) (e := [.fz (.lst (rows.map f)), .fz (.int k), .un]) f (fun x => decide (hd x = k)) tI rows (by
    intro x hx
    obtain ⟨a, b, c, rfl, _⟩ := hr x hx
    have ix := hf.ix [a, b, c]
    have tu := hf.tup [a, b, c]
    refine ⟨[.fz (.lst (rows.map f)), .fz (.int k), .fz (f [a, b, c])], [.fz (.lst (rows.map f)), .fz (.int k), .fz (f [a, b, c])], rfl, ?_, fun _ => rfl, fun _ => ⟨[.fz (.lst (rows.map f)), .fz (.int k), .fz (f [a, b, c])], ?_, rfl⟩⟩
    · generalize f [a, b, c] = F at *
      simp [ix, hd]
    · generalize f [a, b, c] = F at *
      simp [tu]) (by omega)
  unfold mf_part_of
  refine (body_ret (e := [.fz (.lst (rows.map f)), .fz (.int k), .un]) ?_).trans rfl
  unfold m_part_of k_part_of_1
  simp [wipeE]
  rw [z]
  simp
theorem told_1 (cs : Cs) (b c : Sl) : k_law_parts_told_1 cs [.fz (.lst (rows.map f)), b, c, .un] = .ok (.own (.lst ((rows.map trail).map tI))) [.fz (.lst (rows.map f)), b, c, .un] := by
  have z := compRun_fm (vs := [3]) (g := gN 1 3) (mt := mR true) (me := (mFz (mTup (mCons (mFz (mOp2 fIx (oN 3) (oV (mFz (mC (.int 1)))))) (mCons (mFz (mOp2 fIx (oN 3) (oV (mFz (mC (.int 2)))))) (mNil)))))) (e := [.fz (.lst (rows.map f)), b, c, .un]) f (fun _ => true) (fun x => tI (trail x)) rows (by
    intro x hx
    obtain ⟨a, p, q, rfl, _⟩ := hr x hx
    have ix := hf.ix [a, p, q]
    refine ⟨[.fz (.lst (rows.map f)), b, c, .fz (f [a, p, q])], [.fz (.lst (rows.map f)), b, c, .fz (f [a, p, q])], rfl, rfl, nofun, fun _ => ⟨[.fz (.lst (rows.map f)), b, c, .fz (f [a, p, q])], ?_, rfl⟩⟩
    generalize f [a, p, q] = F at *
    simp [ix, trail, tup2]) (by omega)
  rw [List.filter_eq_self.2 (fun _ _ => rfl)] at z
  unfold k_law_parts_told_1
  simp [wipeE]
  rw [z]
  rfl
theorem told_2 (cs : Cs) (b c : Sl) : k_law_parts_told_2 cs [.fz (.lst (rows.map f)), b, c, .un] = .ok (.own (.lst ((rows.map (List.take 2)).map tI))) [.fz (.lst (rows.map f)), b, c, .un] := by
  have z := compRun_fm (vs := [3]) (g := gN 1 3) (mt := mR true) (me := (mFz (mTup (mCons (mFz (mOp2 fIx (oN 3) (oV (mFz (mC (.int 0)))))) (mCons (mFz (mOp2 fIx (oN 3) (oV (mFz (mC (.int 1)))))) (mNil)))))) (e := [.fz (.lst (rows.map f)), b, c, .un]) f (fun _ => true) (fun x => tI (x.take 2)) rows (by
    intro x hx
    obtain ⟨a, p, q, rfl, _⟩ := hr x hx
    have ix := hf.ix [a, p, q]
    refine ⟨[.fz (.lst (rows.map f)), b, c, .fz (f [a, p, q])], [.fz (.lst (rows.map f)), b, c, .fz (f [a, p, q])], rfl, rfl, nofun, fun _ => ⟨[.fz (.lst (rows.map f)), b, c, .fz (f [a, p, q])], ?_, rfl⟩⟩
    generalize f [a, p, q] = F at *
    simp [ix, tup2]) (by omega)
  rw [List.filter_eq_self.2 (fun _ _ => rfl)] at z
  unfold k_law_parts_told_2
  simp [wipeE]
  rw [z]
  rfl
theorem told_3 (cs : Cs) (b : Sl) (k : Int) : k_law_parts_told_3 cs [.fz (.lst (rows.map f)), b, .fz (.int k), .un] = .ok (.own (.lst ((rows.filter fun x => decide (hd x = k)).map f))) [.fz (.lst (rows.map f)), b, .fz (.int k), .un] := by
  have z := compRun_fm (vs := [3]) (g := gN 1 3) (mt := (mT (mOp2 fEq (oV (mFz (mOp2 fIx (oN 3) (oV (mFz (mC (.int 0))))))) (oN 2)))) (me := mFz (mN 1 3)) (e := [.fz (.lst (rows.map f)), b, .fz (.int k), .un]) f (fun x => decide (hd x = k)) f rows (by
    intro x hx
    obtain ⟨a, p, q, rfl, _⟩ := hr x hx
    have ix := hf.ix [a, p, q]
    refine ⟨[.fz (.lst (rows.map f)), b, .fz (.int k), .fz (f [a, p, q])], [.fz (.lst (rows.map f)), b, .fz (.int k), .fz (f [a, p, q])], rfl, ?_, fun _ => rfl, fun _ => ⟨[.fz (.lst (rows.map f)), b, .fz (.int k), .fz (f [a, p, q])], rfl, rfl⟩⟩
    generalize f [a, p, q] = F at *
    simp [ix, hd]) (by omega)
  unfold k_law_parts_told_3
  simp [wipeE]
  rw [z]
theorem told_5 (cs : Cs) (b : Sl) (k : Int) : k_law_parts_told_5 cs [.fz (.lst (rows.map f)), b, .fz (.int k), .un] = .ok (.own (.lst ((rows.filter fun x => decide (hd x = k)).map tI))) [.fz (.lst (rows.map f)), b, .fz (.int k), .un] := by
  have z := compRun_fm (vs := [3]) (g := gN 1 3) (mt := (mT (mOp2 fEq (oV (mFz (mOp2 fIx (oN 3) (oV (mFz (mC (.int 0))))))) (oN 2)))) (me := mFz (mOp1 fTuple (oN 3))) (e := [.fz (.lst (rows.map f)), b, .fz (.int k), .un]) f (fun x => decide (hd x = k)) tI rows (by
    intro x hx
    obtain ⟨a, p, q, rfl, _⟩ := hr x hx
    have ix := hf.ix [a, p, q]
    have tu := hf.tup [a, p, q]
    refine ⟨[.fz (.lst (rows.map f)), b, .fz (.int k), .fz (f [a, p, q])], [.fz (.lst (rows.map f)), b, .fz (.int k), .fz (f [a, p, q])], rfl, ?_, fun _ => rfl, fun _ => ⟨[.fz (.lst (rows.map f)), b, .fz (.int k), .fz (f [a, p, q])], ?_, rfl⟩⟩
    · generalize f [a, p, q] = F at *
      simp [ix, hd]
    · generalize f [a, p, q] = F at *
      simp [tu]) (by omega)
  unfold k_law_parts_told_5
  simp [wipeE]
  rw [z]
theorem there_eq : ((rgI 10).filter fun k => !decide ((rows.filter fun x => decide (hd x = k)) = [])) = sortI (rows.map hd) := by
  symm
  refine sortI_of ((rgI_strict 10).filter _) fun k => ?_
  rw [List.mem_filter, mem_rgI, List.mem_map, Bool.not_eq_true', decide_eq_false_iff_not]
  constructor
  · rintro ⟨_, h⟩
    obtain ⟨x, hx⟩ := List.exists_mem_of_ne_nil _ h
    rw [List.mem_filter, decide_eq_true_eq] at hx
    exact ⟨x, hx⟩
  · rintro ⟨x, hx, rfl⟩
    obtain ⟨a, b, c, rfl, h1, _⟩ := hr x hx
    refine ⟨⟨h1.1, by show a < 10; omega⟩, List.ne_nil_of_mem (a := [a, b, c]) (List.mem_filter.2 ⟨hx, by simp⟩)⟩
theorem told_4 (cs : Cs) (b : Sl) : k_law_parts_told_4 cs [.fz (.lst (rows.map f)), b, .un, .un] = .ok (.own (.lst ((sortI (rows.map hd)).map .int))) [.fz (.lst (rows.map f)), b, .un, .un] := by
  have t3 := told_3 hf hr hl cs b
  have n0 := hf.ne0
  have z := compRun_fm (vs := [2]) (g := gN 1 2) (mt := (mT (mOp2 fNe (oV (mFz (k_law_parts_told_3 cs))) (oV (mFz (mLst (mNil))))))) (me := mFz (mN 1 2)) (e := [.fz (.lst (rows.map f)), b, .un, .un]) PV.int (fun k => !decide ((rows.filter fun x => decide (hd x = k)) = [])) PV.int (rgI 10) (by
    intro k hk
    refine ⟨[.fz (.lst (rows.map f)), b, .fz (.int k), .un], [.fz (.lst (rows.map f)), b, .fz (.int k), .un], rfl, ?_, fun _ => rfl, fun _ => ⟨[.fz (.lst (rows.map f)), b, .fz (.int k), .un], rfl, rfl⟩⟩
    have e3 := t3 k
    have e4 := n0 (rows.filter fun x => decide (hd x = k))
    generalize (rows.filter fun x => decide (hd x = k)) = fl at *
    generalize PV.lst (rows.map f) = R at *
    simp [e3, e4]) (by rw [rgI_len]; decide)
  rw [there_eq hf hr hl] at z
  have r3 : rangeL 0 10 = (rgI 10).map PV.int := rangeL_nat 10
  have i3 : inR 10 = true := inR_of' (by omega) (by omega)
  unfold k_law_parts_told_4
  simp [i3, r3, wipeE]
  rw [z]
theorem parts_ok (cs : Cs) : mf_law_parts_told cs [.fz (.lst (rows.map f))] = .ret (.fz (.bl true)) [.fz (.lst (rows.map f))] := by
  have a1 := calls_of_ok hf hr hl cs
  have a2 := asks_made_ok hf hr hl cs
  have a3 := hands_of_ok hf hr hl cs
  have a4 := part_of_ok hf hr hl cs
  have t1 := told_1 hf hr hl cs
  have t2 := told_2 hf hr hl cs
  have t4 := told_4 hf hr hl cs
  have t5 := told_5 hf hr hl cs
  have x1 := exact_ok cs 6 (.tup ((rows.map trail).map tI)) (DX.rows (n := 3) (fun r hr' => by
    obtain ⟨x, _, rfl⟩ := List.mem_map.1 hr'
    simp [trail]) (by rw [List.length_map]; omega))
  have x2 := exact_ok cs 6 (.tup ((rows.map (List.take 2)).map tI)) (DX.rows (n := 3) (fun r hr' => by
    obtain ⟨x, hx, rfl⟩ := List.mem_map.1 hr'
    rw [List.length_take]; omega) (by rw [List.length_map]; omega))
  have x3 := exact_ok cs 6 (.tup ((sortI (rows.map hd)).map .int)) (DX.row (n := 4) (by
    rw [← there_eq hf hr hl]
    refine Nat.le_trans (List.length_filter_le _ _) ?_
    rw [rgI_len]; decide))
  have x4 : ∀ k, mf_law_exact cs 6 [.fz (.tup ((rows.filter fun x => decide (hd x = k)).map tI)), .fz (.tup ((rows.filter fun x => decide (hd x = k)).map tI))] = _ := fun k => exact_ok cs 6 (.tup ((rows.filter fun x => decide (hd x = k)).map tI)) (DX.rows (n := 3) (fun r hr' => by
    obtain ⟨a, b, c, rfl, _⟩ := hr r (List.mem_filter.1 hr').1
    simp) (Nat.le_trans (List.length_filter_le _ _) (by omega)))
  generalize (sortI (rows.map hd)).map PV.int = H at *
  generalize (rows.map trail).map tI = T at *
  generalize (rows.map (List.take 2)).map tI = A at *
  have lp := forRun_look (g := gN 1 2) (mb := b_law_parts_told_1 cs) (fun j => [.fz (.lst (rows.map f)), .own (.lst H), j, .un]) ((rgI 10).map PV.int) .un (by
    intro d hd' j
    obtain ⟨k, _, rfl⟩ := List.mem_map.1 hd'
    refine ⟨[.fz (.lst (rows.map f)), .own (.lst H), .fz (.int k), .un], rfl, ?_⟩
    have b1 := a4 k
    have b2 := t5 (.own (.lst H)) k
    have b3 := x4 k
    generalize (rows.filter fun x => decide (hd x = k)).map tI = fl at *
    generalize PV.lst (rows.map f) = R at *
    simp [b_law_parts_told_1, b1, b2, b3])
  generalize lastS .un ((rgI 10).map PV.int) = j at lp
  have r3 : rangeL 0 10 = (rgI 10).map PV.int := rangeL_nat 10
  have i3 : inR 10 = true := inR_of' (by omega) (by omega)
  clear a4 t5 x4
  generalize PV.lst (rows.map f) = R at *
  unfold mf_law_parts_told
  refine (body_ret (e := [.fz R, .own (.lst H), j, .un]) ?_).trans rfl
  unfold m_law_parts_told
  refine (sSq_nx (e1 := [.fz R, .un, .un, .un]) (by simp [a1, t1, x1])).trans ?_
  refine (sSq_nx (e1 := [.fz R, .un, .un, .un]) (by simp [a2, t2, x2])).trans ?_
  refine (sSq_nx (e1 := [.fz R, .own (.lst H), .un, .un]) (by simp [t4])).trans ?_
  refine (sSq_nx (e1 := [.fz R, .own (.lst H), .un, .un]) (by simp [a3, x3])).trans ?_
  refine (sSq_nx (e1 := [.fz R, .own (.lst H), j, .un]) ?_).trans ?_
  · simp [l_law_parts_told_1, i3, r3, lp]
  · simp
end
end K02

set_option linter.all false
set_option maxRecDepth 100000
set_option maxHeartbeats 4000000
set_option pp.maxSteps 900
/-! Q13: books beside one another. -/
namespace VS
open PySem L2
theorem coupA_snoc (S2 : Nat) (pre : List (List Int)) (w : List Int) : coupA S2 (pre ++ [w]) = coupA S2 pre ++ (rgI S2).map fun r => [w.getD 0 0 * S2 + r, w.getD 1 0, w.getD 2 0, w.getD 3 0 * S2 + r] := by
  unfold coupA; rw [List.flatMap_append]; simp
theorem coupB_snoc (S1 C1 S2 : Nat) (pre : List (List Int)) (w : List Int) : coupB S1 C1 S2 (pre ++ [w]) = coupB S1 C1 S2 pre ++ (rgI S1).map fun r => [r * S2 + w.getD 0 0, C1 + w.getD 1 0, w.getD 2 0, r * S2 + w.getD 3 0] := by
  unfold coupB; rw [List.flatMap_append]; simp
theorem coupA_len (S2 : Nat) (ws : List (List Int)) : (coupA S2 ws).length ≤ ws.length * S2 := by
  unfold coupA
  exact flatMap_len (fun w => by rw [List.length_map, rgI_len]; omega) ws
theorem coupB_len (S1 C1 S2 : Nat) (ws : List (List Int)) : (coupB S1 C1 S2 ws).length ≤ ws.length * S1 := by
  unfold coupB
  exact flatMap_len (fun w => by rw [List.length_map, rgI_len]; omega) ws
end VS
namespace K02
open PySem L2 VS
section
variable (cs : Cs)
/-! the law's couples -/
theorem lcw_inA {m s c a t : Int} (ms : mulB s m = true) (mt : mulB t m = true) (a0 a1 a2 a4 a5 j : Sl) (acc : List (List Int)) (xs : List Int) (hl : acc.length + xs.length ≤ 100000) :
    ∃ j', forRun (gN 6 11) (b_law_couple_ways_1 cs) (xs.map .int) [a0, a1, a2, .fz (.int m), a4, a5, .own (.lst (acc.map tI)), .fz (.int s), .fz (.int c), .fz (.int a), .fz (.int t), j] = .nx [a0, a1, a2, .fz (.int m), a4, a5, .own (.lst ((acc ++ xs.map fun r => [s * m + r, c, a, t * m + r]).map tI)), .fz (.int s), .fz (.int c), .fz (.int a), .fz (.int t), j'] := by
  obtain ⟨e', lp, j', rfl⟩ := forRun_pre PV.int (fun pre e => ∃ j', e = [a0, a1, a2, .fz (.int m), a4, a5, .own (.lst ((acc ++ pre.map fun r => [s * m + r, c, a, t * m + r]).map tI)), .fz (.int s), .fz (.int c), .fz (.int a), .fz (.int t), j']) (g := gN 6 11) (mb := b_law_couple_ways_1 cs) (xs := xs)
    (e := [a0, a1, a2, .fz (.int m), a4, a5, .own (.lst (acc.map tI)), .fz (.int s), .fz (.int c), .fz (.int a), .fz (.int t), j]) ⟨j, by simp⟩ (by
      rintro pre r post e hx ⟨j', rfl⟩
      have hp : pre.length < xs.length := by rw [hx]; simp
      have l1 : (acc ++ pre.map fun r => [s * m + r, c, a, t * m + r]).length < 16777216 := by rw [List.length_append, List.length_map]; omega
      refine ⟨_, [a0, a1, a2, .fz (.int m), a4, a5, .own (.lst ((acc ++ (pre ++ [r]).map fun r => [s * m + r, c, a, t * m + r]).map tI)), .fz (.int s), .fz (.int c), .fz (.int a), .fz (.int t), .fz (.int r)], rfl, ?_, _, rfl⟩
      have ea : acc ++ (pre ++ [r]).map (fun r => [s * m + r, c, a, t * m + r]) = (acc ++ pre.map fun r => [s * m + r, c, a, t * m + r]) ++ [[s * m + r, c, a, t * m + r]] := by simp
      rw [ea]
      generalize acc ++ pre.map (fun r => [s * m + r, c, a, t * m + r]) = L at *
      simp [b_law_couple_ways_1, ms, mt, l1, tup4])
  exact ⟨j', lp⟩
theorem lcw_inB {m k s c a t : Int} (mr : ∀ r : Int, mulB r m = true) (a0 a2 a4 a5 j : Sl) (acc : List (List Int)) (xs : List Int) (hl : acc.length + xs.length ≤ 100000) :
    ∃ j', forRun (gN 6 11) (b_law_couple_ways_3 cs) (xs.map .int) [a0, .fz (.int k), a2, .fz (.int m), a4, a5, .own (.lst (acc.map tI)), .fz (.int s), .fz (.int c), .fz (.int a), .fz (.int t), j] = .nx [a0, .fz (.int k), a2, .fz (.int m), a4, a5, .own (.lst ((acc ++ xs.map fun r => [r * m + s, k + c, a, r * m + t]).map tI)), .fz (.int s), .fz (.int c), .fz (.int a), .fz (.int t), j'] := by
  obtain ⟨e', lp, j', rfl⟩ := forRun_pre PV.int (fun pre e => ∃ j', e = [a0, .fz (.int k), a2, .fz (.int m), a4, a5, .own (.lst ((acc ++ pre.map fun r => [r * m + s, k + c, a, r * m + t]).map tI)), .fz (.int s), .fz (.int c), .fz (.int a), .fz (.int t), j']) (g := gN 6 11) (mb := b_law_couple_ways_3 cs) (xs := xs)
    (e := [a0, .fz (.int k), a2, .fz (.int m), a4, a5, .own (.lst (acc.map tI)), .fz (.int s), .fz (.int c), .fz (.int a), .fz (.int t), j]) ⟨j, by simp⟩ (by
      rintro pre r post e hx ⟨j', rfl⟩
      have hp : pre.length < xs.length := by rw [hx]; simp
      have l1 : (acc ++ pre.map fun r => [r * m + s, k + c, a, r * m + t]).length < 16777216 := by rw [List.length_append, List.length_map]; omega
      have m1 := mr r
      refine ⟨_, [a0, .fz (.int k), a2, .fz (.int m), a4, a5, .own (.lst ((acc ++ (pre ++ [r]).map fun r => [r * m + s, k + c, a, r * m + t]).map tI)), .fz (.int s), .fz (.int c), .fz (.int a), .fz (.int t), .fz (.int r)], rfl, ?_, _, rfl⟩
      have ea : acc ++ (pre ++ [r]).map (fun r => [r * m + s, k + c, a, r * m + t]) = (acc ++ pre.map fun r => [r * m + s, k + c, a, r * m + t]) ++ [[r * m + s, k + c, a, r * m + t]] := by simp
      rw [ea]
      generalize acc ++ pre.map (fun r => [r * m + s, k + c, a, r * m + t]) = L at *
      simp [b_law_couple_ways_3, m1, l1, tup4])
  exact ⟨j', lp⟩
theorem mulB_6 {m : Int} (h0 : 0 ≤ m) (h6 : m ≤ 6) (r : Int) : mulB r m = true := mulB_r (by omega) (by omega)
theorem inR_6 {m : Int} (h0 : 0 ≤ m) (h6 : m ≤ 10) : inR m = true := inR_of' (by omega) (by omega)
theorem lcw_A {S1 C1 S2 : Nat} (s2 : S2 ≤ 6) {w1 : List (List Int)} (hw : ∀ w ∈ w1, Wy S1 C1 w) (hl : w1.length ≤ 432) (a0 a1 a4 a5 : Sl) :
    ∃ j7 j8 j9 j10 j11 : Sl, forRun (gTq 4 (gCn (gN 6 7) (gCn (gN 6 8) (gCn (gN 6 9) (gCn (gN 6 10) (gNl)))))) (b_law_couple_ways_2 cs) (w1.map tI) [a0, a1, .fz (.tup (w1.map tI)), .fz (.int S2), a4, a5, .own (.lst []), .un, .un, .un, .un, .un] = .nx [a0, a1, .fz (.tup (w1.map tI)), .fz (.int S2), a4, a5, .own (.lst ((coupA S2 w1).map tI)), j7, j8, j9, j10, j11] := by
  obtain ⟨e', lp, j7, j8, j9, j10, j11, rfl⟩ := forRun_pre tI (fun pre e => ∃ j7 j8 j9 j10 j11 : Sl, e = [a0, a1, .fz (.tup (w1.map tI)), .fz (.int S2), a4, a5, .own (.lst ((coupA S2 pre).map tI)), j7, j8, j9, j10, j11]) (g := gTq 4 (gCn (gN 6 7) (gCn (gN 6 8) (gCn (gN 6 9) (gCn (gN 6 10) (gNl)))))) (mb := b_law_couple_ways_2 cs) (xs := w1)
    (e := [a0, a1, .fz (.tup (w1.map tI)), .fz (.int S2), a4, a5, .own (.lst []), .un, .un, .un, .un, .un]) ⟨_, _, _, _, _, rfl⟩ (by
      rintro pre w post e hx ⟨j7, j8, j9, j10, j11, rfl⟩
      obtain ⟨s, c, a, t, rfl, _⟩ := hw w (by rw [hx]; simp)
      have hp : pre.length ≤ 432 := by have := congrArg List.length hx; simp at this; omega
      have hcl := coupA_len S2 pre
      have hm : pre.length * S2 ≤ 432 * 6 := Nat.mul_le_mul hp s2
      have i1 : inR (S2 : Int) = true := inR_6 (by omega) (by omega)
      obtain ⟨j', e1⟩ := lcw_inA cs (m := S2) (s := s) (c := c) (a := a) (t := t) (mulB_6 (by omega) (by omega) s) (mulB_6 (by omega) (by omega) t) a0 a1 (.fz (.tup (w1.map tI))) a4 a5 j11 (coupA S2 pre) (rgI S2) (by rw [rgI_len]; omega)
      refine ⟨_, [a0, a1, .fz (.tup (w1.map tI)), .fz (.int S2), a4, a5, .own (.lst ((coupA S2 (pre ++ [[s, c, a, t]])).map tI)), .fz (.int s), .fz (.int c), .fz (.int a), .fz (.int t), j'], rfl, ?_, _, _, _, _, _, rfl⟩
      rw [coupA_snoc]
      simp only [b_law_couple_ways_2, l_law_couple_ways_1]
      rw [← rangeL_nat] at e1
      generalize ((S2 : Nat) : Int) = m at *
      simp [i1]
      rw [e1]
      simp)
  exact ⟨j7, j8, j9, j10, j11, lp⟩
theorem lcw_B {S1 C1 S2 C2 : Nat} (s1 : S1 ≤ 6) (s2 : S2 ≤ 6) {w2 : List (List Int)} (hw : ∀ w ∈ w2, Wy S2 C2 w) (hl : w2.length ≤ 432) (a2 a4 : Sl) (acc : List (List Int)) (hacc : acc.length ≤ 10000) (j7 j8 j9 j10 j11 : Sl) :
    ∃ j7' j8' j9' j10' j11' : Sl, forRun (gTq 4 (gCn (gN 6 7) (gCn (gN 6 8) (gCn (gN 6 9) (gCn (gN 6 10) (gNl)))))) (b_law_couple_ways_4 cs) (w2.map tI) [.fz (.int S1), .fz (.int C1), a2, .fz (.int S2), a4, .fz (.tup (w2.map tI)), .own (.lst (acc.map tI)), j7, j8, j9, j10, j11] = .nx [.fz (.int S1), .fz (.int C1), a2, .fz (.int S2), a4, .fz (.tup (w2.map tI)), .own (.lst ((acc ++ coupB S1 C1 S2 w2).map tI)), j7', j8', j9', j10', j11'] := by
  obtain ⟨e', lp, j7, j8, j9, j10, j11, rfl⟩ := forRun_pre tI (fun pre e => ∃ j7 j8 j9 j10 j11 : Sl, e = [.fz (.int S1), .fz (.int C1), a2, .fz (.int S2), a4, .fz (.tup (w2.map tI)), .own (.lst ((acc ++ coupB S1 C1 S2 pre).map tI)), j7, j8, j9, j10, j11]) (g := gTq 4 (gCn (gN 6 7) (gCn (gN 6 8) (gCn (gN 6 9) (gCn (gN 6 10) (gNl)))))) (mb := b_law_couple_ways_4 cs) (xs := w2)
    (e := [.fz (.int S1), .fz (.int C1), a2, .fz (.int S2), a4, .fz (.tup (w2.map tI)), .own (.lst (acc.map tI)), j7, j8, j9, j10, j11]) ⟨_, _, _, _, _, by simp [coupB]; exact ⟨rfl, rfl, rfl, rfl, rfl⟩⟩ (by
      rintro pre w post e hx ⟨j7, j8, j9, j10, j11, rfl⟩
      obtain ⟨s, c, a, t, rfl, _⟩ := hw w (by rw [hx]; simp)
      have hp : pre.length ≤ 432 := by have := congrArg List.length hx; simp at this; omega
      have hcl := coupB_len S1 C1 S2 pre
      have hm : pre.length * S1 ≤ 432 * 6 := Nat.mul_le_mul hp s1
      have i1 : inR (S1 : Int) = true := inR_6 (by omega) (by omega)
      obtain ⟨j', e1⟩ := lcw_inB cs (m := S2) (k := C1) (s := s) (c := c) (a := a) (t := t) (mulB_6 (by omega) (by omega)) (.fz (.int S1)) a2 a4 (.fz (.tup (w2.map tI))) j11 (acc ++ coupB S1 C1 S2 pre) (rgI S1) (by rw [rgI_len, List.length_append]; omega)
      refine ⟨_, [.fz (.int S1), .fz (.int C1), a2, .fz (.int S2), a4, .fz (.tup (w2.map tI)), .own (.lst ((acc ++ coupB S1 C1 S2 (pre ++ [[s, c, a, t]])).map tI)), .fz (.int s), .fz (.int c), .fz (.int a), .fz (.int t), j'], rfl, ?_, _, _, _, _, _, rfl⟩
      rw [coupB_snoc, ← List.append_assoc]
      simp only [b_law_couple_ways_4, l_law_couple_ways_3]
      rw [← rangeL_nat] at e1
      generalize acc ++ coupB S1 C1 S2 pre = L at *
      generalize ((S1 : Nat) : Int) = m at *
      generalize ((S2 : Nat) : Int) = m2 at *
      generalize ((C1 : Nat) : Int) = k at *
      simp [i1]
      rw [e1]
      simp)
  exact ⟨j7, j8, j9, j10, j11, lp⟩
theorem couple_ok {S1 C1 S2 C2 : Nat} {w1 w2 : List (List Int)} (h1 : Bks S1 C1 w1) (h2 : Bks S2 C2 w2) (hs : S1 * S2 ≤ 6) (hc : C1 + C2 ≤ 4) :
    mf_law_couple_ways cs [.fz (.int S1), .fz (.int C1), .fz (.tup (w1.map tI)), .fz (.int S2), .fz (.int C2), .fz (.tup (w2.map tI))] = .ret (.fz (.tup (((coup S1 C1 w1 S2 w2).mergeSort leL).map tI))) [.fz (.int S1), .fz (.int C1), .fz (.tup (w1.map tI)), .fz (.int S2), .fz (.int C2), .fz (.tup (w2.map tI))] := by
  have a1 := h1.s2
  have a2 := h2.s2
  have l1 := h1.len
  have l2 := h2.len
  obtain ⟨j7, j8, j9, j10, j11, eA⟩ := lcw_A cs a2 h1.way l1 (.fz (.int S1)) (.fz (.int C1)) (.fz (.int C2)) (.fz (.tup (w2.map tI)))
  have hm : w1.length * S2 ≤ 432 * 6 := Nat.mul_le_mul l1 a2
  have hcl := coupA_len S2 w1
  obtain ⟨k7, k8, k9, k10, k11, eB⟩ := lcw_B cs (C1 := C1) a1 a2 h2.way l2 (.fz (.tup (w1.map tI))) (.fz (.int C2)) (coupA S2 w1) (by omega) j7 j8 j9 j10 j11
  have hB := coup_book h1 h2 hs hc
  have hcl2 := hB.len
  have srt := fSorted_tI (xs := coup S1 C1 w1 S2 w2) (fun x hx => by obtain ⟨s, c, a, t, rfl, _⟩ := hB.way x hx; simp) (by omega)
  have hco : coupA S2 w1 ++ coupB S1 C1 S2 w2 = coup S1 C1 w1 S2 w2 := rfl
  rw [hco] at eB
  clear hB hcl hcl2 hco hm
  generalize coup S1 C1 w1 S2 w2 = K at *
  generalize coupA S2 w1 = A at *
  generalize ((S1 : Nat) : Int) = x1 at *
  generalize ((S2 : Nat) : Int) = x2 at *
  generalize ((C1 : Nat) : Int) = x3 at *
  generalize ((C2 : Nat) : Int) = x4 at *
  unfold mf_law_couple_ways
  refine (body_ret (e := [.fz (.int x1), .fz (.int x3), .fz (.tup (w1.map tI)), .fz (.int x2), .fz (.int x4), .fz (.tup (w2.map tI)), .own (.lst (K.map tI)), k7, k8, k9, k10, k11]) ?_).trans rfl
  unfold m_law_couple_ways
  refine (sSq_nx (e1 := [.fz (.int x1), .fz (.int x3), .fz (.tup (w1.map tI)), .fz (.int x2), .fz (.int x4), .fz (.tup (w2.map tI)), .own (.lst []), .un, .un, .un, .un, .un]) (by simp)).trans ?_
  refine (sSq_nx (e1 := [.fz (.int x1), .fz (.int x3), .fz (.tup (w1.map tI)), .fz (.int x2), .fz (.int x4), .fz (.tup (w2.map tI)), .own (.lst (A.map tI)), j7, j8, j9, j10, j11]) (by simp [l_law_couple_ways_2]; exact eA)).trans ?_
  refine (sSq_nx (e1 := [.fz (.int x1), .fz (.int x3), .fz (.tup (w1.map tI)), .fz (.int x2), .fz (.int x4), .fz (.tup (w2.map tI)), .own (.lst (K.map tI)), k7, k8, k9, k10, k11]) (by simp [l_law_couple_ways_4]; exact eB)).trans ?_
  simp [srt]
end
end K02

set_option linter.all false
set_option maxRecDepth 100000
set_option maxHeartbeats 4000000
set_option pp.maxSteps 900
/-! Q14: beside. -/
namespace K02
open PySem L2 VS
section
variable (cs : Cs)
theorem bes_inA {m s c a t : Int} {B2 : PV} (fs : fFld cs.Book "states" B2 = some (.fz (.int m))) (ms : mulB s m = true) (mt : mulB t m = true) (a0 j j8 : Sl) (acc : List (List Int)) (xs : List Int) (hl : acc.length + xs.length ≤ 100000) :
    ∃ j', forRun (gN 2 7) (b_beside_1 cs) (xs.map .int) [a0, .fz B2, .own (.lst (acc.map tI)), .fz (.int s), .fz (.int c), .fz (.int a), .fz (.int t), j, j8] = .nx [a0, .fz B2, .own (.lst ((acc ++ xs.map fun r => [s * m + r, c, a, t * m + r]).map tI)), .fz (.int s), .fz (.int c), .fz (.int a), .fz (.int t), j', j8] := by
  obtain ⟨e', lp, j', rfl⟩ := forRun_pre PV.int (fun pre e => ∃ j', e = [a0, .fz B2, .own (.lst ((acc ++ pre.map fun r => [s * m + r, c, a, t * m + r]).map tI)), .fz (.int s), .fz (.int c), .fz (.int a), .fz (.int t), j', j8]) (g := gN 2 7) (mb := b_beside_1 cs) (xs := xs)
    (e := [a0, .fz B2, .own (.lst (acc.map tI)), .fz (.int s), .fz (.int c), .fz (.int a), .fz (.int t), j, j8]) ⟨j, by simp⟩ (by
      rintro pre r post e hx ⟨j', rfl⟩
      have hp : pre.length < xs.length := by rw [hx]; simp
      have l1 : (acc ++ pre.map fun r => [s * m + r, c, a, t * m + r]).length < 16777216 := by rw [List.length_append, List.length_map]; omega
      refine ⟨_, [a0, .fz B2, .own (.lst ((acc ++ (pre ++ [r]).map fun r => [s * m + r, c, a, t * m + r]).map tI)), .fz (.int s), .fz (.int c), .fz (.int a), .fz (.int t), .fz (.int r), j8], rfl, ?_, _, rfl⟩
      have ea : acc ++ (pre ++ [r]).map (fun r => [s * m + r, c, a, t * m + r]) = (acc ++ pre.map fun r => [s * m + r, c, a, t * m + r]) ++ [[s * m + r, c, a, t * m + r]] := by simp
      rw [ea]
      generalize acc ++ pre.map (fun r => [s * m + r, c, a, t * m + r]) = L at *
      simp [b_beside_1, fs, ms, mt, l1, tup4])
  exact ⟨j', lp⟩
theorem bes_inB {m k s c a t : Int} {B1 B2 : PV} (fs : fFld cs.Book "states" B2 = some (.fz (.int m))) (fc : fFld cs.Book "calls" B1 = some (.fz (.int k))) (mr : ∀ r : Int, mulB r m = true) (j j8 : Sl) (acc : List (List Int)) (xs : List Int) (hl : acc.length + xs.length ≤ 100000) :
    ∃ j' j8', forRun (gN 2 7) (b_beside_3 cs) (xs.map .int) [.fz B1, .fz B2, .own (.lst (acc.map tI)), .fz (.int s), .fz (.int c), .fz (.int a), .fz (.int t), j, j8] = .nx [.fz B1, .fz B2, .own (.lst ((acc ++ xs.map fun r => [r * m + s, k + c, a, r * m + t]).map tI)), .fz (.int s), .fz (.int c), .fz (.int a), .fz (.int t), j', j8'] := by
  obtain ⟨e', lp, j', j8', rfl⟩ := forRun_pre PV.int (fun pre e => ∃ j' j8', e = [.fz B1, .fz B2, .own (.lst ((acc ++ pre.map fun r => [r * m + s, k + c, a, r * m + t]).map tI)), .fz (.int s), .fz (.int c), .fz (.int a), .fz (.int t), j', j8']) (g := gN 2 7) (mb := b_beside_3 cs) (xs := xs)
    (e := [.fz B1, .fz B2, .own (.lst (acc.map tI)), .fz (.int s), .fz (.int c), .fz (.int a), .fz (.int t), j, j8]) ⟨j, j8, by simp⟩ (by
      rintro pre r post e hx ⟨j', j8', rfl⟩
      have hp : pre.length < xs.length := by rw [hx]; simp
      have l1 : (acc ++ pre.map fun r => [r * m + s, k + c, a, r * m + t]).length < 16777216 := by rw [List.length_append, List.length_map]; omega
      have m1 := mr r
      refine ⟨_, [.fz B1, .fz B2, .own (.lst ((acc ++ (pre ++ [r]).map fun r => [r * m + s, k + c, a, r * m + t]).map tI)), .fz (.int s), .fz (.int c), .fz (.int a), .fz (.int t), .fz (.int r), .fz (.int (r * m))], rfl, ?_, _, _, rfl⟩
      have ea : acc ++ (pre ++ [r]).map (fun r => [r * m + s, k + c, a, r * m + t]) = (acc ++ pre.map fun r => [r * m + s, k + c, a, r * m + t]) ++ [[r * m + s, k + c, a, r * m + t]] := by simp
      rw [ea]
      generalize acc ++ pre.map (fun r => [r * m + s, k + c, a, r * m + t]) = L at *
      simp [b_beside_3, fs, fc, m1, l1, tup4])
  exact ⟨j', j8', lp⟩
theorem bes_A {S1 C1 S2 : Nat} (s2 : S2 ≤ 6) {w1 : List (List Int)} (hw : ∀ w ∈ w1, Wy S1 C1 w) (hl : w1.length ≤ 432) {B2 : PV} (fs : fFld cs.Book "states" B2 = some (.fz (.int S2))) (a0 : Sl) :
    ∃ j3 j4 j5 j6 j7 j8 : Sl, forRun (gTq 4 (gCn (gN 2 3) (gCn (gN 2 4) (gCn (gN 2 5) (gCn (gN 2 6) (gNl)))))) (b_beside_2 cs) (w1.map tI) [a0, .fz B2, .own (.lst []), .un, .un, .un, .un, .un, .un] = .nx [a0, .fz B2, .own (.lst ((coupA S2 w1).map tI)), j3, j4, j5, j6, j7, j8] := by
  obtain ⟨e', lp, j7, j8, j9, j10, j11, j12, rfl⟩ := forRun_pre tI (fun pre e => ∃ j3 j4 j5 j6 j7 j8 : Sl, e = [a0, .fz B2, .own (.lst ((coupA S2 pre).map tI)), j3, j4, j5, j6, j7, j8]) (g := gTq 4 (gCn (gN 2 3) (gCn (gN 2 4) (gCn (gN 2 5) (gCn (gN 2 6) (gNl)))))) (mb := b_beside_2 cs) (xs := w1)
    (e := [a0, .fz B2, .own (.lst []), .un, .un, .un, .un, .un, .un]) ⟨_, _, _, _, _, _, rfl⟩ (by
      rintro pre w post e hx ⟨j3, j4, j5, j6, j7, j8, rfl⟩
      obtain ⟨s, c, a, t, rfl, _⟩ := hw w (by rw [hx]; simp)
      have hp : pre.length ≤ 432 := by have := congrArg List.length hx; simp at this; omega
      have hcl := coupA_len S2 pre
      have hm : pre.length * S2 ≤ 432 * 6 := Nat.mul_le_mul hp s2
      have i1 : inR (S2 : Int) = true := inR_6 (by omega) (by omega)
      obtain ⟨j', e1⟩ := bes_inA cs (s := s) (c := c) (a := a) (t := t) fs (mulB_6 (by omega) (by omega) s) (mulB_6 (by omega) (by omega) t) a0 j7 j8 (coupA S2 pre) (rgI S2) (by rw [rgI_len]; omega)
      refine ⟨_, [a0, .fz B2, .own (.lst ((coupA S2 (pre ++ [[s, c, a, t]])).map tI)), .fz (.int s), .fz (.int c), .fz (.int a), .fz (.int t), j', j8], rfl, ?_, _, _, _, _, _, _, rfl⟩
      rw [coupA_snoc]
      simp only [b_beside_2, l_beside_1]
      rw [← rangeL_nat] at e1
      generalize ((S2 : Nat) : Int) = m at *
      simp [fs, i1]
      rw [e1]
      simp)
  exact ⟨_, _, _, _, _, _, lp⟩
theorem bes_B {S1 C1 S2 C2 : Nat} (s1 : S1 ≤ 6) (s2 : S2 ≤ 6) {w2 : List (List Int)} (hw : ∀ w ∈ w2, Wy S2 C2 w) (hl : w2.length ≤ 432) {B1 B2 : PV} (fs1 : fFld cs.Book "states" B1 = some (.fz (.int S1))) (fs : fFld cs.Book "states" B2 = some (.fz (.int S2))) (fc : fFld cs.Book "calls" B1 = some (.fz (.int C1))) (acc : List (List Int)) (hacc : acc.length ≤ 10000) (j3 j4 j5 j6 j7 j8 : Sl) :
    ∃ k3 k4 k5 k6 k7 k8 : Sl, forRun (gTq 4 (gCn (gN 2 3) (gCn (gN 2 4) (gCn (gN 2 5) (gCn (gN 2 6) (gNl)))))) (b_beside_4 cs) (w2.map tI) [.fz B1, .fz B2, .own (.lst (acc.map tI)), j3, j4, j5, j6, j7, j8] = .nx [.fz B1, .fz B2, .own (.lst ((acc ++ coupB S1 C1 S2 w2).map tI)), k3, k4, k5, k6, k7, k8] := by
  obtain ⟨e', lp, k3, k4, k5, k6, k7, k8, rfl⟩ := forRun_pre tI (fun pre e => ∃ j3 j4 j5 j6 j7 j8 : Sl, e = [.fz B1, .fz B2, .own (.lst ((acc ++ coupB S1 C1 S2 pre).map tI)), j3, j4, j5, j6, j7, j8]) (g := gTq 4 (gCn (gN 2 3) (gCn (gN 2 4) (gCn (gN 2 5) (gCn (gN 2 6) (gNl)))))) (mb := b_beside_4 cs) (xs := w2)
    (e := [.fz B1, .fz B2, .own (.lst (acc.map tI)), j3, j4, j5, j6, j7, j8]) ⟨_, _, _, _, _, _, by simp [coupB]; exact ⟨rfl, rfl, rfl, rfl, rfl, rfl⟩⟩ (by
      rintro pre w post e hx ⟨j3, j4, j5, j6, j7, j8, rfl⟩
      obtain ⟨s, c, a, t, rfl, _⟩ := hw w (by rw [hx]; simp)
      have hp : pre.length ≤ 432 := by have := congrArg List.length hx; simp at this; omega
      have hcl := coupB_len S1 C1 S2 pre
      have hm : pre.length * S1 ≤ 432 * 6 := Nat.mul_le_mul hp s1
      have i1 : inR (S1 : Int) = true := inR_6 (by omega) (by omega)
      obtain ⟨j', j8', e1⟩ := bes_inB cs (s := s) (c := c) (a := a) (t := t) fs fc (mulB_6 (by omega) (by omega)) j7 j8 (acc ++ coupB S1 C1 S2 pre) (rgI S1) (by rw [rgI_len, List.length_append]; omega)
      refine ⟨_, [.fz B1, .fz B2, .own (.lst ((acc ++ coupB S1 C1 S2 (pre ++ [[s, c, a, t]])).map tI)), .fz (.int s), .fz (.int c), .fz (.int a), .fz (.int t), j', j8'], rfl, ?_, _, _, _, _, _, _, rfl⟩
      rw [coupB_snoc, ← List.append_assoc]
      simp only [b_beside_4, l_beside_3]
      rw [← rangeL_nat] at e1
      generalize acc ++ coupB S1 C1 S2 pre = L at *
      generalize ((S1 : Nat) : Int) = m at *
      generalize ((S2 : Nat) : Int) = m2 at *
      generalize ((C1 : Nat) : Int) = k at *
      simp [fs1, i1]
      rw [e1]
      simp)
  exact ⟨_, _, _, _, _, _, lp⟩
/-- what beside answers -/
def besOut (S1 C1 : Nat) (w1 : List (List Int)) (S2 C2 : Nat) (w2 : List (List Int)) (B1 B2 : PV) : OutF :=
  if 6 < S1 * S2 then .exc cs.TooMany (keptD ["most"] [.int 6]) [.fz B1, .fz B2]
  else if 4 < C1 + C2 then .exc cs.TooMany (keptD ["most"] [.int 4]) [.fz B1, .fz B2]
  else .ret (.own (bk cs (S1 * S2 : Nat) (C1 + C2 : Nat) ((coup S1 C1 w1 S2 w2).mergeSort leL))) [.fz B1, .fz B2]
theorem bes_c1 {B1 B2 : PV} {x1 x2 : Int} (fs1 : fFld cs.Book "states" B1 = some (.fz (.int x1))) (fs2 : fFld cs.Book "states" B2 = some (.fz (.int x2))) (m1 : mulB x1 x2 = true) (z1 : 6 < x1 * x2) :
    mf_beside cs [.fz B1, .fz B2] = .exc cs.TooMany (keptD ["most"] [.int 6]) [.fz B1, .fz B2] := by
  unfold mf_beside
  refine (body_exc (e := [.fz B1, .fz B2, .un, .un, .un, .un, .un, .un, .un]) ?_).trans rfl
  unfold m_beside
  exact sSq_exc (by simp [fs1, fs2, m1, z1])
theorem bes_s1 {B1 B2 : PV} {x1 x2 : Int} (fs1 : fFld cs.Book "states" B1 = some (.fz (.int x1))) (fs2 : fFld cs.Book "states" B2 = some (.fz (.int x2))) (m1 : mulB x1 x2 = true) (z1 : ¬ 6 < x1 * x2) : (sIf (mT (mOp2 fGt (oV (mFz (mOp2 fMul2 (oV (mFz (mOp1 (fFld cs.Book "states") (oN 0)))) (oV (mFz (mOp1 (fFld cs.Book "states") (oN 1))))))) (oV (mFz (mC (.int 6)))))) (sExcA cs.TooMany ["most"] (mCons (mFz (mC (.int 6))) (mNil))) (sNx)) [.fz B1, .fz B2, .un, .un, .un, .un, .un, .un, .un] = .nx [.fz B1, .fz B2, .un, .un, .un, .un, .un, .un, .un] := by
  simp [fs1, fs2, m1, z1]
theorem bes_c2 {B1 B2 : PV} {x1 x2 x3 x4 : Int} (fs1 : fFld cs.Book "states" B1 = some (.fz (.int x1))) (fs2 : fFld cs.Book "states" B2 = some (.fz (.int x2))) (m1 : mulB x1 x2 = true) (z1 : ¬ 6 < x1 * x2) (fc1 : fFld cs.Book "calls" B1 = some (.fz (.int x3))) (fc2 : fFld cs.Book "calls" B2 = some (.fz (.int x4))) (z2 : 4 < x3 + x4) :
    mf_beside cs [.fz B1, .fz B2] = .exc cs.TooMany (keptD ["most"] [.int 4]) [.fz B1, .fz B2] := by
  unfold mf_beside
  refine (body_exc (e := [.fz B1, .fz B2, .un, .un, .un, .un, .un, .un, .un]) ?_).trans rfl
  unfold m_beside
  refine (sSq_nx (bes_s1 cs fs1 fs2 m1 z1)).trans ?_
  exact sSq_exc (by simp [fc1, fc2, z2])
theorem bes_c3 {B1 B2 : PV} {x1 x2 x3 x4 : Int} {W1 W2 : List PV} {A K : List (List Int)} {fs : List (Str × PV)} {j3 j4 j5 j6 j7 j8 k3 k4 k5 k6 k7 k8 : Sl} (fs1 : fFld cs.Book "states" B1 = some (.fz (.int x1))) (fs2 : fFld cs.Book "states" B2 = some (.fz (.int x2))) (m1 : mulB x1 x2 = true) (z1 : ¬ 6 < x1 * x2) (fc1 : fFld cs.Book "calls" B1 = some (.fz (.int x3))) (fc2 : fFld cs.Book "calls" B2 = some (.fz (.int x4))) (z2 : ¬ 4 < x3 + x4)
    (fw1 : fFld cs.Book "ways" B1 = some (.fz (.tup W1))) (fw2 : fFld cs.Book "ways" B2 = some (.fz (.tup W2)))
    (eA : forRun (gTq 4 (gCn (gN 2 3) (gCn (gN 2 4) (gCn (gN 2 5) (gCn (gN 2 6) (gNl)))))) (b_beside_2 cs) W1 [.fz B1, .fz B2, .own (.lst []), .un, .un, .un, .un, .un, .un] = .nx [.fz B1, .fz B2, .own (.lst (A.map tI)), j3, j4, j5, j6, j7, j8])
    (eB : forRun (gTq 4 (gCn (gN 2 3) (gCn (gN 2 4) (gCn (gN 2 5) (gCn (gN 2 6) (gNl)))))) (b_beside_4 cs) W2 [.fz B1, .fz B2, .own (.lst (A.map tI)), j3, j4, j5, j6, j7, j8] = .nx [.fz B1, .fz B2, .own (.lst (K.map tI)), k3, k4, k5, k6, k7, k8])
    (hi : mf_Book___init__ cs [.own (.obj cs.Book []), .fz (.int (x1 * x2)), .fz (.int (x3 + x4)), .fz (.lst (K.map tI))] = .ret (.fz .non) [.own (.obj cs.Book fs), .fz (.int (x1 * x2)), .fz (.int (x3 + x4)), .fz (.lst (K.map tI))]) :
    mf_beside cs [.fz B1, .fz B2] = .ret (.own (.obj cs.Book fs)) [.fz B1, .fz B2] := by
  unfold mf_beside
  refine (body_ret (e := [.fz B1, .fz B2, .fz (.lst (K.map tI)), k3, k4, k5, k6, k7, k8]) ?_).trans rfl
  unfold m_beside
  refine (sSq_nx (bes_s1 cs fs1 fs2 m1 z1)).trans ?_
  refine (sSq_nx (e1 := [.fz B1, .fz B2, .un, .un, .un, .un, .un, .un, .un]) (by simp [fc1, fc2, z2])).trans ?_
  refine (sSq_nx (e1 := [.fz B1, .fz B2, .own (.lst []), .un, .un, .un, .un, .un, .un]) (by simp)).trans ?_
  refine (sSq_nx (e1 := [.fz B1, .fz B2, .own (.lst (A.map tI)), j3, j4, j5, j6, j7, j8]) (by simp [l_beside_2, fw1]; exact eA)).trans ?_
  refine (sSq_nx (e1 := [.fz B1, .fz B2, .own (.lst (K.map tI)), k3, k4, k5, k6, k7, k8]) (by simp [l_beside_4, fw2]; exact eB)).trans ?_
  simp [fs1, fs2, fc1, fc2, m1, hi]
theorem beside_ok {S1 C1 S2 C2 : Nat} {w1 w2 : List (List Int)} (h1 : Bks S1 C1 w1) (h2 : Bks S2 C2 w2) :
    mf_beside cs [.fz (bk cs S1 C1 w1), .fz (bk cs S2 C2 w2)] = besOut cs S1 C1 w1 S2 C2 w2 (bk cs S1 C1 w1) (bk cs S2 C2 w2) := by
  have a1 := h1.s2
  have a2 := h2.s2
  have l1 := h1.len
  have l2 := h2.len
  have fs1 := fld_states cs S1 C1 w1
  have fc1 := fld_calls cs S1 C1 w1
  have fw1 := fld_ways cs S1 C1 w1
  have fs2 := fld_states cs S2 C2 w2
  have fc2 := fld_calls cs S2 C2 w2
  have fw2 := fld_ways cs S2 C2 w2
  generalize bk cs S1 C1 w1 = B1 at *
  generalize bk cs S2 C2 w2 = B2 at *
  obtain ⟨j3, j4, j5, j6, j7, j8, eA⟩ := bes_A cs a2 h1.way l1 fs2 (.fz B1)
  have hm : w1.length * S2 ≤ 432 * 6 := Nat.mul_le_mul l1 a2
  have hcl := coupA_len S2 w1
  obtain ⟨k3, k4, k5, k6, k7, k8, eB⟩ := bes_B cs a1 a2 h2.way l2 fs1 fs2 fc1 (coupA S2 w1) (by omega) j3 j4 j5 j6 j7 j8
  have hco : coupA S2 w1 ++ coupB S1 C1 S2 w2 = coup S1 C1 w1 S2 w2 := rfl
  rw [hco] at eB
  have m1 : mulB (S1 : Int) (S2 : Int) = true := mulB_6 (by omega) (by omega) _
  unfold besOut
  by_cases z1 : 6 < S1 * S2
  · rw [if_pos z1]
    exact bes_c1 cs fs1 fs2 m1 (by rw [← Int.natCast_mul]; omega)
  · rw [if_neg z1]
    have z1' : ¬ (6 : Int) < (S1 : Int) * S2 := by rw [← Int.natCast_mul]; omega
    by_cases z2 : 4 < C1 + C2
    · rw [if_pos z2]
      exact bes_c2 cs fs1 fs2 m1 z1' fc1 fc2 (by omega)
    · rw [if_neg z2]
      have hi := init_ok cs (coup_book h1 h2 (by omega) (by omega))
      have e1 : ((S1 * S2 : Nat) : Int) = (S1 : Int) * S2 := Int.natCast_mul ..
      have e2 : ((C1 + C2 : Nat) : Int) = (C1 : Int) + C2 := Int.natCast_add ..
      rw [e1, e2] at hi ⊢
      exact bes_c3 cs fs1 fs2 m1 z1' fc1 fc2 (by omega) fw1 fw2 eA eB hi
end
end K02

set_option linter.all false
set_option maxRecDepth 100000
set_option maxHeartbeats 4000000
set_option pp.maxSteps 900
/-! Q15: standings, parted histories, the law's looks at beside. -/
namespace VS
open PySem L2
theorem fNe_kI0 (a : List Int) : fNe (.ktp (a.map .int)) (.tup []) = some (.fz (.bl (!decide (a = [])))) := by
  have := eqv_tI a []
  have e : PyData.eqv (PV.ktp (a.map .int)).toD (PV.tup []).toD = decide (a = []) := this
  have o : okD (.tup []) = true := okD_tupI []
  simp [fNe, e, o]
end VS
namespace K02
open PySem L2 VS
section
variable (cs : Cs)
def StV (v : PV) (st : List Int) : Prop := v = .ktp (st.map .int) ∨ v = .tup (st.map .int)
theorem StV.fin {v : PV} {st : List Int} (h : StV v st) (x : Int) : fIn (.int x) v = some (.fz (.bl (decide (x ∈ st)))) := by
  rcases h with rfl | rfl
  · exact fIn_intsK x st
  · exact fIn_ints x st
theorem StV.ne {v : PV} {st : List Int} (h : StV v st) : fNe v (.tup []) = some (.fz (.bl (!decide (st = [])))) := by
  rcases h with rfl | rfl
  · exact fNe_kI0 st
  · exact fNe_tI0 st
theorem step_from_ok {S C : Int} {ws : List (List Int)} {B : PV} (fw : fFld cs.Book "ways" B = some (.fz (.tup (ws.map tI)))) (hw : ∀ w ∈ ws, Wy S C w) (hS : S ≤ 6) (hl : ws.length ≤ 1000) {v : PV} {st : List Int} (hv : StV v st) (c a : Int) :
    mf_step_from cs [.fz B, .fz v, .fz (.int c), .fz (.int a)] = .ret (.fz (.tup ((stp ws st c a).map .int))) [.fz B, .fz v, .fz (.int c), .fz (.int a)] := by
  have fi := hv.fin
  have z := compRun_fm (vs := [4, 5, 6, 7]) (g := gTq 4 (gCn (gN 4 4) (gCn (gN 4 5) (gCn (gN 4 6) (gCn (gN 4 7) (gNl)))))) (mt := (mAnd (mT (mOp2 fEq (oN 5) (oN 2))) (mAnd (mT (mOp2 fEq (oN 6) (oN 3))) (mT (mOp2 fIn (oN 4) (oN 1)))))) (me := mFz (mN 4 7)) (e := [.fz B, .fz v, .fz (.int c), .fz (.int a), .un, .un, .un, .un]) tI (hitB st c a) (fun w => .int (w.getD 3 0)) ws (by
    intro w hw'
    obtain ⟨s, c', a', t, rfl, _⟩ := hw w hw'
    have q := fi s
    refine ⟨[.fz B, .fz v, .fz (.int c), .fz (.int a), .fz (.int s), .fz (.int c'), .fz (.int a'), .fz (.int t)], [.fz B, .fz v, .fz (.int c), .fz (.int a), .fz (.int s), .fz (.int c'), .fz (.int a'), .fz (.int t)], rfl, ?_, fun _ => rfl, fun _ => ⟨[.fz B, .fz v, .fz (.int c), .fz (.int a), .fz (.int s), .fz (.int c'), .fz (.int a'), .fz (.int t)], rfl, rfl⟩⟩
    by_cases h1 : c' = c
    · by_cases h2 : a' = a
      · simp [hitB, h1, h2, q]
      · simp [hitB, h1, h2]
    · simp [hitB, h1]) (by omega)
  have hs : fSetI ((ws.filter (hitB st c a)).map fun w => PV.int (w.getD 3 0)) = some (.own (.lst ((stp ws st c a).map .int))) := by
    have e : ((ws.filter (hitB st c a)).map fun w => PV.int (w.getD 3 0)) = (endsL ws st c a).map .int := by unfold endsL; rw [List.map_map]; rfl
    rw [e]
    refine fSetI_ok ?_
    have := nub_few (ns := endsL ws st c a) (hi := 6) (fun k hk => by
      obtain ⟨s, _, hw'⟩ := (mem_ends hw).1 hk
      obtain ⟨_, _, _, _, e, _, _, _, z⟩ := hw _ hw'
      cases e
      exact ⟨z.1, by omega⟩)
    omega
  generalize ((ws.filter (hitB st c a)).map fun w => PV.int (w.getD 3 0)) = LL at z hs
  unfold mf_step_from
  refine (body_ret (e := [.fz B, .fz v, .fz (.int c), .fz (.int a), .un, .un, .un, .un]) ?_).trans rfl
  unfold m_step_from k_step_from_1
  simp [fw, wipeE]
  rw [z]
  simp [hs]
theorem walk_snoc (ws : List (List Int)) (st : List Int) (pre : List (List Int)) (x : List Int) : walk ws st (pre ++ [x]) = stp ws (walk ws st pre) (x.getD 1 0) (x.getD 2 0) := by
  unfold walk; rw [List.foldl_append]; rfl
theorem standing_ok {S C : Nat} {ws : List (List Int)} (hB : Bks S C ws) {d : PV} (hd : Odd d) {rows : List (List Int)} (hc : chk C d = .inr rows) :
    ∃ v, StV v (walk ws [0] rows) ∧ mf_standing_of cs [.fz (bk cs S C ws), .fz d] = .ret (.fz v) [.fz (bk cs S C ws), .fz d] := by
  have ck := check_history_ok cs S C ws hd
  rw [hc] at ck
  have ck' : mf_check_history cs [.fz (bk cs S C ws), .fz d] = .ret (.fz (.tup (rows.map tI))) [.fz (bk cs S C ws), .fz d] := ck
  have fw := fld_ways cs S C ws
  have hr := (chk_ents hd hc).1
  have hl := hB.len
  have hS : (S : Int) ≤ 6 := by have := hB.s2; omega
  generalize bk cs S C ws = B at *
  obtain ⟨e', lp, v, j, hv, rfl⟩ := forRun_pre tI (fun pre e => ∃ (v : PV) (j : Sl), StV v (walk ws [0] pre) ∧ e = [.fz B, .fz d, .fz v, j]) (g := gN 2 3) (mb := b_standing_of_1 cs) (xs := rows) (e := [.fz B, .fz d, .fz (.ktp [.int 0]), .un]) ⟨_, .un, .inl rfl, rfl⟩ (by
    rintro pre x post e hx ⟨v, j, hv, rfl⟩
    obtain ⟨h, c, a, rfl, _⟩ := hr x (by rw [hx]; simp)
    have e1 := step_from_ok cs fw hB.way hS (by omega) hv c a
    refine ⟨_, [.fz B, .fz d, .fz (.tup ((walk ws [0] (pre ++ [[h, c, a]])).map .int)), .fz (tI [h, c, a])], rfl, ?_, _, _, .inr rfl, rfl⟩
    rw [walk_snoc]
    simp [b_standing_of_1, tI, e1])
  refine ⟨v, hv, ?_⟩
  unfold mf_standing_of
  refine (body_ret (e := [.fz B, .fz d, .fz v, j]) ?_).trans rfl
  unfold m_standing_of
  refine (sSq_nx (e1 := [.fz B, .fz d, .fz (.ktp [.int 0]), .un]) (by simp)).trans ?_
  refine (sSq_nx (e1 := [.fz B, .fz d, .fz v, j]) (by simp [l_standing_of_1, ck', lp])).trans ?_
  simp
theorem is_right_ok {S C : Nat} {ws : List (List Int)} (hB : Bks S C ws) {d : PV} (hd : Odd d) {rows : List (List Int)} (hc : chk C d = .inr rows) :
    mf_is_right cs [.fz (bk cs S C ws), .fz d] = .ret (.fz (.bl (!decide (walk ws [0] rows = [])))) [.fz (bk cs S C ws), .fz d] := by
  obtain ⟨v, hv, e⟩ := standing_ok cs hB hd hc
  have n := hv.ne
  generalize bk cs S C ws = B at *
  simp [mf_is_right, bodyRun, m_is_right, e, n]
def aheadL (C1 : Int) (rows : List (List Int)) : List (List Int) := rows.filter fun x => decide (x.getD 1 0 < C1)
def behindL (C1 : Int) (rows : List (List Int)) : List (List Int) := (rows.filter fun x => decide (C1 ≤ x.getD 1 0)).map fun x => [x.getD 0 0, x.getD 1 0 - C1, x.getD 2 0]
theorem ahead_snoc (C1 : Int) (pre : List (List Int)) (x : List Int) : aheadL C1 (pre ++ [x]) = if x.getD 1 0 < C1 then aheadL C1 pre ++ [x] else aheadL C1 pre := by
  unfold aheadL
  rw [List.filter_append]
  by_cases h : x.getD 1 0 < C1
  · rw [if_pos h, List.filter_cons_of_pos (by simpa using h)]; rfl
  · rw [if_neg h, List.filter_cons_of_neg (by simpa using h)]; simp
theorem behind_snoc (C1 : Int) (pre : List (List Int)) (x : List Int) : behindL C1 (pre ++ [x]) = if x.getD 1 0 < C1 then behindL C1 pre else behindL C1 pre ++ [[x.getD 0 0, x.getD 1 0 - C1, x.getD 2 0]] := by
  unfold behindL
  rw [List.filter_append, List.map_append]
  by_cases h : x.getD 1 0 < C1
  · rw [if_pos h, List.filter_cons_of_neg (by simpa using h)]; simp
  · rw [if_neg h, List.filter_cons_of_pos (by simpa using h)]; rfl
theorem parted_loop {B1 B2 d : PV} {k : Int} (fc : fFld cs.Book "calls" B1 = some (.fz (.int k))) {C : Int} {rows : List (List Int)} (hr : ∀ x ∈ rows, Ent C x) (hl : rows.length ≤ 1000) (E : PV) :
    ∃ j6 j7 j8, forRun (gTq 3 (gCn (gN 3 6) (gCn (gN 3 7) (gCn (gN 3 8) (gNl))))) (b_parted_history_1 cs) (rows.map tI) [.fz B1, .fz B2, .fz d, .fz E, .own (.lst []), .own (.lst []), .un, .un, .un] = .nx [.fz B1, .fz B2, .fz d, .fz E, .own (.lst ((aheadL k rows).map tI)), .own (.lst ((behindL k rows).map tI)), j6, j7, j8] := by
  obtain ⟨e', lp, j6, j7, j8, rfl⟩ := forRun_pre tI (fun pre e => ∃ j6 j7 j8, e = [.fz B1, .fz B2, .fz d, .fz E, .own (.lst ((aheadL k pre).map tI)), .own (.lst ((behindL k pre).map tI)), j6, j7, j8]) (g := gTq 3 (gCn (gN 3 6) (gCn (gN 3 7) (gCn (gN 3 8) (gNl))))) (mb := b_parted_history_1 cs) (xs := rows)
    (e := [.fz B1, .fz B2, .fz d, .fz E, .own (.lst []), .own (.lst []), .un, .un, .un]) ⟨_, _, _, rfl⟩ (by
      rintro pre x post e hx ⟨j6, j7, j8, rfl⟩
      obtain ⟨h, c, a, rfl, _⟩ := hr x (by rw [hx]; simp)
      have hp : pre.length ≤ 1000 := by have := congrArg List.length hx; simp at this; omega
      have l1 : (aheadL k pre).length < 16777216 := by
        have : (aheadL k pre).length ≤ pre.length := List.length_filter_le _ _
        omega
      have l2 : (behindL k pre).length < 16777216 := by
        have : (behindL k pre).length ≤ pre.length := by unfold behindL; rw [List.length_map]; exact List.length_filter_le _ _
        omega
      refine ⟨_, [.fz B1, .fz B2, .fz d, .fz E, .own (.lst ((aheadL k (pre ++ [[h, c, a]])).map tI)), .own (.lst ((behindL k (pre ++ [[h, c, a]])).map tI)), .fz (.int h), .fz (.int c), .fz (.int a)], rfl, ?_, _, _, _, rfl⟩
      rw [ahead_snoc, behind_snoc]
      generalize aheadL k pre = X at *
      generalize behindL k pre = Y at *
      by_cases z : c < k
      · simp [b_parted_history_1, fc, z, l1, tup3]
      · simp [b_parted_history_1, fc, z, l2, tup3])
  exact ⟨j6, j7, j8, lp⟩
def partV (k : Int) (rows : List (List Int)) : PV := .tup [.tup ((aheadL k rows).map tI), .tup ((behindL k rows).map tI)]
theorem parted_exc {B1 B2 d : PV} {C : Addr} {xs : List (Str × PV)} (h : mf_beside cs [.fz B1, .fz B2] = .exc C xs [.fz B1, .fz B2]) : mf_parted_history cs [.fz B1, .fz B2, .fz d] = .exc C xs [.fz B1, .fz B2, .fz d] := by
  unfold mf_parted_history
  refine (body_exc (e := [.fz B1, .fz B2, .fz d, .un, .un, .un, .un, .un, .un]) ?_).trans rfl
  unfold m_parted_history
  exact sSq_exc (by simp [h])
theorem parted_bad {B1 B2 d B : PV} {C : Addr} {xs : List (Str × PV)} (h : mf_beside cs [.fz B1, .fz B2] = .ret (.own B) [.fz B1, .fz B2]) (h2 : mf_check_history cs [.fz B, .fz d] = .exc C xs [.fz B, .fz d]) : mf_parted_history cs [.fz B1, .fz B2, .fz d] = .exc C xs [.fz B1, .fz B2, .fz d] := by
  unfold mf_parted_history
  refine (body_exc (e := [.fz B1, .fz B2, .fz d, .un, .un, .un, .un, .un, .un]) ?_).trans rfl
  unfold m_parted_history
  exact sSq_exc (by simp [h, h2])
theorem parted_good {B1 B2 d B : PV} {k : Int} (fc : fFld cs.Book "calls" B1 = some (.fz (.int k))) {C : Int} {rows : List (List Int)} (hr : ∀ x ∈ rows, Ent C x) (hl : rows.length ≤ 1000) (h : mf_beside cs [.fz B1, .fz B2] = .ret (.own B) [.fz B1, .fz B2]) (h2 : mf_check_history cs [.fz B, .fz d] = .ret (.fz (.tup (rows.map tI))) [.fz B, .fz d]) :
    mf_parted_history cs [.fz B1, .fz B2, .fz d] = .ret (.fz (partV k rows)) [.fz B1, .fz B2, .fz d] := by
  obtain ⟨j6, j7, j8, lp⟩ := parted_loop cs (B2 := B2) (d := d) fc hr hl (.tup (rows.map tI))
  unfold partV
  generalize (aheadL k rows).map tI = X at *
  generalize (behindL k rows).map tI = Y at *
  unfold mf_parted_history
  refine (body_ret (e := [.fz B1, .fz B2, .fz d, .fz (.tup (rows.map tI)), .own (.lst X), .own (.lst Y), j6, j7, j8]) ?_).trans rfl
  unfold m_parted_history
  refine (sSq_nx (e1 := [.fz B1, .fz B2, .fz d, .fz (.tup (rows.map tI)), .un, .un, .un, .un, .un]) (by simp [h, h2])).trans ?_
  refine (sSq_nx (e1 := [.fz B1, .fz B2, .fz d, .fz (.tup (rows.map tI)), .own (.lst []), .un, .un, .un, .un]) (by simp)).trans ?_
  refine (sSq_nx (e1 := [.fz B1, .fz B2, .fz d, .fz (.tup (rows.map tI)), .own (.lst []), .own (.lst []), .un, .un, .un]) (by simp)).trans ?_
  refine (sSq_nx (e1 := [.fz B1, .fz B2, .fz d, .fz (.tup (rows.map tI)), .own (.lst X), .own (.lst Y), j6, j7, j8]) (by simp [l_parted_history_1]; exact lp)).trans ?_
  simp
def besV (S1 C1 : Nat) (w1 : List (List Int)) (S2 C2 : Nat) (w2 : List (List Int)) : PV :=
  if 6 < S1 * S2 then .int 6 else if 4 < C1 + C2 then .int 4 else bkT (S1 * S2) (C1 + C2) ((coup S1 C1 w1 S2 w2).mergeSort leL)
theorem law_beside_x {B1 B2 : PV} {k : Int} (h : mf_beside cs [.fz B1, .fz B2] = .exc cs.TooMany (keptD ["most"] [.int k]) [.fz B1, .fz B2]) : mf_law_beside cs [.fz B1, .fz B2] = .ret (.fz (.int k)) [.fz B1, .fz B2] := by
  have hx := cs.e_TooMany_TooMany
  simp [mf_law_beside, bodyRun, m_law_beside, h, hx, xF, keptD, List.lookup]
theorem law_beside_r {B1 B2 : PV} {fs : List (Str × PV)} {s c : Int} {W : List PV} (h : mf_beside cs [.fz B1, .fz B2] = .ret (.own (.obj cs.Book fs)) [.fz B1, .fz B2]) (f1 : fFld cs.Book "states" (.obj cs.Book fs) = some (.fz (.int s))) (f2 : fFld cs.Book "calls" (.obj cs.Book fs) = some (.fz (.int c))) (f3 : fFld cs.Book "ways" (.obj cs.Book fs) = some (.fz (.tup W))) :
    mf_law_beside cs [.fz B1, .fz B2] = .ret (.fz (.tup [.int s, .int c, .tup W])) [.fz B1, .fz B2] := by
  simp [mf_law_beside, bodyRun, m_law_beside, h, f1, f2, f3]
theorem law_beside_ok {S1 C1 S2 C2 : Nat} {w1 w2 : List (List Int)} (h1 : Bks S1 C1 w1) (h2 : Bks S2 C2 w2) :
    mf_law_beside cs [.fz (bk cs S1 C1 w1), .fz (bk cs S2 C2 w2)] = .ret (.fz (besV S1 C1 w1 S2 C2 w2)) [.fz (bk cs S1 C1 w1), .fz (bk cs S2 C2 w2)] := by
  have e := beside_ok cs h1 h2
  unfold besOut at e
  unfold besV
  by_cases z1 : 6 < S1 * S2
  · rw [if_pos z1] at e ⊢
    exact law_beside_x cs e
  · rw [if_neg z1] at e ⊢
    by_cases z2 : 4 < C1 + C2
    · rw [if_pos z2] at e ⊢
      exact law_beside_x cs e
    · rw [if_neg z2] at e ⊢
      exact law_beside_r cs e (fld_states ..) (fld_calls ..) (fld_ways ..)
theorem due_core {x1 x2 x3 x4 : Int} {W1 W2 : List PV} (m1 : mulB x1 x2 = true) (r : PV)
    (h : (6 < x1 * x2 ∧ r = .int 6) ∨ (¬ 6 < x1 * x2 ∧ 4 < x3 + x4 ∧ r = .int 4) ∨ (¬ 6 < x1 * x2 ∧ ¬ 4 < x3 + x4 ∧ ∃ K, r = .tup [.int (x1 * x2), .int (x3 + x4), K] ∧ mf_law_couple_ways cs [.fz (.int x1), .fz (.int x3), .fz (.tup W1), .fz (.int x2), .fz (.int x4), .fz (.tup W2)] = .ret (.fz K) [.fz (.int x1), .fz (.int x3), .fz (.tup W1), .fz (.int x2), .fz (.int x4), .fz (.tup W2)])) :
    mf_law_beside_due cs [.fz (.tup [.int x1, .int x3, .tup W1]), .fz (.tup [.int x2, .int x4, .tup W2])] = .ret (.fz r) [.fz (.tup [.int x1, .int x3, .tup W1]), .fz (.tup [.int x2, .int x4, .tup W2])] := by
  rcases h with ⟨z1, rfl⟩ | ⟨z1, z2, rfl⟩ | ⟨z1, z2, K, rfl, h⟩
  · simp [mf_law_beside_due, bodyRun, m_law_beside_due, m1, z1]
  · simp [mf_law_beside_due, bodyRun, m_law_beside_due, m1, z1, z2]
  · simp [mf_law_beside_due, bodyRun, m_law_beside_due, m1, z1, z2, h]
theorem law_due_ok {S1 C1 S2 C2 : Nat} {w1 w2 : List (List Int)} (h1 : Bks S1 C1 w1) (h2 : Bks S2 C2 w2) :
    mf_law_beside_due cs [.fz (bkT S1 C1 w1), .fz (bkT S2 C2 w2)] = .ret (.fz (besV S1 C1 w1 S2 C2 w2)) [.fz (bkT S1 C1 w1), .fz (bkT S2 C2 w2)] := by
  have a1 := h1.s2
  have a2 := h2.s2
  refine due_core cs (mulB_6 (by omega) (by omega) _) _ ?_
  unfold besV
  by_cases z1 : 6 < S1 * S2
  · rw [if_pos z1]
    exact .inl ⟨by rw [← Int.natCast_mul]; omega, rfl⟩
  · rw [if_neg z1]
    have z1' : ¬ (6 : Int) < (S1 : Int) * S2 := by rw [← Int.natCast_mul]; omega
    by_cases z2 : 4 < C1 + C2
    · rw [if_pos z2]
      exact .inr (.inl ⟨z1', by omega, rfl⟩)
    · rw [if_neg z2]
      refine .inr (.inr ⟨z1', by omega, _, ?_, couple_ok cs h1 h2 (by omega) (by omega)⟩)
      unfold bkT
      rw [Int.natCast_mul, Int.natCast_add]
def manyV (k : Int) : PV := .lst [.str "many", .int k]
theorem refused_many {B1 B2 d : PV} {k : Int} (h : mf_beside cs [.fz B1, .fz B2] = .exc cs.TooMany (keptD ["most"] [.int k]) [.fz B1, .fz B2]) : mf_law_beside_refused cs [.fz B1, .fz B2, .fz d] = .ret (.own (manyV k)) [.fz B1, .fz B2, .fz d] := by
  have e := parted_exc cs (d := d) h
  have hx := cs.e_TooMany_TooMany
  simp [mf_law_beside_refused, bodyRun, m_law_beside_refused, e, hx, xF, xCons, xNil, keptD, List.lookup, manyV]
theorem refused_bad {B1 B2 d : PV} {k : Int} (e : mf_parted_history cs [.fz B1, .fz B2, .fz d] = .exc cs.BadHistory (keptD ["index"] [.int k]) [.fz B1, .fz B2, .fz d]) : mf_law_beside_refused cs [.fz B1, .fz B2, .fz d] = .ret (.own (badV k)) [.fz B1, .fz B2, .fz d] := by
  have hx := cs.e_BadHistory_TooMany
  have hy := cs.e_BadHistory_BadHistory
  simp [mf_law_beside_refused, bodyRun, m_law_beside_refused, e, hx, hy, xF, xCons, xNil, keptD, List.lookup, badV]
theorem refused_let {B1 B2 d v : PV} (e : mf_parted_history cs [.fz B1, .fz B2, .fz d] = .ret (.fz v) [.fz B1, .fz B2, .fz d]) : mf_law_beside_refused cs [.fz B1, .fz B2, .fz d] = .ret (.fz (.str "let")) [.fz B1, .fz B2, .fz d] := by
  simp [mf_law_beside_refused, bodyRun, m_law_beside_refused, e]
end
end K02

set_option linter.all false
set_option maxRecDepth 100000
set_option maxHeartbeats 4000000
set_option pp.maxSteps 900
/-! Q16: the parting. -/
namespace K02
open PySem L2 VS
section
variable (cs : Cs)
theorem bk_obj (S C : Int) (ws : List (List Int)) : ∃ fs, bk cs S C ws = .obj cs.Book fs := ⟨_, rfl⟩
theorem odd_lT {C : Int} {rows : List (List Int)} (h : ∀ x ∈ rows, Ent C x) : Odd (.lst (rows.map tI)) := .lst fun x hx => by
  obtain ⟨r, hr, rfl⟩ := List.mem_map.1 hx
  exact odd_row (h r hr)
theorem odd_tT {C : Int} {rows : List (List Int)} (h : ∀ x ∈ rows, Ent C x) : Odd (.tup (rows.map tI)) := .tup fun x hx => by
  obtain ⟨r, hr, rfl⟩ := List.mem_map.1 hx
  exact odd_row (h r hr)
theorem odd_lL {C : Int} {rows : List (List Int)} (h : ∀ x ∈ rows, Ent C x) : Odd (.lst (rows.map lI)) := .lst fun x hx => by
  obtain ⟨r, hr, rfl⟩ := List.mem_map.1 hx
  exact .lst fun d hd => by
    obtain ⟨x, _, rfl⟩ := List.mem_map.1 hd
    exact .int x
theorem ent_ahead {C1 C : Int} {rows : List (List Int)} (h : ∀ x ∈ rows, Ent C x) : ∀ x ∈ aheadL C1 rows, Ent C1 x := fun x hx => by
  obtain ⟨h1, h2⟩ := List.mem_filter.1 hx
  obtain ⟨a, b, c, rfl, g1, g2, g3⟩ := h x h1
  exact ⟨a, b, c, rfl, g1, ⟨g2.1, by simpa using h2⟩, g3⟩
theorem ent_behind {C1 C2 : Int} {rows : List (List Int)} (h : ∀ x ∈ rows, Ent (C1 + C2) x) : ∀ x ∈ behindL C1 rows, Ent C2 x := fun x hx => by
  obtain ⟨y, hy, rfl⟩ := List.mem_map.1 hx
  obtain ⟨h1, h2⟩ := List.mem_filter.1 hy
  obtain ⟨a, b, c, rfl, g1, g2, g3⟩ := h y h1
  have h2 : C1 ≤ b := by simpa using h2
  exact ⟨a, b - C1, c, rfl, g1, ⟨by omega, by omega⟩, g3⟩
theorem ahead_len (C1 : Int) (rows : List (List Int)) : (aheadL C1 rows).length ≤ rows.length := List.length_filter_le _ _
theorem behind_len (C1 : Int) (rows : List (List Int)) : (behindL C1 rows).length ≤ rows.length := by unfold behindL; rw [List.length_map]; exact List.length_filter_le _ _
theorem dx_part {C1 C2 : Int} {rows : List (List Int)} (h : ∀ x ∈ rows, Ent (C1 + C2) x) (hl : rows.length ≤ 1000) : DX 6 (partV C1 rows) := by
  refine ⟨by simp, fun d hd => ?_⟩
  simp only [List.mem_cons, List.not_mem_nil, or_false] at hd
  have a1 := ahead_len C1 rows
  have a2 := behind_len C1 rows
  rcases hd with rfl | rfl
  · exact DX.rows (n := 2) (fun r hr => by obtain ⟨a, b, c, rfl, _⟩ := ent_ahead h r hr; simp) (by omega)
  · exact DX.rows (n := 2) (fun r hr => by obtain ⟨a, b, c, rfl, _⟩ := ent_behind h r hr; simp) (by omega)
variable {a0 b1 b2 a3 a4 a5 a6 a8 a9 a10 a11 a12 a13 : Sl}
theorem pt_1 {F : PV} {k : Int} (f1 : fIx F (.int 1) = some (.fz (.int k))) {C : Int} {rows : List (List Int)} (hr : ∀ x ∈ rows, Ent C x) (hl : rows.length ≤ 1000) :
    k_law_parting_1 cs [a0, b1, b2, .fz F, a4, a5, a6, .own (.lst (rows.map tI)), .un, .un, .un, .un, .un, .un, .un] = .ok (.own (.lst ((aheadL k rows).map tI))) [a0, b1, b2, .fz F, a4, a5, a6, .fz (.lst (rows.map tI)), .un, .un, .un, .un, .un, .un, .un] := by
  have z := compRun_fm (vs := [14]) (g := gN 6 14) (mt := (mT (mOp2 fLt (oV (mFz (mOp2 fIx (oN 14) (oV (mFz (mC (.int 1))))))) (oV (mFz (mOp2 fIx (oN 3) (oV (mFz (mC (.int 1)))))))))) (me := mFz (mN 6 14)) (e := [a0, b1, b2, .fz F, a4, a5, a6, .fz (.lst (rows.map tI)), .un, .un, .un, .un, .un, .un, .un]) tI (fun x => decide (x.getD 1 0 < k)) tI rows (by
    intro x hx
    obtain ⟨a, b, c, rfl, _⟩ := hr x hx
    refine ⟨[a0, b1, b2, .fz F, a4, a5, a6, .fz (.lst (rows.map tI)), .un, .un, .un, .un, .un, .un, .fz (tI [a, b, c])], [a0, b1, b2, .fz F, a4, a5, a6, .fz (.lst (rows.map tI)), .un, .un, .un, .un, .un, .un, .fz (tI [a, b, c])], rfl, ?_, fun _ => rfl, fun _ => ⟨_, rfl, rfl⟩⟩
    simp [tI, f1]) (by omega)
  unfold k_law_parting_1
  simp [wipeE]
  exact z
theorem pt_2 {F : PV} {k : Int} (f1 : fIx F (.int 1) = some (.fz (.int k))) {C : Int} {rows : List (List Int)} (hr : ∀ x ∈ rows, Ent C x) (hl : rows.length ≤ 1000) :
    k_law_parting_2 cs [a0, b1, b2, .fz F, a4, a5, a6, .fz (.lst (rows.map tI)), a8, .un, .un, .un, .un, .un, .un] = .ok (.own (.lst ((behindL k rows).map tI))) [a0, b1, b2, .fz F, a4, a5, a6, .fz (.lst (rows.map tI)), a8, .un, .un, .un, .un, .un, .un] := by
  have z := compRun_fm (vs := [14]) (g := gN 6 14) (mt := (mT (mOp2 fGe (oV (mFz (mOp2 fIx (oN 14) (oV (mFz (mC (.int 1))))))) (oV (mFz (mOp2 fIx (oN 3) (oV (mFz (mC (.int 1)))))))))) (me := (mFz (mTup (mCons (mFz (mOp2 fIx (oN 14) (oV (mFz (mC (.int 0)))))) (mCons (mFz (mOp2 fSub (oV (mFz (mOp2 fIx (oN 14) (oV (mFz (mC (.int 1))))))) (oV (mFz (mOp2 fIx (oN 3) (oV (mFz (mC (.int 1))))))))) (mCons (mFz (mOp2 fIx (oN 14) (oV (mFz (mC (.int 2)))))) (mNil))))))) (e := [a0, b1, b2, .fz F, a4, a5, a6, .fz (.lst (rows.map tI)), a8, .un, .un, .un, .un, .un, .un]) tI (fun x => decide (k ≤ x.getD 1 0)) (fun x => tI [x.getD 0 0, x.getD 1 0 - k, x.getD 2 0]) rows (by
    intro x hx
    obtain ⟨a, b, c, rfl, _⟩ := hr x hx
    refine ⟨[a0, b1, b2, .fz F, a4, a5, a6, .fz (.lst (rows.map tI)), a8, .un, .un, .un, .un, .un, .fz (tI [a, b, c])], [a0, b1, b2, .fz F, a4, a5, a6, .fz (.lst (rows.map tI)), a8, .un, .un, .un, .un, .un, .fz (tI [a, b, c])], rfl, ?_, fun _ => rfl, fun _ => ⟨[a0, b1, b2, .fz F, a4, a5, a6, .fz (.lst (rows.map tI)), a8, .un, .un, .un, .un, .un, .fz (tI [a, b, c])], ?_, rfl⟩⟩
    · simp [tI, f1]
    · simp [tI, f1]) (by omega)
  have e : ((behindL k rows).map tI) = (rows.filter fun x => decide (k ≤ x.getD 1 0)).map fun x => tI [x.getD 0 0, x.getD 1 0 - k, x.getD 2 0] := by
    unfold behindL; rw [List.map_map]; rfl
  rw [e]
  unfold k_law_parting_2
  simp only [mComp_ap, iS_ap, mFz_ap, wipeE] at *
  exact z
theorem pt_3 {rows : List (List Int)} (hl : rows.length ≤ 1000) :
    k_law_parting_3 cs [a0, b1, b2, a3, a4, a5, a6, .fz (.lst (rows.map tI)), a8, a9, .un, .un, .un, .un, .un] = .ok (.own (.lst (rows.map lI))) [a0, b1, b2, a3, a4, a5, a6, .fz (.lst (rows.map tI)), a8, a9, .un, .un, .un, .un, .un] := by
  have z := compRun_fm (vs := [14]) (g := gN 6 14) (mt := mR true) (me := mFz (mOp1 fList (oN 14))) (e := [a0, b1, b2, a3, a4, a5, a6, .fz (.lst (rows.map tI)), a8, a9, .un, .un, .un, .un, .un]) tI (fun _ => true) lI rows (by
    intro x hx
    refine ⟨[a0, b1, b2, a3, a4, a5, a6, .fz (.lst (rows.map tI)), a8, a9, .un, .un, .un, .un, .fz (tI x)], [a0, b1, b2, a3, a4, a5, a6, .fz (.lst (rows.map tI)), a8, a9, .un, .un, .un, .un, .fz (tI x)], rfl, rfl, nofun, fun _ => ⟨[a0, b1, b2, a3, a4, a5, a6, .fz (.lst (rows.map tI)), a8, a9, .un, .un, .un, .un, .fz (tI x)], ?_, rfl⟩⟩
    simp [tI, lI]) (by omega)
  rw [List.filter_eq_self.2 (fun _ _ => rfl)] at z
  unfold k_law_parting_3
  simp [wipeE]
  exact z
theorem pt_4 {C : Int} {rows : List (List Int)} (hr : ∀ x ∈ rows, Ent C x) (hl : rows.length ≤ 1000) (a7 : Sl) :
    k_law_parting_4 cs [a0, b1, b2, a3, a4, a5, a6, a7, .fz (.tup (rows.map tI)), a9, a10, .un, .un, .un, .un] = .ok (.own (.lst ((rows.map trail).map tI))) [a0, b1, b2, a3, a4, a5, a6, a7, .fz (.tup (rows.map tI)), a9, a10, .un, .un, .un, .un] := by
  have z := compRun_fm (vs := [14]) (g := gN 6 14) (mt := mR true) (me := (mFz (mTup (mCons (mFz (mOp2 fIx (oN 14) (oV (mFz (mC (.int 1)))))) (mCons (mFz (mOp2 fIx (oN 14) (oV (mFz (mC (.int 2)))))) (mNil)))))) (e := [a0, b1, b2, a3, a4, a5, a6, a7, .fz (.tup (rows.map tI)), a9, a10, .un, .un, .un, .un]) tI (fun _ => true) (fun x => tI (trail x)) rows (by
    intro x hx
    obtain ⟨a, b, c, rfl, _⟩ := hr x hx
    refine ⟨[a0, b1, b2, a3, a4, a5, a6, a7, .fz (.tup (rows.map tI)), a9, a10, .un, .un, .un, .fz (tI [a, b, c])], [a0, b1, b2, a3, a4, a5, a6, a7, .fz (.tup (rows.map tI)), a9, a10, .un, .un, .un, .fz (tI [a, b, c])], rfl, rfl, nofun, fun _ => ⟨[a0, b1, b2, a3, a4, a5, a6, a7, .fz (.tup (rows.map tI)), a9, a10, .un, .un, .un, .fz (tI [a, b, c])], ?_, rfl⟩⟩
    simp [tI, trail]) (by omega)
  rw [List.filter_eq_self.2 (fun _ _ => rfl)] at z
  rw [List.map_map]
  unfold k_law_parting_4
  simp only [mComp_ap, iS_ap, mFz_ap, wipeE] at *
  exact z
theorem pt_5 {C : Int} {rows : List (List Int)} (hr : ∀ x ∈ rows, Ent C x) (hl : rows.length ≤ 1000) (a7 : Sl) :
    k_law_parting_5 cs [a0, b1, b2, a3, a4, a5, a6, a7, a8, .fz (.tup (rows.map tI)), a10, a11, .un, .un, .un] = .ok (.own (.lst ((rows.map trail).map tI))) [a0, b1, b2, a3, a4, a5, a6, a7, a8, .fz (.tup (rows.map tI)), a10, a11, .un, .un, .un] := by
  have z := compRun_fm (vs := [14]) (g := gN 6 14) (mt := mR true) (me := (mFz (mTup (mCons (mFz (mOp2 fIx (oN 14) (oV (mFz (mC (.int 1)))))) (mCons (mFz (mOp2 fIx (oN 14) (oV (mFz (mC (.int 2)))))) (mNil)))))) (e := [a0, b1, b2, a3, a4, a5, a6, a7, a8, .fz (.tup (rows.map tI)), a10, a11, .un, .un, .un]) tI (fun _ => true) (fun x => tI (trail x)) rows (by
    intro x hx
    obtain ⟨a, b, c, rfl, _⟩ := hr x hx
    refine ⟨[a0, b1, b2, a3, a4, a5, a6, a7, a8, .fz (.tup (rows.map tI)), a10, a11, .un, .un, .fz (tI [a, b, c])], [a0, b1, b2, a3, a4, a5, a6, a7, a8, .fz (.tup (rows.map tI)), a10, a11, .un, .un, .fz (tI [a, b, c])], rfl, rfl, nofun, fun _ => ⟨[a0, b1, b2, a3, a4, a5, a6, a7, a8, .fz (.tup (rows.map tI)), a10, a11, .un, .un, .fz (tI [a, b, c])], ?_, rfl⟩⟩
    simp [tI, trail]) (by omega)
  rw [List.filter_eq_self.2 (fun _ _ => rfl)] at z
  rw [List.map_map]
  unfold k_law_parting_5
  simp only [mComp_ap, iS_ap, mFz_ap, wipeE] at *
  exact z
end
end K02

set_option linter.all false
set_option maxRecDepth 100000
set_option maxHeartbeats 4000000
set_option pp.maxSteps 900
/-! Q17: the parting, and the law. -/
namespace K02
open PySem L2 VS
section
variable (cs : Cs)
theorem pt_rows {S C : Nat} {ws : List (List Int)} (hB : Bks S C ws) {h : PV} (hh : Hand h) {b1 b2 F G D Bo : PV} (d1 : fIx D (.int 1) = some (.fz (.int C))) (d2 : fIx D (.int 2) = some (.fz (.tup (ws.map tI)))) :
    ∃ (h2 h4 : PV) (rows0 rows : List (List Int)), Hand h4 ∧ (∀ x ∈ rows, Ent C x) ∧ rows.length ≤ 30 ∧
      (sSet 6 7 (mCall (mf_law_entries cs) (mConsO' (oN 0) (mConsO' (oV (mFz (mOp2 fIx (oN 5) (oV (mFz (mC (.int 1))))))) (mConsO' (oV (mFz (mC (.int 12)))) (mNilO)))))) [.own h, .fz b1, .fz b2, .fz F, .fz G, .fz D, .own Bo, .un, .un, .un, .un, .un, .un, .un, .un] = .nx [.own h2, .fz b1, .fz b2, .fz F, .fz G, .fz D, .own Bo, .own (.lst (rows0.map tI)), .un, .un, .un, .un, .un, .un, .un] ∧
      (sIf (mT (mOp2 fEq (oV (mFz (mCall (mf_law_draw cs) (mConsO' (oN 0) (mConsO' (oV (mFz (mC (.int 2)))) (mNilO)))))) (oV (mFz (mC (.int 0)))))) (sSet 6 7 (mOp1 fList (oV (mFz (mCall (mf_law_past cs) (mConsO' (oN 0) (mConsO' (oV (mFz (mOp2 fIx (oN 5) (oV (mFz (mC (.int 1))))))) (mConsO' (oV (mFz (mOp2 fIx (oN 5) (oV (mFz (mC (.int 2))))))) (mConsO' (oV (mFz (mC (.int 12)))) (mNilO)))))))))) (sNx)) [.own h2, .fz b1, .fz b2, .fz F, .fz G, .fz D, .own Bo, .own (.lst (rows0.map tI)), .un, .un, .un, .un, .un, .un, .un] = .nx [.own h4, .fz b1, .fz b2, .fz F, .fz G, .fz D, .own Bo, .own (.lst (rows.map tI)), .un, .un, .un, .un, .un, .un, .un] := by
  obtain ⟨h2, rows0, hh2, hr0, hl0, e1⟩ := entries_ok cs hh (C := C) (M := 12) hB.c1 hB.c2 (by decide)
  rw [show ((12 : Nat) : Int) = 12 from rfl] at e1
  obtain ⟨v, h3, hv, hh3, e2⟩ := draw_nat cs hh2 (many := 2) (by omega) (by omega)
  rw [show ((2 : Nat) : Int) = 2 from rfl] at e2
  by_cases hv0 : v = 0
  · subst hv0
    obtain ⟨h4, rows, hh4, hr, hl, e3⟩ := past_ok cs hh3 hB (M := 12) (by decide)
    rw [show ((12 : Nat) : Int) = 12 from rfl] at e3
    refine ⟨h2, h4, rows0, rows, hh4, hr, hl, ?_, ?_⟩
    · generalize ((C : Nat) : Int) = c at *
      simp [d1, e1]
    · generalize ((C : Nat) : Int) = c at *
      simp [d1, d2, e2, e3]
  · refine ⟨h2, h3, rows0, rows0, hh3, hr0, hl0, ?_, ?_⟩
    · generalize ((C : Nat) : Int) = c at *
      simp [d1, e1]
    · have hv0' : ¬ ((v : Nat) : Int) = 0 := by omega
      generalize ((v : Nat) : Int) = u at *
      simp [e2, hv0']
theorem parting_ok {S1 C1 S2 C2 : Nat} {w1 w2 : List (List Int)} (h1 : Bks S1 C1 w1) (h2 : Bks S2 C2 w2) (z1 : S1 * S2 ≤ 6) (z2 : C1 + C2 ≤ 4) {h : PV} (hh : Hand h) :
    ∃ h', Hand h' ∧ mf_law_parting cs [.own h, .fz (bk cs S1 C1 w1), .fz (bk cs S2 C2 w2), .fz (bkT S1 C1 w1), .fz (bkT S2 C2 w2), .fz (bkT (S1 * S2) (C1 + C2) ((coup S1 C1 w1 S2 w2).mergeSort leL))] = .ret (.fz (.bl true)) [.own h', .fz (bk cs S1 C1 w1), .fz (bk cs S2 C2 w2), .fz (bkT S1 C1 w1), .fz (bkT S2 C2 w2), .fz (bkT (S1 * S2) (C1 + C2) ((coup S1 C1 w1 S2 w2).mergeSort leL))] := by
  have hB := (coup_book h1 h2 z1 z2).sort
  have hbes := beside_ok cs h1 h2
  unfold besOut at hbes
  rw [if_neg (by omega), if_neg (by omega)] at hbes
  have hsrt : ((coup S1 C1 w1 S2 w2).mergeSort leL).mergeSort leL = (coup S1 C1 w1 S2 w2).mergeSort leL := sort_sorted (sort_pairwise _)
  have hwp : ∀ rows : List (List Int), (∀ x ∈ rows, Ent ((C1 : Int) + C2) x) → (walk ((coup S1 C1 w1 S2 w2).mergeSort leL) [0] rows ≠ [] ↔ walk w1 [0] (aheadL C1 rows) ≠ [] ∧ walk w2 [0] (behindL C1 rows) ≠ []) := fun rows hr => by
    refine prod_empty (S1 := S1) (S2 := S2) (walk_prod h1 h2 rows [0] [0] [0] ⟨?_, ?_, ?_⟩ hr)
    · have := h1.s1; simp; omega
    · have := h2.s1; simp; omega
    · intro q; simp
  have cC : ((C1 + C2 : Nat) : Int) = (C1 : Int) + C2 := Int.natCast_add ..
  obtain ⟨S, hS⟩ : ∃ S, S = S1 * S2 := ⟨_, rfl⟩
  obtain ⟨C, hC⟩ : ∃ C, C = C1 + C2 := ⟨_, rfl⟩
  rw [← hS, ← hC] at hbes hB ⊢
  rw [← hC] at cC
  generalize (coup S1 C1 w1 S2 w2).mergeSort leL = K at *
  have ini := init_ok cs hB
  rw [hsrt] at ini
  obtain ⟨fs, hfs⟩ := bk_obj cs S C K
  have f1 : fIx (bkT S1 C1 w1) (.int 1) = some (.fz (.int C1)) := by simp [bkT]
  have f2 : fIx (bkT S1 C1 w1) (.int 2) = some (.fz (.tup (w1.map tI))) := by simp [bkT]
  have g2 : fIx (bkT S2 C2 w2) (.int 2) = some (.fz (.tup (w2.map tI))) := by simp [bkT]
  have d0 : fIx (bkT S C K) (.int 0) = some (.fz (.int S)) := by simp [bkT]
  have d1 : fIx (bkT S C K) (.int 1) = some (.fz (.int C)) := by simp [bkT]
  have d2 : fIx (bkT S C K) (.int 2) = some (.fz (.tup (K.map tI))) := by simp [bkT]
  obtain ⟨h2', h4, rows0, rows, hh4, hr, hl, s2, s3⟩ := pt_rows cs hB hh (b1 := bk cs S1 C1 w1) (b2 := bk cs S2 C2 w2) (F := bkT S1 C1 w1) (G := bkT S2 C2 w2) (Bo := bk cs S C K) d1 d2
  have hr' : ∀ x ∈ rows, Ent ((C1 : Int) + C2) x := fun x hx => by rw [← cC]; exact hr x hx
  have hra := ent_ahead (C1 := C1) hr
  have hrb := ent_behind hr'
  have la := ahead_len C1 rows
  have lb := behind_len C1 rows
  have t1 : ∀ a0 b1 b2 a4 a5 a6, _ := fun a0 b1 b2 a4 a5 a6 => pt_1 cs (a0 := a0) (b1 := b1) (b2 := b2) (a4 := a4) (a5 := a5) (a6 := a6) f1 hr (by omega)
  have t2 : ∀ a0 b1 b2 a4 a5 a6 a8, _ := fun a0 b1 b2 a4 a5 a6 a8 => pt_2 cs (a0 := a0) (b1 := b1) (b2 := b2) (a4 := a4) (a5 := a5) (a6 := a6) (a8 := a8) f1 hr (by omega)
  have t3 : ∀ a0 b1 b2 a3 a4 a5 a6 a8 a9, _ := fun a0 b1 b2 a3 a4 a5 a6 a8 a9 => pt_3 cs (a0 := a0) (b1 := b1) (b2 := b2) (a3 := a3) (a4 := a4) (a5 := a5) (a6 := a6) (a8 := a8) (a9 := a9) (rows := rows) (by omega)
  have t4 : ∀ a0 b1 b2 a3 a4 a5 a6 a7 a9 a10, _ := fun a0 b1 b2 a3 a4 a5 a6 a7 a9 a10 => pt_4 cs (a0 := a0) (b1 := b1) (b2 := b2) (a3 := a3) (a4 := a4) (a5 := a5) (a6 := a6) (a9 := a9) (a10 := a10) hra (by omega) a7
  have t5 : ∀ a0 b1 b2 a3 a4 a5 a6 a7 a8 a10 a11, _ := fun a0 b1 b2 a3 a4 a5 a6 a7 a8 a10 a11 => pt_5 cs (a0 := a0) (b1 := b1) (b2 := b2) (a3 := a3) (a4 := a4) (a5 := a5) (a6 := a6) (a8 := a8) (a10 := a10) (a11 := a11) hrb (by omega) a7
  have st1 := stand_ok cs h1.way (by have := h1.len; omega) [0] ((aheadL C1 rows).map trail) (fun x hx => by
    obtain ⟨y, _, rfl⟩ := List.mem_map.1 hx
    exact ⟨_, _, rfl⟩)
  have st2 := stand_ok cs h2.way (by have := h2.len; omega) [0] ((behindL C1 rows).map trail) (fun x hx => by
    obtain ⟨y, _, rfl⟩ := List.mem_map.1 hx
    exact ⟨_, _, rfl⟩)
  rw [walk_trail] at st1 st2
  have ne1 := fNe_tI0 (walk w1 [0] (aheadL C1 rows))
  have ne2 := fNe_tI0 (walk w2 [0] (behindL C1 rows))
  have kl : chk C (.lst (rows.map lI)) = .inr rows := chk_rows lI (.inr rfl) hr (by omega) rfl
  have kt : chk C (.lst (rows.map tI)) = .inr rows := chk_rows tI (.inl rfl) hr (by omega) rfl
  have kt' : chk C (.tup (rows.map tI)) = .inr rows := chk_rows tI (.inl rfl) hr (by omega) rfl
  have ka : chk C1 (.tup ((aheadL C1 rows).map tI)) = .inr (aheadL C1 rows) := chk_rows tI (.inl rfl) hra (by omega) rfl
  have kb : chk C2 (.tup ((behindL C1 rows).map tI)) = .inr (behindL C1 rows) := chk_rows tI (.inl rfl) hrb (by omega) rfl
  have ck := check_history_ok cs S C K (odd_lL hr)
  rw [kl] at ck
  have prt := parted_good cs (fld_calls cs S1 C1 w1) hr (by omega) hbes ck
  have xprt := exact_ok cs 6 _ (dx_part hr' (by omega))
  have r1 := is_right_ok cs hB (odd_lT hr) kt
  have r4 := is_right_ok cs hB (odd_tT hr) kt'
  have r2 := is_right_ok cs h1 (odd_tT hra) ka
  have r3 := is_right_ok cs h2 (odd_tT hrb) kb
  have hw := hwp rows hr'
  have xb : ∀ b : Bool, mf_law_exact cs 6 [.fz (.bl b), .fz (.bl b)] = .ret (.fz (.bl true)) [.fz (.bl b), .fz (.bl b)] := fun b => exact_ok cs 6 (.bl b) trivial
  refine ⟨h4, hh4, ?_⟩
  rw [hfs] at ini hbes r1 r4 s2 s3
  have epart : partV C1 rows = .tup [.tup ((aheadL C1 rows).map tI), .tup ((behindL C1 rows).map tI)] := rfl
  rw [epart] at prt xprt
  -- opaque from here
  have e0 : List.map PV.int [0] = [.int 0] := rfl
  rw [e0] at st1 st2
  have hL : ∃ L : Bool, L = !decide (walk w1 [0] (aheadL C1 rows) = []) := ⟨_, rfl⟩
  have hR : ∃ R : Bool, R = !decide (walk w2 [0] (behindL C1 rows) = []) := ⟨_, rfl⟩
  obtain ⟨L, hL⟩ := hL
  obtain ⟨R, hR⟩ := hR
  have hLR : (!decide (walk K [0] rows = [])) = (L && R) := by
    rw [Bool.eq_iff_iff, Bool.and_eq_true, hL, hR]
    simp only [Bool.not_eq_true', decide_eq_false_iff_not]
    exact hw
  rw [← hL] at ne1 r2
  rw [← hR] at ne2 r3
  rw [hLR] at r1 r4
  clear hw hwp hLR hL hR kl kt kt' ka kb hra hrb hr hr' hB h1 h2 hsrt hh hh4 ck z1 z2 la lb e0 epart
  generalize (walk w1 [0] (aheadL C1 rows)).map PV.int = W1 at *
  generalize (walk w2 [0] (behindL C1 rows)).map PV.int = W2 at *
  generalize ((aheadL C1 rows).map trail).map tI = TA at *
  generalize ((behindL C1 rows).map trail).map tI = TB at *
  generalize (aheadL C1 rows).map tI = A at *
  generalize (behindL C1 rows).map tI = B at *
  generalize rows.map lI = RL at *
  generalize rows.map tI = RT at *
  generalize bk cs S1 C1 w1 = B1 at *
  generalize bk cs S2 C2 w2 = B2 at *
  generalize bkT S1 C1 w1 = F at *
  generalize bkT S2 C2 w2 = G at *
  generalize bkT S C K = D at *
  generalize w1.map tI = V1 at *
  generalize w2.map tI = V2 at *
  generalize K.map tI = KT at *
  clear cC hS hC hl
  generalize ((S : Nat) : Int) = iS at *
  generalize ((C : Nat) : Int) = iC at *
  generalize ((C1 : Nat) : Int) = iC1 at *
  unfold mf_law_parting
  refine (body_ret (e := [.own h4, .fz B1, .fz B2, .fz F, .fz G, .fz D, .fz (.obj cs.Book fs), .fz (.lst RT), .fz (.tup A), .fz (.tup B), .fz (.tup [.tup A, .tup B]), .fz (.bl L), .fz (.bl R), .fz (.bl (L && R)), .un]) ?_).trans rfl
  unfold m_law_parting
  refine (sSq_nx (e1 := [.own h, .fz B1, .fz B2, .fz F, .fz G, .fz D, .own (.obj cs.Book fs), .un, .un, .un, .un, .un, .un, .un, .un]) (by simp [d0, d1, d2, ini])).trans ?_
  refine (sSq_nx s2).trans ?_
  refine (sSq_nx s3).trans ?_
  refine (sSq_nx (e1 := [.own h4, .fz B1, .fz B2, .fz F, .fz G, .fz D, .own (.obj cs.Book fs), .fz (.lst RT), .fz (.tup A), .un, .un, .un, .un, .un, .un]) (by simp [t1])).trans ?_
  refine (sSq_nx (e1 := [.own h4, .fz B1, .fz B2, .fz F, .fz G, .fz D, .own (.obj cs.Book fs), .fz (.lst RT), .fz (.tup A), .fz (.tup B), .un, .un, .un, .un, .un]) (by simp [t2])).trans ?_
  refine (sSq_nx (e1 := [.own h4, .fz B1, .fz B2, .fz F, .fz G, .fz D, .own (.obj cs.Book fs), .fz (.lst RT), .fz (.tup A), .fz (.tup B), .fz (.tup [.tup A, .tup B]), .un, .un, .un, .un]) (by simp [t3, prt])).trans ?_
  refine (sSq_nx (e1 := [.own h4, .fz B1, .fz B2, .fz F, .fz G, .fz D, .own (.obj cs.Book fs), .fz (.lst RT), .fz (.tup A), .fz (.tup B), .fz (.tup [.tup A, .tup B]), .un, .un, .un, .un]) (by simp [xprt])).trans ?_
  refine (sSq_nx (e1 := [.own h4, .fz B1, .fz B2, .fz F, .fz G, .fz D, .own (.obj cs.Book fs), .fz (.lst RT), .fz (.tup A), .fz (.tup B), .fz (.tup [.tup A, .tup B]), .fz (.bl L), .un, .un, .un]) (by simp [f2, t4, st1, ne1])).trans ?_
  refine (sSq_nx (e1 := [.own h4, .fz B1, .fz B2, .fz F, .fz G, .fz D, .own (.obj cs.Book fs), .fz (.lst RT), .fz (.tup A), .fz (.tup B), .fz (.tup [.tup A, .tup B]), .fz (.bl L), .fz (.bl R), .un, .un]) (by simp [g2, t5, st2, ne2])).trans ?_
  refine (sSq_nx (e1 := [.own h4, .fz B1, .fz B2, .fz F, .fz G, .fz D, .own (.obj cs.Book fs), .fz (.lst RT), .fz (.tup A), .fz (.tup B), .fz (.tup [.tup A, .tup B]), .fz (.bl L), .fz (.bl R), .fz (.bl (L && R)), .un]) (by cases L <;> simp)).trans ?_
  refine (sSq_nx (e1 := [.own h4, .fz B1, .fz B2, .fz F, .fz G, .fz D, .fz (.obj cs.Book fs), .fz (.lst RT), .fz (.tup A), .fz (.tup B), .fz (.tup [.tup A, .tup B]), .fz (.bl L), .fz (.bl R), .fz (.bl (L && R)), .un]) ?_).trans ?_
  · have x1 := xb (L && R)
    have x2 := xb L
    generalize (L && R) = LR at *
    simp [r1, r2, x1, x2]
  · have x1 := xb (L && R)
    have x2 := xb R
    generalize (L && R) = LR at *
    simp [r3, r4, x1, x2, hbes]
end
end K02

set_option linter.all false
set_option maxRecDepth 100000
set_option maxHeartbeats 4000000
set_option pp.maxSteps 900
/-! Q18: the law. -/
namespace K02
open PySem L2 VS
section
variable (cs : Cs)
theorem law_books {h : PV} (hh : Hand h) (s0 : Sl) : ∃ (S1 C1 S2 C2 : Nat) (w1 w2 : List (List Int)) (h' h1 h2 F0 G0 : PV), Bks S1 C1 w1 ∧ w1.mergeSort leL = w1 ∧ Bks S2 C2 w2 ∧ w2.mergeSort leL = w2 ∧ Hand h' ∧
    mf_law_large_book cs [.own h] = .ret (.fz F0) [.own h1] ∧ mf_law_large_book cs [.own h1] = .ret (.fz G0) [.own h2] ∧
    (sIf (mT (mOp2 fEq (oV (mFz (mCall (mf_law_draw cs) (mConsO' (oN 1) (mConsO' (oV (mFz (mC (.int 2)))) (mNilO)))))) (oV (mFz (mC (.int 0)))))) (sTgt (gTq 2 (gCn (gN 1 2) (gCn (gN 1 3) (gNl)))) (mFz (mCall (mf_law_two_books cs) (mConsO' (oN 1) (mNilO))))) (sNx)) [s0, .own h2, .fz F0, .fz G0, .un, .un, .un, .un, .un, .un, .un, .un, .un, .un] = .nx [s0, .own h', .fz (bkT S1 C1 w1), .fz (bkT S2 C2 w2), .un, .un, .un, .un, .un, .un, .un, .un, .un, .un] := by
  obtain ⟨S1, C1, w1, h1, B1, o1, hh1, e1⟩ := large_book_ok cs hh
  obtain ⟨S2, C2, w2, h2, B2, o2, hh2, e2⟩ := large_book_ok cs hh1
  obtain ⟨v, h3, hv, hh3, e3⟩ := draw_nat cs hh2 (many := 2) (by omega) (by omega)
  rw [show ((2 : Nat) : Int) = 2 from rfl] at e3
  by_cases hv0 : v = 0
  · subst hv0
    obtain ⟨S1', C1', S2', C2', w1', w2', h4, B1', o1', B2', o2', hh4, e4⟩ := two_books_ok cs hh3
    refine ⟨S1', C1', S2', C2', w1', w2', h4, h1, h2, _, _, B1', o1', B2', o2', hh4, e1, e2, ?_⟩
    generalize bkT S1' C1' w1' = X at *
    generalize bkT S2' C2' w2' = Y at *
    generalize bkT S1 C1 w1 = X2 at *
    generalize bkT S2 C2 w2 = Y2 at *
    simp [e3, e4]
  · refine ⟨S1, C1, S2, C2, w1, w2, h3, h1, h2, _, _, B1, o1, B2, o2, hh3, e1, e2, ?_⟩
    have hv0' : ¬ ((v : Nat) : Int) = 0 := by omega
    generalize ((v : Nat) : Int) = u at *
    generalize bkT S1 C1 w1 = X2 at *
    generalize bkT S2 C2 w2 = Y2 at *
    simp [e3, hv0']
theorem lw_1 {rows : List (List Int)} (hl : rows.length ≤ 1000) (s0 s1 s2 s3 s4 s5 : Sl) :
    k_law_1 cs [s0, s1, s2, s3, s4, s5, .own (.lst (rows.map tI)), .un, .un, .un, .un, .un, .un, .un] = .ok (.own (.lst (rows.map lI))) [s0, s1, s2, s3, s4, s5, .fz (.lst (rows.map tI)), .un, .un, .un, .un, .un, .un, .un] := by
  have z := compRun_fm (vs := [13]) (g := gN 1 13) (mt := mR true) (me := mFz (mOp1 fList (oN 13))) (e := [s0, s1, s2, s3, s4, s5, .fz (.lst (rows.map tI)), .un, .un, .un, .un, .un, .un, .un]) tI (fun _ => true) lI rows (by
    intro x hx
    refine ⟨[s0, s1, s2, s3, s4, s5, .fz (.lst (rows.map tI)), .un, .un, .un, .un, .un, .un, .fz (tI x)], [s0, s1, s2, s3, s4, s5, .fz (.lst (rows.map tI)), .un, .un, .un, .un, .un, .un, .fz (tI x)], rfl, rfl, nofun, fun _ => ⟨[s0, s1, s2, s3, s4, s5, .fz (.lst (rows.map tI)), .un, .un, .un, .un, .un, .un, .fz (tI x)], ?_, rfl⟩⟩
    simp [tI, lI]) (by omega)
  rw [List.filter_eq_self.2 (fun _ _ => rfl)] at z
  unfold k_law_1
  simp [wipeE]
  exact z
theorem lw_2 {rows : List (List Int)} (hl : rows.length ≤ 1000) (s0 s1 s2 s3 s4 s5 s7 : Sl) :
    k_law_2 cs [s0, s1, s2, s3, s4, s5, .fz (.lst (rows.map tI)), s7, .un, .un, .un, .un, .un, .un] = .ok (.own (.lst (rows.map lI))) [s0, s1, s2, s3, s4, s5, .fz (.lst (rows.map tI)), s7, .un, .un, .un, .un, .un, .un] := by
  have z := compRun_fm (vs := [13]) (g := gN 1 13) (mt := mR true) (me := mFz (mOp1 fList (oN 13))) (e := [s0, s1, s2, s3, s4, s5, .fz (.lst (rows.map tI)), s7, .un, .un, .un, .un, .un, .un]) tI (fun _ => true) lI rows (by
    intro x hx
    refine ⟨[s0, s1, s2, s3, s4, s5, .fz (.lst (rows.map tI)), s7, .un, .un, .un, .un, .un, .fz (tI x)], [s0, s1, s2, s3, s4, s5, .fz (.lst (rows.map tI)), s7, .un, .un, .un, .un, .un, .fz (tI x)], rfl, rfl, nofun, fun _ => ⟨[s0, s1, s2, s3, s4, s5, .fz (.lst (rows.map tI)), s7, .un, .un, .un, .un, .un, .fz (tI x)], ?_, rfl⟩⟩
    simp [tI, lI]) (by omega)
  rw [List.filter_eq_self.2 (fun _ _ => rfl)] at z
  unfold k_law_2
  simp [wipeE]
  exact z
/-- three spoilt histories, each told rightly -/
theorem lw_loop {S1 C1 : Nat} {w1 : List (List Int)} (h1 : Bks S1 C1 w1) {h : PV} (hh : Hand h) {rows : List (List Int)} (hr : ∀ x ∈ rows, Ent C1 x) (hl : rows.length ≤ 30) {F : PV} (f1 : fIx F (.int 1) = some (.fz (.int C1))) (s0 s3 s5 s7 s10 s11 s12 s13 : Sl) :
    ∃ (h' : PV) (x8 x9 : Sl), Hand h' ∧ forRun (gN 1 8) (b_law_1 cs) ((rgI 3).map .int) [s0, .own h, .fz F, s3, .fz (bk cs S1 C1 w1), s5, .fz (.lst (rows.map tI)), s7, .un, .un, s10, s11, s12, s13] = .nx [s0, .own h', .fz F, s3, .fz (bk cs S1 C1 w1), s5, .fz (.lst (rows.map tI)), s7, x8, x9, s10, s11, s12, s13] := by
  obtain ⟨e', lp, h', x8, x9, hh', rfl⟩ := forRun_pre PV.int (fun pre e => ∃ (h' : PV) (x8 x9 : Sl), Hand h' ∧ e = [s0, .own h', .fz F, s3, .fz (bk cs S1 C1 w1), s5, .fz (.lst (rows.map tI)), s7, x8, x9, s10, s11, s12, s13]) (g := gN 1 8) (mb := b_law_1 cs) (xs := rgI 3)
    (e := [s0, .own h, .fz F, s3, .fz (bk cs S1 C1 w1), s5, .fz (.lst (rows.map tI)), s7, .un, .un, s10, s11, s12, s13]) ⟨h, _, _, hh, rfl⟩ (by
      rintro pre k post e hx ⟨h', x8, x9, hh', rfl⟩
      obtain ⟨d, s, h2, hd, hs, hh2, e1⟩ := spoilt_ok cs hh' h1.c1 h1.c2 hr hl
      have e2 := law_checked_ok cs S1 C1 w1 hd
      have e3 := due_check_ok cs C1 hd
      have e4 := law_same_ok cs (C := C1) hd
      have e5 := chkS_or (chk C1 d)
      generalize chkS (chk C1 d) = cS at *
      generalize chkV (chk C1 d) = cV at *
      generalize bk cs S1 C1 w1 = B at *
      generalize rows.map tI = R at *
      generalize ((C1 : Nat) : Int) = c at *
      refine ⟨_, [s0, .own h2, .fz F, s3, .fz B, s5, .fz (.lst R), s7, .fz (.int k), .fz d, s10, s11, s12, s13], rfl, ?_, h2, _, _, hh2, rfl⟩
      unfold b_law_1
      refine (sSq_nx (e1 := [s0, .own h2, .fz F, s3, .fz B, s5, .fz (.lst R), s7, .fz (.int k), s, s10, s11, s12, s13]) (by rcases hs with rfl | rfl <;> simp [f1, e1])).trans ?_
      rcases hs with rfl | rfl <;> rcases e5 with rfl | rfl <;> simp [f1, e2, e3, e4])
  exact ⟨h', x8, x9, hh', lp⟩
theorem fEq_many (k : Int) : fEq (manyV k) (manyV k) = some (.fz (.bl true)) := fEq_same ((OkN.lst (n := 0) (by
      intro d hd
      simp only [List.mem_cons, List.not_mem_nil, or_false] at hd
      rcases hd with rfl | rfl
      · exact .str (by decide +kernel)
      · exact .int _)).okD (by decide))
theorem fEq_bad (k : Int) : fEq (badV k) (badV k) = some (.fz (.bl true)) := fEq_same ((OkN.lst (n := 0) (by
      intro d hd
      simp only [List.mem_cons, List.not_mem_nil, or_false] at hd
      rcases hd with rfl | rfl
      · exact .str (by decide +kernel)
      · exact .int _)).okD (by decide))
theorem fEq_let : fEq (.str "let") (.str "let") = some (.fz (.bl true)) := fEq_same (okD_str (by decide +kernel))
/-- the end of the law -/
theorem law_end {S1 C1 S2 C2 : Nat} {w1 w2 : List (List Int)} (h1 : Bks S1 C1 w1) (h2 : Bks S2 C2 w2) {h : PV} (hh : Hand h) {d : PV} (hd : Odd d) (s9 : Sl) (hs : s9 = .own d ∨ s9 = .fz d) (s0 s6 s7 s8 : Sl) :
    ∃ e, (sSq (sIf (mT (mOp1 (fIsi [.int]) (oN 10))) (sRet (mAndV (mOp1 (fIsi [.int]) (oN 11)) (mAndV (mOp2 fEq (oN 11) (oN 10)) (mOp2 fEq (oV (mFz (mCall (mf_law_beside_refused cs) (mConsO' (oV (mFz (mN 1 4))) (mConsO' (oV (mFz (mN 1 5))) (mConsO' (oV (mFz (mN 1 9))) (mNilO))))))) (oV (mFz (mLst (mCons (mFz (mC (.str "many"))) (mCons (mFz (mN 1 10)) (mNil)))))))))) (sNx)) (sSq (sIf (mOr (mNot (mT (mCall (mf_law_exact cs 6) (mConsO' (oV (mFz (mN 1 11))) (mConsO' (oV (mFz (mN 1 10))) (mNilO)))))) (mNot (mT (mCall (mf_law_parting cs) (mConsO' (oN 1) (mConsO' (oV (mFz (mN 1 4))) (mConsO' (oV (mFz (mN 1 5))) (mConsO' (oV (mFz (mN 1 2))) (mConsO' (oV (mFz (mN 1 3))) (mConsO' (oV (mFz (mN 1 10))) (mNilO))))))))))) (sRet (mC (.bl false))) (sNx)) (sSq (sSet 1 12 (mCall (mf_law_due_check cs) (mConsO' (oV (mFz (mOp2 fIx (oN 10) (oV (mFz (mC (.int 1))))))) (mConsO' (oV (mFz (mN 1 9))) (mNilO))))) (sRet (mOp2 fEq (oV (mFz (mCall (mf_law_beside_refused cs) (mConsO' (oV (mFz (mN 1 4))) (mConsO' (oV (mFz (mN 1 5))) (mConsO' (oV (mFz (mN 1 9))) (mNilO))))))) (oV (mFz (mIf (mT (mOp1 (fIsi [.list]) (oN 12))) (mN 1 12) (mC (.str "let"))))))))))
      [s0, .own h, .fz (bkT S1 C1 w1), .fz (bkT S2 C2 w2), .fz (bk cs S1 C1 w1), .fz (bk cs S2 C2 w2), s6, s7, s8, s9, .fz (besV S1 C1 w1 S2 C2 w2), .fz (besV S1 C1 w1 S2 C2 w2), .un, .un] = .ret (.fz (.bl true)) e := by
  have hbes := beside_ok cs h1 h2
  unfold besOut at hbes
  unfold besV
  have many : ∀ k : Int, mf_beside cs [.fz (bk cs S1 C1 w1), .fz (bk cs S2 C2 w2)] = .exc cs.TooMany (keptD ["most"] [.int k]) [.fz (bk cs S1 C1 w1), .fz (bk cs S2 C2 w2)] →
      ∃ e, (sIf (mT (mOp1 (fIsi [.int]) (oN 10))) (sRet (mAndV (mOp1 (fIsi [.int]) (oN 11)) (mAndV (mOp2 fEq (oN 11) (oN 10)) (mOp2 fEq (oV (mFz (mCall (mf_law_beside_refused cs) (mConsO' (oV (mFz (mN 1 4))) (mConsO' (oV (mFz (mN 1 5))) (mConsO' (oV (mFz (mN 1 9))) (mNilO))))))) (oV (mFz (mLst (mCons (mFz (mC (.str "many"))) (mCons (mFz (mN 1 10)) (mNil)))))))))) (sNx)) [s0, .own h, .fz (bkT S1 C1 w1), .fz (bkT S2 C2 w2), .fz (bk cs S1 C1 w1), .fz (bk cs S2 C2 w2), s6, s7, s8, s9, .fz (.int k), .fz (.int k), .un, .un] = .ret (.fz (.bl true)) e := by
    intro k hk
    have e1 := refused_many cs (d := d) hk
    have e2 := fEq_many k
    unfold manyV at e1 e2
    generalize bkT S1 C1 w1 = F at *
    generalize bkT S2 C2 w2 = G at *
    generalize bk cs S1 C1 w1 = B1 at *
    generalize bk cs S2 C2 w2 = B2 at *
    refine ⟨[s0, .own h, .fz F, .fz G, .fz B1, .fz B2, s6, s7, s8, .fz d, .fz (.int k), .fz (.int k), .un, .un], ?_⟩
    rcases hs with rfl | rfl <;> simp [fIsi, PV.bt, BT.sub, e1, e2]
  by_cases z1 : 6 < S1 * S2
  · rw [if_pos z1] at hbes ⊢
    obtain ⟨e, q⟩ := many 6 hbes
    exact ⟨e, sSq_ret q⟩
  · rw [if_neg z1] at hbes ⊢
    by_cases z2 : 4 < C1 + C2
    · rw [if_pos z2] at hbes ⊢
      obtain ⟨e, q⟩ := many 4 hbes
      exact ⟨e, sSq_ret q⟩
    · rw [if_neg z2] at hbes ⊢
      obtain ⟨h', hh', ep⟩ := parting_ok cs h1 h2 (by omega) (by omega) hh
      have hB := (coup_book h1 h2 (by omega) (by omega)).sort
      have cC : ((C1 + C2 : Nat) : Int) = (C1 : Int) + C2 := Int.natCast_add ..
      obtain ⟨S, hS⟩ : ∃ S, S = S1 * S2 := ⟨_, rfl⟩
      obtain ⟨C, hC⟩ : ∃ C, C = C1 + C2 := ⟨_, rfl⟩
      rw [← hS, ← hC] at hbes hB ep ⊢
      rw [← hC] at cC
      generalize (coup S1 C1 w1 S2 w2).mergeSort leL = K at *
      have hKl := hB.len
      have xD : mf_law_exact cs 6 [.fz (bkT S C K), .fz (bkT S C K)] = .ret (.fz (.bl true)) [.fz (bkT S C K), .fz (bkT S C K)] := exact_ok cs 6 _ ⟨by simp, fun x hx => by
        simp only [List.mem_cons, List.not_mem_nil, or_false] at hx
        rcases hx with rfl | rfl | rfl
        · trivial
        · trivial
        · exact DX.rows (n := 2) (fun r hr => by obtain ⟨a, b, c, t, rfl, _⟩ := hB.way r hr; simp) (by omega)⟩
      have d1 : fIx (bkT S C K) (.int 1) = some (.fz (.int C)) := by simp [bkT]
      have bt : (bkT S C K).bt = some .tuple := rfl
      have du := due_check_ok cs C hd
      have ck := check_history_ok cs S C K hd
      have fc := fld_calls cs S1 C1 w1
      have refd : ∃ (s12 : Sl) (v : PV), chkS (chk C d) = s12 ∧ (s12 = .own v ∨ s12 = .fz v) ∧ ∃ r : Sl, (∃ w, (r = .own w ∨ r = .fz w) ∧ mf_law_beside_refused cs [.fz (bk cs S1 C1 w1), .fz (bk cs S2 C2 w2), .fz d] = .ret r [.fz (bk cs S1 C1 w1), .fz (bk cs S2 C2 w2), .fz d] ∧ ((v.bt = some .list ∧ v = w) ∨ (v.bt = some .tuple ∧ w = .str "let")) ∧ fEq w w = some (.fz (.bl true))) := by
        cases hc : chk C d with
        | inl k =>
          rw [hc] at ck
          have p := parted_bad cs hbes ck
          exact ⟨_, badV k, rfl, .inl rfl, .own (badV k), badV k, .inl rfl, refused_bad cs p, .inl ⟨rfl, rfl⟩, fEq_bad k⟩
        | inr rows =>
          rw [hc] at ck
          obtain ⟨hr, hl⟩ := chk_ents hd hc
          have p := parted_good cs fc hr (by omega) hbes ck
          exact ⟨_, .tup (rows.map tI), rfl, .inr rfl, .fz (.str "let"), .str "let", .inr rfl, refused_let cs p, .inr ⟨rfl, rfl⟩, fEq_let⟩
      obtain ⟨s12, v, hs12, hv, r, w, hrw, er, hcase, heq⟩ := refd
      rw [hs12] at du
      clear hs12 ck hbes many hB hKl z1 z2 hS hC cC h1 h2
      generalize bkT S1 C1 w1 = F at *
      generalize bkT S2 C2 w2 = G at *
      generalize bk cs S1 C1 w1 = B1 at *
      generalize bk cs S2 C2 w2 = B2 at *
      generalize bkT S C K = D at *
      generalize ((C : Nat) : Int) = c at *
      have q1 : (sIf (mT (mOp1 (fIsi [.int]) (oN 10))) (sRet (mAndV (mOp1 (fIsi [.int]) (oN 11)) (mAndV (mOp2 fEq (oN 11) (oN 10)) (mOp2 fEq (oV (mFz (mCall (mf_law_beside_refused cs) (mConsO' (oV (mFz (mN 1 4))) (mConsO' (oV (mFz (mN 1 5))) (mConsO' (oV (mFz (mN 1 9))) (mNilO))))))) (oV (mFz (mLst (mCons (mFz (mC (.str "many"))) (mCons (mFz (mN 1 10)) (mNil)))))))))) (sNx)) [s0, .own h, .fz F, .fz G, .fz B1, .fz B2, s6, s7, s8, s9, .fz D, .fz D, .un, .un] = .nx [s0, .own h, .fz F, .fz G, .fz B1, .fz B2, s6, s7, s8, s9, .fz D, .fz D, .un, .un] := by
        simp [fIsi, bt, BT.sub]
      have q2 : (sIf (mOr (mNot (mT (mCall (mf_law_exact cs 6) (mConsO' (oV (mFz (mN 1 11))) (mConsO' (oV (mFz (mN 1 10))) (mNilO)))))) (mNot (mT (mCall (mf_law_parting cs) (mConsO' (oN 1) (mConsO' (oV (mFz (mN 1 4))) (mConsO' (oV (mFz (mN 1 5))) (mConsO' (oV (mFz (mN 1 2))) (mConsO' (oV (mFz (mN 1 3))) (mConsO' (oV (mFz (mN 1 10))) (mNilO))))))))))) (sRet (mC (.bl false))) (sNx)) [s0, .own h, .fz F, .fz G, .fz B1, .fz B2, s6, s7, s8, s9, .fz D, .fz D, .un, .un] = .nx [s0, .own h', .fz F, .fz G, .fz B1, .fz B2, s6, s7, s8, s9, .fz D, .fz D, .un, .un] := by
        simp [xD, ep]
      have q3 : (sSet 1 12 (mCall (mf_law_due_check cs) (mConsO' (oV (mFz (mOp2 fIx (oN 10) (oV (mFz (mC (.int 1))))))) (mConsO' (oV (mFz (mN 1 9))) (mNilO))))) [s0, .own h', .fz F, .fz G, .fz B1, .fz B2, s6, s7, s8, s9, .fz D, .fz D, .un, .un] = .nx [s0, .own h', .fz F, .fz G, .fz B1, .fz B2, s6, s7, s8, .fz d, .fz D, .fz D, s12, .un] := by
        rcases hs with rfl | rfl <;> rcases hv with rfl | rfl <;> simp [d1, du]
      have q4 : ∃ e, (sRet (mOp2 fEq (oV (mFz (mCall (mf_law_beside_refused cs) (mConsO' (oV (mFz (mN 1 4))) (mConsO' (oV (mFz (mN 1 5))) (mConsO' (oV (mFz (mN 1 9))) (mNilO))))))) (oV (mFz (mIf (mT (mOp1 (fIsi [.list]) (oN 12))) (mN 1 12) (mC (.str "let"))))))) [s0, .own h', .fz F, .fz G, .fz B1, .fz B2, s6, s7, s8, .fz d, .fz D, .fz D, s12, .un] = .ret (.fz (.bl true)) e := by
        rcases hcase with ⟨b1, rfl⟩ | ⟨b1, rfl⟩
        · refine ⟨[s0, .own h', .fz F, .fz G, .fz B1, .fz B2, s6, s7, s8, .fz d, .fz D, .fz D, .fz v, .un], ?_⟩
          rcases hrw with rfl | rfl <;> rcases hv with rfl | rfl <;> simp [er, fIsi, b1, BT.sub, heq]
        · refine ⟨[s0, .own h', .fz F, .fz G, .fz B1, .fz B2, s6, s7, s8, .fz d, .fz D, .fz D, s12, .un], ?_⟩
          rcases hrw with rfl | rfl <;> rcases hv with rfl | rfl <;> simp [er, fIsi, b1, BT.sub, heq]
      obtain ⟨e, q4⟩ := q4
      exact ⟨e, (sSq_nx q1).trans ((sSq_nx q2).trans ((sSq_nx q3).trans q4))⟩
theorem law_true : ∀ ns : List Int, ns.length ≤ 63 → ∃ as', mf_law cs [.fz (.scr (ns.map .int))] = .ret (.fz (.bl true)) as' := by
  intro ns hns
  obtain ⟨h0, hh0, e0⟩ := hand_ok cs ns hns
  generalize PV.scr (ns.map .int) = SC at *
  obtain ⟨s0, hs0⟩ : ∃ s0 : Sl, s0 = .fz SC := ⟨_, rfl⟩
  obtain ⟨S1, C1, S2, C2, w1, w2, h3, h1, h2, F0, G0, B1, o1, B2, o2, hh3, e1, e2, e3⟩ := law_books cs hh0 s0
  have ini1 := init_ok cs B1
  have ini2 := init_ok cs B2
  rw [o1] at ini1
  rw [o2] at ini2
  obtain ⟨fs1, hf1⟩ := bk_obj cs S1 C1 w1
  obtain ⟨fs2, hf2⟩ := bk_obj cs S2 C2 w2
  obtain ⟨h4, rows, hh4, hr, hl, e4⟩ := entries_ok cs hh3 (C := C1) (M := 30) B1.c1 B1.c2 (by decide)
  rw [show ((30 : Nat) : Int) = 30 from rfl] at e4
  have f0 : fIx (bkT S1 C1 w1) (.int 0) = some (.fz (.int S1)) := by simp [bkT]
  have f1 : fIx (bkT S1 C1 w1) (.int 1) = some (.fz (.int C1)) := by simp [bkT]
  have f2 : fIx (bkT S1 C1 w1) (.int 2) = some (.fz (.tup (w1.map tI))) := by simp [bkT]
  have g0 : fIx (bkT S2 C2 w2) (.int 0) = some (.fz (.int S2)) := by simp [bkT]
  have g1 : fIx (bkT S2 C2 w2) (.int 1) = some (.fz (.int C2)) := by simp [bkT]
  have g2 : fIx (bkT S2 C2 w2) (.int 2) = some (.fz (.tup (w2.map tI))) := by simp [bkT]
  have lw1 := lw_1 cs (rows := rows) (by omega)
  have lw2 := lw_2 cs (rows := rows) (by omega)
  have kl : chk C1 (.lst (rows.map lI)) = .inr rows := chk_rows lI (.inr rfl) hr (by omega) rfl
  have kt : chk C1 (.tup (rows.map tI)) = .inr rows := chk_rows tI (.inl rfl) hr (by omega) rfl
  have c1 := law_checked_ok cs S1 C1 w1 (odd_lL hr)
  have c2 := law_checked_ok cs S1 C1 w1 (odd_tT hr)
  have sm := law_same_ok cs (C := C1) (odd_tT hr)
  rw [kl] at c1
  rw [kt] at c2 sm
  have c1' : mf_law_checked cs [.fz (bk cs S1 C1 w1), .fz (.lst (rows.map lI))] = .ret (.fz (.tup (rows.map tI))) [.fz (bk cs S1 C1 w1), .fz (.lst (rows.map lI))] := c1
  have c2' : mf_law_checked cs [.fz (bk cs S1 C1 w1), .fz (.tup (rows.map tI))] = .ret (.fz (.tup (rows.map tI))) [.fz (bk cs S1 C1 w1), .fz (.tup (rows.map tI))] := c2
  have sm' : mf_law_same cs [.fz (.tup (rows.map tI)), .fz (.tup (rows.map tI))] = .ret (.fz (.bl true)) [.fz (.tup (rows.map tI)), .fz (.tup (rows.map tI))] := sm
  have ne : fNe (.lst (rows.map lI)) (.lst (rows.map lI)) = some (.fz (.bl false)) := by
    have := fNe_lL rows rows
    simpa using this
  have p1 := parts_ok (.inl rfl) hr (by omega) cs
  have p2 := parts_ok (.inr rfl) hr (by omega) cs
  obtain ⟨h5, x8, x9, hh5, e5⟩ := lw_loop cs B1 hh4 hr hl f1 s0 (.fz (bkT S2 C2 w2)) (.own (bk cs S2 C2 w2)) (.fz (.lst (rows.map lI))) .un .un .un .un
  have du := law_due_ok cs B1 B2
  have bs := law_beside_ok cs B1 B2
  obtain ⟨d, s9, h6, hd, hs9, hh6, e6⟩ := spoilt_ok cs hh5 (C := 4) (D := C1) (by decide) (by decide) hr hl
  rw [show ((4 : Nat) : Int) = 4 from rfl] at e6
  obtain ⟨e, e7⟩ := law_end cs B1 B2 hh6 hd s9 hs9 s0 (.fz (.lst (rows.map tI))) (.fz (.lst (rows.map lI))) x8
  have r3 : rangeL 0 3 = (rgI 3).map PV.int := rangeL_nat 3
  have i3 : inR 3 = true := inR_of' (by omega) (by omega)
  rw [hf1] at ini1
  rw [hf2] at ini2
  rw [hf1, hf2] at e7 bs e5
  rw [hf1] at c1' c2'
  clear c1 c2 sm kl kt hd hh6 hh5 hh4 hh3 hh0 hr hl B1 B2 o1 o2 hf1 hf2 hns
  generalize rows.map tI = RT at *
  generalize rows.map lI = RL at *
  generalize besV S1 C1 w1 S2 C2 w2 = V at *
  generalize bkT S1 C1 w1 = F at *
  generalize bkT S2 C2 w2 = G at *
  generalize w1.map tI = V1 at *
  generalize w2.map tI = V2 at *
  generalize ((S1 : Nat) : Int) = iS1 at *
  generalize ((S2 : Nat) : Int) = iS2 at *
  generalize ((C1 : Nat) : Int) = iC1 at *
  generalize ((C2 : Nat) : Int) = iC2 at *
  generalize hO1 : PV.obj cs.Book fs1 = O1 at e7 bs e5 c1' c2'
  generalize hO2 : PV.obj cs.Book fs2 = O2 at e7 bs e5
  refine ⟨_, body_ret (e := e) ?_⟩
  subst hs0
  unfold m_law
  refine (sSq_nx (e1 := [.fz SC, .own h0, .un, .un, .un, .un, .un, .un, .un, .un, .un, .un, .un, .un]) (by simp [e0])).trans ?_
  refine (sSq_nx (e1 := [.fz SC, .own h1, .fz F0, .un, .un, .un, .un, .un, .un, .un, .un, .un, .un, .un]) (by simp [e1])).trans ?_
  refine (sSq_nx (e1 := [.fz SC, .own h2, .fz F0, .fz G0, .un, .un, .un, .un, .un, .un, .un, .un, .un, .un]) (by simp [e2])).trans ?_
  refine (sSq_nx e3).trans ?_
  refine (sSq_nx (e1 := [.fz SC, .own h3, .fz F, .fz G, .own O1, .un, .un, .un, .un, .un, .un, .un, .un, .un]) (by rw [← hO1]; simp [f0, f1, f2, ini1])).trans ?_
  refine (sSq_nx (e1 := [.fz SC, .own h3, .fz F, .fz G, .own O1, .own O2, .un, .un, .un, .un, .un, .un, .un, .un]) (by rw [← hO2]; simp [g0, g1, g2, ini2])).trans ?_
  refine (sSq_nx (e1 := [.fz SC, .own h4, .fz F, .fz G, .own O1, .own O2, .own (.lst RT), .un, .un, .un, .un, .un, .un, .un]) (by simp [f1, e4])).trans ?_
  refine (sSq_nx (e1 := [.fz SC, .own h4, .fz F, .fz G, .own O1, .own O2, .fz (.lst RT), .own (.lst RL), .un, .un, .un, .un, .un, .un]) (by simp [lw1])).trans ?_
  refine (sSq_nx (e1 := [.fz SC, .own h4, .fz F, .fz G, .fz O1, .own O2, .fz (.lst RT), .fz (.lst RL), .un, .un, .un, .un, .un, .un]) (by simp [c1', sm', lw2, ne])).trans ?_
  refine (sSq_nx (e1 := [.fz SC, .own h4, .fz F, .fz G, .fz O1, .own O2, .fz (.lst RT), .fz (.lst RL), .un, .un, .un, .un, .un, .un]) (by simp [c2', sm', p1, p2])).trans ?_
  refine (sSq_nx (e1 := [.fz SC, .own h5, .fz F, .fz G, .fz O1, .own O2, .fz (.lst RT), .fz (.lst RL), x8, x9, .un, .un, .un, .un]) (by simp [l_law_1, i3, r3, e5])).trans ?_
  refine (sSq_nx (e1 := [.fz SC, .own h5, .fz F, .fz G, .fz O1, .own O2, .fz (.lst RT), .fz (.lst RL), x8, x9, .fz V, .un, .un, .un]) (by simp [du])).trans ?_
  refine (sSq_nx (e1 := [.fz SC, .own h5, .fz F, .fz G, .fz O1, .fz O2, .fz (.lst RT), .fz (.lst RL), x8, x9, .fz V, .fz V, .un, .un]) (by simp [bs])).trans ?_
  refine (sSq_nx (e1 := [.fz SC, .own h6, .fz F, .fz G, .fz O1, .fz O2, .fz (.lst RT), .fz (.lst RL), x8, s9, .fz V, .fz V, .un, .un]) (by rcases hs9 with rfl | rfl <;> simp [e6])).trans ?_
  exact e7
end
end K02

set_option Elab.async false
set_option linter.all false
set_option maxRecDepth 100000
set_option maxHeartbeats 4000000
/-! printed by gen.py: each def as a plain function on rows of slots, and that it is so -/
namespace K02
open PySem L2 VS

def top (i : Nat) : Stmt := PySem.Challenge.pw_unmetcells_k02_whole_histories_and_books.main.body.getD i (.Pass ⟨0, 0, 0, 0⟩)
structure Txt (K : PySem.W.Frag) (mg : Str → Option Value) (cs : Cs) : Prop where
  z : True
  abs : mg "abs" = none
  bool : mg "bool" = none
  enumerate : mg "enumerate" = none
  int : mg "int" = none
  isinstance : mg "isinstance" = none
  len : mg "len" = none
  list : mg "list" = none
  range : mg "range" = none
  sorted : mg "sorted" = none
  str : mg "str" = none
  tuple : mg "tuple" = none
  c_Book : Cls K cs.Book
  n_Book_calls : NoAttr K cs.Book "calls"
  n_Book_states : NoAttr K cs.Book "states"
  n_Book_ways : NoAttr K cs.Book "ways"
  g_MOST_STATES : ∃ t, mg "MOST_STATES" = some (.int 6 t)
  g_MOST_CALLS : ∃ t, mg "MOST_CALLS" = some (.int 4 t)
  g_MOST_ANSWERS : ∃ t, mg "MOST_ANSWERS" = some (.int 3 t)
  g_MOST_WAYS : ∃ t, mg "MOST_WAYS" = some (.int 432 t)
  g_MOST_HAND : ∃ t, mg "MOST_HAND" = some (.int 9 t)
  g_MOST_ENTRIES : ∃ t, mg "MOST_ENTRIES" = some (.int 400 t)
  g_START : ∃ T, mg "START" = some (.ref T) ∧ KTup K T (([0] : List Int).map V.int)
  xf_BadHistory : XfC K cs.BadHistory
  xf_TooMany : XfC K cs.TooMany
  nx_BadHistory_index : PySem.W.findIn K (.ref cs.BadHistory) "index" = some none
  nx_TooMany_most : PySem.W.findIn K (.ref cs.TooMany) "most" = some none
  xm_BadBook : mg "BadBook" = some (.ref cs.BadBook)
  xm_BadHistory : mg "BadHistory" = some (.ref cs.BadHistory)
  xm_TooMany : mg "TooMany" = some (.ref cs.TooMany)
  exb : ∀ A B b, cs.exB A B = some b → PySem.W.exmOne K (.ref A) (.ref B) = some b
abbrev s_is_whole : Stmt := top 11
abbrev N_is_whole : List Str := ["thing", "low", "high"]
theorem sc_is_whole : FnScope N_is_whole ["thing", "low", "high"] (defScope s_is_whole) := ⟨rfl, rfl, rfl, by decide +kernel, rfl, by decide +kernel, by decide +kernel⟩
abbrev s_is_sequence : Stmt := top 12
abbrev N_is_sequence : List Str := ["thing"]
theorem sc_is_sequence : FnScope N_is_sequence ["thing"] (defScope s_is_sequence) := ⟨rfl, rfl, rfl, by decide +kernel, rfl, by decide +kernel, by decide +kernel⟩
abbrev s_is_way : Stmt := top 13
abbrev N_is_way : List Str := ["thing", "states", "calls", "state", "call", "answer", "after"]
theorem sc_is_way : FnScope N_is_way ["thing", "states", "calls"] (defScope s_is_way) := ⟨rfl, rfl, rfl, by decide +kernel, rfl, by decide +kernel, by decide +kernel⟩
abbrev s_check_ways : Stmt := top 14
abbrev N_check_ways : List Str := ["states", "calls", "ways", "way", "kept", "place", "begins"]
theorem sc_check_ways : FnScope N_check_ways ["states", "calls", "ways"] (defScope s_check_ways) := ⟨rfl, rfl, rfl, by decide +kernel, rfl, by decide +kernel, by decide +kernel⟩
abbrev s_Book___init__ : Stmt := inClass (top 15) 0
abbrev N_Book___init__ : List Str := ["self", "states", "calls", "ways"]
theorem sc_Book___init__ : FnScope N_Book___init__ ["self", "states", "calls", "ways"] (defScope s_Book___init__) := ⟨rfl, rfl, rfl, by decide +kernel, rfl, by decide +kernel, by decide +kernel⟩
abbrev s_is_entry : Stmt := top 19
abbrev N_is_entry : List Str := ["book", "thing"]
theorem sc_is_entry : FnScope N_is_entry ["book", "thing"] (defScope s_is_entry) := ⟨rfl, rfl, rfl, by decide +kernel, rfl, by decide +kernel, by decide +kernel⟩
abbrev s_check_history : Stmt := top 20
abbrev N_check_history : List Str := ["book", "history", "place", "entry"]
theorem sc_check_history : FnScope N_check_history ["book", "history"] (defScope s_check_history) := ⟨rfl, rfl, rfl, by decide +kernel, rfl, by decide +kernel, by decide +kernel⟩
abbrev s_calls_of : Stmt := top 21
abbrev N_calls_of : List Str := ["history", "hand", "call", "answer"]
theorem sc_calls_of : FnScope N_calls_of ["history"] (defScope s_calls_of) := ⟨rfl, rfl, rfl, by decide +kernel, rfl, by decide +kernel, by decide +kernel⟩
abbrev s_asks_made : Stmt := top 22
abbrev N_asks_made : List Str := ["history", "hand", "call", "answer"]
theorem sc_asks_made : FnScope N_asks_made ["history"] (defScope s_asks_made) := ⟨rfl, rfl, rfl, by decide +kernel, rfl, by decide +kernel, by decide +kernel⟩
abbrev s_hands_of : Stmt := top 23
abbrev N_hands_of : List Str := ["history", "entry"]
theorem sc_hands_of : FnScope N_hands_of ["history"] (defScope s_hands_of) := ⟨rfl, rfl, rfl, by decide +kernel, rfl, by decide +kernel, by decide +kernel⟩
abbrev s_part_of : Stmt := top 24
abbrev N_part_of : List Str := ["history", "hand", "entry"]
theorem sc_part_of : FnScope N_part_of ["history", "hand"] (defScope s_part_of) := ⟨rfl, rfl, rfl, by decide +kernel, rfl, by decide +kernel, by decide +kernel⟩
abbrev s_beside : Stmt := top 26
abbrev N_beside : List Str := ["one", "other", "ways", "state", "call", "answer", "after", "rest", "base"]
theorem sc_beside : FnScope N_beside ["one", "other"] (defScope s_beside) := ⟨rfl, rfl, rfl, by decide +kernel, rfl, by decide +kernel, by decide +kernel⟩
abbrev s_parted_history : Stmt := top 27
abbrev N_parted_history : List Str := ["one", "other", "history", "entries", "ahead", "behind", "hand", "call", "answer"]
theorem sc_parted_history : FnScope N_parted_history ["one", "other", "history"] (defScope s_parted_history) := ⟨rfl, rfl, rfl, by decide +kernel, rfl, by decide +kernel, by decide +kernel⟩
abbrev s_step_from : Stmt := top 30
abbrev N_step_from : List Str := ["book", "states", "call", "answer", "begin", "made", "told", "end"]
theorem sc_step_from : FnScope N_step_from ["book", "states", "call", "answer"] (defScope s_step_from) := ⟨rfl, rfl, rfl, by decide +kernel, rfl, by decide +kernel, by decide +kernel⟩
abbrev s_standing_of : Stmt := top 31
abbrev N_standing_of : List Str := ["book", "history", "states", "entry"]
theorem sc_standing_of : FnScope N_standing_of ["book", "history"] (defScope s_standing_of) := ⟨rfl, rfl, rfl, by decide +kernel, rfl, by decide +kernel, by decide +kernel⟩
abbrev s_is_right : Stmt := top 32
abbrev N_is_right : List Str := ["book", "history"]
theorem sc_is_right : FnScope N_is_right ["book", "history"] (defScope s_is_right) := ⟨rfl, rfl, rfl, by decide +kernel, rfl, by decide +kernel, by decide +kernel⟩
abbrev s_law_mix : Stmt := top 34
abbrev N_law_mix : List Str := ["_law_number", "_law_turn", "_law_once", "_law_twice"]
theorem sc_law_mix : FnScope N_law_mix ["_law_number", "_law_turn"] (defScope s_law_mix) := ⟨rfl, rfl, rfl, by decide +kernel, rfl, by decide +kernel, by decide +kernel⟩
abbrev s_law_hand : Stmt := top 35
abbrev N_law_hand : List Str := ["_law_script", "_law_total", "_law_k", "_law_cell"]
theorem sc_law_hand : FnScope N_law_hand ["_law_script"] (defScope s_law_hand) := ⟨rfl, rfl, rfl, by decide +kernel, rfl, by decide +kernel, by decide +kernel⟩
abbrev s_law_draw : Stmt := top 36
abbrev N_law_draw : List Str := ["_law_hand_here", "_law_many", "_law_cell", "_law_rest"]
theorem sc_law_draw : FnScope N_law_draw ["_law_hand_here", "_law_many"] (defScope s_law_draw) := ⟨rfl, rfl, rfl, by decide +kernel, rfl, by decide +kernel, by decide +kernel⟩
abbrev s_law_exact : Stmt := top 37
abbrev N_law_exact : List Str := ["_law_told", "_law_due", "_law_k"]
theorem sc_law_exact : FnScope N_law_exact ["_law_told", "_law_due"] (defScope s_law_exact) := ⟨rfl, rfl, rfl, by decide +kernel, rfl, by decide +kernel, by decide +kernel⟩
abbrev s_law_ways : Stmt := top 38
abbrev N_law_ways : List Str := ["_law_rows", "_law_kept", "_law_way"]
theorem sc_law_ways : FnScope N_law_ways ["_law_rows"] (defScope s_law_ways) := ⟨rfl, rfl, rfl, by decide +kernel, rfl, by decide +kernel, by decide +kernel⟩
abbrev s_law_flat : Stmt := top 39
abbrev N_law_flat : List Str := ["_law_hand_here", "_law_states", "_law_calls", "_law_answers", "_law_rows", "_law_state", "_law_call"]
theorem sc_law_flat : FnScope N_law_flat ["_law_hand_here", "_law_states", "_law_calls", "_law_answers"] (defScope s_law_flat) := ⟨rfl, rfl, rfl, by decide +kernel, rfl, by decide +kernel, by decide +kernel⟩
abbrev s_law_onward : Stmt := top 40
abbrev N_law_onward : List Str := ["_law_ways_here", "_law_standing", "_law_call", "_law_answer", "_law_found", "_law_way"]
theorem sc_law_onward : FnScope N_law_onward ["_law_ways_here", "_law_standing", "_law_call", "_law_answer"] (defScope s_law_onward) := ⟨rfl, rfl, rfl, by decide +kernel, rfl, by decide +kernel, by decide +kernel⟩
abbrev s_law_stand : Stmt := top 41
abbrev N_law_stand : List Str := ["_law_ways_here", "_law_standing", "_law_trail", "_law_call", "_law_answer"]
theorem sc_law_stand : FnScope N_law_stand ["_law_ways_here", "_law_standing", "_law_trail"] (defScope s_law_stand) := ⟨rfl, rfl, rfl, by decide +kernel, rfl, by decide +kernel, by decide +kernel⟩
abbrev s_law_lets : Stmt := top 42
abbrev N_law_lets : List Str := ["_law_ways_here", "_law_standing", "_law_call", "_law_answer"]
theorem sc_law_lets : FnScope N_law_lets ["_law_ways_here", "_law_standing", "_law_call"] (defScope s_law_lets) := ⟨rfl, rfl, rfl, by decide +kernel, rfl, by decide +kernel, by decide +kernel⟩
abbrev s_law_past : Stmt := top 43
abbrev N_law_past : List Str := ["_law_hand_here", "_law_calls", "_law_ways_here", "_law_most", "_law_past_here", "_law_standing", "_law_turn", "_law_call", "_law_lets_here", "_law_answer"]
theorem sc_law_past : FnScope N_law_past ["_law_hand_here", "_law_calls", "_law_ways_here", "_law_most"] (defScope s_law_past) := ⟨rfl, rfl, rfl, by decide +kernel, rfl, by decide +kernel, by decide +kernel⟩
abbrev s_law_large : Stmt := top 44
abbrev N_law_large : List Str := ["_law_hand_here"]
theorem sc_law_large : FnScope N_law_large ["_law_hand_here"] (defScope s_law_large) := ⟨rfl, rfl, rfl, by decide +kernel, rfl, by decide +kernel, by decide +kernel⟩
abbrev s_law_whole : Stmt := top 45
abbrev N_law_whole : List Str := ["_law_thing", "_law_low", "_law_high"]
theorem sc_law_whole : FnScope N_law_whole ["_law_thing", "_law_low", "_law_high"] (defScope s_law_whole) := ⟨rfl, rfl, rfl, by decide +kernel, rfl, by decide +kernel, by decide +kernel⟩
abbrev s_law_row : Stmt := top 46
abbrev N_law_row : List Str := ["_law_thing"]
theorem sc_law_row : FnScope N_law_row ["_law_thing"] (defScope s_law_row) := ⟨rfl, rfl, rfl, by decide +kernel, rfl, by decide +kernel, by decide +kernel⟩
abbrev s_law_large_book : Stmt := top 47
abbrev N_law_large_book : List Str := ["_law_hand_here", "_law_states", "_law_calls", "_law_rows", "_law_gap", "_law_k", "_law_rest", "_law_turn", "_law_state"]
theorem sc_law_large_book : FnScope N_law_large_book ["_law_hand_here"] (defScope s_law_large_book) := ⟨rfl, rfl, rfl, by decide +kernel, rfl, by decide +kernel, by decide +kernel⟩
abbrev s_law_entries : Stmt := top 48
abbrev N_law_entries : List Str := ["_law_hand_here", "_law_calls", "_law_most", "_law_rows", "_law_turn"]
theorem sc_law_entries : FnScope N_law_entries ["_law_hand_here", "_law_calls", "_law_most"] (defScope s_law_entries) := ⟨rfl, rfl, rfl, by decide +kernel, rfl, by decide +kernel, by decide +kernel⟩
abbrev s_law_couple_ways : Stmt := top 49
abbrev N_law_couple_ways : List Str := ["_law_one", "_law_calls", "_law_ways_here", "_law_other", "_law_more", "_law_others", "_law_rows", "_law_state", "_law_call", "_law_answer", "_law_after", "_law_rest"]
theorem sc_law_couple_ways : FnScope N_law_couple_ways ["_law_one", "_law_calls", "_law_ways_here", "_law_other", "_law_more", "_law_others"] (defScope s_law_couple_ways) := ⟨rfl, rfl, rfl, by decide +kernel, rfl, by decide +kernel, by decide +kernel⟩
abbrev s_law_small_book : Stmt := top 50
abbrev N_law_small_book : List Str := ["_law_hand_here", "_law_most", "_law_calls", "_law_states", "_law_rows", "_law_turn", "_law_state"]
theorem sc_law_small_book : FnScope N_law_small_book ["_law_hand_here", "_law_most", "_law_calls"] (defScope s_law_small_book) := ⟨rfl, rfl, rfl, by decide +kernel, rfl, by decide +kernel, by decide +kernel⟩
abbrev s_law_two_books : Stmt := top 51
abbrev N_law_two_books : List Str := ["_law_hand_here", "_law_calls", "_law_more", "_law_one"]
theorem sc_law_two_books : FnScope N_law_two_books ["_law_hand_here"] (defScope s_law_two_books) := ⟨rfl, rfl, rfl, by decide +kernel, rfl, by decide +kernel, by decide +kernel⟩
abbrev s_law_checked : Stmt := top 52
abbrev N_law_checked : List Str := ["_law_book", "_law_rows", "e"]
theorem sc_law_checked : FnScope N_law_checked ["_law_book", "_law_rows"] (defScope s_law_checked) := ⟨rfl, rfl, rfl, by decide +kernel, rfl, by decide +kernel, by decide +kernel⟩
abbrev s_law_due_check : Stmt := top 53
abbrev N_law_due_check : List Str := ["_law_calls", "_law_rows", "_law_k", "_law_one"]
theorem sc_law_due_check : FnScope N_law_due_check ["_law_calls", "_law_rows"] (defScope s_law_due_check) := ⟨rfl, rfl, rfl, by decide +kernel, rfl, by decide +kernel, by decide +kernel⟩
abbrev s_law_same : Stmt := top 54
abbrev N_law_same : List Str := ["_law_told", "_law_due"]
theorem sc_law_same : FnScope N_law_same ["_law_told", "_law_due"] (defScope s_law_same) := ⟨rfl, rfl, rfl, by decide +kernel, rfl, by decide +kernel, by decide +kernel⟩
abbrev s_law_odd_entry : Stmt := top 55
abbrev N_law_odd_entry : List Str := ["_law_hand_here", "_law_calls", "_law_good", "_law_which", "_law_at", "_law_high", "_law_odd"]
theorem sc_law_odd_entry : FnScope N_law_odd_entry ["_law_hand_here", "_law_calls"] (defScope s_law_odd_entry) := ⟨rfl, rfl, rfl, by decide +kernel, rfl, by decide +kernel, by decide +kernel⟩
abbrev s_law_spoilt_history : Stmt := top 56
abbrev N_law_spoilt_history : List Str := ["_law_hand_here", "_law_calls", "_law_rows", "_law_which", "_law_at", "_law_long"]
theorem sc_law_spoilt_history : FnScope N_law_spoilt_history ["_law_hand_here", "_law_calls", "_law_rows"] (defScope s_law_spoilt_history) := ⟨rfl, rfl, rfl, by decide +kernel, rfl, by decide +kernel, by decide +kernel⟩
abbrev s_law_parts_told : Stmt := top 57
abbrev N_law_parts_told : List Str := ["_law_rows", "_law_there", "_law_k", "_law_one"]
theorem sc_law_parts_told : FnScope N_law_parts_told ["_law_rows"] (defScope s_law_parts_told) := ⟨rfl, rfl, rfl, by decide +kernel, rfl, by decide +kernel, by decide +kernel⟩
abbrev s_law_beside : Stmt := top 58
abbrev N_law_beside : List Str := ["_law_one", "_law_other", "_law_both", "e"]
theorem sc_law_beside : FnScope N_law_beside ["_law_one", "_law_other"] (defScope s_law_beside) := ⟨rfl, rfl, rfl, by decide +kernel, rfl, by decide +kernel, by decide +kernel⟩
abbrev s_law_beside_refused : Stmt := top 59
abbrev N_law_beside_refused : List Str := ["_law_one", "_law_other", "_law_rows", "e"]
theorem sc_law_beside_refused : FnScope N_law_beside_refused ["_law_one", "_law_other", "_law_rows"] (defScope s_law_beside_refused) := ⟨rfl, rfl, rfl, by decide +kernel, rfl, by decide +kernel, by decide +kernel⟩
abbrev s_law_beside_due : Stmt := top 60
abbrev N_law_beside_due : List Str := ["_law_first", "_law_second", "_law_ways_here"]
theorem sc_law_beside_due : FnScope N_law_beside_due ["_law_first", "_law_second"] (defScope s_law_beside_due) := ⟨rfl, rfl, rfl, by decide +kernel, rfl, by decide +kernel, by decide +kernel⟩
abbrev s_law_parting : Stmt := top 61
abbrev N_law_parting : List Str := ["_law_hand_here", "_law_one", "_law_other", "_law_first", "_law_second", "_law_due", "_law_both", "_law_rows", "_law_ahead", "_law_behind", "_law_told", "_law_left", "_law_right", "_law_due_both", "_law_entry"]
theorem sc_law_parting : FnScope N_law_parting ["_law_hand_here", "_law_one", "_law_other", "_law_first", "_law_second", "_law_due"] (defScope s_law_parting) := ⟨rfl, rfl, rfl, by decide +kernel, rfl, by decide +kernel, by decide +kernel⟩
abbrev s_law : Stmt := top 62
abbrev N_law : List Str := ["_law_script", "_law_hand_here", "_law_first", "_law_second", "_law_one", "_law_other", "_law_rows", "_law_given", "_law_turn", "_law_odd", "_law_due", "_law_told", "_law_bad", "_law_entry"]
theorem sc_law : FnScope N_law ["_law_script"] (defScope s_law) := ⟨rfl, rfl, rfl, by decide +kernel, rfl, by decide +kernel, by decide +kernel⟩
abbrev s_BadBook___init__ : Stmt := inClass (top 3) 0
abbrev N_BadBook___init__ : List Str := ["self", "what"]
theorem sc_BadBook___init__ : FnScope N_BadBook___init__ ["self", "what"] (defScope s_BadBook___init__) := ⟨rfl, rfl, rfl, by decide +kernel, rfl, by decide +kernel, by decide +kernel⟩
abbrev s_BadHistory___init__ : Stmt := inClass (top 4) 0
abbrev N_BadHistory___init__ : List Str := ["self", "index"]
theorem sc_BadHistory___init__ : FnScope N_BadHistory___init__ ["self", "index"] (defScope s_BadHistory___init__) := ⟨rfl, rfl, rfl, by decide +kernel, rfl, by decide +kernel, by decide +kernel⟩
abbrev s_TooMany___init__ : Stmt := inClass (top 5) 0
abbrev N_TooMany___init__ : List Str := ["self", "most"]
theorem sc_TooMany___init__ : FnScope N_TooMany___init__ ["self", "most"] (defScope s_TooMany___init__) := ⟨rfl, rfl, rfl, by decide +kernel, rfl, by decide +kernel, by decide +kernel⟩
section
variable {P : Program} {w : World} {K : PySem.W.Frag} {mg : Str → Option Value} {base : Heap} {cs : Cs}
theorem fn_BadBook___init__ {f : Addr} {fd : FuncData} (Fn : FunG K "__init__" "BadBook.__init__" s_BadBook___init__ [] f fd) (O : OexC K cs.BadBook) (n0 : PySem.W.findIn K (.ref cs.BadBook) "what" = some none) : FnOk P w K mg base (L2.CX P w) 1 f fd ["self", "what"] (spX cs.BadBook ["what"]) :=
  FunD.ok Fn sc_BadBook___init__ (fun vs H Q E h => spX_len h) (fun cdv A outer s H vs Q E hr h => ⟨_, pss_one (ps_ost (pv 0) (pv 1)), x1_ok O n0 h⟩)
theorem fn_BadHistory___init__ {f : Addr} {fd : FuncData} (Fn : FunG K "__init__" "BadHistory.__init__" s_BadHistory___init__ [] f fd) (O : OexC K cs.BadHistory) (n0 : PySem.W.findIn K (.ref cs.BadHistory) "index" = some none) : FnOk P w K mg base (L2.CX P w) 1 f fd ["self", "index"] (spX cs.BadHistory ["index"]) :=
  FunD.ok Fn sc_BadHistory___init__ (fun vs H Q E h => spX_len h) (fun cdv A outer s H vs Q E hr h => ⟨_, pss_one (ps_ost (pv 0) (pv 1)), x1_ok O n0 h⟩)
theorem fn_TooMany___init__ {f : Addr} {fd : FuncData} (Fn : FunG K "__init__" "TooMany.__init__" s_TooMany___init__ [] f fd) (O : OexC K cs.TooMany) (n0 : PySem.W.findIn K (.ref cs.TooMany) "most" = some none) : FnOk P w K mg base (L2.CX P w) 1 f fd ["self", "most"] (spX cs.TooMany ["most"]) :=
  FunD.ok Fn sc_TooMany___init__ (fun vs H Q E h => spX_len h) (fun cdv A outer s H vs Q E hr h => ⟨_, pss_one (ps_ost (pv 0) (pv 1)), x1_ok O n0 h⟩)
theorem fn_is_whole {f : Addr} {fd : FuncData} {dvs : List V} (Fn : FunG K "is_whole" "is_whole" s_is_whole dvs f fd) (T : Txt K mg cs) : FnOk P w K mg base (L2.CX P w) 1 f fd ["thing", "low", "high"] (spF K 3 (mf_is_whole cs)) :=
  fn_of' N_is_whole ["thing", "low", "high"] 3 3 (m_is_whole cs) rfl rfl Fn sc_is_whole fun cdv A outer s H E hr => by
  have h : JB (cxOf (L2.CX P w) P w K mg base N_is_whole "is_whole" (defScope s_is_whole) f cdv A outer s H E) 3 (fun cls d _ H => E cls d H) (defBody s_is_whole) _ := jb_one (jst_ret (js_and (js_isi (jo_n 0 (pv 0)) (bt_name .int T.int (by decide +kernel)) T.isinstance) (js_and (js_not (js_isi (jo_n 0 (pv 0)) (bt_name .bool T.bool (by decide +kernel)) T.isinstance)) (js_one (js_chain op_le f2_le op_le f2_le (jo_n 1 (pv 1)) (jo_n 0 (pv 0)) (jo_n 2 (pv 2)))))))
  exact h
theorem fn_is_sequence {f : Addr} {fd : FuncData} {dvs : List V} (Fn : FunG K "is_sequence" "is_sequence" s_is_sequence dvs f fd) (T : Txt K mg cs) : FnOk P w K mg base (L2.CX P w) 1 f fd ["thing"] (spF K 1 (mf_is_sequence cs)) :=
  fn_of' N_is_sequence ["thing"] 1 1 (m_is_sequence cs) rfl rfl Fn sc_is_sequence fun cdv A outer s H E hr => by
  have h : JB (cxOf (L2.CX P w) P w K mg base N_is_sequence "is_sequence" (defScope s_is_sequence) f cdv A outer s H E) 1 (fun cls d _ H => E cls d H) (defBody s_is_sequence) _ := jb_one (jst_ret (js_isiT (jo_n 0 (pv 0)) (bt_name .list T.list (by decide +kernel)) (bt_name .tuple T.tuple (by decide +kernel)) T.isinstance))
  exact h
theorem fn_is_way {f : Addr} {fd : FuncData} {dvs : List V} (Fn : FunG K "_is_way" "_is_way" s_is_way dvs f fd) (T : Txt K mg cs) (X_is_sequence : FX P w K mg base 1 "is_sequence" ["thing"] (mf_is_sequence cs)) (X_is_whole : FX P w K mg base 1 "is_whole" ["thing", "low", "high"] (mf_is_whole cs)) : FnOk P w K mg base (L2.CX P w) 2 f fd ["thing", "states", "calls"] (spF K 3 (mf_is_way cs)) :=
  fn_of' N_is_way ["thing", "states", "calls"] 7 3 (m_is_way cs) rfl rfl Fn sc_is_way fun cdv A outer s H E hr => by
  have h : JB (cxOf (L2.CX P w) P w K mg base N_is_way "_is_way" (defScope s_is_way) f cdv A outer s H E) 3 (fun cls d _ H => E cls d H) (defBody s_is_way) _ := jb_cons (jst_if (jt_w (jw_or (jt_not (jt_val (js_callX (takes_of rfl rfl rfl rfl) X_is_sequence (hr.mono (by decide)) (jao_cons (jo_s (js_n 0 (pv 0))) (jao_nil)) (lenO_cons lenO_nil)))) (jw_or1 (jt_cmp (op_neD (hu64 hr)) f2_ne (jo_s (js_b1 cr_lenU f1_lenU (jo_n 0 (pv 0)) T.len (by decide +kernel))) (jo_s (js_int)) (nomark _))))) (jb_one (jst_ret (js_bl))) (jb_nil)) (jb_cons (jst_tgt (je_s (js_n 0 (pv 0))) (jg_seq (n := 4) rfl (jgs_cons (jg_n (i := 3) sc_is_way.nd) (jgs_cons (jg_n (i := 4) sc_is_way.nd) (jgs_cons (jg_n (i := 5) sc_is_way.nd) (jgs_cons (jg_n (i := 6) sc_is_way.nd) (jgs_nil))))))) (jb_cons (jst_if (jt_w (jw_or (jt_not (jt_val (js_callX (takes_of rfl rfl rfl rfl) X_is_whole (hr.mono (by decide)) (jao_cons (jo_s (js_n 3 (pv 3))) (jao_cons (jo_s (js_int)) (jao_cons (jo_s (js_op op_sub f2_sub (jo_n 1 (pv 1)) (jo_s (js_int)))) (jao_nil)))) (lenO_cons (lenO_cons (lenO_cons lenO_nil)))))) (jw_or1 (jt_not (jt_val (js_callX (takes_of rfl rfl rfl rfl) X_is_whole (hr.mono (by decide)) (jao_cons (jo_s (js_n 4 (pv 4))) (jao_cons (jo_s (js_int)) (jao_cons (jo_s (js_op op_sub f2_sub (jo_n 2 (pv 2)) (jo_s (js_int)))) (jao_nil)))) (lenO_cons (lenO_cons (lenO_cons lenO_nil))))))))) (jb_one (jst_ret (js_bl))) (jb_nil)) (jb_one (jst_ret (js_and (js_callX (takes_of rfl rfl rfl rfl) X_is_whole (hr.mono (by decide)) (jao_cons (jo_s (js_n 5 (pv 5))) (jao_cons (jo_s (js_int)) (jao_cons (jo_s (js_op op_sub f2_sub (jo_s (js_gint T.g_MOST_ANSWERS)) (jo_s (js_int)))) (jao_nil)))) (lenO_cons (lenO_cons (lenO_cons lenO_nil)))) (js_one (js_callX (takes_of rfl rfl rfl rfl) X_is_whole (hr.mono (by decide)) (jao_cons (jo_s (js_n 6 (pv 6))) (jao_cons (jo_s (js_int)) (jao_cons (jo_s (js_op op_sub f2_sub (jo_n 1 (pv 1)) (jo_s (js_int)))) (jao_nil)))) (lenO_cons (lenO_cons (lenO_cons lenO_nil))))))))))
  exact h
theorem fn_check_ways {f : Addr} {fd : FuncData} {dvs : List V} (Fn : FunG K "_check_ways" "_check_ways" s_check_ways dvs f fd) (T : Txt K mg cs) (X_is_sequence : FX P w K mg base 1 "is_sequence" ["thing"] (mf_is_sequence cs)) (OX_BadBook : OX P w K mg base 1 "BadBook" cs.BadBook ["what"]) (X_is_way : FX P w K mg base 2 "_is_way" ["thing", "states", "calls"] (mf_is_way cs)) : FnOk P w K mg base (L2.CX P w) 3 f fd ["states", "calls", "ways"] (spF K 3 (mf_check_ways cs)) :=
  fn_of' N_check_ways ["states", "calls", "ways"] 7 3 (m_check_ways cs) rfl rfl Fn sc_check_ways fun cdv A outer s H E hr => by
  have h : JB (cxOf (L2.CX P w) P w K mg base N_check_ways "_check_ways" (defScope s_check_ways) f cdv A outer s H E) 3 (fun cls d _ H => E cls d H) (defBody s_check_ways) _ := jb_cons (jst_if (jt_w (jw_or (jt_not (jt_val (js_callX (takes_of rfl rfl rfl rfl) X_is_sequence (hr.mono (by decide)) (jao_cons (jo_s (js_n 2 (pv 2))) (jao_nil)) (lenO_cons lenO_nil)))) (jw_or1 (jt_cmp op_gt f2_gt (jo_s (js_b1 cr_lenU f1_lenU (jo_n 2 (pv 2)) T.len (by decide +kernel))) (jo_s (js_gint T.g_MOST_WAYS)) (nomark _))))) (jb_one (jst_raiseX rfl (takes_of rfl rfl rfl rfl) OX_BadBook (hr.mono (by decide)) (ja_cons (je_s (js_str)) (ja_nil)) (by decide))) (jb_nil)) (jb_cons (jst_for (passes_of rfl) rfl (ji_seq (je_s (js_n 2 (pv 2)))) (jg_n (i := 3) sc_check_ways.nd) (jb_one (jst_if (jt_not (jt_val (js_callX (takes_of rfl rfl rfl rfl) X_is_way (hr.mono (by decide)) (jao_cons (jo_s (js_n 3 (pv 3))) (jao_cons (jo_s (js_n 0 (pv 0))) (jao_cons (jo_s (js_n 1 (pv 1))) (jao_nil)))) (lenO_cons (lenO_cons (lenO_cons lenO_nil)))))) (jb_one (jst_raiseX rfl (takes_of rfl rfl rfl rfl) OX_BadBook (hr.mono (by decide)) (ja_cons (je_s (js_str)) (ja_nil)) (by decide))) (jb_nil)))) (jb_cons (jst_set (i := 4) sc_check_ways.nd (js_b1 (cr_sortedV (hu100 hr)) f1_sorted (jo_s (js_comp (own := [("way", 3)]) rfl sc_check_ways.nd (ji_seq (je_s (js_n 2 (pv 2)))) (blkOk_by (own := [("way", 3)]) (N := N_check_ways) (sc := defScope s_check_ways) (by decide +kernel)) (fun _ _ _ _ _ => jg_n (i := 3) sc_check_ways.nd) (fun _ _ _ _ _ => jts_nil) (fun _ _ _ _ _ => je_s (js_t1 call_tuple_of f1_tuple (jo_n 3 (pv 3)) T.tuple (by decide +kernel))))) T.sorted (by decide +kernel))) (jb_cons (jst_for (passes_of rfl) rfl (ji_range2 T.range (je_s (js_int)) (je_s (js_b1 cr_lenU f1_lenU (jo_n 4 (pv 4)) T.len (by decide +kernel)))) (jg_n (i := 5) sc_check_ways.nd) (jb_one (jst_if (jt_cmp (op_eqD (hu64 hr)) f2_eq (jo_s (js_ix ix_seq f2_ix (jo_n 4 (pv 4)) (jo_s (js_op op_sub f2_sub (jo_n 5 (pv 5)) (jo_s (js_int)))))) (jo_s (js_ix ix_seq f2_ix (jo_n 4 (pv 4)) (jo_n 5 (pv 5)))) (nomark _)) (jb_one (jst_raiseX rfl (takes_of rfl rfl rfl rfl) OX_BadBook (hr.mono (by decide)) (ja_cons (je_s (js_str)) (ja_nil)) (by decide))) (jb_nil)))) (jb_cons (jst_dct (i := 6) (own := [("way", 3)]) (hu0 hr) rfl sc_check_ways.nd (sw_trueD rfl rfl rfl (by decide +kernel)) (ji_seq (je_s (js_n 4 (pv 4)))) (blkOk_by (own := [("way", 3)]) (N := N_check_ways) (sc := defScope s_check_ways) (by decide +kernel)) (fun _ _ _ _ _ => jg_n (i := 3) sc_check_ways.nd) (fun _ _ _ _ _ => jts_nil) (fun _ _ _ _ _ => je_s (js_tup (ja_cons (je_s (js_ix ix_seq f2_ix (jo_n 3 (pv 3)) (jo_s (js_int)))) (ja_cons (je_s (js_ix ix_seq f2_ix (jo_n 3 (pv 3)) (jo_s (js_int)))) (ja_nil))))) (fun _ _ _ _ _ => je_s (js_bl))) (jb_cons (jst_if (jt_cmp op_lt f2_lt (jo_s (js_b1 cr_lenU f1_lenU (jo_n 6 (pv 6)) T.len (by decide +kernel))) (jo_s (js_op op_mul2 f2_mul2 (jo_n 0 (pv 0)) (jo_n 1 (pv 1)))) (nomark _)) (jb_one (jst_raiseX rfl (takes_of rfl rfl rfl rfl) OX_BadBook (hr.mono (by decide)) (ja_cons (je_s (js_str)) (ja_nil)) (by decide))) (jb_nil)) (jb_one (jst_ret (js_t1 call_tuple_of f1_tuple (jo_n 4 (pv 4)) T.tuple (by decide +kernel)))))))))
  exact h
theorem fn_Book___init__ {f : Addr} {fd : FuncData} {dvs : List V} (Fn : FunG K "__init__" "Book.__init__" s_Book___init__ dvs f fd) (T : Txt K mg cs) (X_is_whole : FX P w K mg base 1 "is_whole" ["thing", "low", "high"] (mf_is_whole cs)) (OX_BadBook : OX P w K mg base 1 "BadBook" cs.BadBook ["what"]) (X_check_ways : FX P w K mg base 3 "_check_ways" ["states", "calls", "ways"] (mf_check_ways cs)) : FnOk P w K mg base (L2.CX P w) 4 f fd ["self", "states", "calls", "ways"] (spF K 4 (mf_Book___init__ cs)) :=
  fn_of' N_Book___init__ ["self", "states", "calls", "ways"] 4 4 (m_Book___init__ cs) rfl rfl Fn sc_Book___init__ fun cdv A outer s H E hr => by
  have h : JB (cxOf (L2.CX P w) P w K mg base N_Book___init__ "Book.__init__" (defScope s_Book___init__) f cdv A outer s H E) 4 (fun cls d _ H => E cls d H) (defBody s_Book___init__) _ := jb_cons (jst_if (jt_not (jt_val (js_callX (takes_of rfl rfl rfl rfl) X_is_whole (hr.mono (by decide)) (jao_cons (jo_s (js_n 1 (pv 1))) (jao_cons (jo_s (js_int)) (jao_cons (jo_s (js_gint T.g_MOST_STATES)) (jao_nil)))) (lenO_cons (lenO_cons (lenO_cons lenO_nil)))))) (jb_one (jst_raiseX rfl (takes_of rfl rfl rfl rfl) OX_BadBook (hr.mono (by decide)) (ja_cons (je_s (js_str)) (ja_nil)) (by decide))) (jb_nil)) (jb_cons (jst_if (jt_not (jt_val (js_callX (takes_of rfl rfl rfl rfl) X_is_whole (hr.mono (by decide)) (jao_cons (jo_s (js_n 2 (pv 2))) (jao_cons (jo_s (js_int)) (jao_cons (jo_s (js_gint T.g_MOST_CALLS)) (jao_nil)))) (lenO_cons (lenO_cons (lenO_cons lenO_nil)))))) (jb_one (jst_raiseX rfl (takes_of rfl rfl rfl rfl) OX_BadBook (hr.mono (by decide)) (ja_cons (je_s (js_str)) (ja_nil)) (by decide))) (jb_nil)) (jb_cons (jst_fld 0 T.c_Book T.n_Book_states (pv 0) (je_s (js_n 1 (pv 1)))) (jb_cons (jst_fld 0 T.c_Book T.n_Book_calls (pv 0) (je_s (js_n 2 (pv 2)))) (jb_one (jst_fld 0 T.c_Book T.n_Book_ways (pv 0) (je_s (js_callX (takes_of rfl rfl rfl rfl) X_check_ways (hr.mono (by decide)) (jao_cons (jo_s (js_n 1 (pv 1))) (jao_cons (jo_s (js_n 2 (pv 2))) (jao_cons (jo_s (js_n 3 (pv 3))) (jao_nil)))) (lenO_cons (lenO_cons (lenO_cons lenO_nil))))))))))
  exact h
theorem fn_is_entry {f : Addr} {fd : FuncData} {dvs : List V} (Fn : FunG K "is_entry" "is_entry" s_is_entry dvs f fd) (T : Txt K mg cs) (X_is_sequence : FX P w K mg base 1 "is_sequence" ["thing"] (mf_is_sequence cs)) (X_is_whole : FX P w K mg base 1 "is_whole" ["thing", "low", "high"] (mf_is_whole cs)) : FnOk P w K mg base (L2.CX P w) 2 f fd ["book", "thing"] (spF K 2 (mf_is_entry cs)) :=
  fn_of' N_is_entry ["book", "thing"] 2 2 (m_is_entry cs) rfl rfl Fn sc_is_entry fun cdv A outer s H E hr => by
  have h : JB (cxOf (L2.CX P w) P w K mg base N_is_entry "is_entry" (defScope s_is_entry) f cdv A outer s H E) 2 (fun cls d _ H => E cls d H) (defBody s_is_entry) _ := jb_cons (jst_if (jt_w (jw_or (jt_not (jt_val (js_callX (takes_of rfl rfl rfl rfl) X_is_sequence (hr.mono (by decide)) (jao_cons (jo_s (js_n 1 (pv 1))) (jao_nil)) (lenO_cons lenO_nil)))) (jw_or1 (jt_cmp (op_neD (hu64 hr)) f2_ne (jo_s (js_b1 cr_lenU f1_lenU (jo_n 1 (pv 1)) T.len (by decide +kernel))) (jo_s (js_int)) (nomark _))))) (jb_one (jst_ret (js_bl))) (jb_nil)) (jb_cons (jst_if (jt_w (jw_or (jt_not (jt_val (js_callX (takes_of rfl rfl rfl rfl) X_is_whole (hr.mono (by decide)) (jao_cons (jo_s (js_ix ix_seq f2_ix (jo_n 1 (pv 1)) (jo_s (js_int)))) (jao_cons (jo_s (js_int)) (jao_cons (jo_s (js_gint T.g_MOST_HAND)) (jao_nil)))) (lenO_cons (lenO_cons (lenO_cons lenO_nil)))))) (jw_or1 (jt_not (jt_val (js_callX (takes_of rfl rfl rfl rfl) X_is_whole (hr.mono (by decide)) (jao_cons (jo_s (js_ix ix_seq f2_ix (jo_n 1 (pv 1)) (jo_s (js_int)))) (jao_cons (jo_s (js_int)) (jao_cons (jo_s (js_op op_sub f2_sub (jo_s (js_fld T.c_Book T.n_Book_calls (jo_n 0 (pv 0)))) (jo_s (js_int)))) (jao_nil)))) (lenO_cons (lenO_cons (lenO_cons lenO_nil))))))))) (jb_one (jst_ret (js_bl))) (jb_nil)) (jb_one (jst_ret (js_callX (takes_of rfl rfl rfl rfl) X_is_whole (hr.mono (by decide)) (jao_cons (jo_s (js_ix ix_seq f2_ix (jo_n 1 (pv 1)) (jo_s (js_int)))) (jao_cons (jo_s (js_int)) (jao_cons (jo_s (js_op op_sub f2_sub (jo_s (js_gint T.g_MOST_ANSWERS)) (jo_s (js_int)))) (jao_nil)))) (lenO_cons (lenO_cons (lenO_cons lenO_nil)))))))
  exact h
theorem fn_check_history {f : Addr} {fd : FuncData} {dvs : List V} (Fn : FunG K "check_history" "check_history" s_check_history dvs f fd) (T : Txt K mg cs) (X_is_sequence : FX P w K mg base 1 "is_sequence" ["thing"] (mf_is_sequence cs)) (OX_BadHistory : OX P w K mg base 1 "BadHistory" cs.BadHistory ["index"]) (X_is_entry : FX P w K mg base 2 "is_entry" ["book", "thing"] (mf_is_entry cs)) : FnOk P w K mg base (L2.CX P w) 3 f fd ["book", "history"] (spF K 2 (mf_check_history cs)) :=
  fn_of' N_check_history ["book", "history"] 4 2 (m_check_history cs) rfl rfl Fn sc_check_history fun cdv A outer s H E hr => by
  have h : JB (cxOf (L2.CX P w) P w K mg base N_check_history "check_history" (defScope s_check_history) f cdv A outer s H E) 2 (fun cls d _ H => E cls d H) (defBody s_check_history) _ := jb_cons (jst_if (jt_not (jt_val (js_callX (takes_of rfl rfl rfl rfl) X_is_sequence (hr.mono (by decide)) (jao_cons (jo_s (js_n 1 (pv 1))) (jao_nil)) (lenO_cons lenO_nil)))) (jb_one (jst_raiseX rfl (takes_of rfl rfl rfl rfl) OX_BadHistory (hr.mono (by decide)) (ja_cons (je_s (js_int)) (ja_nil)) (by decide))) (jb_nil)) (jb_cons (jst_if (jt_cmp op_gt f2_gt (jo_s (js_b1 cr_lenU f1_lenU (jo_n 1 (pv 1)) T.len (by decide +kernel))) (jo_s (js_gint T.g_MOST_ENTRIES)) (nomark _)) (jb_one (jst_raiseX rfl (takes_of rfl rfl rfl rfl) OX_BadHistory (hr.mono (by decide)) (ja_cons (je_s (js_b1 cr_lenU f1_lenU (jo_n 1 (pv 1)) T.len (by decide +kernel))) (ja_nil)) (by decide))) (jb_nil)) (jb_cons (jst_for (passes_of rfl) rfl (ji_enum2 T.enumerate (je_s (js_n 1 (pv 1)))) (jg_seq (n := 2) rfl (jgs_cons (jg_n (i := 2) sc_check_history.nd) (jgs_cons (jg_n (i := 3) sc_check_history.nd) (jgs_nil)))) (jb_one (jst_if (jt_not (jt_val (js_callX (takes_of rfl rfl rfl rfl) X_is_entry (hr.mono (by decide)) (jao_cons (jo_s (js_n 0 (pv 0))) (jao_cons (jo_s (js_n 3 (pv 3))) (jao_nil))) (lenO_cons (lenO_cons lenO_nil))))) (jb_one (jst_raiseX rfl (takes_of rfl rfl rfl rfl) OX_BadHistory (hr.mono (by decide)) (ja_cons (je_s (js_n 2 (pv 2))) (ja_nil)) (by decide))) (jb_nil)))) (jb_one (jst_ret (js_t1 call_tuple_of f1_tuple (jo_s (js_comp (own := [("entry", 3)]) rfl sc_check_history.nd (ji_seq (je_s (js_n 1 (pv 1)))) (blkOk_by (own := [("entry", 3)]) (N := N_check_history) (sc := defScope s_check_history) (by decide +kernel)) (fun _ _ _ _ _ => jg_n (i := 3) sc_check_history.nd) (fun _ _ _ _ _ => jts_nil) (fun _ _ _ _ _ => je_s (js_t1 call_tuple_of f1_tuple (jo_n 3 (pv 3)) T.tuple (by decide +kernel))))) T.tuple (by decide +kernel))))))
  exact h
theorem fn_calls_of {f : Addr} {fd : FuncData} {dvs : List V} (Fn : FunG K "calls_of" "calls_of" s_calls_of dvs f fd) (T : Txt K mg cs) : FnOk P w K mg base (L2.CX P w) 1 f fd ["history"] (spF K 1 (mf_calls_of cs)) :=
  fn_of' N_calls_of ["history"] 4 1 (m_calls_of cs) rfl rfl Fn sc_calls_of fun cdv A outer s H E hr => by
  have h : JB (cxOf (L2.CX P w) P w K mg base N_calls_of "calls_of" (defScope s_calls_of) f cdv A outer s H E) 1 (fun cls d _ H => E cls d H) (defBody s_calls_of) _ := jb_one (jst_ret (js_t1 call_tuple_of f1_tuple (jo_s (js_comp (own := [("hand", 1), ("call", 2), ("answer", 3)]) rfl sc_calls_of.nd (ji_seq (je_s (js_n 0 (pv 0)))) (blkOk_by (own := [("hand", 1), ("call", 2), ("answer", 3)]) (N := N_calls_of) (sc := defScope s_calls_of) (by decide +kernel)) (fun _ _ _ _ _ => jg_seq (n := 3) rfl (jgs_cons (jg_n (i := 1) sc_calls_of.nd) (jgs_cons (jg_n (i := 2) sc_calls_of.nd) (jgs_cons (jg_n (i := 3) sc_calls_of.nd) (jgs_nil))))) (fun _ _ _ _ _ => jts_nil) (fun _ _ _ _ _ => je_s (js_tup (ja_cons (je_s (js_n 2 (pv 2))) (ja_cons (je_s (js_n 3 (pv 3))) (ja_nil))))))) T.tuple (by decide +kernel)))
  exact h
theorem fn_asks_made {f : Addr} {fd : FuncData} {dvs : List V} (Fn : FunG K "asks_made" "asks_made" s_asks_made dvs f fd) (T : Txt K mg cs) : FnOk P w K mg base (L2.CX P w) 1 f fd ["history"] (spF K 1 (mf_asks_made cs)) :=
  fn_of' N_asks_made ["history"] 4 1 (m_asks_made cs) rfl rfl Fn sc_asks_made fun cdv A outer s H E hr => by
  have h : JB (cxOf (L2.CX P w) P w K mg base N_asks_made "asks_made" (defScope s_asks_made) f cdv A outer s H E) 1 (fun cls d _ H => E cls d H) (defBody s_asks_made) _ := jb_one (jst_ret (js_t1 call_tuple_of f1_tuple (jo_s (js_comp (own := [("hand", 1), ("call", 2), ("answer", 3)]) rfl sc_asks_made.nd (ji_seq (je_s (js_n 0 (pv 0)))) (blkOk_by (own := [("hand", 1), ("call", 2), ("answer", 3)]) (N := N_asks_made) (sc := defScope s_asks_made) (by decide +kernel)) (fun _ _ _ _ _ => jg_seq (n := 3) rfl (jgs_cons (jg_n (i := 1) sc_asks_made.nd) (jgs_cons (jg_n (i := 2) sc_asks_made.nd) (jgs_cons (jg_n (i := 3) sc_asks_made.nd) (jgs_nil))))) (fun _ _ _ _ _ => jts_nil) (fun _ _ _ _ _ => je_s (js_tup (ja_cons (je_s (js_n 1 (pv 1))) (ja_cons (je_s (js_n 2 (pv 2))) (ja_nil))))))) T.tuple (by decide +kernel)))
  exact h
theorem fn_hands_of {f : Addr} {fd : FuncData} {dvs : List V} (Fn : FunG K "hands_of" "hands_of" s_hands_of dvs f fd) (T : Txt K mg cs) : FnOk P w K mg base (L2.CX P w) 1 f fd ["history"] (spF K 1 (mf_hands_of cs)) :=
  fn_of' N_hands_of ["history"] 2 1 (m_hands_of cs) rfl rfl Fn sc_hands_of fun cdv A outer s H E hr => by
  have h : JB (cxOf (L2.CX P w) P w K mg base N_hands_of "hands_of" (defScope s_hands_of) f cdv A outer s H E) 1 (fun cls d _ H => E cls d H) (defBody s_hands_of) _ := jb_one (jst_ret (js_t1 call_tuple_of f1_tuple (jo_s (js_setS (own := [("entry", 1)]) (setF_I _) (cr_sortedSet rfl) rfl sc_hands_of.nd (ji_seq (je_s (js_n 0 (pv 0)))) (blkOk_by (own := [("entry", 1)]) (N := N_hands_of) (sc := defScope s_hands_of) (by decide +kernel)) (fun _ _ _ _ _ => jg_n (i := 1) sc_hands_of.nd) (fun _ _ _ _ _ => jts_nil) (fun _ _ _ _ _ => je_s (js_ix ix_seq f2_ix (jo_n 1 (pv 1)) (jo_s (js_int)))) T.sorted (by decide +kernel))) T.tuple (by decide +kernel)))
  exact h
theorem fn_part_of {f : Addr} {fd : FuncData} {dvs : List V} (Fn : FunG K "part_of" "part_of" s_part_of dvs f fd) (T : Txt K mg cs) : FnOk P w K mg base (L2.CX P w) 1 f fd ["history", "hand"] (spF K 2 (mf_part_of cs)) :=
  fn_of' N_part_of ["history", "hand"] 3 2 (m_part_of cs) rfl rfl Fn sc_part_of fun cdv A outer s H E hr => by
  have h : JB (cxOf (L2.CX P w) P w K mg base N_part_of "part_of" (defScope s_part_of) f cdv A outer s H E) 2 (fun cls d _ H => E cls d H) (defBody s_part_of) _ := jb_one (jst_ret (js_t1 call_tuple_of f1_tuple (jo_s (js_comp (own := [("entry", 2)]) rfl sc_part_of.nd (ji_seq (je_s (js_n 0 (pv 0)))) (blkOk_by (own := [("entry", 2)]) (N := N_part_of) (sc := defScope s_part_of) (by decide +kernel)) (fun _ _ _ _ _ => jg_n (i := 2) sc_part_of.nd) (fun _ _ _ _ _ => jts_one (jt_cmp (op_eqD (hu64 hr)) f2_eq (jo_s (js_ix ix_seq f2_ix (jo_n 2 (pv 2)) (jo_s (js_int)))) (jo_n 1 (pv 1)) (nomark _))) (fun _ _ _ _ _ => je_s (js_t1 call_tuple_of f1_tuple (jo_n 2 (pv 2)) T.tuple (by decide +kernel))))) T.tuple (by decide +kernel)))
  exact h
theorem fn_beside {f : Addr} {fd : FuncData} {dvs : List V} (Fn : FunG K "beside" "beside" s_beside dvs f fd) (T : Txt K mg cs) (OX_TooMany : OX P w K mg base 1 "TooMany" cs.TooMany ["most"]) (X_Book : MX P w K mg base 4 "Book" cs.Book 3 (mf_Book___init__ cs)) : FnOk P w K mg base (L2.CX P w) 6 f fd ["one", "other"] (spF K 2 (mf_beside cs)) :=
  fn_of' N_beside ["one", "other"] 9 2 (m_beside cs) rfl rfl Fn sc_beside fun cdv A outer s H E hr => by
  have h : JB (cxOf (L2.CX P w) P w K mg base N_beside "beside" (defScope s_beside) f cdv A outer s H E) 2 (fun cls d _ H => E cls d H) (defBody s_beside) _ := jb_cons (jst_if (jt_cmp op_gt f2_gt (jo_s (js_op op_mul2 f2_mul2 (jo_s (js_fld T.c_Book T.n_Book_states (jo_n 0 (pv 0)))) (jo_s (js_fld T.c_Book T.n_Book_states (jo_n 1 (pv 1)))))) (jo_s (js_gint T.g_MOST_STATES)) (nomark _)) (jb_one (jst_raiseX rfl (takes_of rfl rfl rfl rfl) OX_TooMany (hr.mono (by decide)) (ja_cons (je_s (js_gint T.g_MOST_STATES)) (ja_nil)) (by decide))) (jb_nil)) (jb_cons (jst_if (jt_cmp op_gt f2_gt (jo_s (js_op op_addV f2_add (jo_s (js_fld T.c_Book T.n_Book_calls (jo_n 0 (pv 0)))) (jo_s (js_fld T.c_Book T.n_Book_calls (jo_n 1 (pv 1)))))) (jo_s (js_gint T.g_MOST_CALLS)) (nomark _)) (jb_one (jst_raiseX rfl (takes_of rfl rfl rfl rfl) OX_TooMany (hr.mono (by decide)) (ja_cons (je_s (js_gint T.g_MOST_CALLS)) (ja_nil)) (by decide))) (jb_nil)) (jb_cons (jst_set (i := 2) sc_beside.nd (js_lst (ja_nil))) (jb_cons (jst_for (passes_of rfl) rfl (ji_seq (je_s (js_fld T.c_Book T.n_Book_ways (jo_n 0 (pv 0))))) (jg_seq (n := 4) rfl (jgs_cons (jg_n (i := 3) sc_beside.nd) (jgs_cons (jg_n (i := 4) sc_beside.nd) (jgs_cons (jg_n (i := 5) sc_beside.nd) (jgs_cons (jg_n (i := 6) sc_beside.nd) (jgs_nil)))))) (jb_one (jst_for (passes_of rfl) rfl (ji_range1 T.range (je_s (js_fld T.c_Book T.n_Book_states (jo_n 1 (pv 1))))) (jg_n (i := 7) sc_beside.nd) (jb_one (jst_expr (js_app 2 (pv 2) (je_s (js_tup (ja_cons (je_s (js_op op_addV f2_add (jo_s (js_op op_mul2 f2_mul2 (jo_n 3 (pv 3)) (jo_s (js_fld T.c_Book T.n_Book_states (jo_n 1 (pv 1)))))) (jo_n 7 (pv 7)))) (ja_cons (je_s (js_n 4 (pv 4))) (ja_cons (je_s (js_n 5 (pv 5))) (ja_cons (je_s (js_op op_addV f2_add (jo_s (js_op op_mul2 f2_mul2 (jo_n 6 (pv 6)) (jo_s (js_fld T.c_Book T.n_Book_states (jo_n 1 (pv 1)))))) (jo_n 7 (pv 7)))) (ja_nil))))))))))))) (jb_cons (jst_for (passes_of rfl) rfl (ji_seq (je_s (js_fld T.c_Book T.n_Book_ways (jo_n 1 (pv 1))))) (jg_seq (n := 4) rfl (jgs_cons (jg_n (i := 3) sc_beside.nd) (jgs_cons (jg_n (i := 4) sc_beside.nd) (jgs_cons (jg_n (i := 5) sc_beside.nd) (jgs_cons (jg_n (i := 6) sc_beside.nd) (jgs_nil)))))) (jb_one (jst_for (passes_of rfl) rfl (ji_range1 T.range (je_s (js_fld T.c_Book T.n_Book_states (jo_n 0 (pv 0))))) (jg_n (i := 7) sc_beside.nd) (jb_cons (jst_set (i := 8) sc_beside.nd (js_op op_mul2 f2_mul2 (jo_n 7 (pv 7)) (jo_s (js_fld T.c_Book T.n_Book_states (jo_n 1 (pv 1)))))) (jb_one (jst_expr (js_app 2 (pv 2) (je_s (js_tup (ja_cons (je_s (js_op op_addV f2_add (jo_n 8 (pv 8)) (jo_n 3 (pv 3)))) (ja_cons (je_s (js_op op_addV f2_add (jo_s (js_fld T.c_Book T.n_Book_calls (jo_n 0 (pv 0)))) (jo_n 4 (pv 4)))) (ja_cons (je_s (js_n 5 (pv 5))) (ja_cons (je_s (js_op op_addV f2_add (jo_n 8 (pv 8)) (jo_n 6 (pv 6)))) (ja_nil)))))))))))))) (jb_one (jst_ret (js_makeX (takes_of rfl rfl rfl rfl) rfl X_Book (hr.mono (by decide)) (jao_cons (jo_s (js_op op_mul2 f2_mul2 (jo_s (js_fld T.c_Book T.n_Book_states (jo_n 0 (pv 0)))) (jo_s (js_fld T.c_Book T.n_Book_states (jo_n 1 (pv 1)))))) (jao_cons (jo_s (js_op op_addV f2_add (jo_s (js_fld T.c_Book T.n_Book_calls (jo_n 0 (pv 0)))) (jo_s (js_fld T.c_Book T.n_Book_calls (jo_n 1 (pv 1)))))) (jao_cons (jo_s (js_n 2 (pv 2))) (jao_nil)))) (lenO_cons (lenO_cons (lenO_cons lenO_nil))))))))))
  exact h
theorem fn_parted_history {f : Addr} {fd : FuncData} {dvs : List V} (Fn : FunG K "parted_history" "parted_history" s_parted_history dvs f fd) (T : Txt K mg cs) (X_check_history : FX P w K mg base 3 "check_history" ["book", "history"] (mf_check_history cs)) (X_beside : FX P w K mg base 6 "beside" ["one", "other"] (mf_beside cs)) : FnOk P w K mg base (L2.CX P w) 7 f fd ["one", "other", "history"] (spF K 3 (mf_parted_history cs)) :=
  fn_of' N_parted_history ["one", "other", "history"] 9 3 (m_parted_history cs) rfl rfl Fn sc_parted_history fun cdv A outer s H E hr => by
  have h : JB (cxOf (L2.CX P w) P w K mg base N_parted_history "parted_history" (defScope s_parted_history) f cdv A outer s H E) 3 (fun cls d _ H => E cls d H) (defBody s_parted_history) _ := jb_cons (jst_set (i := 3) sc_parted_history.nd (js_callX (takes_of rfl rfl rfl rfl) X_check_history (hr.mono (by decide)) (jao_cons (jo_s (js_callX (takes_of rfl rfl rfl rfl) X_beside (hr.mono (by decide)) (jao_cons (jo_s (js_n 0 (pv 0))) (jao_cons (jo_s (js_n 1 (pv 1))) (jao_nil))) (lenO_cons (lenO_cons lenO_nil)))) (jao_cons (jo_s (js_n 2 (pv 2))) (jao_nil))) (lenO_cons (lenO_cons lenO_nil)))) (jb_cons (jst_set (i := 4) sc_parted_history.nd (js_lst (ja_nil))) (jb_cons (jst_set (i := 5) sc_parted_history.nd (js_lst (ja_nil))) (jb_cons (jst_for (passes_of rfl) rfl (ji_seq (je_s (js_n 3 (pv 3)))) (jg_seq (n := 3) rfl (jgs_cons (jg_n (i := 6) sc_parted_history.nd) (jgs_cons (jg_n (i := 7) sc_parted_history.nd) (jgs_cons (jg_n (i := 8) sc_parted_history.nd) (jgs_nil))))) (jb_one (jst_if (jt_cmp op_lt f2_lt (jo_n 7 (pv 7)) (jo_s (js_fld T.c_Book T.n_Book_calls (jo_n 0 (pv 0)))) (nomark _)) (jb_one (jst_expr (js_app 4 (pv 4) (je_s (js_tup (ja_cons (je_s (js_n 6 (pv 6))) (ja_cons (je_s (js_n 7 (pv 7))) (ja_cons (je_s (js_n 8 (pv 8))) (ja_nil))))))))) (jb_one (jst_expr (js_app 5 (pv 5) (je_s (js_tup (ja_cons (je_s (js_n 6 (pv 6))) (ja_cons (je_s (js_op op_sub f2_sub (jo_n 7 (pv 7)) (jo_s (js_fld T.c_Book T.n_Book_calls (jo_n 0 (pv 0)))))) (ja_cons (je_s (js_n 8 (pv 8))) (ja_nil)))))))))))) (jb_one (jst_ret (js_tup (ja_cons (je_s (js_t1 call_tuple_of f1_tuple (jo_n 4 (pv 4)) T.tuple (by decide +kernel))) (ja_cons (je_s (js_t1 call_tuple_of f1_tuple (jo_n 5 (pv 5)) T.tuple (by decide +kernel))) (ja_nil)))))))))
  exact h
theorem fn_step_from {f : Addr} {fd : FuncData} {dvs : List V} (Fn : FunG K "step_from" "step_from" s_step_from dvs f fd) (T : Txt K mg cs) : FnOk P w K mg base (L2.CX P w) 1 f fd ["book", "states", "call", "answer"] (spF K 4 (mf_step_from cs)) :=
  fn_of' N_step_from ["book", "states", "call", "answer"] 8 4 (m_step_from cs) rfl rfl Fn sc_step_from fun cdv A outer s H E hr => by
  have h : JB (cxOf (L2.CX P w) P w K mg base N_step_from "step_from" (defScope s_step_from) f cdv A outer s H E) 4 (fun cls d _ H => E cls d H) (defBody s_step_from) _ := jb_one (jst_ret (js_t1 call_tuple_of f1_tuple (jo_s (js_setS (own := [("begin", 4), ("made", 5), ("told", 6), ("end", 7)]) (setF_I _) (cr_sortedSet rfl) rfl sc_step_from.nd (ji_seq (je_s (js_fld T.c_Book T.n_Book_ways (jo_n 0 (pv 0))))) (blkOk_by (own := [("begin", 4), ("made", 5), ("told", 6), ("end", 7)]) (N := N_step_from) (sc := defScope s_step_from) (by decide +kernel)) (fun _ _ _ _ _ => jg_seq (n := 4) rfl (jgs_cons (jg_n (i := 4) sc_step_from.nd) (jgs_cons (jg_n (i := 5) sc_step_from.nd) (jgs_cons (jg_n (i := 6) sc_step_from.nd) (jgs_cons (jg_n (i := 7) sc_step_from.nd) (jgs_nil)))))) (fun _ _ _ _ _ => jts_one (jt_w (jw_and (jt_cmp (op_eqD (hu64 hr)) f2_eq (jo_n 5 (pv 5)) (jo_n 2 (pv 2)) (nomark _)) (jw_and (jt_cmp (op_eqD (hu64 hr)) f2_eq (jo_n 6 (pv 6)) (jo_n 3 (pv 3)) (nomark _)) (jw_and1 (jt_cmp (op_inV (hu65 hr)) f2_in (jo_n 4 (pv 4)) (jo_n 1 (pv 1)) rfl)))))) (fun _ _ _ _ _ => je_s (js_n 7 (pv 7))) T.sorted (by decide +kernel))) T.tuple (by decide +kernel)))
  exact h
theorem fn_standing_of {f : Addr} {fd : FuncData} {dvs : List V} (Fn : FunG K "standing_of" "standing_of" s_standing_of dvs f fd) (T : Txt K mg cs) (X_check_history : FX P w K mg base 3 "check_history" ["book", "history"] (mf_check_history cs)) (X_step_from : FX P w K mg base 1 "step_from" ["book", "states", "call", "answer"] (mf_step_from cs)) : FnOk P w K mg base (L2.CX P w) 4 f fd ["book", "history"] (spF K 2 (mf_standing_of cs)) :=
  fn_of' N_standing_of ["book", "history"] 4 2 (m_standing_of cs) rfl rfl Fn sc_standing_of fun cdv A outer s H E hr => by
  have h : JB (cxOf (L2.CX P w) P w K mg base N_standing_of "standing_of" (defScope s_standing_of) f cdv A outer s H E) 2 (fun cls d _ H => E cls d H) (defBody s_standing_of) _ := jb_cons (jst_set (i := 2) sc_standing_of.nd (js_gtup (ns := [0]) T.g_START)) (jb_cons (jst_for (passes_of rfl) rfl (ji_seq (je_s (js_callX (takes_of rfl rfl rfl rfl) X_check_history (hr.mono (by decide)) (jao_cons (jo_s (js_n 0 (pv 0))) (jao_cons (jo_s (js_n 1 (pv 1))) (jao_nil))) (lenO_cons (lenO_cons lenO_nil))))) (jg_n (i := 3) sc_standing_of.nd) (jb_one (jst_set (i := 2) sc_standing_of.nd (js_callX (takes_of rfl rfl rfl rfl) X_step_from (hr.mono (by decide)) (jao_cons (jo_s (js_n 0 (pv 0))) (jao_cons (jo_s (js_n 2 (pv 2))) (jao_cons (jo_s (js_ix ix_seq f2_ix (jo_n 3 (pv 3)) (jo_s (js_int)))) (jao_cons (jo_s (js_ix ix_seq f2_ix (jo_n 3 (pv 3)) (jo_s (js_int)))) (jao_nil))))) (lenO_cons (lenO_cons (lenO_cons (lenO_cons lenO_nil)))))))) (jb_one (jst_ret (js_v 2 (pv 2)))))
  exact h
theorem fn_is_right {f : Addr} {fd : FuncData} {dvs : List V} (Fn : FunG K "is_right" "is_right" s_is_right dvs f fd) (T : Txt K mg cs) (X_standing_of : FX P w K mg base 4 "standing_of" ["book", "history"] (mf_standing_of cs)) : FnOk P w K mg base (L2.CX P w) 5 f fd ["book", "history"] (spF K 2 (mf_is_right cs)) :=
  fn_of' N_is_right ["book", "history"] 2 2 (m_is_right cs) rfl rfl Fn sc_is_right fun cdv A outer s H E hr => by
  have h : JB (cxOf (L2.CX P w) P w K mg base N_is_right "is_right" (defScope s_is_right) f cdv A outer s H E) 2 (fun cls d _ H => E cls d H) (defBody s_is_right) _ := jb_one (jst_ret (js_cmp (op_neD (hu64 hr)) f2_ne (jo_s (js_callX (takes_of rfl rfl rfl rfl) X_standing_of (hr.mono (by decide)) (jao_cons (jo_s (js_n 0 (pv 0))) (jao_cons (jo_s (js_n 1 (pv 1))) (jao_nil))) (lenO_cons (lenO_cons lenO_nil)))) (jo_s (js_tup (ja_nil))) (nomark _)))
  exact h
theorem fn_law_mix {f : Addr} {fd : FuncData} {dvs : List V} (Fn : FunG K "_law_mix" "_law_mix" s_law_mix dvs f fd) (T : Txt K mg cs) : FnOk P w K mg base (L2.CX P w) 1 f fd ["_law_number", "_law_turn"] (spF K 2 (mf_law_mix cs)) :=
  fn_of' N_law_mix ["_law_number", "_law_turn"] 4 2 (m_law_mix cs) rfl rfl Fn sc_law_mix fun cdv A outer s H E hr => by
  have h : JB (cxOf (L2.CX P w) P w K mg base N_law_mix "_law_mix" (defScope s_law_mix) f cdv A outer s H E) 2 (fun cls d _ H => E cls d H) (defBody s_law_mix) _ := jb_cons (jst_set (i := 2) sc_law_mix.nd (js_op op_mod f2_mod (jo_s (js_t1 call_int1 f1_int (jo_s (js_op op_addV f2_add (jo_s (js_op op_addV f2_add (jo_s (js_op op_mul2 f2_mul2 (jo_n 0 (pv 0)) (jo_s (js_int)))) (jo_s (js_op op_mul2 f2_mul2 (jo_n 1 (pv 1)) (jo_s (js_int)))))) (jo_s (js_int)))) T.int (by decide +kernel))) (jo_s (js_int)))) (jb_cons (jst_set (i := 3) sc_law_mix.nd (js_op op_mod f2_mod (jo_s (js_t1 call_int1 f1_int (jo_s (js_op op_addV f2_add (jo_s (js_op op_addV f2_add (jo_s (js_op op_mul2 f2_mul2 (jo_n 2 (pv 2)) (jo_n 2 (pv 2)))) (jo_s (js_op op_mul2 f2_mul2 (jo_s (js_op op_fdiv f2_div (jo_n 2 (pv 2)) (jo_s (js_int)))) (jo_s (js_int)))))) (jo_s (js_op op_mul2 f2_mul2 (jo_n 1 (pv 1)) (jo_s (js_int)))))) T.int (by decide +kernel))) (jo_s (js_int)))) (jb_one (jst_ret (js_op op_fdiv f2_div (jo_s (js_op op_mod f2_mod (jo_s (js_t1 call_int1 f1_int (jo_s (js_op op_addV f2_add (jo_s (js_op op_fdiv f2_div (jo_s (js_op op_mul2 f2_mul2 (jo_n 3 (pv 3)) (jo_n 3 (pv 3)))) (jo_s (js_int)))) (jo_n 2 (pv 2)))) T.int (by decide +kernel))) (jo_s (js_int)))) (jo_s (js_int))))))
  exact h
theorem fn_law_hand {f : Addr} {fd : FuncData} {dvs : List V} (Fn : FunG K "_law_hand" "_law_hand" s_law_hand dvs f fd) (T : Txt K mg cs) : FnOk P w K mg base (L2.CX P w) 1 f fd ["_law_script"] (spF K 1 (mf_law_hand cs)) :=
  fn_of' N_law_hand ["_law_script"] 4 1 (m_law_hand cs) rfl rfl Fn sc_law_hand fun cdv A outer s H E hr => by
  have h : JB (cxOf (L2.CX P w) P w K mg base N_law_hand "_law_hand" (defScope s_law_hand) f cdv A outer s H E) 1 (fun cls d _ H => E cls d H) (defBody s_law_hand) _ := jb_cons (jst_set (i := 1) sc_law_hand.nd (js_int)) (jb_cons (jst_for (passes_of rfl) rfl (ji_enum2 T.enumerate (je_s (js_n 0 (pv 0)))) (jg_seq (n := 2) rfl (jgs_cons (jg_n (i := 2) sc_law_hand.nd) (jgs_cons (jg_n (i := 3) sc_law_hand.nd) (jgs_nil)))) (jb_one (jst_set (i := 1) sc_law_hand.nd (js_op op_mod f2_mod (jo_s (js_t1 call_int1 f1_int (jo_s (js_op op_addV f2_add (jo_s (js_op op_mul2 f2_mul2 (jo_n 1 (pv 1)) (jo_s (js_int)))) (jo_s (js_op op_mul2 f2_mul2 (jo_s (js_t1 call_int1 f1_int (jo_n 3 (pv 3)) T.int (by decide +kernel))) (jo_s (js_op op_addV f2_add (jo_n 2 (pv 2)) (jo_s (js_int)))))))) T.int (by decide +kernel))) (jo_s (js_int)))))) (jb_one (jst_ret (js_lst (ja_cons (je_s (js_comp (own := [("_law_cell", 3)]) rfl sc_law_hand.nd (ji_seq (je_s (js_n 0 (pv 0)))) (blkOk_by (own := [("_law_cell", 3)]) (N := N_law_hand) (sc := defScope s_law_hand) (by decide +kernel)) (fun _ _ _ _ _ => jg_n (i := 3) sc_law_hand.nd) (fun _ _ _ _ _ => jts_nil) (fun _ _ _ _ _ => je_s (js_b1 call_abs f1_abs (jo_s (js_t1 call_int1 f1_int (jo_n 3 (pv 3)) T.int (by decide +kernel))) T.abs (by decide +kernel))))) (ja_cons (je_s (js_int)) (ja_cons (je_s (js_int)) (ja_cons (je_s (js_n 1 (pv 1))) (ja_nil)))))))))
  exact h
theorem fn_law_draw {f : Addr} {fd : FuncData} {dvs : List V} (Fn : FunG K "_law_draw" "_law_draw" s_law_draw dvs f fd) (T : Txt K mg cs) (X_law_mix : FX P w K mg base 1 "_law_mix" ["_law_number", "_law_turn"] (mf_law_mix cs)) : FnOk P w K mg base (L2.CX P w) 2 f fd ["_law_hand_here", "_law_many"] (spF K 2 (mf_law_draw cs)) :=
  fn_of' N_law_draw ["_law_hand_here", "_law_many"] 4 2 (m_law_draw cs) rfl rfl Fn sc_law_draw fun cdv A outer s H E hr => by
  have h : JB (cxOf (L2.CX P w) P w K mg base N_law_draw "_law_draw" (defScope s_law_draw) f cdv A outer s H E) 2 (fun cls d _ H => E cls d H) (defBody s_law_draw) _ := jb_cons (jst_if (jt_w (jw_and (jt_cmp (op_eqD (hu64 hr)) f2_eq (jo_s (js_ix ix_seq f2_ix (jo_n 0 (pv 0)) (jo_s (js_int)))) (jo_s (js_int)) (nomark _)) (jw_and1 (jt_cmp op_lt f2_lt (jo_s (js_ix ix_seq f2_ix (jo_n 0 (pv 0)) (jo_s (js_int)))) (jo_s (js_b1 cr_lenU f1_lenU (jo_s (js_ix ix_seq f2_ix (jo_n 0 (pv 0)) (jo_s (js_int)))) T.len (by decide +kernel))) (nomark _))))) (jb_cons (jst_set (i := 2) sc_law_draw.nd (js_ix ix_seq f2_ix (jo_s (js_ix ix_seq f2_ix (jo_n 0 (pv 0)) (jo_s (js_int)))) (jo_s (js_ix ix_seq f2_ix (jo_n 0 (pv 0)) (jo_s (js_int)))))) (jb_cons (jst_setIx 0 (pv 0) (je_s (js_int)) (je_s (js_op op_addV f2_add (jo_s (js_ix ix_seq f2_ix (jo_n 0 (pv 0)) (jo_s (js_int)))) (jo_s (js_int))))) (jb_cons (jst_if (jt_cmp op_lt f2_lt (jo_n 2 (pv 2)) (jo_s (js_op op_pow f2_pow (jo_s (js_int)) (jo_s (js_int)))) (nomark _)) (jb_one (jst_ret (js_op op_mod f2_mod (jo_s (js_t1 call_int1 f1_int (jo_s (js_callX (takes_of rfl rfl rfl rfl) X_law_mix (hr.mono (by decide)) (jao_cons (jo_s (js_op op_mod f2_mod (jo_s (js_t1 call_int1 f1_int (jo_n 2 (pv 2)) T.int (by decide +kernel))) (jo_s (js_int)))) (jao_cons (jo_s (js_ix ix_seq f2_ix (jo_n 0 (pv 0)) (jo_s (js_int)))) (jao_nil))) (lenO_cons (lenO_cons lenO_nil)))) T.int (by decide +kernel))) (jo_n 1 (pv 1))))) (jb_nil)) (jb_one (jst_setIx 0 (pv 0) (je_s (js_int)) (je_s (js_n 2 (pv 2)))))))) (jb_nil)) (jb_cons (jst_if (jt_cmp op_gt f2_gt (jo_s (js_ix ix_seq f2_ix (jo_n 0 (pv 0)) (jo_s (js_int)))) (jo_s (js_int)) (nomark _)) (jb_cons (jst_set (i := 3) sc_law_draw.nd (js_ix ix_seq f2_ix (jo_n 0 (pv 0)) (jo_s (js_int)))) (jb_cons (jst_setIx 0 (pv 0) (je_s (js_int)) (je_s (js_op op_fdiv f2_div (jo_n 3 (pv 3)) (jo_n 1 (pv 1))))) (jb_one (jst_ret (js_op op_mod f2_mod (jo_s (js_t1 call_int1 f1_int (jo_n 3 (pv 3)) T.int (by decide +kernel))) (jo_n 1 (pv 1))))))) (jb_nil)) (jb_cons (jst_setIx 0 (pv 0) (je_s (js_int)) (je_s (js_op op_mod f2_mod (jo_s (js_t1 call_int1 f1_int (jo_s (js_op op_addV f2_add (jo_s (js_ix ix_seq f2_ix (jo_n 0 (pv 0)) (jo_s (js_int)))) (jo_s (js_int)))) T.int (by decide +kernel))) (jo_s (js_int))))) (jb_one (jst_ret (js_op op_mod f2_mod (jo_s (js_t1 call_int1 f1_int (jo_s (js_callX (takes_of rfl rfl rfl rfl) X_law_mix (hr.mono (by decide)) (jao_cons (jo_s (js_ix ix_seq f2_ix (jo_n 0 (pv 0)) (jo_s (js_int)))) (jao_cons (jo_s (js_ix ix_seq f2_ix (jo_n 0 (pv 0)) (jo_s (js_int)))) (jao_nil))) (lenO_cons (lenO_cons lenO_nil)))) T.int (by decide +kernel))) (jo_n 1 (pv 1)))))))
  exact h
theorem fx_law_exact {f : Addr} {fd : FuncData} {dvs : List V} (Fn : FunG K "_law_exact" "_law_exact" s_law_exact dvs f fd) (hm : mg "_law_exact" = some (.ref f)) (bd : Binds K fd ["_law_told", "_law_due"] []) (T : Txt K mg cs) : ∀ d : Nat, FX P w K mg base (d + 1) "_law_exact" ["_law_told", "_law_due"] (mf_law_exact cs d)
  | 0 => fx_stuck hm Fn.kp bd
  | d + 1 => by
    have X_law_exact := fx_law_exact Fn hm bd T  d
    refine fx_of (k := d + 1) N_law_exact ["_law_told", "_law_due"] 3 (m_law_exact cs (mf_law_exact cs d)) rfl Fn hm bd sc_law_exact fun cdv A outer s H E hr => ?_
    have h : JB (cxOf (L2.CX P w) P w K mg base N_law_exact "_law_exact" (defScope s_law_exact) f cdv A outer s H E) 2 (fun cls d _ H => E cls d H) (defBody s_law_exact) _ := jb_cons (jst_if (jt_val (js_isi (jo_n 1 (pv 1)) (bt_name .tuple T.tuple (by decide +kernel)) T.isinstance)) (jb_cons (jst_if (jt_w (jw_or (jt_not (jt_val (js_isi (jo_n 0 (pv 0)) (bt_name .tuple T.tuple (by decide +kernel)) T.isinstance))) (jw_or1 (jt_cmp (op_neD (hu64 hr)) f2_ne (jo_s (js_b1 cr_lenU f1_lenU (jo_n 0 (pv 0)) T.len (by decide +kernel))) (jo_s (js_b1 cr_lenU f1_lenU (jo_n 1 (pv 1)) T.len (by decide +kernel))) (nomark _))))) (jb_one (jst_ret (js_bl))) (jb_nil)) (jb_one (jst_ret (js_cmp (op_eqD (hu64 hr)) f2_eq (jo_s (js_comp (own := [("_law_k", 2)]) rfl sc_law_exact.nd (ji_range1 T.range (je_s (js_b1 cr_lenU f1_lenU (jo_n 1 (pv 1)) T.len (by decide +kernel)))) (blkOk_by (own := [("_law_k", 2)]) (N := N_law_exact) (sc := defScope s_law_exact) (by decide +kernel)) (fun _ _ _ _ _ => jg_n (i := 2) sc_law_exact.nd) (fun _ _ _ _ _ => jts_one (jt_not (jt_val (js_callX takes0 X_law_exact hr (jao_cons (jo_s (js_ix ix_seq f2_ix (jo_n 0 (pv 0)) (jo_n 2 (pv 2)))) (jao_cons (jo_s (js_ix ix_seq f2_ix (jo_n 1 (pv 1)) (jo_n 2 (pv 2)))) (jao_nil))) (lenO_cons (lenO_cons lenO_nil)))))) (fun _ _ _ _ _ => je_s (js_n 2 (pv 2))))) (jo_s (js_lst (ja_nil))) (nomark _))))) (jb_nil)) (jb_cons (jst_if (jt_cmp op_isV f2_is (jo_n 1 (pv 1)) (jo_s (js_non)) (nomark _)) (jb_one (jst_ret (js_cmp op_isV f2_is (jo_n 0 (pv 0)) (jo_s (js_non)) (nomark _)))) (jb_nil)) (jb_cons (jst_if (jt_val (js_isi (jo_n 1 (pv 1)) (bt_name .bool T.bool (by decide +kernel)) T.isinstance)) (jb_one (jst_ret (js_if (jt_val (js_n 1 (pv 1))) (js_cmp op_isV f2_is (jo_n 0 (pv 0)) (jo_s (js_bl)) (nomark _)) (js_cmp op_isV f2_is (jo_n 0 (pv 0)) (jo_s (js_bl)) (nomark _))))) (jb_nil)) (jb_cons (jst_if (jt_val (js_isi (jo_n 1 (pv 1)) (bt_name .str T.str (by decide +kernel)) T.isinstance)) (jb_one (jst_ret (js_and (js_isi (jo_n 0 (pv 0)) (bt_name .str T.str (by decide +kernel)) T.isinstance) (js_one (js_cmp (op_eqD (hu64 hr)) f2_eq (jo_n 0 (pv 0)) (jo_n 1 (pv 1)) (nomark _)))))) (jb_nil)) (jb_one (jst_ret (js_and (js_isi (jo_n 0 (pv 0)) (bt_name .int T.int (by decide +kernel)) T.isinstance) (js_and (js_not (js_isi (jo_n 0 (pv 0)) (bt_name .bool T.bool (by decide +kernel)) T.isinstance)) (js_one (js_cmp (op_eqD (hu64 hr)) f2_eq (jo_n 0 (pv 0)) (jo_n 1 (pv 1)) (nomark _))))))))))
    exact h
theorem fn_law_ways {f : Addr} {fd : FuncData} {dvs : List V} (Fn : FunG K "_law_ways" "_law_ways" s_law_ways dvs f fd) (T : Txt K mg cs) : FnOk P w K mg base (L2.CX P w) 1 f fd ["_law_rows"] (spF K 1 (mf_law_ways cs)) :=
  fn_of' N_law_ways ["_law_rows"] 3 1 (m_law_ways cs) rfl rfl Fn sc_law_ways fun cdv A outer s H E hr => by
  have h : JB (cxOf (L2.CX P w) P w K mg base N_law_ways "_law_ways" (defScope s_law_ways) f cdv A outer s H E) 1 (fun cls d _ H => E cls d H) (defBody s_law_ways) _ := jb_cons (jst_set (i := 1) sc_law_ways.nd (js_lst (ja_nil))) (jb_cons (jst_for (passes_of rfl) rfl (ji_seq (je_s (js_b1 (cr_sortedV (hu100 hr)) f1_sorted (jo_n 0 (pv 0)) T.sorted (by decide +kernel)))) (jg_n (i := 2) sc_law_ways.nd) (jb_one (jst_if (jt_w (jw_or (jt_cmp (op_eqD (hu64 hr)) f2_eq (jo_n 1 (pv 1)) (jo_s (js_lst (ja_nil))) (nomark _)) (jw_or1 (jt_cmp (op_neD (hu64 hr)) f2_ne (jo_s (js_ix ix_seq f2_ix (jo_n 1 (pv 1)) (jo_s (js_neg (jo_s (js_int)))))) (jo_n 2 (pv 2)) (nomark _))))) (jb_one (jst_expr (js_app 1 (pv 1) (je_s (js_n 2 (pv 2)))))) (jb_nil)))) (jb_one (jst_ret (js_t1 call_tuple_of f1_tuple (jo_n 1 (pv 1)) T.tuple (by decide +kernel)))))
  exact h
theorem fn_law_flat {f : Addr} {fd : FuncData} {dvs : List V} (Fn : FunG K "_law_flat" "_law_flat" s_law_flat dvs f fd) (T : Txt K mg cs) (X_law_draw : FX P w K mg base 2 "_law_draw" ["_law_hand_here", "_law_many"] (mf_law_draw cs)) : FnOk P w K mg base (L2.CX P w) 3 f fd ["_law_hand_here", "_law_states", "_law_calls", "_law_answers"] (spF K 4 (mf_law_flat cs)) :=
  fn_of' N_law_flat ["_law_hand_here", "_law_states", "_law_calls", "_law_answers"] 7 4 (m_law_flat cs) rfl rfl Fn sc_law_flat fun cdv A outer s H E hr => by
  have h : JB (cxOf (L2.CX P w) P w K mg base N_law_flat "_law_flat" (defScope s_law_flat) f cdv A outer s H E) 4 (fun cls d _ H => E cls d H) (defBody s_law_flat) _ := jb_cons (jst_set (i := 4) sc_law_flat.nd (js_lst (ja_nil))) (jb_cons (jst_for (passes_of rfl) rfl (ji_range1 T.range (je_s (js_n 1 (pv 1)))) (jg_n (i := 5) sc_law_flat.nd) (jb_one (jst_for (passes_of rfl) rfl (ji_range1 T.range (je_s (js_n 2 (pv 2)))) (jg_n (i := 6) sc_law_flat.nd) (jb_one (jst_expr (js_app 4 (pv 4) (je_s (js_tup (ja_cons (je_s (js_n 5 (pv 5))) (ja_cons (je_s (js_n 6 (pv 6))) (ja_cons (je_s (js_callX (takes_of rfl rfl rfl rfl) X_law_draw (hr.mono (by decide)) (jao_cons (jo_n 0 (pv 0)) (jao_cons (jo_s (js_n 3 (pv 3))) (jao_nil))) (lenO_cons (lenO_cons lenO_nil)))) (ja_cons (je_s (js_callX (takes_of rfl rfl rfl rfl) X_law_draw (hr.mono (by decide)) (jao_cons (jo_n 0 (pv 0)) (jao_cons (jo_s (js_n 1 (pv 1))) (jao_nil))) (lenO_cons (lenO_cons lenO_nil)))) (ja_nil))))))))))))) (jb_one (jst_ret (js_v 4 (pv 4)))))
  exact h
theorem fn_law_onward {f : Addr} {fd : FuncData} {dvs : List V} (Fn : FunG K "_law_onward" "_law_onward" s_law_onward dvs f fd) (T : Txt K mg cs) : FnOk P w K mg base (L2.CX P w) 1 f fd ["_law_ways_here", "_law_standing", "_law_call", "_law_answer"] (spF K 4 (mf_law_onward cs)) :=
  fn_of' N_law_onward ["_law_ways_here", "_law_standing", "_law_call", "_law_answer"] 6 4 (m_law_onward cs) rfl rfl Fn sc_law_onward fun cdv A outer s H E hr => by
  have h : JB (cxOf (L2.CX P w) P w K mg base N_law_onward "_law_onward" (defScope s_law_onward) f cdv A outer s H E) 4 (fun cls d _ H => E cls d H) (defBody s_law_onward) _ := jb_cons (jst_set (i := 4) sc_law_onward.nd (js_lst (ja_nil))) (jb_cons (jst_for (passes_of rfl) rfl (ji_seq (je_s (js_n 0 (pv 0)))) (jg_n (i := 5) sc_law_onward.nd) (jb_one (jst_if (jt_w (jw_and (jt_cmp (op_eqD (hu64 hr)) f2_eq (jo_s (js_ix ix_seq f2_ix (jo_n 5 (pv 5)) (jo_s (js_int)))) (jo_n 2 (pv 2)) (nomark _)) (jw_and (jt_cmp (op_eqD (hu64 hr)) f2_eq (jo_s (js_ix ix_seq f2_ix (jo_n 5 (pv 5)) (jo_s (js_int)))) (jo_n 3 (pv 3)) (nomark _)) (jw_and (jt_cmp (op_inV (hu65 hr)) f2_in (jo_s (js_ix ix_seq f2_ix (jo_n 5 (pv 5)) (jo_s (js_int)))) (jo_n 1 (pv 1)) rfl) (jw_and1 (jt_cmp (op_notInV (hu65 hr)) f2_notIn (jo_s (js_ix ix_seq f2_ix (jo_n 5 (pv 5)) (jo_s (js_int)))) (jo_n 4 (pv 4)) rfl)))))) (jb_one (jst_expr (js_app 4 (pv 4) (je_s (js_ix ix_seq f2_ix (jo_n 5 (pv 5)) (jo_s (js_int))))))) (jb_nil)))) (jb_one (jst_ret (js_t1 call_tuple_of f1_tuple (jo_s (js_b1 (cr_sortedV (hu100 hr)) f1_sorted (jo_n 4 (pv 4)) T.sorted (by decide +kernel))) T.tuple (by decide +kernel)))))
  exact h
theorem fn_law_stand {f : Addr} {fd : FuncData} {dvs : List V} (Fn : FunG K "_law_stand" "_law_stand" s_law_stand dvs f fd) (T : Txt K mg cs) (X_law_onward : FX P w K mg base 1 "_law_onward" ["_law_ways_here", "_law_standing", "_law_call", "_law_answer"] (mf_law_onward cs)) : FnOk P w K mg base (L2.CX P w) 2 f fd ["_law_ways_here", "_law_standing", "_law_trail"] (spF K 3 (mf_law_stand cs)) :=
  fn_of' N_law_stand ["_law_ways_here", "_law_standing", "_law_trail"] 5 3 (m_law_stand cs) rfl rfl Fn sc_law_stand fun cdv A outer s H E hr => by
  have h : JB (cxOf (L2.CX P w) P w K mg base N_law_stand "_law_stand" (defScope s_law_stand) f cdv A outer s H E) 3 (fun cls d _ H => E cls d H) (defBody s_law_stand) _ := jb_cons (jst_for (passes_of rfl) rfl (ji_seq (je_s (js_n 2 (pv 2)))) (jg_seq (n := 2) rfl (jgs_cons (jg_n (i := 3) sc_law_stand.nd) (jgs_cons (jg_n (i := 4) sc_law_stand.nd) (jgs_nil)))) (jb_one (jst_set (i := 1) sc_law_stand.nd (js_callX (takes_of rfl rfl rfl rfl) X_law_onward (hr.mono (by decide)) (jao_cons (jo_s (js_n 0 (pv 0))) (jao_cons (jo_s (js_n 1 (pv 1))) (jao_cons (jo_s (js_n 3 (pv 3))) (jao_cons (jo_s (js_n 4 (pv 4))) (jao_nil))))) (lenO_cons (lenO_cons (lenO_cons (lenO_cons lenO_nil)))))))) (jb_one (jst_ret (js_v 1 (pv 1))))
  exact h
theorem fn_law_lets {f : Addr} {fd : FuncData} {dvs : List V} (Fn : FunG K "_law_lets" "_law_lets" s_law_lets dvs f fd) (T : Txt K mg cs) (X_law_onward : FX P w K mg base 1 "_law_onward" ["_law_ways_here", "_law_standing", "_law_call", "_law_answer"] (mf_law_onward cs)) : FnOk P w K mg base (L2.CX P w) 2 f fd ["_law_ways_here", "_law_standing", "_law_call"] (spF K 3 (mf_law_lets cs)) :=
  fn_of' N_law_lets ["_law_ways_here", "_law_standing", "_law_call"] 4 3 (m_law_lets cs) rfl rfl Fn sc_law_lets fun cdv A outer s H E hr => by
  have h : JB (cxOf (L2.CX P w) P w K mg base N_law_lets "_law_lets" (defScope s_law_lets) f cdv A outer s H E) 3 (fun cls d _ H => E cls d H) (defBody s_law_lets) _ := jb_one (jst_ret (js_comp (own := [("_law_answer", 3)]) rfl sc_law_lets.nd (ji_range1 T.range (je_s (js_int))) (blkOk_by (own := [("_law_answer", 3)]) (N := N_law_lets) (sc := defScope s_law_lets) (by decide +kernel)) (fun _ _ _ _ _ => jg_n (i := 3) sc_law_lets.nd) (fun _ _ _ _ _ => jts_one (jt_cmp (op_neD (hu64 hr)) f2_ne (jo_s (js_callX takes0 X_law_onward (hr.mono (by decide)) (jao_cons (jo_s (js_n 0 (pv 0))) (jao_cons (jo_s (js_n 1 (pv 1))) (jao_cons (jo_s (js_n 2 (pv 2))) (jao_cons (jo_s (js_n 3 (pv 3))) (jao_nil))))) (lenO_cons (lenO_cons (lenO_cons (lenO_cons lenO_nil)))))) (jo_s (js_tup (ja_nil))) (nomark _))) (fun _ _ _ _ _ => je_s (js_n 3 (pv 3)))))
  exact h
theorem fn_law_past {f : Addr} {fd : FuncData} {dvs : List V} (Fn : FunG K "_law_past" "_law_past" s_law_past dvs f fd) (T : Txt K mg cs) (X_law_draw : FX P w K mg base 2 "_law_draw" ["_law_hand_here", "_law_many"] (mf_law_draw cs)) (X_law_lets : FX P w K mg base 2 "_law_lets" ["_law_ways_here", "_law_standing", "_law_call"] (mf_law_lets cs)) (X_law_onward : FX P w K mg base 1 "_law_onward" ["_law_ways_here", "_law_standing", "_law_call", "_law_answer"] (mf_law_onward cs)) : FnOk P w K mg base (L2.CX P w) 3 f fd ["_law_hand_here", "_law_calls", "_law_ways_here", "_law_most"] (spF K 4 (mf_law_past cs)) :=
  fn_of' N_law_past ["_law_hand_here", "_law_calls", "_law_ways_here", "_law_most"] 10 4 (m_law_past cs) rfl rfl Fn sc_law_past fun cdv A outer s H E hr => by
  have h : JB (cxOf (L2.CX P w) P w K mg base N_law_past "_law_past" (defScope s_law_past) f cdv A outer s H E) 4 (fun cls d _ H => E cls d H) (defBody s_law_past) _ := jb_cons (jst_set (i := 4) sc_law_past.nd (js_lst (ja_nil))) (jb_cons (jst_set (i := 5) sc_law_past.nd (js_tup (ja_cons (je_s (js_int)) (ja_nil)))) (jb_cons (jst_for (passes_of rfl) rfl (ji_range1 T.range (je_s (js_callX (takes_of rfl rfl rfl rfl) X_law_draw (hr.mono (by decide)) (jao_cons (jo_n 0 (pv 0)) (jao_cons (jo_s (js_op op_addV f2_add (jo_n 3 (pv 3)) (jo_s (js_int)))) (jao_nil))) (lenO_cons (lenO_cons lenO_nil))))) (jg_n (i := 6) sc_law_past.nd) (jb_cons (jst_set (i := 7) sc_law_past.nd (js_callX (takes_of rfl rfl rfl rfl) X_law_draw (hr.mono (by decide)) (jao_cons (jo_n 0 (pv 0)) (jao_cons (jo_s (js_n 1 (pv 1))) (jao_nil))) (lenO_cons (lenO_cons lenO_nil)))) (jb_cons (jst_set (i := 8) sc_law_past.nd (js_callX (takes_of rfl rfl rfl rfl) X_law_lets (hr.mono (by decide)) (jao_cons (jo_s (js_n 2 (pv 2))) (jao_cons (jo_s (js_n 5 (pv 5))) (jao_cons (jo_s (js_n 7 (pv 7))) (jao_nil)))) (lenO_cons (lenO_cons (lenO_cons lenO_nil))))) (jb_cons (jst_set (i := 9) sc_law_past.nd (js_ix ix_seq f2_ix (jo_n 8 (pv 8)) (jo_s (js_callX (takes_of rfl rfl rfl rfl) X_law_draw (hr.mono (by decide)) (jao_cons (jo_n 0 (pv 0)) (jao_cons (jo_s (js_b1 cr_lenU f1_lenU (jo_n 8 (pv 8)) T.len (by decide +kernel))) (jao_nil))) (lenO_cons (lenO_cons lenO_nil)))))) (jb_cons (jst_expr (js_app 4 (pv 4) (je_s (js_tup (ja_cons (je_s (js_ix ix_seq f2_ix (jo_s (js_lst (ja_cons (je_s (js_int)) (ja_cons (je_s (js_int)) (ja_cons (je_s (js_int)) (ja_cons (je_s (js_int)) (ja_cons (je_s (js_int)) (ja_cons (je_s (js_int)) (ja_nil))))))))) (jo_s (js_callX (takes_of rfl rfl rfl rfl) X_law_draw (hr.mono (by decide)) (jao_cons (jo_n 0 (pv 0)) (jao_cons (jo_s (js_int)) (jao_nil))) (lenO_cons (lenO_cons lenO_nil)))))) (ja_cons (je_s (js_n 7 (pv 7))) (ja_cons (je_s (js_n 9 (pv 9))) (ja_nil)))))))) (jb_one (jst_set (i := 5) sc_law_past.nd (js_callX (takes_of rfl rfl rfl rfl) X_law_onward (hr.mono (by decide)) (jao_cons (jo_s (js_n 2 (pv 2))) (jao_cons (jo_s (js_n 5 (pv 5))) (jao_cons (jo_s (js_n 7 (pv 7))) (jao_cons (jo_s (js_n 9 (pv 9))) (jao_nil))))) (lenO_cons (lenO_cons (lenO_cons (lenO_cons lenO_nil)))))))))))) (jb_one (jst_ret (js_t1 call_tuple_of f1_tuple (jo_n 4 (pv 4)) T.tuple (by decide +kernel))))))
  exact h
theorem fn_law_large {f : Addr} {fd : FuncData} {dvs : List V} (Fn : FunG K "_law_large" "_law_large" s_law_large dvs f fd) (T : Txt K mg cs) (X_law_draw : FX P w K mg base 2 "_law_draw" ["_law_hand_here", "_law_many"] (mf_law_draw cs)) : FnOk P w K mg base (L2.CX P w) 3 f fd ["_law_hand_here"] (spF K 1 (mf_law_large cs)) :=
  fn_of' N_law_large ["_law_hand_here"] 1 1 (m_law_large cs) rfl rfl Fn sc_law_large fun cdv A outer s H E hr => by
  have h : JB (cxOf (L2.CX P w) P w K mg base N_law_large "_law_large" (defScope s_law_large) f cdv A outer s H E) 1 (fun cls d _ H => E cls d H) (defBody s_law_large) _ := jb_one (jst_ret (js_op op_addV f2_add (jo_s (js_op op_mul2 f2_mul2 (jo_s (js_callX (takes_of rfl rfl rfl rfl) X_law_draw (hr.mono (by decide)) (jao_cons (jo_n 0 (pv 0)) (jao_cons (jo_s (js_op op_pow f2_pow (jo_s (js_int)) (jo_s (js_int)))) (jao_nil))) (lenO_cons (lenO_cons lenO_nil)))) (jo_s (js_op op_pow f2_pow (jo_s (js_int)) (jo_s (js_int)))))) (jo_s (js_callX (takes_of rfl rfl rfl rfl) X_law_draw (hr.mono (by decide)) (jao_cons (jo_n 0 (pv 0)) (jao_cons (jo_s (js_op op_pow f2_pow (jo_s (js_int)) (jo_s (js_int)))) (jao_nil))) (lenO_cons (lenO_cons lenO_nil))))))
  exact h
theorem fn_law_whole {f : Addr} {fd : FuncData} {dvs : List V} (Fn : FunG K "_law_whole" "_law_whole" s_law_whole dvs f fd) (T : Txt K mg cs) : FnOk P w K mg base (L2.CX P w) 1 f fd ["_law_thing", "_law_low", "_law_high"] (spF K 3 (mf_law_whole cs)) :=
  fn_of' N_law_whole ["_law_thing", "_law_low", "_law_high"] 3 3 (m_law_whole cs) rfl rfl Fn sc_law_whole fun cdv A outer s H E hr => by
  have h : JB (cxOf (L2.CX P w) P w K mg base N_law_whole "_law_whole" (defScope s_law_whole) f cdv A outer s H E) 3 (fun cls d _ H => E cls d H) (defBody s_law_whole) _ := jb_one (jst_ret (js_and (js_isi (jo_n 0 (pv 0)) (bt_name .int T.int (by decide +kernel)) T.isinstance) (js_and (js_not (js_isi (jo_n 0 (pv 0)) (bt_name .bool T.bool (by decide +kernel)) T.isinstance)) (js_one (js_chain op_le f2_le op_le f2_le (jo_n 1 (pv 1)) (jo_n 0 (pv 0)) (jo_n 2 (pv 2)))))))
  exact h
theorem fn_law_row {f : Addr} {fd : FuncData} {dvs : List V} (Fn : FunG K "_law_row" "_law_row" s_law_row dvs f fd) (T : Txt K mg cs) : FnOk P w K mg base (L2.CX P w) 1 f fd ["_law_thing"] (spF K 1 (mf_law_row cs)) :=
  fn_of' N_law_row ["_law_thing"] 1 1 (m_law_row cs) rfl rfl Fn sc_law_row fun cdv A outer s H E hr => by
  have h : JB (cxOf (L2.CX P w) P w K mg base N_law_row "_law_row" (defScope s_law_row) f cdv A outer s H E) 1 (fun cls d _ H => E cls d H) (defBody s_law_row) _ := jb_one (jst_ret (js_or (js_isi (jo_n 0 (pv 0)) (bt_name .list T.list (by decide +kernel)) T.isinstance) (js_one (js_isi (jo_n 0 (pv 0)) (bt_name .tuple T.tuple (by decide +kernel)) T.isinstance))))
  exact h
theorem fn_law_large_book {f : Addr} {fd : FuncData} {dvs : List V} (Fn : FunG K "_law_large_book" "_law_large_book" s_law_large_book dvs f fd) (T : Txt K mg cs) (X_law_draw : FX P w K mg base 2 "_law_draw" ["_law_hand_here", "_law_many"] (mf_law_draw cs)) (X_law_flat : FX P w K mg base 3 "_law_flat" ["_law_hand_here", "_law_states", "_law_calls", "_law_answers"] (mf_law_flat cs)) (X_law_ways : FX P w K mg base 1 "_law_ways" ["_law_rows"] (mf_law_ways cs)) : FnOk P w K mg base (L2.CX P w) 4 f fd ["_law_hand_here"] (spF K 1 (mf_law_large_book cs)) :=
  fn_of' N_law_large_book ["_law_hand_here"] 9 1 (m_law_large_book cs) rfl rfl Fn sc_law_large_book fun cdv A outer s H E hr => by
  have h : JB (cxOf (L2.CX P w) P w K mg base N_law_large_book "_law_large_book" (defScope s_law_large_book) f cdv A outer s H E) 1 (fun cls d _ H => E cls d H) (defBody s_law_large_book) _ := jb_cons (jst_set (i := 1) sc_law_large_book.nd (js_op op_addV f2_add (jo_s (js_int)) (jo_s (js_callX (takes_of rfl rfl rfl rfl) X_law_draw (hr.mono (by decide)) (jao_cons (jo_n 0 (pv 0)) (jao_cons (jo_s (js_int)) (jao_nil))) (lenO_cons (lenO_cons lenO_nil)))))) (jb_cons (jst_set (i := 2) sc_law_large_book.nd (js_op op_addV f2_add (jo_s (js_int)) (jo_s (js_callX (takes_of rfl rfl rfl rfl) X_law_draw (hr.mono (by decide)) (jao_cons (jo_n 0 (pv 0)) (jao_cons (jo_s (js_int)) (jao_nil))) (lenO_cons (lenO_cons lenO_nil)))))) (jb_cons (jst_set (i := 3) sc_law_large_book.nd (js_callX (takes_of rfl rfl rfl rfl) X_law_flat (hr.mono (by decide)) (jao_cons (jo_n 0 (pv 0)) (jao_cons (jo_s (js_n 1 (pv 1))) (jao_cons (jo_s (js_n 2 (pv 2))) (jao_cons (jo_s (js_int)) (jao_nil))))) (lenO_cons (lenO_cons (lenO_cons (lenO_cons lenO_nil)))))) (jb_cons (jst_if (jt_cmp (op_eqD (hu64 hr)) f2_eq (jo_s (js_callX (takes_of rfl rfl rfl rfl) X_law_draw (hr.mono (by decide)) (jao_cons (jo_n 0 (pv 0)) (jao_cons (jo_s (js_int)) (jao_nil))) (lenO_cons (lenO_cons lenO_nil)))) (jo_s (js_int)) (nomark _)) (jb_cons (jst_set (i := 4) sc_law_large_book.nd (js_op op_addV f2_add (jo_s (js_int)) (jo_s (js_callX (takes_of rfl rfl rfl rfl) X_law_draw (hr.mono (by decide)) (jao_cons (jo_n 0 (pv 0)) (jao_cons (jo_s (js_int)) (jao_nil))) (lenO_cons (lenO_cons lenO_nil)))))) (jb_one (jst_for (passes_of rfl) rfl (ji_range1 T.range (je_s (js_op op_mul2 f2_mul2 (jo_s (js_op op_mul2 f2_mul2 (jo_s (js_op op_mul2 f2_mul2 (jo_n 1 (pv 1)) (jo_n 2 (pv 2)))) (jo_s (js_int)))) (jo_n 1 (pv 1))))) (jg_n (i := 5) sc_law_large_book.nd) (jb_one (jst_if (jt_w (jw_or (jt_cmp op_gt f2_gt (jo_s (js_op op_mod f2_mod (jo_s (js_t1 call_int1 f1_int (jo_n 5 (pv 5)) T.int (by decide +kernel))) (jo_n 4 (pv 4)))) (jo_s (js_int)) (nomark _)) (jw_or1 (jt_cmp (op_eqD (hu64 hr)) f2_eq (jo_n 4 (pv 4)) (jo_s (js_int)) (nomark _))))) (jb_cons (jst_set (i := 6) sc_law_large_book.nd (js_op op_fdiv f2_div (jo_n 5 (pv 5)) (jo_n 1 (pv 1)))) (jb_one (jst_expr (js_app 3 (pv 3) (je_s (js_tup (ja_cons (je_s (js_op op_fdiv f2_div (jo_n 6 (pv 6)) (jo_s (js_op op_mul2 f2_mul2 (jo_s (js_int)) (jo_n 2 (pv 2)))))) (ja_cons (je_s (js_op op_mod f2_mod (jo_s (js_t1 call_int1 f1_int (jo_s (js_op op_fdiv f2_div (jo_n 6 (pv 6)) (jo_s (js_int)))) T.int (by decide +kernel))) (jo_n 2 (pv 2)))) (ja_cons (je_s (js_op op_mod f2_mod (jo_s (js_t1 call_int1 f1_int (jo_n 6 (pv 6)) T.int (by decide +kernel))) (jo_s (js_int)))) (ja_cons (je_s (js_op op_mod f2_mod (jo_s (js_t1 call_int1 f1_int (jo_n 5 (pv 5)) T.int (by decide +kernel))) (jo_n 1 (pv 1)))) (ja_nil))))))))))) (jb_nil)))))) (jb_one (jst_for (passes_of rfl) rfl (ji_range1 T.range (je_s (js_callX (takes_of rfl rfl rfl rfl) X_law_draw (hr.mono (by decide)) (jao_cons (jo_n 0 (pv 0)) (jao_cons (jo_s (js_int)) (jao_nil))) (lenO_cons (lenO_cons lenO_nil))))) (jg_n (i := 7) sc_law_large_book.nd) (jb_cons (jst_set (i := 8) sc_law_large_book.nd (js_callX (takes_of rfl rfl rfl rfl) X_law_draw (hr.mono (by decide)) (jao_cons (jo_n 0 (pv 0)) (jao_cons (jo_s (js_n 1 (pv 1))) (jao_nil))) (lenO_cons (lenO_cons lenO_nil)))) (jb_one (jst_expr (js_app 3 (pv 3) (je_s (js_tup (ja_cons (je_s (js_n 8 (pv 8))) (ja_cons (je_s (js_callX (takes_of rfl rfl rfl rfl) X_law_draw (hr.mono (by decide)) (jao_cons (jo_n 0 (pv 0)) (jao_cons (jo_s (js_n 2 (pv 2))) (jao_nil))) (lenO_cons (lenO_cons lenO_nil)))) (ja_cons (je_s (js_callX (takes_of rfl rfl rfl rfl) X_law_draw (hr.mono (by decide)) (jao_cons (jo_n 0 (pv 0)) (jao_cons (jo_s (js_int)) (jao_nil))) (lenO_cons (lenO_cons lenO_nil)))) (ja_cons (je_s (js_callX (takes_of rfl rfl rfl rfl) X_law_draw (hr.mono (by decide)) (jao_cons (jo_n 0 (pv 0)) (jao_cons (jo_s (js_n 1 (pv 1))) (jao_nil))) (lenO_cons (lenO_cons lenO_nil)))) (ja_nil)))))))))))))) (jb_one (jst_ret (js_tup (ja_cons (je_s (js_n 1 (pv 1))) (ja_cons (je_s (js_n 2 (pv 2))) (ja_cons (je_s (js_callX (takes_of rfl rfl rfl rfl) X_law_ways (hr.mono (by decide)) (jao_cons (jo_s (js_n 3 (pv 3))) (jao_nil)) (lenO_cons lenO_nil))) (ja_nil))))))))))
  exact h
theorem fn_law_entries {f : Addr} {fd : FuncData} {dvs : List V} (Fn : FunG K "_law_entries" "_law_entries" s_law_entries dvs f fd) (T : Txt K mg cs) (X_law_draw : FX P w K mg base 2 "_law_draw" ["_law_hand_here", "_law_many"] (mf_law_draw cs)) : FnOk P w K mg base (L2.CX P w) 3 f fd ["_law_hand_here", "_law_calls", "_law_most"] (spF K 3 (mf_law_entries cs)) :=
  fn_of' N_law_entries ["_law_hand_here", "_law_calls", "_law_most"] 5 3 (m_law_entries cs) rfl rfl Fn sc_law_entries fun cdv A outer s H E hr => by
  have h : JB (cxOf (L2.CX P w) P w K mg base N_law_entries "_law_entries" (defScope s_law_entries) f cdv A outer s H E) 3 (fun cls d _ H => E cls d H) (defBody s_law_entries) _ := jb_cons (jst_set (i := 3) sc_law_entries.nd (js_lst (ja_nil))) (jb_cons (jst_for (passes_of rfl) rfl (ji_range1 T.range (je_s (js_callX (takes_of rfl rfl rfl rfl) X_law_draw (hr.mono (by decide)) (jao_cons (jo_n 0 (pv 0)) (jao_cons (jo_s (js_op op_addV f2_add (jo_n 2 (pv 2)) (jo_s (js_int)))) (jao_nil))) (lenO_cons (lenO_cons lenO_nil))))) (jg_n (i := 4) sc_law_entries.nd) (jb_one (jst_expr (js_app 3 (pv 3) (je_s (js_tup (ja_cons (je_s (js_callX (takes_of rfl rfl rfl rfl) X_law_draw (hr.mono (by decide)) (jao_cons (jo_n 0 (pv 0)) (jao_cons (jo_s (js_int)) (jao_nil))) (lenO_cons (lenO_cons lenO_nil)))) (ja_cons (je_s (js_callX (takes_of rfl rfl rfl rfl) X_law_draw (hr.mono (by decide)) (jao_cons (jo_n 0 (pv 0)) (jao_cons (jo_s (js_n 1 (pv 1))) (jao_nil))) (lenO_cons (lenO_cons lenO_nil)))) (ja_cons (je_s (js_callX (takes_of rfl rfl rfl rfl) X_law_draw (hr.mono (by decide)) (jao_cons (jo_n 0 (pv 0)) (jao_cons (jo_s (js_int)) (jao_nil))) (lenO_cons (lenO_cons lenO_nil)))) (ja_nil)))))))))) (jb_one (jst_ret (js_v 3 (pv 3)))))
  exact h
theorem fn_law_couple_ways {f : Addr} {fd : FuncData} {dvs : List V} (Fn : FunG K "_law_couple_ways" "_law_couple_ways" s_law_couple_ways dvs f fd) (T : Txt K mg cs) : FnOk P w K mg base (L2.CX P w) 1 f fd ["_law_one", "_law_calls", "_law_ways_here", "_law_other", "_law_more", "_law_others"] (spF K 6 (mf_law_couple_ways cs)) :=
  fn_of' N_law_couple_ways ["_law_one", "_law_calls", "_law_ways_here", "_law_other", "_law_more", "_law_others"] 12 6 (m_law_couple_ways cs) rfl rfl Fn sc_law_couple_ways fun cdv A outer s H E hr => by
  have h : JB (cxOf (L2.CX P w) P w K mg base N_law_couple_ways "_law_couple_ways" (defScope s_law_couple_ways) f cdv A outer s H E) 6 (fun cls d _ H => E cls d H) (defBody s_law_couple_ways) _ := jb_cons (jst_set (i := 6) sc_law_couple_ways.nd (js_lst (ja_nil))) (jb_cons (jst_for (passes_of rfl) rfl (ji_seq (je_s (js_n 2 (pv 2)))) (jg_seq (n := 4) rfl (jgs_cons (jg_n (i := 7) sc_law_couple_ways.nd) (jgs_cons (jg_n (i := 8) sc_law_couple_ways.nd) (jgs_cons (jg_n (i := 9) sc_law_couple_ways.nd) (jgs_cons (jg_n (i := 10) sc_law_couple_ways.nd) (jgs_nil)))))) (jb_one (jst_for (passes_of rfl) rfl (ji_range1 T.range (je_s (js_n 3 (pv 3)))) (jg_n (i := 11) sc_law_couple_ways.nd) (jb_one (jst_expr (js_app 6 (pv 6) (je_s (js_tup (ja_cons (je_s (js_op op_addV f2_add (jo_s (js_op op_mul2 f2_mul2 (jo_n 7 (pv 7)) (jo_n 3 (pv 3)))) (jo_n 11 (pv 11)))) (ja_cons (je_s (js_n 8 (pv 8))) (ja_cons (je_s (js_n 9 (pv 9))) (ja_cons (je_s (js_op op_addV f2_add (jo_s (js_op op_mul2 f2_mul2 (jo_n 10 (pv 10)) (jo_n 3 (pv 3)))) (jo_n 11 (pv 11)))) (ja_nil))))))))))))) (jb_cons (jst_for (passes_of rfl) rfl (ji_seq (je_s (js_n 5 (pv 5)))) (jg_seq (n := 4) rfl (jgs_cons (jg_n (i := 7) sc_law_couple_ways.nd) (jgs_cons (jg_n (i := 8) sc_law_couple_ways.nd) (jgs_cons (jg_n (i := 9) sc_law_couple_ways.nd) (jgs_cons (jg_n (i := 10) sc_law_couple_ways.nd) (jgs_nil)))))) (jb_one (jst_for (passes_of rfl) rfl (ji_range1 T.range (je_s (js_n 0 (pv 0)))) (jg_n (i := 11) sc_law_couple_ways.nd) (jb_one (jst_expr (js_app 6 (pv 6) (je_s (js_tup (ja_cons (je_s (js_op op_addV f2_add (jo_s (js_op op_mul2 f2_mul2 (jo_n 11 (pv 11)) (jo_n 3 (pv 3)))) (jo_n 7 (pv 7)))) (ja_cons (je_s (js_op op_addV f2_add (jo_n 1 (pv 1)) (jo_n 8 (pv 8)))) (ja_cons (je_s (js_n 9 (pv 9))) (ja_cons (je_s (js_op op_addV f2_add (jo_s (js_op op_mul2 f2_mul2 (jo_n 11 (pv 11)) (jo_n 3 (pv 3)))) (jo_n 10 (pv 10)))) (ja_nil))))))))))))) (jb_one (jst_ret (js_t1 call_tuple_of f1_tuple (jo_s (js_b1 (cr_sortedV (hu100 hr)) f1_sorted (jo_n 6 (pv 6)) T.sorted (by decide +kernel))) T.tuple (by decide +kernel))))))
  exact h
theorem fn_law_small_book {f : Addr} {fd : FuncData} {dvs : List V} (Fn : FunG K "_law_small_book" "_law_small_book" s_law_small_book dvs f fd) (T : Txt K mg cs) (X_law_draw : FX P w K mg base 2 "_law_draw" ["_law_hand_here", "_law_many"] (mf_law_draw cs)) (X_law_flat : FX P w K mg base 3 "_law_flat" ["_law_hand_here", "_law_states", "_law_calls", "_law_answers"] (mf_law_flat cs)) (X_law_ways : FX P w K mg base 1 "_law_ways" ["_law_rows"] (mf_law_ways cs)) : FnOk P w K mg base (L2.CX P w) 4 f fd ["_law_hand_here", "_law_most", "_law_calls"] (spF K 3 (mf_law_small_book cs)) :=
  fn_of' N_law_small_book ["_law_hand_here", "_law_most", "_law_calls"] 7 3 (m_law_small_book cs) rfl rfl Fn sc_law_small_book fun cdv A outer s H E hr => by
  have h : JB (cxOf (L2.CX P w) P w K mg base N_law_small_book "_law_small_book" (defScope s_law_small_book) f cdv A outer s H E) 3 (fun cls d _ H => E cls d H) (defBody s_law_small_book) _ := jb_cons (jst_set (i := 3) sc_law_small_book.nd (js_op op_addV f2_add (jo_s (js_int)) (jo_s (js_callX (takes_of rfl rfl rfl rfl) X_law_draw (hr.mono (by decide)) (jao_cons (jo_n 0 (pv 0)) (jao_cons (jo_s (js_n 1 (pv 1))) (jao_nil))) (lenO_cons (lenO_cons lenO_nil)))))) (jb_cons (jst_set (i := 4) sc_law_small_book.nd (js_callX (takes_of rfl rfl rfl rfl) X_law_flat (hr.mono (by decide)) (jao_cons (jo_n 0 (pv 0)) (jao_cons (jo_s (js_n 3 (pv 3))) (jao_cons (jo_s (js_n 2 (pv 2))) (jao_cons (jo_s (js_int)) (jao_nil))))) (lenO_cons (lenO_cons (lenO_cons (lenO_cons lenO_nil)))))) (jb_cons (jst_for (passes_of rfl) rfl (ji_range1 T.range (je_s (js_callX (takes_of rfl rfl rfl rfl) X_law_draw (hr.mono (by decide)) (jao_cons (jo_n 0 (pv 0)) (jao_cons (jo_s (js_int)) (jao_nil))) (lenO_cons (lenO_cons lenO_nil))))) (jg_n (i := 5) sc_law_small_book.nd) (jb_cons (jst_set (i := 6) sc_law_small_book.nd (js_callX (takes_of rfl rfl rfl rfl) X_law_draw (hr.mono (by decide)) (jao_cons (jo_n 0 (pv 0)) (jao_cons (jo_s (js_n 3 (pv 3))) (jao_nil))) (lenO_cons (lenO_cons lenO_nil)))) (jb_one (jst_expr (js_app 4 (pv 4) (je_s (js_tup (ja_cons (je_s (js_n 6 (pv 6))) (ja_cons (je_s (js_callX (takes_of rfl rfl rfl rfl) X_law_draw (hr.mono (by decide)) (jao_cons (jo_n 0 (pv 0)) (jao_cons (jo_s (js_n 2 (pv 2))) (jao_nil))) (lenO_cons (lenO_cons lenO_nil)))) (ja_cons (je_s (js_callX (takes_of rfl rfl rfl rfl) X_law_draw (hr.mono (by decide)) (jao_cons (jo_n 0 (pv 0)) (jao_cons (jo_s (js_int)) (jao_nil))) (lenO_cons (lenO_cons lenO_nil)))) (ja_cons (je_s (js_callX (takes_of rfl rfl rfl rfl) X_law_draw (hr.mono (by decide)) (jao_cons (jo_n 0 (pv 0)) (jao_cons (jo_s (js_n 3 (pv 3))) (jao_nil))) (lenO_cons (lenO_cons lenO_nil)))) (ja_nil)))))))))))) (jb_one (jst_ret (js_tup (ja_cons (je_s (js_n 3 (pv 3))) (ja_cons (je_s (js_n 2 (pv 2))) (ja_cons (je_s (js_callX (takes_of rfl rfl rfl rfl) X_law_ways (hr.mono (by decide)) (jao_cons (jo_s (js_n 4 (pv 4))) (jao_nil)) (lenO_cons lenO_nil))) (ja_nil)))))))))
  exact h
theorem fn_law_two_books {f : Addr} {fd : FuncData} {dvs : List V} (Fn : FunG K "_law_two_books" "_law_two_books" s_law_two_books dvs f fd) (T : Txt K mg cs) (X_law_draw : FX P w K mg base 2 "_law_draw" ["_law_hand_here", "_law_many"] (mf_law_draw cs)) (X_law_small_book : FX P w K mg base 4 "_law_small_book" ["_law_hand_here", "_law_most", "_law_calls"] (mf_law_small_book cs)) : FnOk P w K mg base (L2.CX P w) 5 f fd ["_law_hand_here"] (spF K 1 (mf_law_two_books cs)) :=
  fn_of' N_law_two_books ["_law_hand_here"] 4 1 (m_law_two_books cs) rfl rfl Fn sc_law_two_books fun cdv A outer s H E hr => by
  have h : JB (cxOf (L2.CX P w) P w K mg base N_law_two_books "_law_two_books" (defScope s_law_two_books) f cdv A outer s H E) 1 (fun cls d _ H => E cls d H) (defBody s_law_two_books) _ := jb_cons (jst_set (i := 1) sc_law_two_books.nd (js_op op_addV f2_add (jo_s (js_int)) (jo_s (js_callX (takes_of rfl rfl rfl rfl) X_law_draw (hr.mono (by decide)) (jao_cons (jo_n 0 (pv 0)) (jao_cons (jo_s (js_int)) (jao_nil))) (lenO_cons (lenO_cons lenO_nil)))))) (jb_cons (jst_set (i := 2) sc_law_two_books.nd (js_op op_addV f2_add (jo_s (js_int)) (jo_s (js_callX (takes_of rfl rfl rfl rfl) X_law_draw (hr.mono (by decide)) (jao_cons (jo_n 0 (pv 0)) (jao_cons (jo_s (js_op op_sub f2_sub (jo_s (js_int)) (jo_n 1 (pv 1)))) (jao_nil))) (lenO_cons (lenO_cons lenO_nil)))))) (jb_cons (jst_set (i := 3) sc_law_two_books.nd (js_callX (takes_of rfl rfl rfl rfl) X_law_small_book (hr.mono (by decide)) (jao_cons (jo_n 0 (pv 0)) (jao_cons (jo_s (js_int)) (jao_cons (jo_s (js_n 1 (pv 1))) (jao_nil)))) (lenO_cons (lenO_cons (lenO_cons lenO_nil))))) (jb_one (jst_ret (js_tup (ja_cons (je_s (js_n 3 (pv 3))) (ja_cons (je_s (js_callX (takes_of rfl rfl rfl rfl) X_law_small_book (hr.mono (by decide)) (jao_cons (jo_n 0 (pv 0)) (jao_cons (jo_s (js_op op_fdiv f2_div (jo_s (js_int)) (jo_s (js_ix ix_seq f2_ix (jo_n 3 (pv 3)) (jo_s (js_int)))))) (jao_cons (jo_s (js_n 2 (pv 2))) (jao_nil)))) (lenO_cons (lenO_cons (lenO_cons lenO_nil))))) (ja_nil))))))))
  exact h
theorem fn_law_checked {f : Addr} {fd : FuncData} {dvs : List V} (Fn : FunG K "_law_checked" "_law_checked" s_law_checked dvs f fd) (T : Txt K mg cs) (X_check_history : FX P w K mg base 3 "check_history" ["book", "history"] (mf_check_history cs)) : FnOk P w K mg base (L2.CX P w) 4 f fd ["_law_book", "_law_rows"] (spF K 2 (mf_law_checked cs)) :=
  fn_of' N_law_checked ["_law_book", "_law_rows"] 3 2 (m_law_checked cs) rfl rfl Fn sc_law_checked fun cdv A outer s H E hr => by
  have h : JB (cxOf (L2.CX P w) P w K mg base N_law_checked "_law_checked" (defScope s_law_checked) f cdv A outer s H E) 2 (fun cls d _ H => E cls d H) (defBody s_law_checked) _ := jb_one (jst_tryN rfl rfl (takes_of rfl rfl rfl rfl) (fun W1 pn1 xe1 tk1 pa1 => jb_one (jst_ret (js_callX tk1 X_check_history (hr.mono (by decide)) (jao_cons (jo_s (js_n 0 (pv 0))) (jao_cons (jo_s (js_n 1 (pv 1))) (jao_nil))) (lenO_cons (lenO_cons lenO_nil))))) (jn_named (i := 2) ⟨rfl, by decide, .inl T.xm_BadHistory⟩ (fun A b h => T.exb A cs.BadHistory b h) sc_law_checked.nd (by decide) (fun a oe cls d pn hz hf => jx_retL (jxa_cons (jx_str) (jxa_cons (jx_fld (Cs := [cs.BadHistory]) (fun C hC => by simp only [List.mem_cons, List.not_mem_nil, or_false] at hC; rcases hC with rfl <;> first | exact ⟨T.xf_BadHistory, T.nx_BadHistory_index⟩) hz hf (pv 2)) (jxa_nil)))) (jn_nil)))
  exact h
theorem fn_law_due_check {f : Addr} {fd : FuncData} {dvs : List V} (Fn : FunG K "_law_due_check" "_law_due_check" s_law_due_check dvs f fd) (T : Txt K mg cs) (X_law_row : FX P w K mg base 1 "_law_row" ["_law_thing"] (mf_law_row cs)) (X_law_whole : FX P w K mg base 1 "_law_whole" ["_law_thing", "_law_low", "_law_high"] (mf_law_whole cs)) : FnOk P w K mg base (L2.CX P w) 2 f fd ["_law_calls", "_law_rows"] (spF K 2 (mf_law_due_check cs)) :=
  fn_of' N_law_due_check ["_law_calls", "_law_rows"] 4 2 (m_law_due_check cs) rfl rfl Fn sc_law_due_check fun cdv A outer s H E hr => by
  have h : JB (cxOf (L2.CX P w) P w K mg base N_law_due_check "_law_due_check" (defScope s_law_due_check) f cdv A outer s H E) 2 (fun cls d _ H => E cls d H) (defBody s_law_due_check) _ := jb_cons (jst_if (jt_not (jt_val (js_callX (takes_of rfl rfl rfl rfl) X_law_row (hr.mono (by decide)) (jao_cons (jo_s (js_n 1 (pv 1))) (jao_nil)) (lenO_cons lenO_nil)))) (jb_one (jst_ret (js_lst (ja_cons (je_s (js_str)) (ja_cons (je_s (js_int)) (ja_nil)))))) (jb_nil)) (jb_cons (jst_if (jt_cmp op_gt f2_gt (jo_s (js_b1 cr_lenU f1_lenU (jo_n 1 (pv 1)) T.len (by decide +kernel))) (jo_s (js_int)) (nomark _)) (jb_one (jst_ret (js_lst (ja_cons (je_s (js_str)) (ja_cons (je_s (js_b1 cr_lenU f1_lenU (jo_n 1 (pv 1)) T.len (by decide +kernel))) (ja_nil)))))) (jb_nil)) (jb_cons (jst_for (passes_of rfl) rfl (ji_range1 T.range (je_s (js_b1 cr_lenU f1_lenU (jo_n 1 (pv 1)) T.len (by decide +kernel)))) (jg_n (i := 2) sc_law_due_check.nd) (jb_cons (jst_set (i := 3) sc_law_due_check.nd (js_ix ix_seq f2_ix (jo_n 1 (pv 1)) (jo_n 2 (pv 2)))) (jb_cons (jst_if (jt_w (jw_or (jt_not (jt_val (js_callX (takes_of rfl rfl rfl rfl) X_law_row (hr.mono (by decide)) (jao_cons (jo_s (js_n 3 (pv 3))) (jao_nil)) (lenO_cons lenO_nil)))) (jw_or (jt_cmp (op_neD (hu64 hr)) f2_ne (jo_s (js_b1 cr_lenU f1_lenU (jo_n 3 (pv 3)) T.len (by decide +kernel))) (jo_s (js_int)) (nomark _)) (jw_or1 (jt_not (jt_val (js_callX (takes_of rfl rfl rfl rfl) X_law_whole (hr.mono (by decide)) (jao_cons (jo_s (js_ix ix_seq f2_ix (jo_n 3 (pv 3)) (jo_s (js_int)))) (jao_cons (jo_s (js_int)) (jao_cons (jo_s (js_int)) (jao_nil)))) (lenO_cons (lenO_cons (lenO_cons lenO_nil)))))))))) (jb_one (jst_ret (js_lst (ja_cons (je_s (js_str)) (ja_cons (je_s (js_n 2 (pv 2))) (ja_nil)))))) (jb_nil)) (jb_one (jst_if (jt_w (jw_or (jt_not (jt_val (js_callX (takes_of rfl rfl rfl rfl) X_law_whole (hr.mono (by decide)) (jao_cons (jo_s (js_ix ix_seq f2_ix (jo_n 3 (pv 3)) (jo_s (js_int)))) (jao_cons (jo_s (js_int)) (jao_cons (jo_s (js_op op_sub f2_sub (jo_n 0 (pv 0)) (jo_s (js_int)))) (jao_nil)))) (lenO_cons (lenO_cons (lenO_cons lenO_nil)))))) (jw_or1 (jt_not (jt_val (js_callX (takes_of rfl rfl rfl rfl) X_law_whole (hr.mono (by decide)) (jao_cons (jo_s (js_ix ix_seq f2_ix (jo_n 3 (pv 3)) (jo_s (js_int)))) (jao_cons (jo_s (js_int)) (jao_cons (jo_s (js_int)) (jao_nil)))) (lenO_cons (lenO_cons (lenO_cons lenO_nil))))))))) (jb_one (jst_ret (js_lst (ja_cons (je_s (js_str)) (ja_cons (je_s (js_n 2 (pv 2))) (ja_nil)))))) (jb_nil)))))) (jb_one (jst_ret (js_t1 call_tuple_of f1_tuple (jo_s (js_comp (own := [("_law_one", 3)]) rfl sc_law_due_check.nd (ji_seq (je_s (js_n 1 (pv 1)))) (blkOk_by (own := [("_law_one", 3)]) (N := N_law_due_check) (sc := defScope s_law_due_check) (by decide +kernel)) (fun _ _ _ _ _ => jg_n (i := 3) sc_law_due_check.nd) (fun _ _ _ _ _ => jts_nil) (fun _ _ _ _ _ => je_s (js_t1 call_tuple_of f1_tuple (jo_n 3 (pv 3)) T.tuple (by decide +kernel))))) T.tuple (by decide +kernel))))))
  exact h
theorem fn_law_same {f : Addr} {fd : FuncData} {dvs : List V} (Fn : FunG K "_law_same" "_law_same" s_law_same dvs f fd) (T : Txt K mg cs) (X_law_exact : FX P w K mg base 7 "_law_exact" ["_law_told", "_law_due"] (mf_law_exact cs 6)) : FnOk P w K mg base (L2.CX P w) 8 f fd ["_law_told", "_law_due"] (spF K 2 (mf_law_same cs)) :=
  fn_of' N_law_same ["_law_told", "_law_due"] 2 2 (m_law_same cs) rfl rfl Fn sc_law_same fun cdv A outer s H E hr => by
  have h : JB (cxOf (L2.CX P w) P w K mg base N_law_same "_law_same" (defScope s_law_same) f cdv A outer s H E) 2 (fun cls d _ H => E cls d H) (defBody s_law_same) _ := jb_cons (jst_if (jt_val (js_isi (jo_n 1 (pv 1)) (bt_name .list T.list (by decide +kernel)) T.isinstance)) (jb_one (jst_ret (js_and (js_isi (jo_n 0 (pv 0)) (bt_name .list T.list (by decide +kernel)) T.isinstance) (js_one (js_cmp (op_eqD (hu64 hr)) f2_eq (jo_n 0 (pv 0)) (jo_n 1 (pv 1)) (nomark _)))))) (jb_nil)) (jb_one (jst_ret (js_callX (takes_of rfl rfl rfl rfl) X_law_exact (hr.mono (by decide)) (jao_cons (jo_s (js_n 0 (pv 0))) (jao_cons (jo_s (js_n 1 (pv 1))) (jao_nil))) (lenO_cons (lenO_cons lenO_nil)))))
  exact h
theorem fn_law_odd_entry {f : Addr} {fd : FuncData} {dvs : List V} (Fn : FunG K "_law_odd_entry" "_law_odd_entry" s_law_odd_entry dvs f fd) (T : Txt K mg cs) (X_law_draw : FX P w K mg base 2 "_law_draw" ["_law_hand_here", "_law_many"] (mf_law_draw cs)) (X_law_large : FX P w K mg base 3 "_law_large" ["_law_hand_here"] (mf_law_large cs)) : FnOk P w K mg base (L2.CX P w) 4 f fd ["_law_hand_here", "_law_calls"] (spF K 2 (mf_law_odd_entry cs)) :=
  fn_of' N_law_odd_entry ["_law_hand_here", "_law_calls"] 7 2 (m_law_odd_entry cs) rfl rfl Fn sc_law_odd_entry fun cdv A outer s H E hr => by
  have h : JB (cxOf (L2.CX P w) P w K mg base N_law_odd_entry "_law_odd_entry" (defScope s_law_odd_entry) f cdv A outer s H E) 2 (fun cls d _ H => E cls d H) (defBody s_law_odd_entry) _ := jb_cons (jst_set (i := 2) sc_law_odd_entry.nd (js_tup (ja_cons (je_s (js_callX (takes_of rfl rfl rfl rfl) X_law_draw (hr.mono (by decide)) (jao_cons (jo_n 0 (pv 0)) (jao_cons (jo_s (js_int)) (jao_nil))) (lenO_cons (lenO_cons lenO_nil)))) (ja_cons (je_s (js_callX (takes_of rfl rfl rfl rfl) X_law_draw (hr.mono (by decide)) (jao_cons (jo_n 0 (pv 0)) (jao_cons (jo_s (js_n 1 (pv 1))) (jao_nil))) (lenO_cons (lenO_cons lenO_nil)))) (ja_cons (je_s (js_callX (takes_of rfl rfl rfl rfl) X_law_draw (hr.mono (by decide)) (jao_cons (jo_n 0 (pv 0)) (jao_cons (jo_s (js_int)) (jao_nil))) (lenO_cons (lenO_cons lenO_nil)))) (ja_nil)))))) (jb_cons (jst_set (i := 3) sc_law_odd_entry.nd (js_callX (takes_of rfl rfl rfl rfl) X_law_draw (hr.mono (by decide)) (jao_cons (jo_n 0 (pv 0)) (jao_cons (jo_s (js_int)) (jao_nil))) (lenO_cons (lenO_cons lenO_nil)))) (jb_cons (jst_if (jt_cmp (op_eqD (hu64 hr)) f2_eq (jo_n 3 (pv 3)) (jo_s (js_int)) (nomark _)) (jb_one (jst_ret (js_ix ix_seq f2_ix (jo_s (js_lst (ja_cons (je_s (js_non)) (ja_cons (je_s (js_int)) (ja_cons (je_s (js_str)) (ja_cons (je_s (js_slice (jo_n 2 (pv 2)) (jp_none) (jp_some (je_s (js_int))))) (ja_cons (je_s (js_op op_addV f2_add (jo_n 2 (pv 2)) (jo_s (js_tup (ja_cons (je_s (js_int)) (ja_nil)))))) (ja_cons (je_s (js_tup (ja_nil))) (ja_nil))))))))) (jo_s (js_callX (takes_of rfl rfl rfl rfl) X_law_draw (hr.mono (by decide)) (jao_cons (jo_n 0 (pv 0)) (jao_cons (jo_s (js_int)) (jao_nil))) (lenO_cons (lenO_cons lenO_nil))))))) (jb_nil)) (jb_cons (jst_set (i := 4) sc_law_odd_entry.nd (js_callX (takes_of rfl rfl rfl rfl) X_law_draw (hr.mono (by decide)) (jao_cons (jo_n 0 (pv 0)) (jao_cons (jo_s (js_int)) (jao_nil))) (lenO_cons (lenO_cons lenO_nil)))) (jb_cons (jst_set (i := 5) sc_law_odd_entry.nd (js_ix ix_seq f2_ix (jo_s (js_tup (ja_cons (je_s (js_int)) (ja_cons (je_s (js_n 1 (pv 1))) (ja_cons (je_s (js_int)) (ja_nil)))))) (jo_n 4 (pv 4)))) (jb_cons (jst_set (i := 6) sc_law_odd_entry.nd (js_ix ix_seq f2_ix (jo_s (js_lst (ja_cons (je_s (js_n 5 (pv 5))) (ja_cons (je_s (js_neg (jo_s (js_int)))) (ja_cons (je_s (js_non)) (ja_cons (je_s (js_bl)) (ja_cons (je_s (js_bl)) (ja_cons (je_s (js_op op_addV f2_add (jo_n 5 (pv 5)) (jo_s (js_callX (takes_of rfl rfl rfl rfl) X_law_large (hr.mono (by decide)) (jao_cons (jo_n 0 (pv 0)) (jao_nil)) (lenO_cons lenO_nil))))) (ja_nil))))))))) (jo_s (js_callX (takes_of rfl rfl rfl rfl) X_law_draw (hr.mono (by decide)) (jao_cons (jo_n 0 (pv 0)) (jao_cons (jo_s (js_int)) (jao_nil))) (lenO_cons (lenO_cons lenO_nil)))))) (jb_one (jst_ret (js_op op_addV f2_add (jo_s (js_op op_addV f2_add (jo_s (js_slice (jo_n 2 (pv 2)) (jp_none) (jp_some (je_s (js_n 4 (pv 4)))))) (jo_s (js_tup (ja_cons (je_s (js_n 6 (pv 6))) (ja_nil)))))) (jo_s (js_slice (jo_n 2 (pv 2)) (jp_some (je_s (js_op op_addV f2_add (jo_n 4 (pv 4)) (jo_s (js_int))))) (jp_none)))))))))))
  exact h
theorem fn_law_spoilt_history {f : Addr} {fd : FuncData} {dvs : List V} (Fn : FunG K "_law_spoilt_history" "_law_spoilt_history" s_law_spoilt_history dvs f fd) (T : Txt K mg cs) (X_law_draw : FX P w K mg base 2 "_law_draw" ["_law_hand_here", "_law_many"] (mf_law_draw cs)) (X_law_odd_entry : FX P w K mg base 4 "_law_odd_entry" ["_law_hand_here", "_law_calls"] (mf_law_odd_entry cs)) : FnOk P w K mg base (L2.CX P w) 5 f fd ["_law_hand_here", "_law_calls", "_law_rows"] (spF K 3 (mf_law_spoilt_history cs)) :=
  fn_of' N_law_spoilt_history ["_law_hand_here", "_law_calls", "_law_rows"] 6 3 (m_law_spoilt_history cs) rfl rfl Fn sc_law_spoilt_history fun cdv A outer s H E hr => by
  have h : JB (cxOf (L2.CX P w) P w K mg base N_law_spoilt_history "_law_spoilt_history" (defScope s_law_spoilt_history) f cdv A outer s H E) 3 (fun cls d _ H => E cls d H) (defBody s_law_spoilt_history) _ := jb_cons (jst_set (i := 3) sc_law_spoilt_history.nd (js_callX (takes_of rfl rfl rfl rfl) X_law_draw (hr.mono (by decide)) (jao_cons (jo_n 0 (pv 0)) (jao_cons (jo_s (js_int)) (jao_nil))) (lenO_cons (lenO_cons lenO_nil)))) (jb_cons (jst_set (i := 4) sc_law_spoilt_history.nd (js_callX (takes_of rfl rfl rfl rfl) X_law_draw (hr.mono (by decide)) (jao_cons (jo_n 0 (pv 0)) (jao_cons (jo_s (js_op op_addV f2_add (jo_s (js_b1 cr_lenU f1_lenU (jo_n 2 (pv 2)) T.len (by decide +kernel))) (jo_s (js_int)))) (jao_nil))) (lenO_cons (lenO_cons lenO_nil)))) (jb_cons (jst_if (jt_cmp (op_eqD (hu64 hr)) f2_eq (jo_n 3 (pv 3)) (jo_s (js_int)) (nomark _)) (jb_one (jst_ret (js_ix ix_seq f2_ix (jo_s (js_lst (ja_cons (je_s (js_non)) (ja_cons (je_s (js_int)) (ja_cons (je_s (js_str)) (ja_cons (je_s (js_dk0)) (ja_nil))))))) (jo_s (js_callX (takes_of rfl rfl rfl rfl) X_law_draw (hr.mono (by decide)) (jao_cons (jo_n 0 (pv 0)) (jao_cons (jo_s (js_int)) (jao_nil))) (lenO_cons (lenO_cons lenO_nil))))))) (jb_nil)) (jb_cons (jst_if (jt_w (jw_and (jt_cmp (op_eqD (hu64 hr)) f2_eq (jo_n 3 (pv 3)) (jo_s (js_int)) (nomark _)) (jw_and1 (jt_cmp (op_eqD (hu64 hr)) f2_eq (jo_s (js_callX (takes_of rfl rfl rfl rfl) X_law_draw (hr.mono (by decide)) (jao_cons (jo_n 0 (pv 0)) (jao_cons (jo_s (js_int)) (jao_nil))) (lenO_cons (lenO_cons lenO_nil)))) (jo_s (js_int)) (nomark _))))) (jb_cons (jst_set (i := 5) sc_law_spoilt_history.nd (js_op op_addV f2_add (jo_s (js_op op_mul2 f2_mul2 (jo_s (js_lst (ja_cons (je_s (js_tup (ja_cons (je_s (js_int)) (ja_cons (je_s (js_int)) (ja_cons (je_s (js_int)) (ja_nil)))))) (ja_nil)))) (jo_s (js_op op_sub f2_sub (jo_s (js_op op_addV f2_add (jo_s (js_int)) (jo_s (js_callX (takes_of rfl rfl rfl rfl) X_law_draw (hr.mono (by decide)) (jao_cons (jo_n 0 (pv 0)) (jao_cons (jo_s (js_int)) (jao_nil))) (lenO_cons (lenO_cons lenO_nil)))))) (jo_s (js_b1 cr_lenU f1_lenU (jo_n 2 (pv 2)) T.len (by decide +kernel))))))) (jo_n 2 (pv 2)))) (jb_cons (jst_if (jt_cmp (op_eqD (hu64 hr)) f2_eq (jo_s (js_callX (takes_of rfl rfl rfl rfl) X_law_draw (hr.mono (by decide)) (jao_cons (jo_n 0 (pv 0)) (jao_cons (jo_s (js_int)) (jao_nil))) (lenO_cons (lenO_cons lenO_nil)))) (jo_s (js_int)) (nomark _)) (jb_one (jst_setIx 5 (pv 5) (je_s (js_int)) (je_s (js_non)))) (jb_nil)) (jb_one (jst_ret (js_v 5 (pv 5)))))) (jb_nil)) (jb_one (jst_ret (js_op op_addV f2_add (jo_s (js_op op_addV f2_add (jo_s (js_slice (jo_n 2 (pv 2)) (jp_none) (jp_some (je_s (js_n 4 (pv 4)))))) (jo_s (js_lst (ja_cons (je_s (js_callX (takes_of rfl rfl rfl rfl) X_law_odd_entry (hr.mono (by decide)) (jao_cons (jo_n 0 (pv 0)) (jao_cons (jo_s (js_n 1 (pv 1))) (jao_nil))) (lenO_cons (lenO_cons lenO_nil)))) (ja_nil)))))) (jo_s (js_slice (jo_n 2 (pv 2)) (jp_some (je_s (js_n 4 (pv 4)))) (jp_none)))))))))
  exact h
theorem fn_law_parts_told {f : Addr} {fd : FuncData} {dvs : List V} (Fn : FunG K "_law_parts_told" "_law_parts_told" s_law_parts_told dvs f fd) (T : Txt K mg cs) (X_law_exact : FX P w K mg base 7 "_law_exact" ["_law_told", "_law_due"] (mf_law_exact cs 6)) (X_calls_of : FX P w K mg base 1 "calls_of" ["history"] (mf_calls_of cs)) (X_asks_made : FX P w K mg base 1 "asks_made" ["history"] (mf_asks_made cs)) (X_hands_of : FX P w K mg base 1 "hands_of" ["history"] (mf_hands_of cs)) (X_part_of : FX P w K mg base 1 "part_of" ["history", "hand"] (mf_part_of cs)) : FnOk P w K mg base (L2.CX P w) 8 f fd ["_law_rows"] (spF K 1 (mf_law_parts_told cs)) :=
  fn_of' N_law_parts_told ["_law_rows"] 4 1 (m_law_parts_told cs) rfl rfl Fn sc_law_parts_told fun cdv A outer s H E hr => by
  have h : JB (cxOf (L2.CX P w) P w K mg base N_law_parts_told "_law_parts_told" (defScope s_law_parts_told) f cdv A outer s H E) 1 (fun cls d _ H => E cls d H) (defBody s_law_parts_told) _ := jb_cons (jst_if (jt_not (jt_val (js_callX (takes_of rfl rfl rfl rfl) X_law_exact (hr.mono (by decide)) (jao_cons (jo_s (js_callX (takes_of rfl rfl rfl rfl) X_calls_of (hr.mono (by decide)) (jao_cons (jo_s (js_n 0 (pv 0))) (jao_nil)) (lenO_cons lenO_nil))) (jao_cons (jo_s (js_t1 call_tuple_of f1_tuple (jo_s (js_comp (own := [("_law_one", 3)]) rfl sc_law_parts_told.nd (ji_seq (je_s (js_n 0 (pv 0)))) (blkOk_by (own := [("_law_one", 3)]) (N := N_law_parts_told) (sc := defScope s_law_parts_told) (by decide +kernel)) (fun _ _ _ _ _ => jg_n (i := 3) sc_law_parts_told.nd) (fun _ _ _ _ _ => jts_nil) (fun _ _ _ _ _ => je_s (js_tup (ja_cons (je_s (js_ix ix_seq f2_ix (jo_n 3 (pv 3)) (jo_s (js_int)))) (ja_cons (je_s (js_ix ix_seq f2_ix (jo_n 3 (pv 3)) (jo_s (js_int)))) (ja_nil))))))) T.tuple (by decide +kernel))) (jao_nil))) (lenO_cons (lenO_cons lenO_nil))))) (jb_one (jst_ret (js_bl))) (jb_nil)) (jb_cons (jst_if (jt_not (jt_val (js_callX (takes_of rfl rfl rfl rfl) X_law_exact (hr.mono (by decide)) (jao_cons (jo_s (js_callX (takes_of rfl rfl rfl rfl) X_asks_made (hr.mono (by decide)) (jao_cons (jo_s (js_n 0 (pv 0))) (jao_nil)) (lenO_cons lenO_nil))) (jao_cons (jo_s (js_t1 call_tuple_of f1_tuple (jo_s (js_comp (own := [("_law_one", 3)]) rfl sc_law_parts_told.nd (ji_seq (je_s (js_n 0 (pv 0)))) (blkOk_by (own := [("_law_one", 3)]) (N := N_law_parts_told) (sc := defScope s_law_parts_told) (by decide +kernel)) (fun _ _ _ _ _ => jg_n (i := 3) sc_law_parts_told.nd) (fun _ _ _ _ _ => jts_nil) (fun _ _ _ _ _ => je_s (js_tup (ja_cons (je_s (js_ix ix_seq f2_ix (jo_n 3 (pv 3)) (jo_s (js_int)))) (ja_cons (je_s (js_ix ix_seq f2_ix (jo_n 3 (pv 3)) (jo_s (js_int)))) (ja_nil))))))) T.tuple (by decide +kernel))) (jao_nil))) (lenO_cons (lenO_cons lenO_nil))))) (jb_one (jst_ret (js_bl))) (jb_nil)) (jb_cons (jst_comp (i := 1) (own := [("_law_k", 2)]) rfl sc_law_parts_told.nd (sw_true rfl rfl rfl (by decide +kernel)) (ji_range1 T.range (je_s (js_int))) (blkOk_by (own := [("_law_k", 2)]) (N := N_law_parts_told) (sc := defScope s_law_parts_told) (by decide +kernel)) (fun _ _ _ _ _ => jg_n (i := 2) sc_law_parts_told.nd) (fun _ _ _ _ _ => jts_one (jt_cmp (op_neD (hu64 hr)) f2_ne (jo_s (js_comp (own := [("_law_one", 3)]) rfl sc_law_parts_told.nd (ji_seq (je_s (js_n 0 (pv 0)))) (by exact blkOk_by (own := [("_law_one", 3)]) (N := N_law_parts_told) rfl) (fun _ _ _ _ _ => jg_n (i := 3) sc_law_parts_told.nd) (fun _ _ _ _ _ => jts_one (jt_cmp (op_eqD (hu64 hr)) f2_eq (jo_s (js_ix ix_seq f2_ix (jo_n 3 (pv 3)) (jo_s (js_int)))) (jo_n 2 (pv 2)) (nomark _))) (fun _ _ _ _ _ => je_s (js_n 3 (pv 3))))) (jo_s (js_lst (ja_nil))) (nomark _))) (fun _ _ _ _ _ => je_s (js_n 2 (pv 2)))) (jb_cons (jst_if (jt_not (jt_val (js_callX (takes_of rfl rfl rfl rfl) X_law_exact (hr.mono (by decide)) (jao_cons (jo_s (js_callX (takes_of rfl rfl rfl rfl) X_hands_of (hr.mono (by decide)) (jao_cons (jo_s (js_n 0 (pv 0))) (jao_nil)) (lenO_cons lenO_nil))) (jao_cons (jo_s (js_t1 call_tuple_of f1_tuple (jo_n 1 (pv 1)) T.tuple (by decide +kernel))) (jao_nil))) (lenO_cons (lenO_cons lenO_nil))))) (jb_one (jst_ret (js_bl))) (jb_nil)) (jb_cons (jst_for (passes_of rfl) rfl (ji_range1 T.range (je_s (js_int))) (jg_n (i := 2) sc_law_parts_told.nd) (jb_one (jst_if (jt_not (jt_val (js_callX (takes_of rfl rfl rfl rfl) X_law_exact (hr.mono (by decide)) (jao_cons (jo_s (js_callX (takes_of rfl rfl rfl rfl) X_part_of (hr.mono (by decide)) (jao_cons (jo_s (js_n 0 (pv 0))) (jao_cons (jo_s (js_n 2 (pv 2))) (jao_nil))) (lenO_cons (lenO_cons lenO_nil)))) (jao_cons (jo_s (js_t1 call_tuple_of f1_tuple (jo_s (js_comp (own := [("_law_one", 3)]) rfl sc_law_parts_told.nd (ji_seq (je_s (js_n 0 (pv 0)))) (blkOk_by (own := [("_law_one", 3)]) (N := N_law_parts_told) (sc := defScope s_law_parts_told) (by decide +kernel)) (fun _ _ _ _ _ => jg_n (i := 3) sc_law_parts_told.nd) (fun _ _ _ _ _ => jts_one (jt_cmp (op_eqD (hu64 hr)) f2_eq (jo_s (js_ix ix_seq f2_ix (jo_n 3 (pv 3)) (jo_s (js_int)))) (jo_n 2 (pv 2)) (nomark _))) (fun _ _ _ _ _ => je_s (js_t1 call_tuple_of f1_tuple (jo_n 3 (pv 3)) T.tuple (by decide +kernel))))) T.tuple (by decide +kernel))) (jao_nil))) (lenO_cons (lenO_cons lenO_nil))))) (jb_one (jst_ret (js_bl))) (jb_nil)))) (jb_one (jst_ret (js_bl)))))))
  exact h
theorem fn_law_beside {f : Addr} {fd : FuncData} {dvs : List V} (Fn : FunG K "_law_beside" "_law_beside" s_law_beside dvs f fd) (T : Txt K mg cs) (X_beside : FX P w K mg base 6 "beside" ["one", "other"] (mf_beside cs)) : FnOk P w K mg base (L2.CX P w) 7 f fd ["_law_one", "_law_other"] (spF K 2 (mf_law_beside cs)) :=
  fn_of' N_law_beside ["_law_one", "_law_other"] 4 2 (m_law_beside cs) rfl rfl Fn sc_law_beside fun cdv A outer s H E hr => by
  have h : JB (cxOf (L2.CX P w) P w K mg base N_law_beside "_law_beside" (defScope s_law_beside) f cdv A outer s H E) 2 (fun cls d _ H => E cls d H) (defBody s_law_beside) _ := jb_cons (jst_tryN rfl rfl (takes_of rfl rfl rfl rfl) (fun W1 pn1 xe1 tk1 pa1 => jb_one (jst_set (i := 2) sc_law_beside.nd (js_callX tk1 X_beside (hr.mono (by decide)) (jao_cons (jo_s (js_n 0 (pv 0))) (jao_cons (jo_s (js_n 1 (pv 1))) (jao_nil))) (lenO_cons (lenO_cons lenO_nil))))) (jn_named (i := 3) ⟨rfl, by decide, .inl T.xm_TooMany⟩ (fun A b h => T.exb A cs.TooMany b h) sc_law_beside.nd (by decide) (fun a oe cls d pn hz hf => jx_ret (jx_fld (Cs := [cs.TooMany]) (fun C hC => by simp only [List.mem_cons, List.not_mem_nil, or_false] at hC; rcases hC with rfl <;> first | exact ⟨T.xf_TooMany, T.nx_TooMany_most⟩) hz hf (pv 3))) (jn_nil))) (jb_one (jst_ret (js_tup (ja_cons (je_s (js_fld T.c_Book T.n_Book_states (jo_n 2 (pv 2)))) (ja_cons (je_s (js_fld T.c_Book T.n_Book_calls (jo_n 2 (pv 2)))) (ja_cons (je_s (js_fld T.c_Book T.n_Book_ways (jo_n 2 (pv 2)))) (ja_nil)))))))
  exact h
theorem fn_law_beside_refused {f : Addr} {fd : FuncData} {dvs : List V} (Fn : FunG K "_law_beside_refused" "_law_beside_refused" s_law_beside_refused dvs f fd) (T : Txt K mg cs) (X_parted_history : FX P w K mg base 7 "parted_history" ["one", "other", "history"] (mf_parted_history cs)) : FnOk P w K mg base (L2.CX P w) 8 f fd ["_law_one", "_law_other", "_law_rows"] (spF K 3 (mf_law_beside_refused cs)) :=
  fn_of' N_law_beside_refused ["_law_one", "_law_other", "_law_rows"] 4 3 (m_law_beside_refused cs) rfl rfl Fn sc_law_beside_refused fun cdv A outer s H E hr => by
  have h : JB (cxOf (L2.CX P w) P w K mg base N_law_beside_refused "_law_beside_refused" (defScope s_law_beside_refused) f cdv A outer s H E) 3 (fun cls d _ H => E cls d H) (defBody s_law_beside_refused) _ := jb_cons (jst_tryN rfl rfl (takes_of rfl rfl rfl rfl) (fun W1 pn1 xe1 tk1 pa1 => jb_one (jst_expr (js_callX tk1 X_parted_history (hr.mono (by decide)) (jao_cons (jo_s (js_n 0 (pv 0))) (jao_cons (jo_s (js_n 1 (pv 1))) (jao_cons (jo_s (js_n 2 (pv 2))) (jao_nil)))) (lenO_cons (lenO_cons (lenO_cons lenO_nil)))))) (jn_named (i := 3) ⟨rfl, by decide, .inl T.xm_TooMany⟩ (fun A b h => T.exb A cs.TooMany b h) sc_law_beside_refused.nd (by decide) (fun a oe cls d pn hz hf => jx_retL (jxa_cons (jx_str) (jxa_cons (jx_fld (Cs := [cs.TooMany]) (fun C hC => by simp only [List.mem_cons, List.not_mem_nil, or_false] at hC; rcases hC with rfl <;> first | exact ⟨T.xf_TooMany, T.nx_TooMany_most⟩) hz hf (pv 3)) (jxa_nil)))) (jn_named (i := 3) ⟨rfl, by decide, .inl T.xm_BadHistory⟩ (fun A b h => T.exb A cs.BadHistory b h) sc_law_beside_refused.nd (by decide) (fun a oe cls d pn hz hf => jx_retL (jxa_cons (jx_str) (jxa_cons (jx_fld (Cs := [cs.BadHistory]) (fun C hC => by simp only [List.mem_cons, List.not_mem_nil, or_false] at hC; rcases hC with rfl <;> first | exact ⟨T.xf_BadHistory, T.nx_BadHistory_index⟩) hz hf (pv 3)) (jxa_nil)))) (jn_nil)))) (jb_one (jst_ret (js_str)))
  exact h
theorem fn_law_beside_due {f : Addr} {fd : FuncData} {dvs : List V} (Fn : FunG K "_law_beside_due" "_law_beside_due" s_law_beside_due dvs f fd) (T : Txt K mg cs) (X_law_couple_ways : FX P w K mg base 1 "_law_couple_ways" ["_law_one", "_law_calls", "_law_ways_here", "_law_other", "_law_more", "_law_others"] (mf_law_couple_ways cs)) : FnOk P w K mg base (L2.CX P w) 2 f fd ["_law_first", "_law_second"] (spF K 2 (mf_law_beside_due cs)) :=
  fn_of' N_law_beside_due ["_law_first", "_law_second"] 3 2 (m_law_beside_due cs) rfl rfl Fn sc_law_beside_due fun cdv A outer s H E hr => by
  have h : JB (cxOf (L2.CX P w) P w K mg base N_law_beside_due "_law_beside_due" (defScope s_law_beside_due) f cdv A outer s H E) 2 (fun cls d _ H => E cls d H) (defBody s_law_beside_due) _ := jb_cons (jst_if (jt_cmp op_gt f2_gt (jo_s (js_op op_mul2 f2_mul2 (jo_s (js_ix ix_seq f2_ix (jo_n 0 (pv 0)) (jo_s (js_int)))) (jo_s (js_ix ix_seq f2_ix (jo_n 1 (pv 1)) (jo_s (js_int)))))) (jo_s (js_int)) (nomark _)) (jb_one (jst_ret (js_int))) (jb_nil)) (jb_cons (jst_if (jt_cmp op_gt f2_gt (jo_s (js_op op_addV f2_add (jo_s (js_ix ix_seq f2_ix (jo_n 0 (pv 0)) (jo_s (js_int)))) (jo_s (js_ix ix_seq f2_ix (jo_n 1 (pv 1)) (jo_s (js_int)))))) (jo_s (js_int)) (nomark _)) (jb_one (jst_ret (js_int))) (jb_nil)) (jb_cons (jst_set (i := 2) sc_law_beside_due.nd (js_callX (takes_of rfl rfl rfl rfl) X_law_couple_ways (hr.mono (by decide)) (jao_cons (jo_s (js_ix ix_seq f2_ix (jo_n 0 (pv 0)) (jo_s (js_int)))) (jao_cons (jo_s (js_ix ix_seq f2_ix (jo_n 0 (pv 0)) (jo_s (js_int)))) (jao_cons (jo_s (js_ix ix_seq f2_ix (jo_n 0 (pv 0)) (jo_s (js_int)))) (jao_cons (jo_s (js_ix ix_seq f2_ix (jo_n 1 (pv 1)) (jo_s (js_int)))) (jao_cons (jo_s (js_ix ix_seq f2_ix (jo_n 1 (pv 1)) (jo_s (js_int)))) (jao_cons (jo_s (js_ix ix_seq f2_ix (jo_n 1 (pv 1)) (jo_s (js_int)))) (jao_nil))))))) (lenO_cons (lenO_cons (lenO_cons (lenO_cons (lenO_cons (lenO_cons lenO_nil)))))))) (jb_one (jst_ret (js_tup (ja_cons (je_s (js_op op_mul2 f2_mul2 (jo_s (js_ix ix_seq f2_ix (jo_n 0 (pv 0)) (jo_s (js_int)))) (jo_s (js_ix ix_seq f2_ix (jo_n 1 (pv 1)) (jo_s (js_int)))))) (ja_cons (je_s (js_op op_addV f2_add (jo_s (js_ix ix_seq f2_ix (jo_n 0 (pv 0)) (jo_s (js_int)))) (jo_s (js_ix ix_seq f2_ix (jo_n 1 (pv 1)) (jo_s (js_int)))))) (ja_cons (je_s (js_n 2 (pv 2))) (ja_nil)))))))))
  exact h
theorem fn_law_parting {f : Addr} {fd : FuncData} {dvs : List V} (Fn : FunG K "_law_parting" "_law_parting" s_law_parting dvs f fd) (T : Txt K mg cs) (X_Book : MX P w K mg base 4 "Book" cs.Book 3 (mf_Book___init__ cs)) (X_law_entries : FX P w K mg base 3 "_law_entries" ["_law_hand_here", "_law_calls", "_law_most"] (mf_law_entries cs)) (X_law_draw : FX P w K mg base 2 "_law_draw" ["_law_hand_here", "_law_many"] (mf_law_draw cs)) (X_law_past : FX P w K mg base 3 "_law_past" ["_law_hand_here", "_law_calls", "_law_ways_here", "_law_most"] (mf_law_past cs)) (X_parted_history : FX P w K mg base 7 "parted_history" ["one", "other", "history"] (mf_parted_history cs)) (X_law_exact : FX P w K mg base 7 "_law_exact" ["_law_told", "_law_due"] (mf_law_exact cs 6)) (X_law_stand : FX P w K mg base 2 "_law_stand" ["_law_ways_here", "_law_standing", "_law_trail"] (mf_law_stand cs)) (X_is_right : FX P w K mg base 5 "is_right" ["book", "history"] (mf_is_right cs)) (X_beside : FX P w K mg base 6 "beside" ["one", "other"] (mf_beside cs)) : FnOk P w K mg base (L2.CX P w) 8 f fd ["_law_hand_here", "_law_one", "_law_other", "_law_first", "_law_second", "_law_due"] (spF K 6 (mf_law_parting cs)) :=
  fn_of' N_law_parting ["_law_hand_here", "_law_one", "_law_other", "_law_first", "_law_second", "_law_due"] 15 6 (m_law_parting cs) rfl rfl Fn sc_law_parting fun cdv A outer s H E hr => by
  have h : JB (cxOf (L2.CX P w) P w K mg base N_law_parting "_law_parting" (defScope s_law_parting) f cdv A outer s H E) 6 (fun cls d _ H => E cls d H) (defBody s_law_parting) _ := jb_cons (jst_set (i := 6) sc_law_parting.nd (js_makeX (takes_of rfl rfl rfl rfl) rfl X_Book (hr.mono (by decide)) (jao_cons (jo_s (js_ix ix_seq f2_ix (jo_n 5 (pv 5)) (jo_s (js_int)))) (jao_cons (jo_s (js_ix ix_seq f2_ix (jo_n 5 (pv 5)) (jo_s (js_int)))) (jao_cons (jo_s (js_t1 call_list_of f1_list (jo_s (js_ix ix_seq f2_ix (jo_n 5 (pv 5)) (jo_s (js_int)))) T.list (by decide +kernel))) (jao_nil)))) (lenO_cons (lenO_cons (lenO_cons lenO_nil))))) (jb_cons (jst_set (i := 7) sc_law_parting.nd (js_callX (takes_of rfl rfl rfl rfl) X_law_entries (hr.mono (by decide)) (jao_cons (jo_n 0 (pv 0)) (jao_cons (jo_s (js_ix ix_seq f2_ix (jo_n 5 (pv 5)) (jo_s (js_int)))) (jao_cons (jo_s (js_int)) (jao_nil)))) (lenO_cons (lenO_cons (lenO_cons lenO_nil))))) (jb_cons (jst_if (jt_cmp (op_eqD (hu64 hr)) f2_eq (jo_s (js_callX (takes_of rfl rfl rfl rfl) X_law_draw (hr.mono (by decide)) (jao_cons (jo_n 0 (pv 0)) (jao_cons (jo_s (js_int)) (jao_nil))) (lenO_cons (lenO_cons lenO_nil)))) (jo_s (js_int)) (nomark _)) (jb_one (jst_set (i := 7) sc_law_parting.nd (js_t1 call_list_of f1_list (jo_s (js_callX (takes_of rfl rfl rfl rfl) X_law_past (hr.mono (by decide)) (jao_cons (jo_n 0 (pv 0)) (jao_cons (jo_s (js_ix ix_seq f2_ix (jo_n 5 (pv 5)) (jo_s (js_int)))) (jao_cons (jo_s (js_ix ix_seq f2_ix (jo_n 5 (pv 5)) (jo_s (js_int)))) (jao_cons (jo_s (js_int)) (jao_nil))))) (lenO_cons (lenO_cons (lenO_cons (lenO_cons lenO_nil)))))) T.list (by decide +kernel)))) (jb_nil)) (jb_cons (jst_set (i := 8) sc_law_parting.nd (js_t1 call_tuple_of f1_tuple (jo_s (js_comp (own := [("_law_entry", 14)]) rfl sc_law_parting.nd (ji_seq (je_s (js_n 7 (pv 7)))) (blkOk_by (own := [("_law_entry", 14)]) (N := N_law_parting) (sc := defScope s_law_parting) (by decide +kernel)) (fun _ _ _ _ _ => jg_n (i := 14) sc_law_parting.nd) (fun _ _ _ _ _ => jts_one (jt_cmp op_lt f2_lt (jo_s (js_ix ix_seq f2_ix (jo_n 14 (pv 14)) (jo_s (js_int)))) (jo_s (js_ix ix_seq f2_ix (jo_n 3 (pv 3)) (jo_s (js_int)))) (nomark _))) (fun _ _ _ _ _ => je_s (js_n 14 (pv 14))))) T.tuple (by decide +kernel))) (jb_cons (jst_set (i := 9) sc_law_parting.nd (js_t1 call_tuple_of f1_tuple (jo_s (js_comp (own := [("_law_entry", 14)]) rfl sc_law_parting.nd (ji_seq (je_s (js_n 7 (pv 7)))) (blkOk_by (own := [("_law_entry", 14)]) (N := N_law_parting) (sc := defScope s_law_parting) (by decide +kernel)) (fun _ _ _ _ _ => jg_n (i := 14) sc_law_parting.nd) (fun _ _ _ _ _ => jts_one (jt_cmp op_ge f2_ge (jo_s (js_ix ix_seq f2_ix (jo_n 14 (pv 14)) (jo_s (js_int)))) (jo_s (js_ix ix_seq f2_ix (jo_n 3 (pv 3)) (jo_s (js_int)))) (nomark _))) (fun _ _ _ _ _ => je_s (js_tup (ja_cons (je_s (js_ix ix_seq f2_ix (jo_n 14 (pv 14)) (jo_s (js_int)))) (ja_cons (je_s (js_op op_sub f2_sub (jo_s (js_ix ix_seq f2_ix (jo_n 14 (pv 14)) (jo_s (js_int)))) (jo_s (js_ix ix_seq f2_ix (jo_n 3 (pv 3)) (jo_s (js_int)))))) (ja_cons (je_s (js_ix ix_seq f2_ix (jo_n 14 (pv 14)) (jo_s (js_int)))) (ja_nil)))))))) T.tuple (by decide +kernel))) (jb_cons (jst_set (i := 10) sc_law_parting.nd (js_callX (takes_of rfl rfl rfl rfl) X_parted_history (hr.mono (by decide)) (jao_cons (jo_s (js_n 1 (pv 1))) (jao_cons (jo_s (js_n 2 (pv 2))) (jao_cons (jo_s (js_comp (own := [("_law_entry", 14)]) rfl sc_law_parting.nd (ji_seq (je_s (js_n 7 (pv 7)))) (blkOk_by (own := [("_law_entry", 14)]) (N := N_law_parting) (sc := defScope s_law_parting) (by decide +kernel)) (fun _ _ _ _ _ => jg_n (i := 14) sc_law_parting.nd) (fun _ _ _ _ _ => jts_nil) (fun _ _ _ _ _ => je_s (js_t1 call_list_of f1_list (jo_n 14 (pv 14)) T.list (by decide +kernel))))) (jao_nil)))) (lenO_cons (lenO_cons (lenO_cons lenO_nil))))) (jb_cons (jst_if (jt_not (jt_val (js_callX (takes_of rfl rfl rfl rfl) X_law_exact (hr.mono (by decide)) (jao_cons (jo_s (js_n 10 (pv 10))) (jao_cons (jo_s (js_tup (ja_cons (je_s (js_n 8 (pv 8))) (ja_cons (je_s (js_n 9 (pv 9))) (ja_nil))))) (jao_nil))) (lenO_cons (lenO_cons lenO_nil))))) (jb_one (jst_ret (js_bl))) (jb_nil)) (jb_cons (jst_set (i := 11) sc_law_parting.nd (js_cmp (op_neD (hu64 hr)) f2_ne (jo_s (js_callX (takes_of rfl rfl rfl rfl) X_law_stand (hr.mono (by decide)) (jao_cons (jo_s (js_ix ix_seq f2_ix (jo_n 3 (pv 3)) (jo_s (js_int)))) (jao_cons (jo_s (js_tup (ja_cons (je_s (js_int)) (ja_nil)))) (jao_cons (jo_s (js_comp (own := [("_law_entry", 14)]) rfl sc_law_parting.nd (ji_seq (je_s (js_n 8 (pv 8)))) (blkOk_by (own := [("_law_entry", 14)]) (N := N_law_parting) (sc := defScope s_law_parting) (by decide +kernel)) (fun _ _ _ _ _ => jg_n (i := 14) sc_law_parting.nd) (fun _ _ _ _ _ => jts_nil) (fun _ _ _ _ _ => je_s (js_tup (ja_cons (je_s (js_ix ix_seq f2_ix (jo_n 14 (pv 14)) (jo_s (js_int)))) (ja_cons (je_s (js_ix ix_seq f2_ix (jo_n 14 (pv 14)) (jo_s (js_int)))) (ja_nil))))))) (jao_nil)))) (lenO_cons (lenO_cons (lenO_cons lenO_nil))))) (jo_s (js_tup (ja_nil))) (nomark _))) (jb_cons (jst_set (i := 12) sc_law_parting.nd (js_cmp (op_neD (hu64 hr)) f2_ne (jo_s (js_callX (takes_of rfl rfl rfl rfl) X_law_stand (hr.mono (by decide)) (jao_cons (jo_s (js_ix ix_seq f2_ix (jo_n 4 (pv 4)) (jo_s (js_int)))) (jao_cons (jo_s (js_tup (ja_cons (je_s (js_int)) (ja_nil)))) (jao_cons (jo_s (js_comp (own := [("_law_entry", 14)]) rfl sc_law_parting.nd (ji_seq (je_s (js_n 9 (pv 9)))) (blkOk_by (own := [("_law_entry", 14)]) (N := N_law_parting) (sc := defScope s_law_parting) (by decide +kernel)) (fun _ _ _ _ _ => jg_n (i := 14) sc_law_parting.nd) (fun _ _ _ _ _ => jts_nil) (fun _ _ _ _ _ => je_s (js_tup (ja_cons (je_s (js_ix ix_seq f2_ix (jo_n 14 (pv 14)) (jo_s (js_int)))) (ja_cons (je_s (js_ix ix_seq f2_ix (jo_n 14 (pv 14)) (jo_s (js_int)))) (ja_nil))))))) (jao_nil)))) (lenO_cons (lenO_cons (lenO_cons lenO_nil))))) (jo_s (js_tup (ja_nil))) (nomark _))) (jb_cons (jst_set (i := 13) sc_law_parting.nd (js_and (js_n 11 (pv 11)) (js_one (js_n 12 (pv 12))))) (jb_cons (jst_if (jt_w (jw_or (jt_not (jt_val (js_callX (takes_of rfl rfl rfl rfl) X_law_exact (hr.mono (by decide)) (jao_cons (jo_s (js_callX (takes_of rfl rfl rfl rfl) X_is_right (hr.mono (by decide)) (jao_cons (jo_s (js_n 6 (pv 6))) (jao_cons (jo_s (js_n 7 (pv 7))) (jao_nil))) (lenO_cons (lenO_cons lenO_nil)))) (jao_cons (jo_s (js_n 13 (pv 13))) (jao_nil))) (lenO_cons (lenO_cons lenO_nil))))) (jw_or1 (jt_not (jt_val (js_callX (takes_of rfl rfl rfl rfl) X_law_exact (hr.mono (by decide)) (jao_cons (jo_s (js_callX (takes_of rfl rfl rfl rfl) X_is_right (hr.mono (by decide)) (jao_cons (jo_s (js_n 1 (pv 1))) (jao_cons (jo_s (js_n 8 (pv 8))) (jao_nil))) (lenO_cons (lenO_cons lenO_nil)))) (jao_cons (jo_s (js_n 11 (pv 11))) (jao_nil))) (lenO_cons (lenO_cons lenO_nil)))))))) (jb_one (jst_ret (js_bl))) (jb_nil)) (jb_one (jst_ret (js_and (js_callX (takes_of rfl rfl rfl rfl) X_law_exact (hr.mono (by decide)) (jao_cons (jo_s (js_callX (takes_of rfl rfl rfl rfl) X_is_right (hr.mono (by decide)) (jao_cons (jo_s (js_n 2 (pv 2))) (jao_cons (jo_s (js_n 9 (pv 9))) (jao_nil))) (lenO_cons (lenO_cons lenO_nil)))) (jao_cons (jo_s (js_n 12 (pv 12))) (jao_nil))) (lenO_cons (lenO_cons lenO_nil))) (js_one (js_callX (takes_of rfl rfl rfl rfl) X_law_exact (hr.mono (by decide)) (jao_cons (jo_s (js_callX (takes_of rfl rfl rfl rfl) X_is_right (hr.mono (by decide)) (jao_cons (jo_s (js_callX (takes_of rfl rfl rfl rfl) X_beside (hr.mono (by decide)) (jao_cons (jo_s (js_n 1 (pv 1))) (jao_cons (jo_s (js_n 2 (pv 2))) (jao_nil))) (lenO_cons (lenO_cons lenO_nil)))) (jao_cons (jo_s (js_t1 call_tuple_of f1_tuple (jo_n 7 (pv 7)) T.tuple (by decide +kernel))) (jao_nil))) (lenO_cons (lenO_cons lenO_nil)))) (jao_cons (jo_s (js_n 13 (pv 13))) (jao_nil))) (lenO_cons (lenO_cons lenO_nil)))))))))))))))))
  exact h
theorem fn_law {f : Addr} {fd : FuncData} {dvs : List V} (Fn : FunG K "law" "law" s_law dvs f fd) (T : Txt K mg cs) (X_law_hand : FX P w K mg base 1 "_law_hand" ["_law_script"] (mf_law_hand cs)) (X_law_large_book : FX P w K mg base 4 "_law_large_book" ["_law_hand_here"] (mf_law_large_book cs)) (X_law_draw : FX P w K mg base 2 "_law_draw" ["_law_hand_here", "_law_many"] (mf_law_draw cs)) (X_law_two_books : FX P w K mg base 5 "_law_two_books" ["_law_hand_here"] (mf_law_two_books cs)) (X_Book : MX P w K mg base 4 "Book" cs.Book 3 (mf_Book___init__ cs)) (X_Book : MX P w K mg base 4 "Book" cs.Book 3 (mf_Book___init__ cs)) (X_law_entries : FX P w K mg base 3 "_law_entries" ["_law_hand_here", "_law_calls", "_law_most"] (mf_law_entries cs)) (X_law_same : FX P w K mg base 8 "_law_same" ["_law_told", "_law_due"] (mf_law_same cs)) (X_law_checked : FX P w K mg base 4 "_law_checked" ["_law_book", "_law_rows"] (mf_law_checked cs)) (X_law_parts_told : FX P w K mg base 8 "_law_parts_told" ["_law_rows"] (mf_law_parts_told cs)) (X_law_spoilt_history : FX P w K mg base 5 "_law_spoilt_history" ["_law_hand_here", "_law_calls", "_law_rows"] (mf_law_spoilt_history cs)) (X_law_due_check : FX P w K mg base 2 "_law_due_check" ["_law_calls", "_law_rows"] (mf_law_due_check cs)) (X_law_beside_due : FX P w K mg base 2 "_law_beside_due" ["_law_first", "_law_second"] (mf_law_beside_due cs)) (X_law_beside : FX P w K mg base 7 "_law_beside" ["_law_one", "_law_other"] (mf_law_beside cs)) (X_law_beside_refused : FX P w K mg base 8 "_law_beside_refused" ["_law_one", "_law_other", "_law_rows"] (mf_law_beside_refused cs)) (X_law_exact : FX P w K mg base 7 "_law_exact" ["_law_told", "_law_due"] (mf_law_exact cs 6)) (X_law_parting : FX P w K mg base 8 "_law_parting" ["_law_hand_here", "_law_one", "_law_other", "_law_first", "_law_second", "_law_due"] (mf_law_parting cs)) : FnOk P w K mg base (L2.CX P w) 9 f fd ["_law_script"] (spF K 1 (mf_law cs)) :=
  fn_of' N_law ["_law_script"] 14 1 (m_law cs) rfl rfl Fn sc_law fun cdv A outer s H E hr => by
  have h : JB (cxOf (L2.CX P w) P w K mg base N_law "law" (defScope s_law) f cdv A outer s H E) 1 (fun cls d _ H => E cls d H) (defBody s_law) _ := jb_cons (jst_set (i := 1) sc_law.nd (js_callX (takes_of rfl rfl rfl rfl) X_law_hand (hr.mono (by decide)) (jao_cons (jo_s (js_n 0 (pv 0))) (jao_nil)) (lenO_cons lenO_nil))) (jb_cons (jst_set (i := 2) sc_law.nd (js_callX (takes_of rfl rfl rfl rfl) X_law_large_book (hr.mono (by decide)) (jao_cons (jo_n 1 (pv 1)) (jao_nil)) (lenO_cons lenO_nil))) (jb_cons (jst_set (i := 3) sc_law.nd (js_callX (takes_of rfl rfl rfl rfl) X_law_large_book (hr.mono (by decide)) (jao_cons (jo_n 1 (pv 1)) (jao_nil)) (lenO_cons lenO_nil))) (jb_cons (jst_if (jt_cmp (op_eqD (hu64 hr)) f2_eq (jo_s (js_callX (takes_of rfl rfl rfl rfl) X_law_draw (hr.mono (by decide)) (jao_cons (jo_n 1 (pv 1)) (jao_cons (jo_s (js_int)) (jao_nil))) (lenO_cons (lenO_cons lenO_nil)))) (jo_s (js_int)) (nomark _)) (jb_one (jst_tgt (je_s (js_callX (takes_of rfl rfl rfl rfl) X_law_two_books (hr.mono (by decide)) (jao_cons (jo_n 1 (pv 1)) (jao_nil)) (lenO_cons lenO_nil))) (jg_seq (n := 2) rfl (jgs_cons (jg_n (i := 2) sc_law.nd) (jgs_cons (jg_n (i := 3) sc_law.nd) (jgs_nil)))))) (jb_nil)) (jb_cons (jst_set (i := 4) sc_law.nd (js_makeX (takes_of rfl rfl rfl rfl) rfl X_Book (hr.mono (by decide)) (jao_cons (jo_s (js_ix ix_seq f2_ix (jo_n 2 (pv 2)) (jo_s (js_int)))) (jao_cons (jo_s (js_ix ix_seq f2_ix (jo_n 2 (pv 2)) (jo_s (js_int)))) (jao_cons (jo_s (js_t1 call_list_of f1_list (jo_s (js_ix ix_seq f2_ix (jo_n 2 (pv 2)) (jo_s (js_int)))) T.list (by decide +kernel))) (jao_nil)))) (lenO_cons (lenO_cons (lenO_cons lenO_nil))))) (jb_cons (jst_set (i := 5) sc_law.nd (js_makeX (takes_of rfl rfl rfl rfl) rfl X_Book (hr.mono (by decide)) (jao_cons (jo_s (js_ix ix_seq f2_ix (jo_n 3 (pv 3)) (jo_s (js_int)))) (jao_cons (jo_s (js_ix ix_seq f2_ix (jo_n 3 (pv 3)) (jo_s (js_int)))) (jao_cons (jo_s (js_t1 call_list_of f1_list (jo_s (js_ix ix_seq f2_ix (jo_n 3 (pv 3)) (jo_s (js_int)))) T.list (by decide +kernel))) (jao_nil)))) (lenO_cons (lenO_cons (lenO_cons lenO_nil))))) (jb_cons (jst_set (i := 6) sc_law.nd (js_callX (takes_of rfl rfl rfl rfl) X_law_entries (hr.mono (by decide)) (jao_cons (jo_n 1 (pv 1)) (jao_cons (jo_s (js_ix ix_seq f2_ix (jo_n 2 (pv 2)) (jo_s (js_int)))) (jao_cons (jo_s (js_int)) (jao_nil)))) (lenO_cons (lenO_cons (lenO_cons lenO_nil))))) (jb_cons (jst_comp (i := 7) (own := [("_law_entry", 13)]) rfl sc_law.nd (sw_true rfl rfl rfl (by decide +kernel)) (ji_seq (je_s (js_n 6 (pv 6)))) (blkOk_by (own := [("_law_entry", 13)]) (N := N_law) (sc := defScope s_law) (by decide +kernel)) (fun _ _ _ _ _ => jg_n (i := 13) sc_law.nd) (fun _ _ _ _ _ => jts_nil) (fun _ _ _ _ _ => je_s (js_t1 call_list_of f1_list (jo_n 13 (pv 13)) T.list (by decide +kernel)))) (jb_cons (jst_if (jt_w (jw_or (jt_not (jt_val (js_callX (takes_of rfl rfl rfl rfl) X_law_same (hr.mono (by decide)) (jao_cons (jo_s (js_callX (takes_of rfl rfl rfl rfl) X_law_checked (hr.mono (by decide)) (jao_cons (jo_s (js_n 4 (pv 4))) (jao_cons (jo_s (js_n 7 (pv 7))) (jao_nil))) (lenO_cons (lenO_cons lenO_nil)))) (jao_cons (jo_s (js_t1 call_tuple_of f1_tuple (jo_n 6 (pv 6)) T.tuple (by decide +kernel))) (jao_nil))) (lenO_cons (lenO_cons lenO_nil))))) (jw_or1 (jt_cmp (op_neD (hu64 hr)) f2_ne (jo_n 7 (pv 7)) (jo_s (js_comp (own := [("_law_entry", 13)]) rfl sc_law.nd (ji_seq (je_s (js_n 6 (pv 6)))) (blkOk_by (own := [("_law_entry", 13)]) (N := N_law) (sc := defScope s_law) (by decide +kernel)) (fun _ _ _ _ _ => jg_n (i := 13) sc_law.nd) (fun _ _ _ _ _ => jts_nil) (fun _ _ _ _ _ => je_s (js_t1 call_list_of f1_list (jo_n 13 (pv 13)) T.list (by decide +kernel))))) (nomark _))))) (jb_one (jst_ret (js_bl))) (jb_nil)) (jb_cons (jst_if (jt_w (jw_or (jt_not (jt_val (js_callX (takes_of rfl rfl rfl rfl) X_law_same (hr.mono (by decide)) (jao_cons (jo_s (js_callX (takes_of rfl rfl rfl rfl) X_law_checked (hr.mono (by decide)) (jao_cons (jo_s (js_n 4 (pv 4))) (jao_cons (jo_s (js_t1 call_tuple_of f1_tuple (jo_n 6 (pv 6)) T.tuple (by decide +kernel))) (jao_nil))) (lenO_cons (lenO_cons lenO_nil)))) (jao_cons (jo_s (js_t1 call_tuple_of f1_tuple (jo_n 6 (pv 6)) T.tuple (by decide +kernel))) (jao_nil))) (lenO_cons (lenO_cons lenO_nil))))) (jw_or (jt_not (jt_val (js_callX (takes_of rfl rfl rfl rfl) X_law_parts_told (hr.mono (by decide)) (jao_cons (jo_s (js_n 6 (pv 6))) (jao_nil)) (lenO_cons lenO_nil)))) (jw_or1 (jt_not (jt_val (js_callX (takes_of rfl rfl rfl rfl) X_law_parts_told (hr.mono (by decide)) (jao_cons (jo_s (js_n 7 (pv 7))) (jao_nil)) (lenO_cons lenO_nil)))))))) (jb_one (jst_ret (js_bl))) (jb_nil)) (jb_cons (jst_for (passes_of rfl) rfl (ji_range1 T.range (je_s (js_int))) (jg_n (i := 8) sc_law.nd) (jb_cons (jst_set (i := 9) sc_law.nd (js_callX (takes_of rfl rfl rfl rfl) X_law_spoilt_history (hr.mono (by decide)) (jao_cons (jo_n 1 (pv 1)) (jao_cons (jo_s (js_ix ix_seq f2_ix (jo_n 2 (pv 2)) (jo_s (js_int)))) (jao_cons (jo_s (js_n 6 (pv 6))) (jao_nil)))) (lenO_cons (lenO_cons (lenO_cons lenO_nil))))) (jb_one (jst_if (jt_not (jt_val (js_callX (takes_of rfl rfl rfl rfl) X_law_same (hr.mono (by decide)) (jao_cons (jo_s (js_callX (takes_of rfl rfl rfl rfl) X_law_checked (hr.mono (by decide)) (jao_cons (jo_s (js_n 4 (pv 4))) (jao_cons (jo_s (js_n 9 (pv 9))) (jao_nil))) (lenO_cons (lenO_cons lenO_nil)))) (jao_cons (jo_s (js_callX (takes_of rfl rfl rfl rfl) X_law_due_check (hr.mono (by decide)) (jao_cons (jo_s (js_ix ix_seq f2_ix (jo_n 2 (pv 2)) (jo_s (js_int)))) (jao_cons (jo_s (js_n 9 (pv 9))) (jao_nil))) (lenO_cons (lenO_cons lenO_nil)))) (jao_nil))) (lenO_cons (lenO_cons lenO_nil))))) (jb_one (jst_ret (js_bl))) (jb_nil))))) (jb_cons (jst_set (i := 10) sc_law.nd (js_callX (takes_of rfl rfl rfl rfl) X_law_beside_due (hr.mono (by decide)) (jao_cons (jo_s (js_n 2 (pv 2))) (jao_cons (jo_s (js_n 3 (pv 3))) (jao_nil))) (lenO_cons (lenO_cons lenO_nil)))) (jb_cons (jst_set (i := 11) sc_law.nd (js_callX (takes_of rfl rfl rfl rfl) X_law_beside (hr.mono (by decide)) (jao_cons (jo_s (js_n 4 (pv 4))) (jao_cons (jo_s (js_n 5 (pv 5))) (jao_nil))) (lenO_cons (lenO_cons lenO_nil)))) (jb_cons (jst_set (i := 9) sc_law.nd (js_callX (takes_of rfl rfl rfl rfl) X_law_spoilt_history (hr.mono (by decide)) (jao_cons (jo_n 1 (pv 1)) (jao_cons (jo_s (js_int)) (jao_cons (jo_s (js_n 6 (pv 6))) (jao_nil)))) (lenO_cons (lenO_cons (lenO_cons lenO_nil))))) (jb_cons (jst_if (jt_val (js_isi (jo_n 10 (pv 10)) (bt_name .int T.int (by decide +kernel)) T.isinstance)) (jb_one (jst_ret (js_and (js_isi (jo_n 11 (pv 11)) (bt_name .int T.int (by decide +kernel)) T.isinstance) (js_and (js_cmp (op_eqD (hu64 hr)) f2_eq (jo_n 11 (pv 11)) (jo_n 10 (pv 10)) (nomark _)) (js_one (js_cmp (op_eqD (hu64 hr)) f2_eq (jo_s (js_callX (takes_of rfl rfl rfl rfl) X_law_beside_refused (hr.mono (by decide)) (jao_cons (jo_s (js_n 4 (pv 4))) (jao_cons (jo_s (js_n 5 (pv 5))) (jao_cons (jo_s (js_n 9 (pv 9))) (jao_nil)))) (lenO_cons (lenO_cons (lenO_cons lenO_nil))))) (jo_s (js_lst (ja_cons (je_s (js_str)) (ja_cons (je_s (js_n 10 (pv 10))) (ja_nil))))) (nomark _))))))) (jb_nil)) (jb_cons (jst_if (jt_w (jw_or (jt_not (jt_val (js_callX (takes_of rfl rfl rfl rfl) X_law_exact (hr.mono (by decide)) (jao_cons (jo_s (js_n 11 (pv 11))) (jao_cons (jo_s (js_n 10 (pv 10))) (jao_nil))) (lenO_cons (lenO_cons lenO_nil))))) (jw_or1 (jt_not (jt_val (js_callX (takes_of rfl rfl rfl rfl) X_law_parting (hr.mono (by decide)) (jao_cons (jo_n 1 (pv 1)) (jao_cons (jo_s (js_n 4 (pv 4))) (jao_cons (jo_s (js_n 5 (pv 5))) (jao_cons (jo_s (js_n 2 (pv 2))) (jao_cons (jo_s (js_n 3 (pv 3))) (jao_cons (jo_s (js_n 10 (pv 10))) (jao_nil))))))) (lenO_cons (lenO_cons (lenO_cons (lenO_cons (lenO_cons (lenO_cons lenO_nil)))))))))))) (jb_one (jst_ret (js_bl))) (jb_nil)) (jb_cons (jst_set (i := 12) sc_law.nd (js_callX (takes_of rfl rfl rfl rfl) X_law_due_check (hr.mono (by decide)) (jao_cons (jo_s (js_ix ix_seq f2_ix (jo_n 10 (pv 10)) (jo_s (js_int)))) (jao_cons (jo_s (js_n 9 (pv 9))) (jao_nil))) (lenO_cons (lenO_cons lenO_nil)))) (jb_one (jst_ret (js_cmp (op_eqD (hu64 hr)) f2_eq (jo_s (js_callX (takes_of rfl rfl rfl rfl) X_law_beside_refused (hr.mono (by decide)) (jao_cons (jo_s (js_n 4 (pv 4))) (jao_cons (jo_s (js_n 5 (pv 5))) (jao_cons (jo_s (js_n 9 (pv 9))) (jao_nil)))) (lenO_cons (lenO_cons (lenO_cons lenO_nil))))) (jo_s (js_if (jt_val (js_isi (jo_n 12 (pv 12)) (bt_name .list T.list (by decide +kernel)) T.isinstance)) (js_n 12 (pv 12)) (js_str))) (nomark _))))))))))))))))))))
  exact h
end
end K02

set_option Elab.async false
set_option linter.all false
set_option pp.maxSteps 400
set_option maxRecDepth 100000
set_option maxHeartbeats 4000000
namespace K02
open PySem L2 VS

def spLaw (K : PySem.W.Frag) : Sp := fun vs H Q _ => ∃ (a : Addr) (ns : List Int), vs = [.ref a] ∧ FrzS K H a (ns.map V.int) ∧ ns.length ≤ 63 ∧ ∀ H', Q (.bl true) H'
theorem fza_ints {K : PySem.W.Frag} {H : Hp} : ∀ ns : List Int, FzA K H (ns.map V.int) (ns.map PV.int)
  | [] => .nil
  | n :: ns => .cons (.int n) (fza_ints ns)
theorem sp_of {K : PySem.W.Frag} {mf : MF} (hp : ∀ ns : List Int, ns.length ≤ 63 → ∃ as', mf [.fz (.scr (ns.map .int))] = .ret (.fz (.bl true)) as') (vs : List V) (H : Hp) (Q : VK) (E : XK) (h : spLaw K vs H Q E) : spF K 1 mf vs H Q E := by
  obtain ⟨a, ns, rfl, hS, hl, k⟩ := h
  refine ⟨[.fz (.scr (ns.map .int))], rfl, ⟨rfl, fun i d q => ?_, fun i d q => ?_, fun i j d d' a q1 q2 s1 s2 => ?_, fun i a q => (by cases q), fun b o q _ => q, fun b o q => ⟨o, q⟩⟩, ?_⟩
  · cases i with
    | zero => simp at q; subst q; exact ⟨_, rfl, .scr hS (fza_ints ns)⟩
    | succ i => simp at q
  · cases i with
    | zero => simp at q
    | succ i => simp at q
  · cases i with
    | zero => simp at q1
    | succ i => simp at q1
  · obtain ⟨as', e⟩ := hp ns hl
    rw [e]
    intro v H' J r l
    have r' : Fz K H' v (.bl true) := r
    cases r'
    exact k H'
theorem frz_of {K : PySem.W.Frag} {H : Hp} {a : Addr} {xs : List V} (hO : Only H) (h : SqL K H a xs) : FrzS K H a xs := by
  rcases h with (h | h) | h
  · rcases hO a with z | ⟨o, ys, z⟩
    · rw [z] at h; cases h
    · rw [z] at h; cases h
  · exact .inl h
  · exact .inr h
theorem all_mk {l : PySem.W.OpenLaw} {w : World} {K : PySem.W.Frag} {h : Heap} {mg : Str → Option Value} {fa : Addr} (X : K.In h) (G : h.Ns mainGlobals mg) (hfa : mg "law" = some (.ref fa))
    {C_Book : Addr}
    (aC_Book : PySem.W.nsIn K mainGlobals "Book" = some (some (.ref C_Book)))
    {f1 : Addr} {od1 an1 : Option Addr} {sl1 : Array (Option Value)} {oc1 kV1 dc1 pm1 cd1 ct1 : Value}
    (a1 : PySem.W.nsIn K mainGlobals "is_whole" = some (some (.ref f1)))
    (l1 : K.lookup f1 = some ⟨oc1, od1, .func (PySem.W.fnOf "is_whole" "is_whole" (defArgs s_is_whole) (defBody s_is_whole) (defScope s_is_whole) .none kV1 dc1 pm1 an1 cd1 ct1), sl1⟩)
    (c1 : PySem.W.codeIn K cd1 "is_whole" = true)
    (k1 : PySem.W.keepIn K (.ref f1) = true)
    {f2 : Addr} {od2 an2 : Option Addr} {sl2 : Array (Option Value)} {oc2 kV2 dc2 pm2 cd2 ct2 : Value}
    (a2 : PySem.W.nsIn K mainGlobals "is_sequence" = some (some (.ref f2)))
    (l2 : K.lookup f2 = some ⟨oc2, od2, .func (PySem.W.fnOf "is_sequence" "is_sequence" (defArgs s_is_sequence) (defBody s_is_sequence) (defScope s_is_sequence) .none kV2 dc2 pm2 an2 cd2 ct2), sl2⟩)
    (c2 : PySem.W.codeIn K cd2 "is_sequence" = true)
    (k2 : PySem.W.keepIn K (.ref f2) = true)
    {f3 : Addr} {od3 an3 : Option Addr} {sl3 : Array (Option Value)} {oc3 kV3 dc3 pm3 cd3 ct3 : Value}
    (a3 : PySem.W.nsIn K mainGlobals "_is_way" = some (some (.ref f3)))
    (l3 : K.lookup f3 = some ⟨oc3, od3, .func (PySem.W.fnOf "_is_way" "_is_way" (defArgs s_is_way) (defBody s_is_way) (defScope s_is_way) .none kV3 dc3 pm3 an3 cd3 ct3), sl3⟩)
    (c3 : PySem.W.codeIn K cd3 "_is_way" = true)
    (k3 : PySem.W.keepIn K (.ref f3) = true)
    {f4 : Addr} {od4 an4 : Option Addr} {sl4 : Array (Option Value)} {oc4 kV4 dc4 pm4 cd4 ct4 : Value}
    (a4 : PySem.W.nsIn K mainGlobals "_check_ways" = some (some (.ref f4)))
    (l4 : K.lookup f4 = some ⟨oc4, od4, .func (PySem.W.fnOf "_check_ways" "_check_ways" (defArgs s_check_ways) (defBody s_check_ways) (defScope s_check_ways) .none kV4 dc4 pm4 an4 cd4 ct4), sl4⟩)
    (c4 : PySem.W.codeIn K cd4 "_check_ways" = true)
    (k4 : PySem.W.keepIn K (.ref f4) = true)
    {f5 : Addr} {od5 an5 : Option Addr} {sl5 : Array (Option Value)} {oc5 kV5 dc5 pm5 cd5 ct5 : Value}
    (a5 : PySem.W.findIn K (.ref C_Book) "__init__" = some (some (.ref f5)))
    (l5 : K.lookup f5 = some ⟨oc5, od5, .func (PySem.W.fnOf "__init__" "Book.__init__" (defArgs s_Book___init__) (defBody s_Book___init__) (defScope s_Book___init__) .none kV5 dc5 pm5 an5 cd5 ct5), sl5⟩)
    (c5 : PySem.W.codeIn K cd5 "Book.__init__" = true)
    (k5 : PySem.W.keepIn K (.ref f5) = true)
    {f6 : Addr} {od6 an6 : Option Addr} {sl6 : Array (Option Value)} {oc6 kV6 dc6 pm6 cd6 ct6 : Value}
    (a6 : PySem.W.nsIn K mainGlobals "is_entry" = some (some (.ref f6)))
    (l6 : K.lookup f6 = some ⟨oc6, od6, .func (PySem.W.fnOf "is_entry" "is_entry" (defArgs s_is_entry) (defBody s_is_entry) (defScope s_is_entry) .none kV6 dc6 pm6 an6 cd6 ct6), sl6⟩)
    (c6 : PySem.W.codeIn K cd6 "is_entry" = true)
    (k6 : PySem.W.keepIn K (.ref f6) = true)
    {f7 : Addr} {od7 an7 : Option Addr} {sl7 : Array (Option Value)} {oc7 kV7 dc7 pm7 cd7 ct7 : Value}
    (a7 : PySem.W.nsIn K mainGlobals "check_history" = some (some (.ref f7)))
    (l7 : K.lookup f7 = some ⟨oc7, od7, .func (PySem.W.fnOf "check_history" "check_history" (defArgs s_check_history) (defBody s_check_history) (defScope s_check_history) .none kV7 dc7 pm7 an7 cd7 ct7), sl7⟩)
    (c7 : PySem.W.codeIn K cd7 "check_history" = true)
    (k7 : PySem.W.keepIn K (.ref f7) = true)
    {f8 : Addr} {od8 an8 : Option Addr} {sl8 : Array (Option Value)} {oc8 kV8 dc8 pm8 cd8 ct8 : Value}
    (a8 : PySem.W.nsIn K mainGlobals "calls_of" = some (some (.ref f8)))
    (l8 : K.lookup f8 = some ⟨oc8, od8, .func (PySem.W.fnOf "calls_of" "calls_of" (defArgs s_calls_of) (defBody s_calls_of) (defScope s_calls_of) .none kV8 dc8 pm8 an8 cd8 ct8), sl8⟩)
    (c8 : PySem.W.codeIn K cd8 "calls_of" = true)
    (k8 : PySem.W.keepIn K (.ref f8) = true)
    {f9 : Addr} {od9 an9 : Option Addr} {sl9 : Array (Option Value)} {oc9 kV9 dc9 pm9 cd9 ct9 : Value}
    (a9 : PySem.W.nsIn K mainGlobals "asks_made" = some (some (.ref f9)))
    (l9 : K.lookup f9 = some ⟨oc9, od9, .func (PySem.W.fnOf "asks_made" "asks_made" (defArgs s_asks_made) (defBody s_asks_made) (defScope s_asks_made) .none kV9 dc9 pm9 an9 cd9 ct9), sl9⟩)
    (c9 : PySem.W.codeIn K cd9 "asks_made" = true)
    (k9 : PySem.W.keepIn K (.ref f9) = true)
    {f10 : Addr} {od10 an10 : Option Addr} {sl10 : Array (Option Value)} {oc10 kV10 dc10 pm10 cd10 ct10 : Value}
    (a10 : PySem.W.nsIn K mainGlobals "hands_of" = some (some (.ref f10)))
    (l10 : K.lookup f10 = some ⟨oc10, od10, .func (PySem.W.fnOf "hands_of" "hands_of" (defArgs s_hands_of) (defBody s_hands_of) (defScope s_hands_of) .none kV10 dc10 pm10 an10 cd10 ct10), sl10⟩)
    (c10 : PySem.W.codeIn K cd10 "hands_of" = true)
    (k10 : PySem.W.keepIn K (.ref f10) = true)
    {f11 : Addr} {od11 an11 : Option Addr} {sl11 : Array (Option Value)} {oc11 kV11 dc11 pm11 cd11 ct11 : Value}
    (a11 : PySem.W.nsIn K mainGlobals "part_of" = some (some (.ref f11)))
    (l11 : K.lookup f11 = some ⟨oc11, od11, .func (PySem.W.fnOf "part_of" "part_of" (defArgs s_part_of) (defBody s_part_of) (defScope s_part_of) .none kV11 dc11 pm11 an11 cd11 ct11), sl11⟩)
    (c11 : PySem.W.codeIn K cd11 "part_of" = true)
    (k11 : PySem.W.keepIn K (.ref f11) = true)
    {f12 : Addr} {od12 an12 : Option Addr} {sl12 : Array (Option Value)} {oc12 kV12 dc12 pm12 cd12 ct12 : Value}
    (a12 : PySem.W.nsIn K mainGlobals "beside" = some (some (.ref f12)))
    (l12 : K.lookup f12 = some ⟨oc12, od12, .func (PySem.W.fnOf "beside" "beside" (defArgs s_beside) (defBody s_beside) (defScope s_beside) .none kV12 dc12 pm12 an12 cd12 ct12), sl12⟩)
    (c12 : PySem.W.codeIn K cd12 "beside" = true)
    (k12 : PySem.W.keepIn K (.ref f12) = true)
    {f13 : Addr} {od13 an13 : Option Addr} {sl13 : Array (Option Value)} {oc13 kV13 dc13 pm13 cd13 ct13 : Value}
    (a13 : PySem.W.nsIn K mainGlobals "parted_history" = some (some (.ref f13)))
    (l13 : K.lookup f13 = some ⟨oc13, od13, .func (PySem.W.fnOf "parted_history" "parted_history" (defArgs s_parted_history) (defBody s_parted_history) (defScope s_parted_history) .none kV13 dc13 pm13 an13 cd13 ct13), sl13⟩)
    (c13 : PySem.W.codeIn K cd13 "parted_history" = true)
    (k13 : PySem.W.keepIn K (.ref f13) = true)
    {f14 : Addr} {od14 an14 : Option Addr} {sl14 : Array (Option Value)} {oc14 kV14 dc14 pm14 cd14 ct14 : Value}
    (a14 : PySem.W.nsIn K mainGlobals "step_from" = some (some (.ref f14)))
    (l14 : K.lookup f14 = some ⟨oc14, od14, .func (PySem.W.fnOf "step_from" "step_from" (defArgs s_step_from) (defBody s_step_from) (defScope s_step_from) .none kV14 dc14 pm14 an14 cd14 ct14), sl14⟩)
    (c14 : PySem.W.codeIn K cd14 "step_from" = true)
    (k14 : PySem.W.keepIn K (.ref f14) = true)
    {f15 : Addr} {od15 an15 : Option Addr} {sl15 : Array (Option Value)} {oc15 kV15 dc15 pm15 cd15 ct15 : Value}
    (a15 : PySem.W.nsIn K mainGlobals "standing_of" = some (some (.ref f15)))
    (l15 : K.lookup f15 = some ⟨oc15, od15, .func (PySem.W.fnOf "standing_of" "standing_of" (defArgs s_standing_of) (defBody s_standing_of) (defScope s_standing_of) .none kV15 dc15 pm15 an15 cd15 ct15), sl15⟩)
    (c15 : PySem.W.codeIn K cd15 "standing_of" = true)
    (k15 : PySem.W.keepIn K (.ref f15) = true)
    {f16 : Addr} {od16 an16 : Option Addr} {sl16 : Array (Option Value)} {oc16 kV16 dc16 pm16 cd16 ct16 : Value}
    (a16 : PySem.W.nsIn K mainGlobals "is_right" = some (some (.ref f16)))
    (l16 : K.lookup f16 = some ⟨oc16, od16, .func (PySem.W.fnOf "is_right" "is_right" (defArgs s_is_right) (defBody s_is_right) (defScope s_is_right) .none kV16 dc16 pm16 an16 cd16 ct16), sl16⟩)
    (c16 : PySem.W.codeIn K cd16 "is_right" = true)
    (k16 : PySem.W.keepIn K (.ref f16) = true)
    {f17 : Addr} {od17 an17 : Option Addr} {sl17 : Array (Option Value)} {oc17 kV17 dc17 pm17 cd17 ct17 : Value}
    (a17 : PySem.W.nsIn K mainGlobals "_law_mix" = some (some (.ref f17)))
    (l17 : K.lookup f17 = some ⟨oc17, od17, .func (PySem.W.fnOf "_law_mix" "_law_mix" (defArgs s_law_mix) (defBody s_law_mix) (defScope s_law_mix) .none kV17 dc17 pm17 an17 cd17 ct17), sl17⟩)
    (c17 : PySem.W.codeIn K cd17 "_law_mix" = true)
    (k17 : PySem.W.keepIn K (.ref f17) = true)
    {f18 : Addr} {od18 an18 : Option Addr} {sl18 : Array (Option Value)} {oc18 kV18 dc18 pm18 cd18 ct18 : Value}
    (a18 : PySem.W.nsIn K mainGlobals "_law_hand" = some (some (.ref f18)))
    (l18 : K.lookup f18 = some ⟨oc18, od18, .func (PySem.W.fnOf "_law_hand" "_law_hand" (defArgs s_law_hand) (defBody s_law_hand) (defScope s_law_hand) .none kV18 dc18 pm18 an18 cd18 ct18), sl18⟩)
    (c18 : PySem.W.codeIn K cd18 "_law_hand" = true)
    (k18 : PySem.W.keepIn K (.ref f18) = true)
    {f19 : Addr} {od19 an19 : Option Addr} {sl19 : Array (Option Value)} {oc19 kV19 dc19 pm19 cd19 ct19 : Value}
    (a19 : PySem.W.nsIn K mainGlobals "_law_draw" = some (some (.ref f19)))
    (l19 : K.lookup f19 = some ⟨oc19, od19, .func (PySem.W.fnOf "_law_draw" "_law_draw" (defArgs s_law_draw) (defBody s_law_draw) (defScope s_law_draw) .none kV19 dc19 pm19 an19 cd19 ct19), sl19⟩)
    (c19 : PySem.W.codeIn K cd19 "_law_draw" = true)
    (k19 : PySem.W.keepIn K (.ref f19) = true)
    {f20 : Addr} {od20 an20 : Option Addr} {sl20 : Array (Option Value)} {oc20 kV20 dc20 pm20 cd20 ct20 : Value}
    (a20 : PySem.W.nsIn K mainGlobals "_law_exact" = some (some (.ref f20)))
    (l20 : K.lookup f20 = some ⟨oc20, od20, .func (PySem.W.fnOf "_law_exact" "_law_exact" (defArgs s_law_exact) (defBody s_law_exact) (defScope s_law_exact) .none kV20 dc20 pm20 an20 cd20 ct20), sl20⟩)
    (c20 : PySem.W.codeIn K cd20 "_law_exact" = true)
    (k20 : PySem.W.keepIn K (.ref f20) = true)
    {f21 : Addr} {od21 an21 : Option Addr} {sl21 : Array (Option Value)} {oc21 kV21 dc21 pm21 cd21 ct21 : Value}
    (a21 : PySem.W.nsIn K mainGlobals "_law_ways" = some (some (.ref f21)))
    (l21 : K.lookup f21 = some ⟨oc21, od21, .func (PySem.W.fnOf "_law_ways" "_law_ways" (defArgs s_law_ways) (defBody s_law_ways) (defScope s_law_ways) .none kV21 dc21 pm21 an21 cd21 ct21), sl21⟩)
    (c21 : PySem.W.codeIn K cd21 "_law_ways" = true)
    (k21 : PySem.W.keepIn K (.ref f21) = true)
    {f22 : Addr} {od22 an22 : Option Addr} {sl22 : Array (Option Value)} {oc22 kV22 dc22 pm22 cd22 ct22 : Value}
    (a22 : PySem.W.nsIn K mainGlobals "_law_flat" = some (some (.ref f22)))
    (l22 : K.lookup f22 = some ⟨oc22, od22, .func (PySem.W.fnOf "_law_flat" "_law_flat" (defArgs s_law_flat) (defBody s_law_flat) (defScope s_law_flat) .none kV22 dc22 pm22 an22 cd22 ct22), sl22⟩)
    (c22 : PySem.W.codeIn K cd22 "_law_flat" = true)
    (k22 : PySem.W.keepIn K (.ref f22) = true)
    {f23 : Addr} {od23 an23 : Option Addr} {sl23 : Array (Option Value)} {oc23 kV23 dc23 pm23 cd23 ct23 : Value}
    (a23 : PySem.W.nsIn K mainGlobals "_law_onward" = some (some (.ref f23)))
    (l23 : K.lookup f23 = some ⟨oc23, od23, .func (PySem.W.fnOf "_law_onward" "_law_onward" (defArgs s_law_onward) (defBody s_law_onward) (defScope s_law_onward) .none kV23 dc23 pm23 an23 cd23 ct23), sl23⟩)
    (c23 : PySem.W.codeIn K cd23 "_law_onward" = true)
    (k23 : PySem.W.keepIn K (.ref f23) = true)
    {f24 : Addr} {od24 an24 : Option Addr} {sl24 : Array (Option Value)} {oc24 kV24 dc24 pm24 cd24 ct24 : Value}
    (a24 : PySem.W.nsIn K mainGlobals "_law_stand" = some (some (.ref f24)))
    (l24 : K.lookup f24 = some ⟨oc24, od24, .func (PySem.W.fnOf "_law_stand" "_law_stand" (defArgs s_law_stand) (defBody s_law_stand) (defScope s_law_stand) .none kV24 dc24 pm24 an24 cd24 ct24), sl24⟩)
    (c24 : PySem.W.codeIn K cd24 "_law_stand" = true)
    (k24 : PySem.W.keepIn K (.ref f24) = true)
    {f25 : Addr} {od25 an25 : Option Addr} {sl25 : Array (Option Value)} {oc25 kV25 dc25 pm25 cd25 ct25 : Value}
    (a25 : PySem.W.nsIn K mainGlobals "_law_lets" = some (some (.ref f25)))
    (l25 : K.lookup f25 = some ⟨oc25, od25, .func (PySem.W.fnOf "_law_lets" "_law_lets" (defArgs s_law_lets) (defBody s_law_lets) (defScope s_law_lets) .none kV25 dc25 pm25 an25 cd25 ct25), sl25⟩)
    (c25 : PySem.W.codeIn K cd25 "_law_lets" = true)
    (k25 : PySem.W.keepIn K (.ref f25) = true)
    {f26 : Addr} {od26 an26 : Option Addr} {sl26 : Array (Option Value)} {oc26 kV26 dc26 pm26 cd26 ct26 : Value}
    (a26 : PySem.W.nsIn K mainGlobals "_law_past" = some (some (.ref f26)))
    (l26 : K.lookup f26 = some ⟨oc26, od26, .func (PySem.W.fnOf "_law_past" "_law_past" (defArgs s_law_past) (defBody s_law_past) (defScope s_law_past) .none kV26 dc26 pm26 an26 cd26 ct26), sl26⟩)
    (c26 : PySem.W.codeIn K cd26 "_law_past" = true)
    (k26 : PySem.W.keepIn K (.ref f26) = true)
    {f27 : Addr} {od27 an27 : Option Addr} {sl27 : Array (Option Value)} {oc27 kV27 dc27 pm27 cd27 ct27 : Value}
    (a27 : PySem.W.nsIn K mainGlobals "_law_large" = some (some (.ref f27)))
    (l27 : K.lookup f27 = some ⟨oc27, od27, .func (PySem.W.fnOf "_law_large" "_law_large" (defArgs s_law_large) (defBody s_law_large) (defScope s_law_large) .none kV27 dc27 pm27 an27 cd27 ct27), sl27⟩)
    (c27 : PySem.W.codeIn K cd27 "_law_large" = true)
    (k27 : PySem.W.keepIn K (.ref f27) = true)
    {f28 : Addr} {od28 an28 : Option Addr} {sl28 : Array (Option Value)} {oc28 kV28 dc28 pm28 cd28 ct28 : Value}
    (a28 : PySem.W.nsIn K mainGlobals "_law_whole" = some (some (.ref f28)))
    (l28 : K.lookup f28 = some ⟨oc28, od28, .func (PySem.W.fnOf "_law_whole" "_law_whole" (defArgs s_law_whole) (defBody s_law_whole) (defScope s_law_whole) .none kV28 dc28 pm28 an28 cd28 ct28), sl28⟩)
    (c28 : PySem.W.codeIn K cd28 "_law_whole" = true)
    (k28 : PySem.W.keepIn K (.ref f28) = true)
    {f29 : Addr} {od29 an29 : Option Addr} {sl29 : Array (Option Value)} {oc29 kV29 dc29 pm29 cd29 ct29 : Value}
    (a29 : PySem.W.nsIn K mainGlobals "_law_row" = some (some (.ref f29)))
    (l29 : K.lookup f29 = some ⟨oc29, od29, .func (PySem.W.fnOf "_law_row" "_law_row" (defArgs s_law_row) (defBody s_law_row) (defScope s_law_row) .none kV29 dc29 pm29 an29 cd29 ct29), sl29⟩)
    (c29 : PySem.W.codeIn K cd29 "_law_row" = true)
    (k29 : PySem.W.keepIn K (.ref f29) = true)
    {f30 : Addr} {od30 an30 : Option Addr} {sl30 : Array (Option Value)} {oc30 kV30 dc30 pm30 cd30 ct30 : Value}
    (a30 : PySem.W.nsIn K mainGlobals "_law_large_book" = some (some (.ref f30)))
    (l30 : K.lookup f30 = some ⟨oc30, od30, .func (PySem.W.fnOf "_law_large_book" "_law_large_book" (defArgs s_law_large_book) (defBody s_law_large_book) (defScope s_law_large_book) .none kV30 dc30 pm30 an30 cd30 ct30), sl30⟩)
    (c30 : PySem.W.codeIn K cd30 "_law_large_book" = true)
    (k30 : PySem.W.keepIn K (.ref f30) = true)
    {f31 : Addr} {od31 an31 : Option Addr} {sl31 : Array (Option Value)} {oc31 kV31 dc31 pm31 cd31 ct31 : Value}
    (a31 : PySem.W.nsIn K mainGlobals "_law_entries" = some (some (.ref f31)))
    (l31 : K.lookup f31 = some ⟨oc31, od31, .func (PySem.W.fnOf "_law_entries" "_law_entries" (defArgs s_law_entries) (defBody s_law_entries) (defScope s_law_entries) .none kV31 dc31 pm31 an31 cd31 ct31), sl31⟩)
    (c31 : PySem.W.codeIn K cd31 "_law_entries" = true)
    (k31 : PySem.W.keepIn K (.ref f31) = true)
    {f32 : Addr} {od32 an32 : Option Addr} {sl32 : Array (Option Value)} {oc32 kV32 dc32 pm32 cd32 ct32 : Value}
    (a32 : PySem.W.nsIn K mainGlobals "_law_couple_ways" = some (some (.ref f32)))
    (l32 : K.lookup f32 = some ⟨oc32, od32, .func (PySem.W.fnOf "_law_couple_ways" "_law_couple_ways" (defArgs s_law_couple_ways) (defBody s_law_couple_ways) (defScope s_law_couple_ways) .none kV32 dc32 pm32 an32 cd32 ct32), sl32⟩)
    (c32 : PySem.W.codeIn K cd32 "_law_couple_ways" = true)
    (k32 : PySem.W.keepIn K (.ref f32) = true)
    {f33 : Addr} {od33 an33 : Option Addr} {sl33 : Array (Option Value)} {oc33 kV33 dc33 pm33 cd33 ct33 : Value}
    (a33 : PySem.W.nsIn K mainGlobals "_law_small_book" = some (some (.ref f33)))
    (l33 : K.lookup f33 = some ⟨oc33, od33, .func (PySem.W.fnOf "_law_small_book" "_law_small_book" (defArgs s_law_small_book) (defBody s_law_small_book) (defScope s_law_small_book) .none kV33 dc33 pm33 an33 cd33 ct33), sl33⟩)
    (c33 : PySem.W.codeIn K cd33 "_law_small_book" = true)
    (k33 : PySem.W.keepIn K (.ref f33) = true)
    {f34 : Addr} {od34 an34 : Option Addr} {sl34 : Array (Option Value)} {oc34 kV34 dc34 pm34 cd34 ct34 : Value}
    (a34 : PySem.W.nsIn K mainGlobals "_law_two_books" = some (some (.ref f34)))
    (l34 : K.lookup f34 = some ⟨oc34, od34, .func (PySem.W.fnOf "_law_two_books" "_law_two_books" (defArgs s_law_two_books) (defBody s_law_two_books) (defScope s_law_two_books) .none kV34 dc34 pm34 an34 cd34 ct34), sl34⟩)
    (c34 : PySem.W.codeIn K cd34 "_law_two_books" = true)
    (k34 : PySem.W.keepIn K (.ref f34) = true)
    {f35 : Addr} {od35 an35 : Option Addr} {sl35 : Array (Option Value)} {oc35 kV35 dc35 pm35 cd35 ct35 : Value}
    (a35 : PySem.W.nsIn K mainGlobals "_law_checked" = some (some (.ref f35)))
    (l35 : K.lookup f35 = some ⟨oc35, od35, .func (PySem.W.fnOf "_law_checked" "_law_checked" (defArgs s_law_checked) (defBody s_law_checked) (defScope s_law_checked) .none kV35 dc35 pm35 an35 cd35 ct35), sl35⟩)
    (c35 : PySem.W.codeIn K cd35 "_law_checked" = true)
    (k35 : PySem.W.keepIn K (.ref f35) = true)
    {f36 : Addr} {od36 an36 : Option Addr} {sl36 : Array (Option Value)} {oc36 kV36 dc36 pm36 cd36 ct36 : Value}
    (a36 : PySem.W.nsIn K mainGlobals "_law_due_check" = some (some (.ref f36)))
    (l36 : K.lookup f36 = some ⟨oc36, od36, .func (PySem.W.fnOf "_law_due_check" "_law_due_check" (defArgs s_law_due_check) (defBody s_law_due_check) (defScope s_law_due_check) .none kV36 dc36 pm36 an36 cd36 ct36), sl36⟩)
    (c36 : PySem.W.codeIn K cd36 "_law_due_check" = true)
    (k36 : PySem.W.keepIn K (.ref f36) = true)
    {f37 : Addr} {od37 an37 : Option Addr} {sl37 : Array (Option Value)} {oc37 kV37 dc37 pm37 cd37 ct37 : Value}
    (a37 : PySem.W.nsIn K mainGlobals "_law_same" = some (some (.ref f37)))
    (l37 : K.lookup f37 = some ⟨oc37, od37, .func (PySem.W.fnOf "_law_same" "_law_same" (defArgs s_law_same) (defBody s_law_same) (defScope s_law_same) .none kV37 dc37 pm37 an37 cd37 ct37), sl37⟩)
    (c37 : PySem.W.codeIn K cd37 "_law_same" = true)
    (k37 : PySem.W.keepIn K (.ref f37) = true)
    {f38 : Addr} {od38 an38 : Option Addr} {sl38 : Array (Option Value)} {oc38 kV38 dc38 pm38 cd38 ct38 : Value}
    (a38 : PySem.W.nsIn K mainGlobals "_law_odd_entry" = some (some (.ref f38)))
    (l38 : K.lookup f38 = some ⟨oc38, od38, .func (PySem.W.fnOf "_law_odd_entry" "_law_odd_entry" (defArgs s_law_odd_entry) (defBody s_law_odd_entry) (defScope s_law_odd_entry) .none kV38 dc38 pm38 an38 cd38 ct38), sl38⟩)
    (c38 : PySem.W.codeIn K cd38 "_law_odd_entry" = true)
    (k38 : PySem.W.keepIn K (.ref f38) = true)
    {f39 : Addr} {od39 an39 : Option Addr} {sl39 : Array (Option Value)} {oc39 kV39 dc39 pm39 cd39 ct39 : Value}
    (a39 : PySem.W.nsIn K mainGlobals "_law_spoilt_history" = some (some (.ref f39)))
    (l39 : K.lookup f39 = some ⟨oc39, od39, .func (PySem.W.fnOf "_law_spoilt_history" "_law_spoilt_history" (defArgs s_law_spoilt_history) (defBody s_law_spoilt_history) (defScope s_law_spoilt_history) .none kV39 dc39 pm39 an39 cd39 ct39), sl39⟩)
    (c39 : PySem.W.codeIn K cd39 "_law_spoilt_history" = true)
    (k39 : PySem.W.keepIn K (.ref f39) = true)
    {f40 : Addr} {od40 an40 : Option Addr} {sl40 : Array (Option Value)} {oc40 kV40 dc40 pm40 cd40 ct40 : Value}
    (a40 : PySem.W.nsIn K mainGlobals "_law_parts_told" = some (some (.ref f40)))
    (l40 : K.lookup f40 = some ⟨oc40, od40, .func (PySem.W.fnOf "_law_parts_told" "_law_parts_told" (defArgs s_law_parts_told) (defBody s_law_parts_told) (defScope s_law_parts_told) .none kV40 dc40 pm40 an40 cd40 ct40), sl40⟩)
    (c40 : PySem.W.codeIn K cd40 "_law_parts_told" = true)
    (k40 : PySem.W.keepIn K (.ref f40) = true)
    {f41 : Addr} {od41 an41 : Option Addr} {sl41 : Array (Option Value)} {oc41 kV41 dc41 pm41 cd41 ct41 : Value}
    (a41 : PySem.W.nsIn K mainGlobals "_law_beside" = some (some (.ref f41)))
    (l41 : K.lookup f41 = some ⟨oc41, od41, .func (PySem.W.fnOf "_law_beside" "_law_beside" (defArgs s_law_beside) (defBody s_law_beside) (defScope s_law_beside) .none kV41 dc41 pm41 an41 cd41 ct41), sl41⟩)
    (c41 : PySem.W.codeIn K cd41 "_law_beside" = true)
    (k41 : PySem.W.keepIn K (.ref f41) = true)
    {f42 : Addr} {od42 an42 : Option Addr} {sl42 : Array (Option Value)} {oc42 kV42 dc42 pm42 cd42 ct42 : Value}
    (a42 : PySem.W.nsIn K mainGlobals "_law_beside_refused" = some (some (.ref f42)))
    (l42 : K.lookup f42 = some ⟨oc42, od42, .func (PySem.W.fnOf "_law_beside_refused" "_law_beside_refused" (defArgs s_law_beside_refused) (defBody s_law_beside_refused) (defScope s_law_beside_refused) .none kV42 dc42 pm42 an42 cd42 ct42), sl42⟩)
    (c42 : PySem.W.codeIn K cd42 "_law_beside_refused" = true)
    (k42 : PySem.W.keepIn K (.ref f42) = true)
    {f43 : Addr} {od43 an43 : Option Addr} {sl43 : Array (Option Value)} {oc43 kV43 dc43 pm43 cd43 ct43 : Value}
    (a43 : PySem.W.nsIn K mainGlobals "_law_beside_due" = some (some (.ref f43)))
    (l43 : K.lookup f43 = some ⟨oc43, od43, .func (PySem.W.fnOf "_law_beside_due" "_law_beside_due" (defArgs s_law_beside_due) (defBody s_law_beside_due) (defScope s_law_beside_due) .none kV43 dc43 pm43 an43 cd43 ct43), sl43⟩)
    (c43 : PySem.W.codeIn K cd43 "_law_beside_due" = true)
    (k43 : PySem.W.keepIn K (.ref f43) = true)
    {f44 : Addr} {od44 an44 : Option Addr} {sl44 : Array (Option Value)} {oc44 kV44 dc44 pm44 cd44 ct44 : Value}
    (a44 : PySem.W.nsIn K mainGlobals "_law_parting" = some (some (.ref f44)))
    (l44 : K.lookup f44 = some ⟨oc44, od44, .func (PySem.W.fnOf "_law_parting" "_law_parting" (defArgs s_law_parting) (defBody s_law_parting) (defScope s_law_parting) .none kV44 dc44 pm44 an44 cd44 ct44), sl44⟩)
    (c44 : PySem.W.codeIn K cd44 "_law_parting" = true)
    (k44 : PySem.W.keepIn K (.ref f44) = true)
    {f45 : Addr} {od45 an45 : Option Addr} {sl45 : Array (Option Value)} {oc45 kV45 dc45 pm45 cd45 ct45 : Value}
    (a45 : PySem.W.nsIn K mainGlobals "law" = some (some (.ref f45)))
    (l45 : K.lookup f45 = some ⟨oc45, od45, .func (PySem.W.fnOf "law" "law" (defArgs s_law) (defBody s_law) (defScope s_law) .none kV45 dc45 pm45 an45 cd45 ct45), sl45⟩)
    (c45 : PySem.W.codeIn K cd45 "law" = true)
    (k45 : PySem.W.keepIn K (.ref f45) = true)
    (pg_Book : PySem.W.plainGet K C_Book Str.empty = true)
    (hd_Book : PySem.W.hasDictIn K C_Book = true)
    (po_Book : PySem.W.plainOver K C_Book = true)
    (sa_Book : PySem.W.findIn K (.ref C_Book) "__setattr__" = some (some (.builtin "object.__setattr__")))
    (mk_Book : PySem.W.makesIn K C_Book = true)
    (kc_Book : PySem.W.keepIn K (.ref C_Book) = true)
    {C_BadBook : Addr}
    (aC_BadBook : PySem.W.nsIn K mainGlobals "BadBook" = some (some (.ref C_BadBook)))
    {C_BadHistory : Addr}
    (aC_BadHistory : PySem.W.nsIn K mainGlobals "BadHistory" = some (some (.ref C_BadHistory)))
    {C_TooMany : Addr}
    (aC_TooMany : PySem.W.nsIn K mainGlobals "TooMany" = some (some (.ref C_TooMany)))
    {fxBadBook : Addr} {odxBadBook anxBadBook : Option Addr} {slxBadBook : Array (Option Value)} {ocxBadBook kVxBadBook dcxBadBook pmxBadBook cdxBadBook ctxBadBook : Value}
    (axBadBook : PySem.W.findIn K (.ref C_BadBook) "__init__" = some (some (.ref fxBadBook)))
    (lxBadBook : K.lookup fxBadBook = some ⟨ocxBadBook, odxBadBook, .func (PySem.W.fnOf "__init__" "BadBook.__init__" (defArgs s_BadBook___init__) (defBody s_BadBook___init__) (defScope s_BadBook___init__) .none kVxBadBook dcxBadBook pmxBadBook anxBadBook cdxBadBook ctxBadBook), slxBadBook⟩)
    (cxBadBook : PySem.W.codeIn K cdxBadBook "BadBook.__init__" = true)
    (kxBadBook : PySem.W.keepIn K (.ref fxBadBook) = true)
    (txBadBook : PySem.W.typeIn K (.ref fxBadBook) = some (.type "function"))
    {nm_BadBook q_BadBook N_BadBook bs_BadBook bm_BadBook sn_BadBook sub_BadBook ab_BadBook col_BadBook dd_BadBook k0_BadBook k1_BadBook k2_BadBook k3_BadBook k5_BadBook}
    (xL_BadBook : K.lookup C_BadBook = some (excClassObj nm_BadBook q_BadBook C_BadBook N_BadBook bs_BadBook bm_BadBook true sn_BadBook sub_BadBook ab_BadBook col_BadBook dd_BadBook k0_BadBook k1_BadBook k2_BadBook k3_BadBook k5_BadBook "ValueError.__new__"))
    (xr_BadBook : PySem.HandSPX.refsVE bm_BadBook = true)
    (xs_BadBook : PySem.W.findIn K (.ref C_BadBook) "__setattr__" = some (some (.builtin "object.__setattr__")))
    (xe_BadBook : PySem.W.subIn K (.ref C_BadBook) (.type "BaseException") = some true)
    (xt_BadBook : PySem.W.typeIn K (.ref C_BadBook) = some (.type "type"))
    (xk_BadBook : PySem.W.keepIn K (.ref C_BadBook) = true)
    (xn_BadBook_what : PySem.W.findIn K (.ref C_BadBook) "what" = some none)
    {fxBadHistory : Addr} {odxBadHistory anxBadHistory : Option Addr} {slxBadHistory : Array (Option Value)} {ocxBadHistory kVxBadHistory dcxBadHistory pmxBadHistory cdxBadHistory ctxBadHistory : Value}
    (axBadHistory : PySem.W.findIn K (.ref C_BadHistory) "__init__" = some (some (.ref fxBadHistory)))
    (lxBadHistory : K.lookup fxBadHistory = some ⟨ocxBadHistory, odxBadHistory, .func (PySem.W.fnOf "__init__" "BadHistory.__init__" (defArgs s_BadHistory___init__) (defBody s_BadHistory___init__) (defScope s_BadHistory___init__) .none kVxBadHistory dcxBadHistory pmxBadHistory anxBadHistory cdxBadHistory ctxBadHistory), slxBadHistory⟩)
    (cxBadHistory : PySem.W.codeIn K cdxBadHistory "BadHistory.__init__" = true)
    (kxBadHistory : PySem.W.keepIn K (.ref fxBadHistory) = true)
    (txBadHistory : PySem.W.typeIn K (.ref fxBadHistory) = some (.type "function"))
    {nm_BadHistory q_BadHistory N_BadHistory bs_BadHistory bm_BadHistory sn_BadHistory sub_BadHistory ab_BadHistory col_BadHistory dd_BadHistory k0_BadHistory k1_BadHistory k2_BadHistory k3_BadHistory k5_BadHistory}
    (xL_BadHistory : K.lookup C_BadHistory = some (excClassObj nm_BadHistory q_BadHistory C_BadHistory N_BadHistory bs_BadHistory bm_BadHistory true sn_BadHistory sub_BadHistory ab_BadHistory col_BadHistory dd_BadHistory k0_BadHistory k1_BadHistory k2_BadHistory k3_BadHistory k5_BadHistory "ValueError.__new__"))
    (xr_BadHistory : PySem.HandSPX.refsVE bm_BadHistory = true)
    (xs_BadHistory : PySem.W.findIn K (.ref C_BadHistory) "__setattr__" = some (some (.builtin "object.__setattr__")))
    (xe_BadHistory : PySem.W.subIn K (.ref C_BadHistory) (.type "BaseException") = some true)
    (xt_BadHistory : PySem.W.typeIn K (.ref C_BadHistory) = some (.type "type"))
    (xk_BadHistory : PySem.W.keepIn K (.ref C_BadHistory) = true)
    (xn_BadHistory_index : PySem.W.findIn K (.ref C_BadHistory) "index" = some none)
    {fxTooMany : Addr} {odxTooMany anxTooMany : Option Addr} {slxTooMany : Array (Option Value)} {ocxTooMany kVxTooMany dcxTooMany pmxTooMany cdxTooMany ctxTooMany : Value}
    (axTooMany : PySem.W.findIn K (.ref C_TooMany) "__init__" = some (some (.ref fxTooMany)))
    (lxTooMany : K.lookup fxTooMany = some ⟨ocxTooMany, odxTooMany, .func (PySem.W.fnOf "__init__" "TooMany.__init__" (defArgs s_TooMany___init__) (defBody s_TooMany___init__) (defScope s_TooMany___init__) .none kVxTooMany dcxTooMany pmxTooMany anxTooMany cdxTooMany ctxTooMany), slxTooMany⟩)
    (cxTooMany : PySem.W.codeIn K cdxTooMany "TooMany.__init__" = true)
    (kxTooMany : PySem.W.keepIn K (.ref fxTooMany) = true)
    (txTooMany : PySem.W.typeIn K (.ref fxTooMany) = some (.type "function"))
    {nm_TooMany q_TooMany N_TooMany bs_TooMany bm_TooMany sn_TooMany sub_TooMany ab_TooMany col_TooMany dd_TooMany k0_TooMany k1_TooMany k2_TooMany k3_TooMany k5_TooMany}
    (xL_TooMany : K.lookup C_TooMany = some (excClassObj nm_TooMany q_TooMany C_TooMany N_TooMany bs_TooMany bm_TooMany true sn_TooMany sub_TooMany ab_TooMany col_TooMany dd_TooMany k0_TooMany k1_TooMany k2_TooMany k3_TooMany k5_TooMany "ValueError.__new__"))
    (xr_TooMany : PySem.HandSPX.refsVE bm_TooMany = true)
    (xs_TooMany : PySem.W.findIn K (.ref C_TooMany) "__setattr__" = some (some (.builtin "object.__setattr__")))
    (xe_TooMany : PySem.W.subIn K (.ref C_TooMany) (.type "BaseException") = some true)
    (xt_TooMany : PySem.W.typeIn K (.ref C_TooMany) = some (.type "type"))
    (xk_TooMany : PySem.W.keepIn K (.ref C_TooMany) = true)
    (xn_TooMany_most : PySem.W.findIn K (.ref C_TooMany) "most" = some none)
    (xga_BadHistory : PySem.W.findIn K (.ref C_BadHistory) "__getattribute__" = some (some (.builtin "BaseException.__getattribute__")))
    (xgg_BadHistory : PySem.W.findIn K (.ref C_BadHistory) "__getattr__" = some none)
    (xgh_BadHistory : PySem.W.hasDictIn K C_BadHistory = true)
    (xga_TooMany : PySem.W.findIn K (.ref C_TooMany) "__getattribute__" = some (some (.builtin "BaseException.__getattribute__")))
    (xgg_TooMany : PySem.W.findIn K (.ref C_TooMany) "__getattr__" = some none)
    (xgh_TooMany : PySem.W.hasDictIn K C_TooMany = true)
    (e_BadBook_BadHistory : PySem.W.exmOne K (.ref C_BadBook) (.ref C_BadHistory) = some false)
    (e_BadBook_TooMany : PySem.W.exmOne K (.ref C_BadBook) (.ref C_TooMany) = some false)
    (e_BadHistory_BadHistory : PySem.W.exmOne K (.ref C_BadHistory) (.ref C_BadHistory) = some true)
    (e_BadHistory_TooMany : PySem.W.exmOne K (.ref C_BadHistory) (.ref C_TooMany) = some false)
    (e_TooMany_BadHistory : PySem.W.exmOne K (.ref C_TooMany) (.ref C_BadHistory) = some false)
    (e_TooMany_TooMany : PySem.W.exmOne K (.ref C_TooMany) (.ref C_TooMany) = some true)
    (nf_Book_calls : PySem.W.findIn K (.ref C_Book) "calls" = some none)
    (nf_Book_states : PySem.W.findIn K (.ref C_Book) "states" = some none)
    (nf_Book_ways : PySem.W.findIn K (.ref C_Book) "ways" = some none)
    (z_abs : PySem.W.nsIn K mainGlobals "abs" = some none)
    (z_bool : PySem.W.nsIn K mainGlobals "bool" = some none)
    (z_enumerate : PySem.W.nsIn K mainGlobals "enumerate" = some none)
    (z_int : PySem.W.nsIn K mainGlobals "int" = some none)
    (z_isinstance : PySem.W.nsIn K mainGlobals "isinstance" = some none)
    (z_len : PySem.W.nsIn K mainGlobals "len" = some none)
    (z_list : PySem.W.nsIn K mainGlobals "list" = some none)
    (z_range : PySem.W.nsIn K mainGlobals "range" = some none)
    (z_sorted : PySem.W.nsIn K mainGlobals "sorted" = some none)
    (z_str : PySem.W.nsIn K mainGlobals "str" = some none)
    (z_tuple : PySem.W.nsIn K mainGlobals "tuple" = some none)
    {tk_MOST_STATES : Tok}
    (g_MOST_STATES : PySem.W.nsIn K mainGlobals "MOST_STATES" = some (some (.int 6 tk_MOST_STATES)))
    {tk_MOST_CALLS : Tok}
    (g_MOST_CALLS : PySem.W.nsIn K mainGlobals "MOST_CALLS" = some (some (.int 4 tk_MOST_CALLS)))
    {tk_MOST_ANSWERS : Tok}
    (g_MOST_ANSWERS : PySem.W.nsIn K mainGlobals "MOST_ANSWERS" = some (some (.int 3 tk_MOST_ANSWERS)))
    {tk_MOST_WAYS : Tok}
    (g_MOST_WAYS : PySem.W.nsIn K mainGlobals "MOST_WAYS" = some (some (.int 432 tk_MOST_WAYS)))
    {tk_MOST_HAND : Tok}
    (g_MOST_HAND : PySem.W.nsIn K mainGlobals "MOST_HAND" = some (some (.int 9 tk_MOST_HAND)))
    {tk_MOST_ENTRIES : Tok}
    (g_MOST_ENTRIES : PySem.W.nsIn K mainGlobals "MOST_ENTRIES" = some (some (.int 400 tk_MOST_ENTRIES)))
    {T_START : Addr} {odS_START : Option Addr} {nS_START : Nat} {slS_START : Array (Option Value)} {tk_START_0 : Tok}
    (g_START : PySem.W.nsIn K mainGlobals "START" = some (some (.ref T_START)))
    (gl_START : K.lookup T_START = some ⟨.type "tuple", odS_START, .seq #[.int 0 tk_START_0] nS_START, slS_START⟩)
    (k5_isFn : PySem.W.isFn K (.ref f5) = true) :
    ∃ fd : FuncData, (∀ (s : Shared) (v : Value), BindsTo s fd ⟨[v], []⟩ [("_law_script", v)]) ∧ ∀ base : Heap, K.In base → base.Ns mainGlobals mg → FnOk l.prog w K mg base (L2.CX l.prog w) 9 fa fd ["_law_script"] (spLaw K) := by
  have e := hfa.symm.trans (PySem.W.mg_of X G a45)
  cases e
  have Fn1 := funG_mk (st := s_is_whole) (dvs := []) l1 c1 k1 (.inl ⟨rfl, rfl⟩)
  have b1 := FunD.bindsN (ps := ["thing", "low", "high"]) Fn1 fun _ _ _ _ _ _ us hl => match us, hl with | [_, _, _], _ => rfl
  have m1 := PySem.W.mg_of X G a1
  have Fn2 := funG_mk (st := s_is_sequence) (dvs := []) l2 c2 k2 (.inl ⟨rfl, rfl⟩)
  have b2 := FunD.bindsN (ps := ["thing"]) Fn2 fun _ _ _ _ _ _ us hl => match us, hl with | [_], _ => rfl
  have m2 := PySem.W.mg_of X G a2
  have Fn3 := funG_mk (st := s_is_way) (dvs := []) l3 c3 k3 (.inl ⟨rfl, rfl⟩)
  have b3 := FunD.bindsN (ps := ["thing", "states", "calls"]) Fn3 fun _ _ _ _ _ _ us hl => match us, hl with | [_, _, _], _ => rfl
  have m3 := PySem.W.mg_of X G a3
  have Fn4 := funG_mk (st := s_check_ways) (dvs := []) l4 c4 k4 (.inl ⟨rfl, rfl⟩)
  have b4 := FunD.bindsN (ps := ["states", "calls", "ways"]) Fn4 fun _ _ _ _ _ _ us hl => match us, hl with | [_, _, _], _ => rfl
  have m4 := PySem.W.mg_of X G a4
  have Fn5 := funG_mk (st := s_Book___init__) (dvs := []) l5 c5 k5 (.inl ⟨rfl, rfl⟩)
  have b5 := FunD.bindsN (ps := ["self", "states", "calls", "ways"]) Fn5 fun _ _ _ _ _ _ us hl => match us, hl with | [_, _, _, _], _ => rfl
  have Fn6 := funG_mk (st := s_is_entry) (dvs := []) l6 c6 k6 (.inl ⟨rfl, rfl⟩)
  have b6 := FunD.bindsN (ps := ["book", "thing"]) Fn6 fun _ _ _ _ _ _ us hl => match us, hl with | [_, _], _ => rfl
  have m6 := PySem.W.mg_of X G a6
  have Fn7 := funG_mk (st := s_check_history) (dvs := []) l7 c7 k7 (.inl ⟨rfl, rfl⟩)
  have b7 := FunD.bindsN (ps := ["book", "history"]) Fn7 fun _ _ _ _ _ _ us hl => match us, hl with | [_, _], _ => rfl
  have m7 := PySem.W.mg_of X G a7
  have Fn8 := funG_mk (st := s_calls_of) (dvs := []) l8 c8 k8 (.inl ⟨rfl, rfl⟩)
  have b8 := FunD.bindsN (ps := ["history"]) Fn8 fun _ _ _ _ _ _ us hl => match us, hl with | [_], _ => rfl
  have m8 := PySem.W.mg_of X G a8
  have Fn9 := funG_mk (st := s_asks_made) (dvs := []) l9 c9 k9 (.inl ⟨rfl, rfl⟩)
  have b9 := FunD.bindsN (ps := ["history"]) Fn9 fun _ _ _ _ _ _ us hl => match us, hl with | [_], _ => rfl
  have m9 := PySem.W.mg_of X G a9
  have Fn10 := funG_mk (st := s_hands_of) (dvs := []) l10 c10 k10 (.inl ⟨rfl, rfl⟩)
  have b10 := FunD.bindsN (ps := ["history"]) Fn10 fun _ _ _ _ _ _ us hl => match us, hl with | [_], _ => rfl
  have m10 := PySem.W.mg_of X G a10
  have Fn11 := funG_mk (st := s_part_of) (dvs := []) l11 c11 k11 (.inl ⟨rfl, rfl⟩)
  have b11 := FunD.bindsN (ps := ["history", "hand"]) Fn11 fun _ _ _ _ _ _ us hl => match us, hl with | [_, _], _ => rfl
  have m11 := PySem.W.mg_of X G a11
  have Fn12 := funG_mk (st := s_beside) (dvs := []) l12 c12 k12 (.inl ⟨rfl, rfl⟩)
  have b12 := FunD.bindsN (ps := ["one", "other"]) Fn12 fun _ _ _ _ _ _ us hl => match us, hl with | [_, _], _ => rfl
  have m12 := PySem.W.mg_of X G a12
  have Fn13 := funG_mk (st := s_parted_history) (dvs := []) l13 c13 k13 (.inl ⟨rfl, rfl⟩)
  have b13 := FunD.bindsN (ps := ["one", "other", "history"]) Fn13 fun _ _ _ _ _ _ us hl => match us, hl with | [_, _, _], _ => rfl
  have m13 := PySem.W.mg_of X G a13
  have Fn14 := funG_mk (st := s_step_from) (dvs := []) l14 c14 k14 (.inl ⟨rfl, rfl⟩)
  have b14 := FunD.bindsN (ps := ["book", "states", "call", "answer"]) Fn14 fun _ _ _ _ _ _ us hl => match us, hl with | [_, _, _, _], _ => rfl
  have m14 := PySem.W.mg_of X G a14
  have Fn15 := funG_mk (st := s_standing_of) (dvs := []) l15 c15 k15 (.inl ⟨rfl, rfl⟩)
  have b15 := FunD.bindsN (ps := ["book", "history"]) Fn15 fun _ _ _ _ _ _ us hl => match us, hl with | [_, _], _ => rfl
  have m15 := PySem.W.mg_of X G a15
  have Fn16 := funG_mk (st := s_is_right) (dvs := []) l16 c16 k16 (.inl ⟨rfl, rfl⟩)
  have b16 := FunD.bindsN (ps := ["book", "history"]) Fn16 fun _ _ _ _ _ _ us hl => match us, hl with | [_, _], _ => rfl
  have m16 := PySem.W.mg_of X G a16
  have Fn17 := funG_mk (st := s_law_mix) (dvs := []) l17 c17 k17 (.inl ⟨rfl, rfl⟩)
  have b17 := FunD.bindsN (ps := ["_law_number", "_law_turn"]) Fn17 fun _ _ _ _ _ _ us hl => match us, hl with | [_, _], _ => rfl
  have m17 := PySem.W.mg_of X G a17
  have Fn18 := funG_mk (st := s_law_hand) (dvs := []) l18 c18 k18 (.inl ⟨rfl, rfl⟩)
  have b18 := FunD.bindsN (ps := ["_law_script"]) Fn18 fun _ _ _ _ _ _ us hl => match us, hl with | [_], _ => rfl
  have m18 := PySem.W.mg_of X G a18
  have Fn19 := funG_mk (st := s_law_draw) (dvs := []) l19 c19 k19 (.inl ⟨rfl, rfl⟩)
  have b19 := FunD.bindsN (ps := ["_law_hand_here", "_law_many"]) Fn19 fun _ _ _ _ _ _ us hl => match us, hl with | [_, _], _ => rfl
  have m19 := PySem.W.mg_of X G a19
  have Fn20 := funG_mk (st := s_law_exact) (dvs := []) l20 c20 k20 (.inl ⟨rfl, rfl⟩)
  have b20 := FunD.bindsN (ps := ["_law_told", "_law_due"]) Fn20 fun _ _ _ _ _ _ us hl => match us, hl with | [_, _], _ => rfl
  have m20 := PySem.W.mg_of X G a20
  have Fn21 := funG_mk (st := s_law_ways) (dvs := []) l21 c21 k21 (.inl ⟨rfl, rfl⟩)
  have b21 := FunD.bindsN (ps := ["_law_rows"]) Fn21 fun _ _ _ _ _ _ us hl => match us, hl with | [_], _ => rfl
  have m21 := PySem.W.mg_of X G a21
  have Fn22 := funG_mk (st := s_law_flat) (dvs := []) l22 c22 k22 (.inl ⟨rfl, rfl⟩)
  have b22 := FunD.bindsN (ps := ["_law_hand_here", "_law_states", "_law_calls", "_law_answers"]) Fn22 fun _ _ _ _ _ _ us hl => match us, hl with | [_, _, _, _], _ => rfl
  have m22 := PySem.W.mg_of X G a22
  have Fn23 := funG_mk (st := s_law_onward) (dvs := []) l23 c23 k23 (.inl ⟨rfl, rfl⟩)
  have b23 := FunD.bindsN (ps := ["_law_ways_here", "_law_standing", "_law_call", "_law_answer"]) Fn23 fun _ _ _ _ _ _ us hl => match us, hl with | [_, _, _, _], _ => rfl
  have m23 := PySem.W.mg_of X G a23
  have Fn24 := funG_mk (st := s_law_stand) (dvs := []) l24 c24 k24 (.inl ⟨rfl, rfl⟩)
  have b24 := FunD.bindsN (ps := ["_law_ways_here", "_law_standing", "_law_trail"]) Fn24 fun _ _ _ _ _ _ us hl => match us, hl with | [_, _, _], _ => rfl
  have m24 := PySem.W.mg_of X G a24
  have Fn25 := funG_mk (st := s_law_lets) (dvs := []) l25 c25 k25 (.inl ⟨rfl, rfl⟩)
  have b25 := FunD.bindsN (ps := ["_law_ways_here", "_law_standing", "_law_call"]) Fn25 fun _ _ _ _ _ _ us hl => match us, hl with | [_, _, _], _ => rfl
  have m25 := PySem.W.mg_of X G a25
  have Fn26 := funG_mk (st := s_law_past) (dvs := []) l26 c26 k26 (.inl ⟨rfl, rfl⟩)
  have b26 := FunD.bindsN (ps := ["_law_hand_here", "_law_calls", "_law_ways_here", "_law_most"]) Fn26 fun _ _ _ _ _ _ us hl => match us, hl with | [_, _, _, _], _ => rfl
  have m26 := PySem.W.mg_of X G a26
  have Fn27 := funG_mk (st := s_law_large) (dvs := []) l27 c27 k27 (.inl ⟨rfl, rfl⟩)
  have b27 := FunD.bindsN (ps := ["_law_hand_here"]) Fn27 fun _ _ _ _ _ _ us hl => match us, hl with | [_], _ => rfl
  have m27 := PySem.W.mg_of X G a27
  have Fn28 := funG_mk (st := s_law_whole) (dvs := []) l28 c28 k28 (.inl ⟨rfl, rfl⟩)
  have b28 := FunD.bindsN (ps := ["_law_thing", "_law_low", "_law_high"]) Fn28 fun _ _ _ _ _ _ us hl => match us, hl with | [_, _, _], _ => rfl
  have m28 := PySem.W.mg_of X G a28
  have Fn29 := funG_mk (st := s_law_row) (dvs := []) l29 c29 k29 (.inl ⟨rfl, rfl⟩)
  have b29 := FunD.bindsN (ps := ["_law_thing"]) Fn29 fun _ _ _ _ _ _ us hl => match us, hl with | [_], _ => rfl
  have m29 := PySem.W.mg_of X G a29
  have Fn30 := funG_mk (st := s_law_large_book) (dvs := []) l30 c30 k30 (.inl ⟨rfl, rfl⟩)
  have b30 := FunD.bindsN (ps := ["_law_hand_here"]) Fn30 fun _ _ _ _ _ _ us hl => match us, hl with | [_], _ => rfl
  have m30 := PySem.W.mg_of X G a30
  have Fn31 := funG_mk (st := s_law_entries) (dvs := []) l31 c31 k31 (.inl ⟨rfl, rfl⟩)
  have b31 := FunD.bindsN (ps := ["_law_hand_here", "_law_calls", "_law_most"]) Fn31 fun _ _ _ _ _ _ us hl => match us, hl with | [_, _, _], _ => rfl
  have m31 := PySem.W.mg_of X G a31
  have Fn32 := funG_mk (st := s_law_couple_ways) (dvs := []) l32 c32 k32 (.inl ⟨rfl, rfl⟩)
  have b32 := FunD.bindsN (ps := ["_law_one", "_law_calls", "_law_ways_here", "_law_other", "_law_more", "_law_others"]) Fn32 fun _ _ _ _ _ _ us hl => match us, hl with | [_, _, _, _, _, _], _ => rfl
  have m32 := PySem.W.mg_of X G a32
  have Fn33 := funG_mk (st := s_law_small_book) (dvs := []) l33 c33 k33 (.inl ⟨rfl, rfl⟩)
  have b33 := FunD.bindsN (ps := ["_law_hand_here", "_law_most", "_law_calls"]) Fn33 fun _ _ _ _ _ _ us hl => match us, hl with | [_, _, _], _ => rfl
  have m33 := PySem.W.mg_of X G a33
  have Fn34 := funG_mk (st := s_law_two_books) (dvs := []) l34 c34 k34 (.inl ⟨rfl, rfl⟩)
  have b34 := FunD.bindsN (ps := ["_law_hand_here"]) Fn34 fun _ _ _ _ _ _ us hl => match us, hl with | [_], _ => rfl
  have m34 := PySem.W.mg_of X G a34
  have Fn35 := funG_mk (st := s_law_checked) (dvs := []) l35 c35 k35 (.inl ⟨rfl, rfl⟩)
  have b35 := FunD.bindsN (ps := ["_law_book", "_law_rows"]) Fn35 fun _ _ _ _ _ _ us hl => match us, hl with | [_, _], _ => rfl
  have m35 := PySem.W.mg_of X G a35
  have Fn36 := funG_mk (st := s_law_due_check) (dvs := []) l36 c36 k36 (.inl ⟨rfl, rfl⟩)
  have b36 := FunD.bindsN (ps := ["_law_calls", "_law_rows"]) Fn36 fun _ _ _ _ _ _ us hl => match us, hl with | [_, _], _ => rfl
  have m36 := PySem.W.mg_of X G a36
  have Fn37 := funG_mk (st := s_law_same) (dvs := []) l37 c37 k37 (.inl ⟨rfl, rfl⟩)
  have b37 := FunD.bindsN (ps := ["_law_told", "_law_due"]) Fn37 fun _ _ _ _ _ _ us hl => match us, hl with | [_, _], _ => rfl
  have m37 := PySem.W.mg_of X G a37
  have Fn38 := funG_mk (st := s_law_odd_entry) (dvs := []) l38 c38 k38 (.inl ⟨rfl, rfl⟩)
  have b38 := FunD.bindsN (ps := ["_law_hand_here", "_law_calls"]) Fn38 fun _ _ _ _ _ _ us hl => match us, hl with | [_, _], _ => rfl
  have m38 := PySem.W.mg_of X G a38
  have Fn39 := funG_mk (st := s_law_spoilt_history) (dvs := []) l39 c39 k39 (.inl ⟨rfl, rfl⟩)
  have b39 := FunD.bindsN (ps := ["_law_hand_here", "_law_calls", "_law_rows"]) Fn39 fun _ _ _ _ _ _ us hl => match us, hl with | [_, _, _], _ => rfl
  have m39 := PySem.W.mg_of X G a39
  have Fn40 := funG_mk (st := s_law_parts_told) (dvs := []) l40 c40 k40 (.inl ⟨rfl, rfl⟩)
  have b40 := FunD.bindsN (ps := ["_law_rows"]) Fn40 fun _ _ _ _ _ _ us hl => match us, hl with | [_], _ => rfl
  have m40 := PySem.W.mg_of X G a40
  have Fn41 := funG_mk (st := s_law_beside) (dvs := []) l41 c41 k41 (.inl ⟨rfl, rfl⟩)
  have b41 := FunD.bindsN (ps := ["_law_one", "_law_other"]) Fn41 fun _ _ _ _ _ _ us hl => match us, hl with | [_, _], _ => rfl
  have m41 := PySem.W.mg_of X G a41
  have Fn42 := funG_mk (st := s_law_beside_refused) (dvs := []) l42 c42 k42 (.inl ⟨rfl, rfl⟩)
  have b42 := FunD.bindsN (ps := ["_law_one", "_law_other", "_law_rows"]) Fn42 fun _ _ _ _ _ _ us hl => match us, hl with | [_, _, _], _ => rfl
  have m42 := PySem.W.mg_of X G a42
  have Fn43 := funG_mk (st := s_law_beside_due) (dvs := []) l43 c43 k43 (.inl ⟨rfl, rfl⟩)
  have b43 := FunD.bindsN (ps := ["_law_first", "_law_second"]) Fn43 fun _ _ _ _ _ _ us hl => match us, hl with | [_, _], _ => rfl
  have m43 := PySem.W.mg_of X G a43
  have Fn44 := funG_mk (st := s_law_parting) (dvs := []) l44 c44 k44 (.inl ⟨rfl, rfl⟩)
  have b44 := FunD.bindsN (ps := ["_law_hand_here", "_law_one", "_law_other", "_law_first", "_law_second", "_law_due"]) Fn44 fun _ _ _ _ _ _ us hl => match us, hl with | [_, _, _, _, _, _], _ => rfl
  have m44 := PySem.W.mg_of X G a44
  have Fn45 := funG_mk (st := s_law) (dvs := []) l45 c45 k45 (.inl ⟨rfl, rfl⟩)
  have b45 := FunD.bindsN (ps := ["_law_script"]) Fn45 fun _ _ _ _ _ _ us hl => match us, hl with | [_], _ => rfl
  have FnxBadBook := funG_mk (st := s_BadBook___init__) (dvs := []) lxBadBook cxBadBook kxBadBook (.inl ⟨rfl, rfl⟩)
  have bxBadBook := FunD.bindsN (ps := ["self", "what"]) FnxBadBook fun _ _ _ _ _ _ us hl => match us, hl with | [_, _], _ => rfl
  have O_BadBook : OexC K C_BadBook := ⟨⟨_, _, _, _, _, _, _, _, _, _, _, _, _, _, _, xL_BadBook, xr_BadBook⟩, xs_BadBook, xe_BadBook, xt_BadBook, xk_BadBook⟩
  have FnxBadHistory := funG_mk (st := s_BadHistory___init__) (dvs := []) lxBadHistory cxBadHistory kxBadHistory (.inl ⟨rfl, rfl⟩)
  have bxBadHistory := FunD.bindsN (ps := ["self", "index"]) FnxBadHistory fun _ _ _ _ _ _ us hl => match us, hl with | [_, _], _ => rfl
  have O_BadHistory : OexC K C_BadHistory := ⟨⟨_, _, _, _, _, _, _, _, _, _, _, _, _, _, _, xL_BadHistory, xr_BadHistory⟩, xs_BadHistory, xe_BadHistory, xt_BadHistory, xk_BadHistory⟩
  have FnxTooMany := funG_mk (st := s_TooMany___init__) (dvs := []) lxTooMany cxTooMany kxTooMany (.inl ⟨rfl, rfl⟩)
  have bxTooMany := FunD.bindsN (ps := ["self", "most"]) FnxTooMany fun _ _ _ _ _ _ us hl => match us, hl with | [_, _], _ => rfl
  have O_TooMany : OexC K C_TooMany := ⟨⟨_, _, _, _, _, _, _, _, _, _, _, _, _, _, _, xL_TooMany, xr_TooMany⟩, xs_TooMany, xe_TooMany, xt_TooMany, xk_TooMany⟩
  have T : Txt K mg ⟨(), C_Book, C_BadBook, C_BadHistory, C_TooMany, fun A B => PySem.W.exmOne K (.ref A) (.ref B), e_BadBook_BadHistory, e_BadBook_TooMany, e_BadHistory_BadHistory, e_BadHistory_TooMany, e_TooMany_BadHistory, e_TooMany_TooMany⟩ := ⟨trivial, PySem.W.mg_none_of X G z_abs, PySem.W.mg_none_of X G z_bool, PySem.W.mg_none_of X G z_enumerate, PySem.W.mg_none_of X G z_int, PySem.W.mg_none_of X G z_isinstance, PySem.W.mg_none_of X G z_len, PySem.W.mg_none_of X G z_list, PySem.W.mg_none_of X G z_range, PySem.W.mg_none_of X G z_sorted, PySem.W.mg_none_of X G z_str, PySem.W.mg_none_of X G z_tuple, ⟨pg_Book, hd_Book, po_Book, sa_Book⟩, nf_Book_calls, nf_Book_states, nf_Book_ways, ⟨_, PySem.W.mg_of X G g_MOST_STATES⟩, ⟨_, PySem.W.mg_of X G g_MOST_CALLS⟩, ⟨_, PySem.W.mg_of X G g_MOST_ANSWERS⟩, ⟨_, PySem.W.mg_of X G g_MOST_WAYS⟩, ⟨_, PySem.W.mg_of X G g_MOST_HAND⟩, ⟨_, PySem.W.mg_of X G g_MOST_ENTRIES⟩, ⟨_, PySem.W.mg_of X G g_START, _, _, _, gl_START, rfl, rfl, by simp [sizeLine_eq], (.cons ⟨_, rfl⟩ .nil)⟩, ⟨xga_BadHistory, xgg_BadHistory, xe_BadHistory, xgh_BadHistory⟩, ⟨xga_TooMany, xgg_TooMany, xe_TooMany, xgh_TooMany⟩, xn_BadHistory_index, xn_TooMany_most, PySem.W.mg_of X G aC_BadBook, PySem.W.mg_of X G aC_BadHistory, PySem.W.mg_of X G aC_TooMany, fun A B b h => h⟩
  refine ⟨_, fun s v => FunD.bindsA (ps := ["_law_script"]) Fn45 (fun _ _ _ _ _ _ us hl => match us, hl with | [_], _ => rfl) s [v] rfl, fun base _ _ => ?_⟩
  have OX_BadBook : OX l.prog w K mg base 1 "BadBook" C_BadBook ["what"] := ⟨_, _, _, O_BadBook, axBadBook, txBadBook, fn_BadBook___init__ (P := l.prog) (w := w) (base := base) (mg := mg) (cs := ⟨(), C_Book, C_BadBook, C_BadHistory, C_TooMany, fun A B => PySem.W.exmOne K (.ref A) (.ref B), e_BadBook_BadHistory, e_BadBook_TooMany, e_BadHistory_BadHistory, e_BadHistory_TooMany, e_TooMany_BadHistory, e_TooMany_TooMany⟩) FnxBadBook O_BadBook xn_BadBook_what, bxBadBook, PySem.W.mg_of X G aC_BadBook⟩
  have OX_BadHistory : OX l.prog w K mg base 1 "BadHistory" C_BadHistory ["index"] := ⟨_, _, _, O_BadHistory, axBadHistory, txBadHistory, fn_BadHistory___init__ (P := l.prog) (w := w) (base := base) (mg := mg) (cs := ⟨(), C_Book, C_BadBook, C_BadHistory, C_TooMany, fun A B => PySem.W.exmOne K (.ref A) (.ref B), e_BadBook_BadHistory, e_BadBook_TooMany, e_BadHistory_BadHistory, e_BadHistory_TooMany, e_TooMany_BadHistory, e_TooMany_TooMany⟩) FnxBadHistory O_BadHistory xn_BadHistory_index, bxBadHistory, PySem.W.mg_of X G aC_BadHistory⟩
  have OX_TooMany : OX l.prog w K mg base 1 "TooMany" C_TooMany ["most"] := ⟨_, _, _, O_TooMany, axTooMany, txTooMany, fn_TooMany___init__ (P := l.prog) (w := w) (base := base) (mg := mg) (cs := ⟨(), C_Book, C_BadBook, C_BadHistory, C_TooMany, fun A B => PySem.W.exmOne K (.ref A) (.ref B), e_BadBook_BadHistory, e_BadBook_TooMany, e_BadHistory_BadHistory, e_BadHistory_TooMany, e_TooMany_BadHistory, e_TooMany_TooMany⟩) FnxTooMany O_TooMany xn_TooMany_most, bxTooMany, PySem.W.mg_of X G aC_TooMany⟩
  have F_is_whole := fn_is_whole (P := l.prog) (w := w) (base := base) Fn1 T
  have X_is_whole : FX l.prog w K mg base 1 "is_whole" _ (mf_is_whole ⟨(), C_Book, C_BadBook, C_BadHistory, C_TooMany, fun A B => PySem.W.exmOne K (.ref A) (.ref B), e_BadBook_BadHistory, e_BadBook_TooMany, e_BadHistory_BadHistory, e_BadHistory_TooMany, e_TooMany_BadHistory, e_TooMany_TooMany⟩) := ⟨_, _, m1, Fn1.kp, b1, F_is_whole⟩
  have F_is_sequence := fn_is_sequence (P := l.prog) (w := w) (base := base) Fn2 T
  have X_is_sequence : FX l.prog w K mg base 1 "is_sequence" _ (mf_is_sequence ⟨(), C_Book, C_BadBook, C_BadHistory, C_TooMany, fun A B => PySem.W.exmOne K (.ref A) (.ref B), e_BadBook_BadHistory, e_BadBook_TooMany, e_BadHistory_BadHistory, e_BadHistory_TooMany, e_TooMany_BadHistory, e_TooMany_TooMany⟩) := ⟨_, _, m2, Fn2.kp, b2, F_is_sequence⟩
  have F_is_way := fn_is_way (P := l.prog) (w := w) (base := base) Fn3 T X_is_sequence X_is_whole
  have X_is_way : FX l.prog w K mg base 2 "_is_way" _ (mf_is_way ⟨(), C_Book, C_BadBook, C_BadHistory, C_TooMany, fun A B => PySem.W.exmOne K (.ref A) (.ref B), e_BadBook_BadHistory, e_BadBook_TooMany, e_BadHistory_BadHistory, e_BadHistory_TooMany, e_TooMany_BadHistory, e_TooMany_TooMany⟩) := ⟨_, _, m3, Fn3.kp, b3, F_is_way⟩
  have F_check_ways := fn_check_ways (P := l.prog) (w := w) (base := base) Fn4 T X_is_sequence OX_BadBook X_is_way
  have X_check_ways : FX l.prog w K mg base 3 "_check_ways" _ (mf_check_ways ⟨(), C_Book, C_BadBook, C_BadHistory, C_TooMany, fun A B => PySem.W.exmOne K (.ref A) (.ref B), e_BadBook_BadHistory, e_BadBook_TooMany, e_BadHistory_BadHistory, e_BadHistory_TooMany, e_TooMany_BadHistory, e_TooMany_TooMany⟩) := ⟨_, _, m4, Fn4.kp, b4, F_check_ways⟩
  have F_Book___init__ := fn_Book___init__ (P := l.prog) (w := w) (base := base) Fn5 T X_is_whole OX_BadBook X_check_ways
  have X_Book : MX l.prog w K mg base 4 "Book" C_Book 3 (mf_Book___init__ ⟨(), C_Book, C_BadBook, C_BadHistory, C_TooMany, fun A B => PySem.W.exmOne K (.ref A) (.ref B), e_BadBook_BadHistory, e_BadBook_TooMany, e_BadHistory_BadHistory, e_BadHistory_TooMany, e_TooMany_BadHistory, e_TooMany_TooMany⟩) := ⟨_, _, _, PySem.W.mg_of X G aC_Book, ⟨mk_Book, a5, k5_isFn, kc_Book⟩, b5, F_Book___init__⟩
  have F_is_entry := fn_is_entry (P := l.prog) (w := w) (base := base) Fn6 T X_is_sequence X_is_whole
  have X_is_entry : FX l.prog w K mg base 2 "is_entry" _ (mf_is_entry ⟨(), C_Book, C_BadBook, C_BadHistory, C_TooMany, fun A B => PySem.W.exmOne K (.ref A) (.ref B), e_BadBook_BadHistory, e_BadBook_TooMany, e_BadHistory_BadHistory, e_BadHistory_TooMany, e_TooMany_BadHistory, e_TooMany_TooMany⟩) := ⟨_, _, m6, Fn6.kp, b6, F_is_entry⟩
  have F_check_history := fn_check_history (P := l.prog) (w := w) (base := base) Fn7 T X_is_sequence OX_BadHistory X_is_entry
  have X_check_history : FX l.prog w K mg base 3 "check_history" _ (mf_check_history ⟨(), C_Book, C_BadBook, C_BadHistory, C_TooMany, fun A B => PySem.W.exmOne K (.ref A) (.ref B), e_BadBook_BadHistory, e_BadBook_TooMany, e_BadHistory_BadHistory, e_BadHistory_TooMany, e_TooMany_BadHistory, e_TooMany_TooMany⟩) := ⟨_, _, m7, Fn7.kp, b7, F_check_history⟩
  have F_calls_of := fn_calls_of (P := l.prog) (w := w) (base := base) Fn8 T
  have X_calls_of : FX l.prog w K mg base 1 "calls_of" _ (mf_calls_of ⟨(), C_Book, C_BadBook, C_BadHistory, C_TooMany, fun A B => PySem.W.exmOne K (.ref A) (.ref B), e_BadBook_BadHistory, e_BadBook_TooMany, e_BadHistory_BadHistory, e_BadHistory_TooMany, e_TooMany_BadHistory, e_TooMany_TooMany⟩) := ⟨_, _, m8, Fn8.kp, b8, F_calls_of⟩
  have F_asks_made := fn_asks_made (P := l.prog) (w := w) (base := base) Fn9 T
  have X_asks_made : FX l.prog w K mg base 1 "asks_made" _ (mf_asks_made ⟨(), C_Book, C_BadBook, C_BadHistory, C_TooMany, fun A B => PySem.W.exmOne K (.ref A) (.ref B), e_BadBook_BadHistory, e_BadBook_TooMany, e_BadHistory_BadHistory, e_BadHistory_TooMany, e_TooMany_BadHistory, e_TooMany_TooMany⟩) := ⟨_, _, m9, Fn9.kp, b9, F_asks_made⟩
  have F_hands_of := fn_hands_of (P := l.prog) (w := w) (base := base) Fn10 T
  have X_hands_of : FX l.prog w K mg base 1 "hands_of" _ (mf_hands_of ⟨(), C_Book, C_BadBook, C_BadHistory, C_TooMany, fun A B => PySem.W.exmOne K (.ref A) (.ref B), e_BadBook_BadHistory, e_BadBook_TooMany, e_BadHistory_BadHistory, e_BadHistory_TooMany, e_TooMany_BadHistory, e_TooMany_TooMany⟩) := ⟨_, _, m10, Fn10.kp, b10, F_hands_of⟩
  have F_part_of := fn_part_of (P := l.prog) (w := w) (base := base) Fn11 T
  have X_part_of : FX l.prog w K mg base 1 "part_of" _ (mf_part_of ⟨(), C_Book, C_BadBook, C_BadHistory, C_TooMany, fun A B => PySem.W.exmOne K (.ref A) (.ref B), e_BadBook_BadHistory, e_BadBook_TooMany, e_BadHistory_BadHistory, e_BadHistory_TooMany, e_TooMany_BadHistory, e_TooMany_TooMany⟩) := ⟨_, _, m11, Fn11.kp, b11, F_part_of⟩
  have F_beside := fn_beside (P := l.prog) (w := w) (base := base) Fn12 T OX_TooMany X_Book
  have X_beside : FX l.prog w K mg base 6 "beside" _ (mf_beside ⟨(), C_Book, C_BadBook, C_BadHistory, C_TooMany, fun A B => PySem.W.exmOne K (.ref A) (.ref B), e_BadBook_BadHistory, e_BadBook_TooMany, e_BadHistory_BadHistory, e_BadHistory_TooMany, e_TooMany_BadHistory, e_TooMany_TooMany⟩) := ⟨_, _, m12, Fn12.kp, b12, F_beside⟩
  have F_parted_history := fn_parted_history (P := l.prog) (w := w) (base := base) Fn13 T X_check_history X_beside
  have X_parted_history : FX l.prog w K mg base 7 "parted_history" _ (mf_parted_history ⟨(), C_Book, C_BadBook, C_BadHistory, C_TooMany, fun A B => PySem.W.exmOne K (.ref A) (.ref B), e_BadBook_BadHistory, e_BadBook_TooMany, e_BadHistory_BadHistory, e_BadHistory_TooMany, e_TooMany_BadHistory, e_TooMany_TooMany⟩) := ⟨_, _, m13, Fn13.kp, b13, F_parted_history⟩
  have F_step_from := fn_step_from (P := l.prog) (w := w) (base := base) Fn14 T
  have X_step_from : FX l.prog w K mg base 1 "step_from" _ (mf_step_from ⟨(), C_Book, C_BadBook, C_BadHistory, C_TooMany, fun A B => PySem.W.exmOne K (.ref A) (.ref B), e_BadBook_BadHistory, e_BadBook_TooMany, e_BadHistory_BadHistory, e_BadHistory_TooMany, e_TooMany_BadHistory, e_TooMany_TooMany⟩) := ⟨_, _, m14, Fn14.kp, b14, F_step_from⟩
  have F_standing_of := fn_standing_of (P := l.prog) (w := w) (base := base) Fn15 T X_check_history X_step_from
  have X_standing_of : FX l.prog w K mg base 4 "standing_of" _ (mf_standing_of ⟨(), C_Book, C_BadBook, C_BadHistory, C_TooMany, fun A B => PySem.W.exmOne K (.ref A) (.ref B), e_BadBook_BadHistory, e_BadBook_TooMany, e_BadHistory_BadHistory, e_BadHistory_TooMany, e_TooMany_BadHistory, e_TooMany_TooMany⟩) := ⟨_, _, m15, Fn15.kp, b15, F_standing_of⟩
  have F_is_right := fn_is_right (P := l.prog) (w := w) (base := base) Fn16 T X_standing_of
  have X_is_right : FX l.prog w K mg base 5 "is_right" _ (mf_is_right ⟨(), C_Book, C_BadBook, C_BadHistory, C_TooMany, fun A B => PySem.W.exmOne K (.ref A) (.ref B), e_BadBook_BadHistory, e_BadBook_TooMany, e_BadHistory_BadHistory, e_BadHistory_TooMany, e_TooMany_BadHistory, e_TooMany_TooMany⟩) := ⟨_, _, m16, Fn16.kp, b16, F_is_right⟩
  have F_law_mix := fn_law_mix (P := l.prog) (w := w) (base := base) Fn17 T
  have X_law_mix : FX l.prog w K mg base 1 "_law_mix" _ (mf_law_mix ⟨(), C_Book, C_BadBook, C_BadHistory, C_TooMany, fun A B => PySem.W.exmOne K (.ref A) (.ref B), e_BadBook_BadHistory, e_BadBook_TooMany, e_BadHistory_BadHistory, e_BadHistory_TooMany, e_TooMany_BadHistory, e_TooMany_TooMany⟩) := ⟨_, _, m17, Fn17.kp, b17, F_law_mix⟩
  have F_law_hand := fn_law_hand (P := l.prog) (w := w) (base := base) Fn18 T
  have X_law_hand : FX l.prog w K mg base 1 "_law_hand" _ (mf_law_hand ⟨(), C_Book, C_BadBook, C_BadHistory, C_TooMany, fun A B => PySem.W.exmOne K (.ref A) (.ref B), e_BadBook_BadHistory, e_BadBook_TooMany, e_BadHistory_BadHistory, e_BadHistory_TooMany, e_TooMany_BadHistory, e_TooMany_TooMany⟩) := ⟨_, _, m18, Fn18.kp, b18, F_law_hand⟩
  have F_law_draw := fn_law_draw (P := l.prog) (w := w) (base := base) Fn19 T X_law_mix
  have X_law_draw : FX l.prog w K mg base 2 "_law_draw" _ (mf_law_draw ⟨(), C_Book, C_BadBook, C_BadHistory, C_TooMany, fun A B => PySem.W.exmOne K (.ref A) (.ref B), e_BadBook_BadHistory, e_BadBook_TooMany, e_BadHistory_BadHistory, e_BadHistory_TooMany, e_TooMany_BadHistory, e_TooMany_TooMany⟩) := ⟨_, _, m19, Fn19.kp, b19, F_law_draw⟩
  have X_law_exact := fx_law_exact (P := l.prog) (w := w) (base := base) Fn20 m20 b20 T 6
  have F_law_ways := fn_law_ways (P := l.prog) (w := w) (base := base) Fn21 T
  have X_law_ways : FX l.prog w K mg base 1 "_law_ways" _ (mf_law_ways ⟨(), C_Book, C_BadBook, C_BadHistory, C_TooMany, fun A B => PySem.W.exmOne K (.ref A) (.ref B), e_BadBook_BadHistory, e_BadBook_TooMany, e_BadHistory_BadHistory, e_BadHistory_TooMany, e_TooMany_BadHistory, e_TooMany_TooMany⟩) := ⟨_, _, m21, Fn21.kp, b21, F_law_ways⟩
  have F_law_flat := fn_law_flat (P := l.prog) (w := w) (base := base) Fn22 T X_law_draw
  have X_law_flat : FX l.prog w K mg base 3 "_law_flat" _ (mf_law_flat ⟨(), C_Book, C_BadBook, C_BadHistory, C_TooMany, fun A B => PySem.W.exmOne K (.ref A) (.ref B), e_BadBook_BadHistory, e_BadBook_TooMany, e_BadHistory_BadHistory, e_BadHistory_TooMany, e_TooMany_BadHistory, e_TooMany_TooMany⟩) := ⟨_, _, m22, Fn22.kp, b22, F_law_flat⟩
  have F_law_onward := fn_law_onward (P := l.prog) (w := w) (base := base) Fn23 T
  have X_law_onward : FX l.prog w K mg base 1 "_law_onward" _ (mf_law_onward ⟨(), C_Book, C_BadBook, C_BadHistory, C_TooMany, fun A B => PySem.W.exmOne K (.ref A) (.ref B), e_BadBook_BadHistory, e_BadBook_TooMany, e_BadHistory_BadHistory, e_BadHistory_TooMany, e_TooMany_BadHistory, e_TooMany_TooMany⟩) := ⟨_, _, m23, Fn23.kp, b23, F_law_onward⟩
  have F_law_stand := fn_law_stand (P := l.prog) (w := w) (base := base) Fn24 T X_law_onward
  have X_law_stand : FX l.prog w K mg base 2 "_law_stand" _ (mf_law_stand ⟨(), C_Book, C_BadBook, C_BadHistory, C_TooMany, fun A B => PySem.W.exmOne K (.ref A) (.ref B), e_BadBook_BadHistory, e_BadBook_TooMany, e_BadHistory_BadHistory, e_BadHistory_TooMany, e_TooMany_BadHistory, e_TooMany_TooMany⟩) := ⟨_, _, m24, Fn24.kp, b24, F_law_stand⟩
  have F_law_lets := fn_law_lets (P := l.prog) (w := w) (base := base) Fn25 T X_law_onward
  have X_law_lets : FX l.prog w K mg base 2 "_law_lets" _ (mf_law_lets ⟨(), C_Book, C_BadBook, C_BadHistory, C_TooMany, fun A B => PySem.W.exmOne K (.ref A) (.ref B), e_BadBook_BadHistory, e_BadBook_TooMany, e_BadHistory_BadHistory, e_BadHistory_TooMany, e_TooMany_BadHistory, e_TooMany_TooMany⟩) := ⟨_, _, m25, Fn25.kp, b25, F_law_lets⟩
  have F_law_past := fn_law_past (P := l.prog) (w := w) (base := base) Fn26 T X_law_draw X_law_lets X_law_onward
  have X_law_past : FX l.prog w K mg base 3 "_law_past" _ (mf_law_past ⟨(), C_Book, C_BadBook, C_BadHistory, C_TooMany, fun A B => PySem.W.exmOne K (.ref A) (.ref B), e_BadBook_BadHistory, e_BadBook_TooMany, e_BadHistory_BadHistory, e_BadHistory_TooMany, e_TooMany_BadHistory, e_TooMany_TooMany⟩) := ⟨_, _, m26, Fn26.kp, b26, F_law_past⟩
  have F_law_large := fn_law_large (P := l.prog) (w := w) (base := base) Fn27 T X_law_draw
  have X_law_large : FX l.prog w K mg base 3 "_law_large" _ (mf_law_large ⟨(), C_Book, C_BadBook, C_BadHistory, C_TooMany, fun A B => PySem.W.exmOne K (.ref A) (.ref B), e_BadBook_BadHistory, e_BadBook_TooMany, e_BadHistory_BadHistory, e_BadHistory_TooMany, e_TooMany_BadHistory, e_TooMany_TooMany⟩) := ⟨_, _, m27, Fn27.kp, b27, F_law_large⟩
  have F_law_whole := fn_law_whole (P := l.prog) (w := w) (base := base) Fn28 T
  have X_law_whole : FX l.prog w K mg base 1 "_law_whole" _ (mf_law_whole ⟨(), C_Book, C_BadBook, C_BadHistory, C_TooMany, fun A B => PySem.W.exmOne K (.ref A) (.ref B), e_BadBook_BadHistory, e_BadBook_TooMany, e_BadHistory_BadHistory, e_BadHistory_TooMany, e_TooMany_BadHistory, e_TooMany_TooMany⟩) := ⟨_, _, m28, Fn28.kp, b28, F_law_whole⟩
  have F_law_row := fn_law_row (P := l.prog) (w := w) (base := base) Fn29 T
  have X_law_row : FX l.prog w K mg base 1 "_law_row" _ (mf_law_row ⟨(), C_Book, C_BadBook, C_BadHistory, C_TooMany, fun A B => PySem.W.exmOne K (.ref A) (.ref B), e_BadBook_BadHistory, e_BadBook_TooMany, e_BadHistory_BadHistory, e_BadHistory_TooMany, e_TooMany_BadHistory, e_TooMany_TooMany⟩) := ⟨_, _, m29, Fn29.kp, b29, F_law_row⟩
  have F_law_large_book := fn_law_large_book (P := l.prog) (w := w) (base := base) Fn30 T X_law_draw X_law_flat X_law_ways
  have X_law_large_book : FX l.prog w K mg base 4 "_law_large_book" _ (mf_law_large_book ⟨(), C_Book, C_BadBook, C_BadHistory, C_TooMany, fun A B => PySem.W.exmOne K (.ref A) (.ref B), e_BadBook_BadHistory, e_BadBook_TooMany, e_BadHistory_BadHistory, e_BadHistory_TooMany, e_TooMany_BadHistory, e_TooMany_TooMany⟩) := ⟨_, _, m30, Fn30.kp, b30, F_law_large_book⟩
  have F_law_entries := fn_law_entries (P := l.prog) (w := w) (base := base) Fn31 T X_law_draw
  have X_law_entries : FX l.prog w K mg base 3 "_law_entries" _ (mf_law_entries ⟨(), C_Book, C_BadBook, C_BadHistory, C_TooMany, fun A B => PySem.W.exmOne K (.ref A) (.ref B), e_BadBook_BadHistory, e_BadBook_TooMany, e_BadHistory_BadHistory, e_BadHistory_TooMany, e_TooMany_BadHistory, e_TooMany_TooMany⟩) := ⟨_, _, m31, Fn31.kp, b31, F_law_entries⟩
  have F_law_couple_ways := fn_law_couple_ways (P := l.prog) (w := w) (base := base) Fn32 T
  have X_law_couple_ways : FX l.prog w K mg base 1 "_law_couple_ways" _ (mf_law_couple_ways ⟨(), C_Book, C_BadBook, C_BadHistory, C_TooMany, fun A B => PySem.W.exmOne K (.ref A) (.ref B), e_BadBook_BadHistory, e_BadBook_TooMany, e_BadHistory_BadHistory, e_BadHistory_TooMany, e_TooMany_BadHistory, e_TooMany_TooMany⟩) := ⟨_, _, m32, Fn32.kp, b32, F_law_couple_ways⟩
  have F_law_small_book := fn_law_small_book (P := l.prog) (w := w) (base := base) Fn33 T X_law_draw X_law_flat X_law_ways
  have X_law_small_book : FX l.prog w K mg base 4 "_law_small_book" _ (mf_law_small_book ⟨(), C_Book, C_BadBook, C_BadHistory, C_TooMany, fun A B => PySem.W.exmOne K (.ref A) (.ref B), e_BadBook_BadHistory, e_BadBook_TooMany, e_BadHistory_BadHistory, e_BadHistory_TooMany, e_TooMany_BadHistory, e_TooMany_TooMany⟩) := ⟨_, _, m33, Fn33.kp, b33, F_law_small_book⟩
  have F_law_two_books := fn_law_two_books (P := l.prog) (w := w) (base := base) Fn34 T X_law_draw X_law_small_book
  have X_law_two_books : FX l.prog w K mg base 5 "_law_two_books" _ (mf_law_two_books ⟨(), C_Book, C_BadBook, C_BadHistory, C_TooMany, fun A B => PySem.W.exmOne K (.ref A) (.ref B), e_BadBook_BadHistory, e_BadBook_TooMany, e_BadHistory_BadHistory, e_BadHistory_TooMany, e_TooMany_BadHistory, e_TooMany_TooMany⟩) := ⟨_, _, m34, Fn34.kp, b34, F_law_two_books⟩
  have F_law_checked := fn_law_checked (P := l.prog) (w := w) (base := base) Fn35 T X_check_history
  have X_law_checked : FX l.prog w K mg base 4 "_law_checked" _ (mf_law_checked ⟨(), C_Book, C_BadBook, C_BadHistory, C_TooMany, fun A B => PySem.W.exmOne K (.ref A) (.ref B), e_BadBook_BadHistory, e_BadBook_TooMany, e_BadHistory_BadHistory, e_BadHistory_TooMany, e_TooMany_BadHistory, e_TooMany_TooMany⟩) := ⟨_, _, m35, Fn35.kp, b35, F_law_checked⟩
  have F_law_due_check := fn_law_due_check (P := l.prog) (w := w) (base := base) Fn36 T X_law_row X_law_whole
  have X_law_due_check : FX l.prog w K mg base 2 "_law_due_check" _ (mf_law_due_check ⟨(), C_Book, C_BadBook, C_BadHistory, C_TooMany, fun A B => PySem.W.exmOne K (.ref A) (.ref B), e_BadBook_BadHistory, e_BadBook_TooMany, e_BadHistory_BadHistory, e_BadHistory_TooMany, e_TooMany_BadHistory, e_TooMany_TooMany⟩) := ⟨_, _, m36, Fn36.kp, b36, F_law_due_check⟩
  have F_law_same := fn_law_same (P := l.prog) (w := w) (base := base) Fn37 T X_law_exact
  have X_law_same : FX l.prog w K mg base 8 "_law_same" _ (mf_law_same ⟨(), C_Book, C_BadBook, C_BadHistory, C_TooMany, fun A B => PySem.W.exmOne K (.ref A) (.ref B), e_BadBook_BadHistory, e_BadBook_TooMany, e_BadHistory_BadHistory, e_BadHistory_TooMany, e_TooMany_BadHistory, e_TooMany_TooMany⟩) := ⟨_, _, m37, Fn37.kp, b37, F_law_same⟩
  have F_law_odd_entry := fn_law_odd_entry (P := l.prog) (w := w) (base := base) Fn38 T X_law_draw X_law_large
  have X_law_odd_entry : FX l.prog w K mg base 4 "_law_odd_entry" _ (mf_law_odd_entry ⟨(), C_Book, C_BadBook, C_BadHistory, C_TooMany, fun A B => PySem.W.exmOne K (.ref A) (.ref B), e_BadBook_BadHistory, e_BadBook_TooMany, e_BadHistory_BadHistory, e_BadHistory_TooMany, e_TooMany_BadHistory, e_TooMany_TooMany⟩) := ⟨_, _, m38, Fn38.kp, b38, F_law_odd_entry⟩
  have F_law_spoilt_history := fn_law_spoilt_history (P := l.prog) (w := w) (base := base) Fn39 T X_law_draw X_law_odd_entry
  have X_law_spoilt_history : FX l.prog w K mg base 5 "_law_spoilt_history" _ (mf_law_spoilt_history ⟨(), C_Book, C_BadBook, C_BadHistory, C_TooMany, fun A B => PySem.W.exmOne K (.ref A) (.ref B), e_BadBook_BadHistory, e_BadBook_TooMany, e_BadHistory_BadHistory, e_BadHistory_TooMany, e_TooMany_BadHistory, e_TooMany_TooMany⟩) := ⟨_, _, m39, Fn39.kp, b39, F_law_spoilt_history⟩
  have F_law_parts_told := fn_law_parts_told (P := l.prog) (w := w) (base := base) Fn40 T X_law_exact X_calls_of X_asks_made X_hands_of X_part_of
  have X_law_parts_told : FX l.prog w K mg base 8 "_law_parts_told" _ (mf_law_parts_told ⟨(), C_Book, C_BadBook, C_BadHistory, C_TooMany, fun A B => PySem.W.exmOne K (.ref A) (.ref B), e_BadBook_BadHistory, e_BadBook_TooMany, e_BadHistory_BadHistory, e_BadHistory_TooMany, e_TooMany_BadHistory, e_TooMany_TooMany⟩) := ⟨_, _, m40, Fn40.kp, b40, F_law_parts_told⟩
  have F_law_beside := fn_law_beside (P := l.prog) (w := w) (base := base) Fn41 T X_beside
  have X_law_beside : FX l.prog w K mg base 7 "_law_beside" _ (mf_law_beside ⟨(), C_Book, C_BadBook, C_BadHistory, C_TooMany, fun A B => PySem.W.exmOne K (.ref A) (.ref B), e_BadBook_BadHistory, e_BadBook_TooMany, e_BadHistory_BadHistory, e_BadHistory_TooMany, e_TooMany_BadHistory, e_TooMany_TooMany⟩) := ⟨_, _, m41, Fn41.kp, b41, F_law_beside⟩
  have F_law_beside_refused := fn_law_beside_refused (P := l.prog) (w := w) (base := base) Fn42 T X_parted_history
  have X_law_beside_refused : FX l.prog w K mg base 8 "_law_beside_refused" _ (mf_law_beside_refused ⟨(), C_Book, C_BadBook, C_BadHistory, C_TooMany, fun A B => PySem.W.exmOne K (.ref A) (.ref B), e_BadBook_BadHistory, e_BadBook_TooMany, e_BadHistory_BadHistory, e_BadHistory_TooMany, e_TooMany_BadHistory, e_TooMany_TooMany⟩) := ⟨_, _, m42, Fn42.kp, b42, F_law_beside_refused⟩
  have F_law_beside_due := fn_law_beside_due (P := l.prog) (w := w) (base := base) Fn43 T X_law_couple_ways
  have X_law_beside_due : FX l.prog w K mg base 2 "_law_beside_due" _ (mf_law_beside_due ⟨(), C_Book, C_BadBook, C_BadHistory, C_TooMany, fun A B => PySem.W.exmOne K (.ref A) (.ref B), e_BadBook_BadHistory, e_BadBook_TooMany, e_BadHistory_BadHistory, e_BadHistory_TooMany, e_TooMany_BadHistory, e_TooMany_TooMany⟩) := ⟨_, _, m43, Fn43.kp, b43, F_law_beside_due⟩
  have F_law_parting := fn_law_parting (P := l.prog) (w := w) (base := base) Fn44 T X_Book X_law_entries X_law_draw X_law_past X_parted_history X_law_exact X_law_stand X_is_right X_beside
  have X_law_parting : FX l.prog w K mg base 8 "_law_parting" _ (mf_law_parting ⟨(), C_Book, C_BadBook, C_BadHistory, C_TooMany, fun A B => PySem.W.exmOne K (.ref A) (.ref B), e_BadBook_BadHistory, e_BadBook_TooMany, e_BadHistory_BadHistory, e_BadHistory_TooMany, e_TooMany_BadHistory, e_TooMany_TooMany⟩) := ⟨_, _, m44, Fn44.kp, b44, F_law_parting⟩
  have F_law := fn_law (P := l.prog) (w := w) (base := base) Fn45 T X_law_hand X_law_large_book X_law_draw X_law_two_books X_Book X_Book X_law_entries X_law_same X_law_checked X_law_parts_told X_law_spoilt_history X_law_due_check X_law_beside_due X_law_beside X_law_beside_refused X_law_exact X_law_parting
  exact F_law.imp (sp_of (law_true ⟨(), C_Book, C_BadBook, C_BadHistory, C_TooMany, fun A B => PySem.W.exmOne K (.ref A) (.ref B), e_BadBook_BadHistory, e_BadBook_TooMany, e_BadHistory_BadHistory, e_BadHistory_TooMany, e_TooMany_BadHistory, e_TooMany_TooMany⟩))
theorem walk {l : PySem.W.OpenLaw} {q : Program} {loose : List Str} {XP : (Str → Option Value) → Heap → Prop} {YP : World → Heap → Prop} {d : DefRec} {K : Params → PySem.W.Frag} (hn : l.most = some 63) (hdf : d.params.defaults = [])
    (hY : ∀ (w : World) (h : Heap), YP w h → (K w.params).In h)
    (F : ∀ (w : World) (mg : Str → Option Value) (fa : Addr) (h : Heap), (K w.params).In h → h.Ns mainGlobals mg → mg d.name = some (.ref fa) →
      ∃ fd : FuncData, (∀ (s : Shared) (u : Value), BindsTo s fd ⟨[u], []⟩ [("_law_script", u)]) ∧ ∀ base : Heap, (K w.params).In base → base.Ns mainGlobals mg → FnOk l.prog w (K w.params) mg base (L2.CX l.prog w) 9 fa fd ["_law_script"] (spLaw (K w.params))) :
    PySem.W.WalkO q loose XP YP l.row.toRowW d [] (fun f vs => PySem.call f vs) :=
  L2.walk_of (n := 63) (k := 9) (x := "_law_script") (CX := fun w => L2.CX l.prog w) (sp := fun w => spLaw (K w.params)) hn (by decide) hdf ⟨rfl, by decide, by decide⟩ hY F (fun _ _ a ns hl hO hS => ⟨a, ns, rfl, frz_of hO hS, hl, fun _ => rfl⟩) fun _ _ _ _ _ z => by
    obtain ⟨_, _, _, _, _, _, _, _, _, _, _, _, z⟩ := z
    exact z
end K02
open PySem PySem.W PyProof.Rows
set_option maxRecDepth 100000 in
set_option maxHeartbeats 0 in
theorem PySem.Challenge.cw_unmetcells_k02_whole_histories_and_books_holds : PySem.Challenge.rw_unmetcells_k02_whole_histories_and_books.Holds := by
  w_on; o_law; k_head; (case hw => w_witness2)
  k_fill
  refine K02.walk (l := PySem.Challenge.rw_unmetcells_k02_whole_histories_and_books) rfl rfl (fun w h Y => PySem.W.kIn_of Y) ?F
  case F =>
    intro w mg fa h KX G hmg
    refine' K02.all_mk KX G hmg ?aC_Book ?a1 ?l1 ?c1 ?k1 ?a2 ?l2 ?c2 ?k2 ?a3 ?l3 ?c3 ?k3 ?a4 ?l4 ?c4 ?k4 ?a5 ?l5 ?c5 ?k5 ?a6 ?l6 ?c6 ?k6 ?a7 ?l7 ?c7 ?k7 ?a8 ?l8 ?c8 ?k8 ?a9 ?l9 ?c9 ?k9 ?a10 ?l10 ?c10 ?k10 ?a11 ?l11 ?c11 ?k11 ?a12 ?l12 ?c12 ?k12 ?a13 ?l13 ?c13 ?k13 ?a14 ?l14 ?c14 ?k14 ?a15 ?l15 ?c15 ?k15 ?a16 ?l16 ?c16 ?k16 ?a17 ?l17 ?c17 ?k17 ?a18 ?l18 ?c18 ?k18 ?a19 ?l19 ?c19 ?k19 ?a20 ?l20 ?c20 ?k20 ?a21 ?l21 ?c21 ?k21 ?a22 ?l22 ?c22 ?k22 ?a23 ?l23 ?c23 ?k23 ?a24 ?l24 ?c24 ?k24 ?a25 ?l25 ?c25 ?k25 ?a26 ?l26 ?c26 ?k26 ?a27 ?l27 ?c27 ?k27 ?a28 ?l28 ?c28 ?k28 ?a29 ?l29 ?c29 ?k29 ?a30 ?l30 ?c30 ?k30 ?a31 ?l31 ?c31 ?k31 ?a32 ?l32 ?c32 ?k32 ?a33 ?l33 ?c33 ?k33 ?a34 ?l34 ?c34 ?k34 ?a35 ?l35 ?c35 ?k35 ?a36 ?l36 ?c36 ?k36 ?a37 ?l37 ?c37 ?k37 ?a38 ?l38 ?c38 ?k38 ?a39 ?l39 ?c39 ?k39 ?a40 ?l40 ?c40 ?k40 ?a41 ?l41 ?c41 ?k41 ?a42 ?l42 ?c42 ?k42 ?a43 ?l43 ?c43 ?k43 ?a44 ?l44 ?c44 ?k44 ?a45 ?l45 ?c45 ?k45 ?pg_Book ?hd_Book ?po_Book ?sa_Book ?mk_Book ?kc_Book ?aC_BadBook ?aC_BadHistory ?aC_TooMany ?axBadBook ?lxBadBook ?cxBadBook ?kxBadBook ?txBadBook ?xL_BadBook ?xr_BadBook ?xs_BadBook ?xe_BadBook ?xt_BadBook ?xk_BadBook ?xn_BadBook_what ?axBadHistory ?lxBadHistory ?cxBadHistory ?kxBadHistory ?txBadHistory ?xL_BadHistory ?xr_BadHistory ?xs_BadHistory ?xe_BadHistory ?xt_BadHistory ?xk_BadHistory ?xn_BadHistory_index ?axTooMany ?lxTooMany ?cxTooMany ?kxTooMany ?txTooMany ?xL_TooMany ?xr_TooMany ?xs_TooMany ?xe_TooMany ?xt_TooMany ?xk_TooMany ?xn_TooMany_most ?xga_BadHistory ?xgg_BadHistory ?xgh_BadHistory ?xga_TooMany ?xgg_TooMany ?xgh_TooMany ?e_BadBook_BadHistory ?e_BadBook_TooMany ?e_BadHistory_BadHistory ?e_BadHistory_TooMany ?e_TooMany_BadHistory ?e_TooMany_TooMany ?nf_Book_calls ?nf_Book_states ?nf_Book_ways ?z_abs ?z_bool ?z_enumerate ?z_int ?z_isinstance ?z_len ?z_list ?z_range ?z_sorted ?z_str ?z_tuple ?g_MOST_STATES ?g_MOST_CALLS ?g_MOST_ANSWERS ?g_MOST_WAYS ?g_MOST_HAND ?g_MOST_ENTRIES ?g_START ?gl_START ?k5_isFn
    (case aC_Book => k_is)
    (case a1 => k_is)
    (case l1 => k_is)
    (case c1 => k_is)
    (case k1 => k_is)
    (case a2 => k_is)
    (case l2 => k_is)
    (case c2 => k_is)
    (case k2 => k_is)
    (case a3 => k_is)
    (case l3 => k_is)
    (case c3 => k_is)
    (case k3 => k_is)
    (case a4 => k_is)
    (case l4 => k_is)
    (case c4 => k_is)
    (case k4 => k_is)
    (case a5 => k_is)
    (case l5 => k_is)
    (case c5 => k_is)
    (case k5 => k_is)
    (case a6 => k_is)
    (case l6 => k_is)
    (case c6 => k_is)
    (case k6 => k_is)
    (case a7 => k_is)
    (case l7 => k_is)
    (case c7 => k_is)
    (case k7 => k_is)
    (case a8 => k_is)
    (case l8 => k_is)
    (case c8 => k_is)
    (case k8 => k_is)
    (case a9 => k_is)
    (case l9 => k_is)
    (case c9 => k_is)
    (case k9 => k_is)
    (case a10 => k_is)
    (case l10 => k_is)
    (case c10 => k_is)
    (case k10 => k_is)
    (case a11 => k_is)
    (case l11 => k_is)
    (case c11 => k_is)
    (case k11 => k_is)
    (case a12 => k_is)
    (case l12 => k_is)
    (case c12 => k_is)
    (case k12 => k_is)
    (case a13 => k_is)
    (case l13 => k_is)
    (case c13 => k_is)
    (case k13 => k_is)
    (case a14 => k_is)
    (case l14 => k_is)
    (case c14 => k_is)
    (case k14 => k_is)
    (case a15 => k_is)
    (case l15 => k_is)
    (case c15 => k_is)
    (case k15 => k_is)
    (case a16 => k_is)
    (case l16 => k_is)
    (case c16 => k_is)
    (case k16 => k_is)
    (case a17 => k_is)
    (case l17 => k_is)
    (case c17 => k_is)
    (case k17 => k_is)
    (case a18 => k_is)
    (case l18 => k_is)
    (case c18 => k_is)
    (case k18 => k_is)
    (case a19 => k_is)
    (case l19 => k_is)
    (case c19 => k_is)
    (case k19 => k_is)
    (case a20 => k_is)
    (case l20 => k_is)
    (case c20 => k_is)
    (case k20 => k_is)
    (case a21 => k_is)
    (case l21 => k_is)
    (case c21 => k_is)
    (case k21 => k_is)
    (case a22 => k_is)
    (case l22 => k_is)
    (case c22 => k_is)
    (case k22 => k_is)
    (case a23 => k_is)
    (case l23 => k_is)
    (case c23 => k_is)
    (case k23 => k_is)
    (case a24 => k_is)
    (case l24 => k_is)
    (case c24 => k_is)
    (case k24 => k_is)
    (case a25 => k_is)
    (case l25 => k_is)
    (case c25 => k_is)
    (case k25 => k_is)
    (case a26 => k_is)
    (case l26 => k_is)
    (case c26 => k_is)
    (case k26 => k_is)
    (case a27 => k_is)
    (case l27 => k_is)
    (case c27 => k_is)
    (case k27 => k_is)
    (case a28 => k_is)
    (case l28 => k_is)
    (case c28 => k_is)
    (case k28 => k_is)
    (case a29 => k_is)
    (case l29 => k_is)
    (case c29 => k_is)
    (case k29 => k_is)
    (case a30 => k_is)
    (case l30 => k_is)
    (case c30 => k_is)
    (case k30 => k_is)
    (case a31 => k_is)
    (case l31 => k_is)
    (case c31 => k_is)
    (case k31 => k_is)
    (case a32 => k_is)
    (case l32 => k_is)
    (case c32 => k_is)
    (case k32 => k_is)
    (case a33 => k_is)
    (case l33 => k_is)
    (case c33 => k_is)
    (case k33 => k_is)
    (case a34 => k_is)
    (case l34 => k_is)
    (case c34 => k_is)
    (case k34 => k_is)
    (case a35 => k_is)
    (case l35 => k_is)
    (case c35 => k_is)
    (case k35 => k_is)
    (case a36 => k_is)
    (case l36 => k_is)
    (case c36 => k_is)
    (case k36 => k_is)
    (case a37 => k_is)
    (case l37 => k_is)
    (case c37 => k_is)
    (case k37 => k_is)
    (case a38 => k_is)
    (case l38 => k_is)
    (case c38 => k_is)
    (case k38 => k_is)
    (case a39 => k_is)
    (case l39 => k_is)
    (case c39 => k_is)
    (case k39 => k_is)
    (case a40 => k_is)
    (case l40 => k_is)
    (case c40 => k_is)
    (case k40 => k_is)
    (case a41 => k_is)
    (case l41 => k_is)
    (case c41 => k_is)
    (case k41 => k_is)
    (case a42 => k_is)
    (case l42 => k_is)
    (case c42 => k_is)
    (case k42 => k_is)
    (case a43 => k_is)
    (case l43 => k_is)
    (case c43 => k_is)
    (case k43 => k_is)
    (case a44 => k_is)
    (case l44 => k_is)
    (case c44 => k_is)
    (case k44 => k_is)
    (case a45 => k_is)
    (case l45 => k_is)
    (case c45 => k_is)
    (case k45 => k_is)
    (case pg_Book => k_is)
    (case hd_Book => k_is)
    (case po_Book => k_is)
    (case sa_Book => k_is)
    (case mk_Book => k_is)
    (case kc_Book => k_is)
    (case aC_BadBook => k_is)
    (case aC_BadHistory => k_is)
    (case aC_TooMany => k_is)
    (case axBadBook => k_is)
    (case lxBadBook => k_is)
    (case cxBadBook => k_is)
    (case kxBadBook => k_is)
    (case txBadBook => k_is)
    (case xL_BadBook => k_is)
    (case xr_BadBook => decide +kernel)
    (case xs_BadBook => k_is)
    (case xe_BadBook => k_is)
    (case xt_BadBook => k_is)
    (case xk_BadBook => k_is)
    (case xn_BadBook_what => k_is)
    (case axBadHistory => k_is)
    (case lxBadHistory => k_is)
    (case cxBadHistory => k_is)
    (case kxBadHistory => k_is)
    (case txBadHistory => k_is)
    (case xL_BadHistory => k_is)
    (case xr_BadHistory => decide +kernel)
    (case xs_BadHistory => k_is)
    (case xe_BadHistory => k_is)
    (case xt_BadHistory => k_is)
    (case xk_BadHistory => k_is)
    (case xn_BadHistory_index => k_is)
    (case axTooMany => k_is)
    (case lxTooMany => k_is)
    (case cxTooMany => k_is)
    (case kxTooMany => k_is)
    (case txTooMany => k_is)
    (case xL_TooMany => k_is)
    (case xr_TooMany => decide +kernel)
    (case xs_TooMany => k_is)
    (case xe_TooMany => k_is)
    (case xt_TooMany => k_is)
    (case xk_TooMany => k_is)
    (case xn_TooMany_most => k_is)
    (case xga_BadHistory => k_is)
    (case xgg_BadHistory => k_is)
    (case xgh_BadHistory => k_is)
    (case xga_TooMany => k_is)
    (case xgg_TooMany => k_is)
    (case xgh_TooMany => k_is)
    (case e_BadBook_BadHistory => kts_exm)
    (case e_BadBook_TooMany => kts_exm)
    (case e_BadHistory_BadHistory => kts_exm)
    (case e_BadHistory_TooMany => kts_exm)
    (case e_TooMany_BadHistory => kts_exm)
    (case e_TooMany_TooMany => kts_exm)
    (case nf_Book_calls => k_is)
    (case nf_Book_states => k_is)
    (case nf_Book_ways => k_is)
    (case z_abs => k_is)
    (case z_bool => k_is)
    (case z_enumerate => k_is)
    (case z_int => k_is)
    (case z_isinstance => k_is)
    (case z_len => k_is)
    (case z_list => k_is)
    (case z_range => k_is)
    (case z_sorted => k_is)
    (case z_str => k_is)
    (case z_tuple => k_is)
    (case g_MOST_STATES => k_is)
    (case g_MOST_CALLS => k_is)
    (case g_MOST_ANSWERS => k_is)
    (case g_MOST_WAYS => k_is)
    (case g_MOST_HAND => k_is)
    (case g_MOST_ENTRIES => k_is)
    (case g_START => k_is)
    (case gl_START => k_is)
    (case k5_isFn => k_is)
