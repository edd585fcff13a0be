import PyProof.Rows.All
import Wide.All
import OpenK.AllK
import Wide.FinOn
import HandS.ForMost
import HandS.ForExc
import HandS.Deep
import HandS.TupAny
import HandS.Text
import HandS.Defaults
import HandS.CallSlots
import HandS.ExcOwn
import HandS.TupLe
import HandS.IsInst
import KE.SortData
import KE.DataMinMax
import PySem.Challenge.RW_unmetcells_k18_whole_meetings_of_marks
set_option Elab.async false
set_option linter.all false
set_option maxRecDepth 100000
set_option maxHeartbeats 1000000
/-! VS1: values as plain trees; a def's body as a plain function on a row of slots. The core: what stands for what, outcomes, readings. -/
namespace VS
open PySem L2 PyProof.Rows

/-- a plain value -/
inductive PV where
  | non | bl (b : Bool) | int (i : Int) | str (x : Str)
  | tup (xs : List PV) | lst (xs : List PV) | scr (xs : List PV) | obj (C : Addr) (fs : List (Str × PV)) | ad (a : Addr) | any

/-- a slot: nothing, a value that no one changes any more, a thing that this slot alone holds -/
inductive Sl where
  | un | fz (d : PV) | own (d : PV)
abbrev Fr := List Sl

/-- a list that stays as it is -/
def FrzL (H : Hp) (a : Addr) (xs : List V) : Prop := ∃ o, H a = some (.frz o (.lst xs))
theorem FrzL.sq {K : PySem.W.Frag} {H : Hp} {a : Addr} {xs : List V} (h : FrzL H a xs) : SqL K H a xs := .inl (.inr h)
/-- .. or one of the written part: the script -/
def FrzS (K : PySem.W.Frag) (H : Hp) (a : Addr) (xs : List V) : Prop :=
  (∃ o, H a = some (.frz o (.lst xs))) ∨
    ∃ (o : Obj) (its : Array Value) (n : Nat), K.lookup a = some o ∧ o.cls = .type "list" ∧ o.dict = none ∧ o.data = .seq its n ∧ its.size ≤ sizeLine ∧ Vals xs its.toList
theorem FrzS.sq {K : PySem.W.Frag} {H : Hp} {a : Addr} {xs : List V} (h : FrzS K H a xs) : SqL K H a xs := by
  rcases h with h | h
  · exact .inl (.inr h)
  · exact .inr h
/-- nothing that is fixed changes -/
structure HLe (H H' : Hp) : Prop where
  tup : ∀ a xs, H a = some (.tup xs) → H' a = some (.tup xs)
  frz : ∀ a o u, H a = some (.frz o u) → H' a = some (.frz o u)
  alive : ∀ a o, H a = some o → ∃ o', H' a = some o'
theorem HLe.refl (H : Hp) : HLe H H := ⟨fun _ _ h => h, fun _ _ _ h => h, fun _ o h => ⟨o, h⟩⟩
theorem HLe.trans {H H1 H2 : Hp} (a : HLe H H1) (b : HLe H1 H2) : HLe H H2 :=
  ⟨fun c x h => b.tup c x (a.tup c x h), fun c o u h => b.frz c o u (a.frz c o u h), fun c o h => let ⟨o', h'⟩ := a.alive c o h; b.alive c o' h'⟩
theorem HLe.same {H H' : Hp} (h : ∀ b o, H b = some o → H' b = some o) : HLe H H' := ⟨fun _ _ e => h _ _ e, fun _ _ _ e => h _ _ e, fun _ o e => ⟨o, h _ _ e⟩⟩
theorem HLe.alloc {H : Hp} {p : Addr} {o : HO} (h : H p = none) : HLe H (upd H p o) := .same fun b u e => by
  rw [upd_ne (ne_of_none e h)]; exact e
/-- an object is written that is no tuple and not fixed -/
theorem HLe.write {H : Hp} {p : Addr} {o u : HO} (h : H p = some u) (h1 : ∀ xs, u ≠ .tup xs) (h2 : ∀ o v, u ≠ .frz o v) : HLe H (upd H p o) :=
  ⟨fun a xs e => by rw [upd_ne (ne_of e h (fun z => h1 xs z.symm))]; exact e, fun a o' v e => by rw [upd_ne (ne_of e h (fun z => h2 o' v z.symm))]; exact e,
   fun a o' e => by
    by_cases q : a = p
    · subst q; exact ⟨o, upd_same⟩
    · exact ⟨o', by rw [upd_ne q]; exact e⟩⟩
theorem HLe.none {H H' : Hp} {a : Addr} (h : HLe H H') (e : H' a = none) : H a = none := by
  cases q : H a with
  | none => rfl
  | some o => obtain ⟨o', z⟩ := h.alive a o q; rw [z] at e; cases e

mutual
/-- v stands for d, and it stays so -/
inductive Fz (K : PySem.W.Frag) (H : Hp) : V → PV → Prop
  | non : Fz K H .non .non
  | bl (b : Bool) : Fz K H (.bl b) (.bl b)
  | int (i : Int) : Fz K H (.int i) (.int i)
  | str (x : Str) : Fz K H (.str x) (.str x)
  | tup {a : Addr} {xs : List V} {ds : List PV} : SqT K H a xs → FzA K H xs ds → Fz K H (.ref a) (.tup ds)
  | lst {a : Addr} {xs : List V} {ds : List PV} : FrzL H a xs → FzA K H xs ds → Fz K H (.ref a) (.lst ds)
  | scr {a : Addr} {xs : List V} {ds : List PV} : FrzS K H a xs → FzA K H xs ds → Fz K H (.ref a) (.scr ds)
  | obj {a C dx : Addr} {o : Obj} {fs : List (Str × V)} {ds : List (Str × PV)} : H a = some (.frz o (.ins C dx fs)) → FzF K H fs ds → Fz K H (.ref a) (.obj C ds)
  | ad (a : Addr) : Fz K H (.ref a) (.ad a)
  | any (v : V) : Fz K H v .any
inductive FzA (K : PySem.W.Frag) (H : Hp) : List V → List PV → Prop
  | nil : FzA K H [] []
  | cons {v : V} {d : PV} {vs : List V} {ds : List PV} : Fz K H v d → FzA K H vs ds → FzA K H (v :: vs) (d :: ds)
inductive FzF (K : PySem.W.Frag) (H : Hp) : List (Str × V) → List (Str × PV) → Prop
  | nil : FzF K H [] []
  | cons {n : Str} {v : V} {d : PV} {vs : List (Str × V)} {ds : List (Str × PV)} : Fz K H v d → FzF K H vs ds → FzF K H ((n, v) :: vs) ((n, d) :: ds)
end
theorem SqT.le {K : PySem.W.Frag} {H H' : Hp} (l : HLe H H') {a : Addr} {xs : List V} (h : SqT K H a xs) : SqT K H' a xs := by
  rcases h with (h | ⟨o, h⟩) | h
  · exact .inl (.inl (l.tup _ _ h))
  · exact .inl (.inr ⟨o, l.frz _ _ _ h⟩)
  · exact .inr h
theorem FrzL.le {H H' : Hp} (l : HLe H H') {a : Addr} {xs : List V} (h : FrzL H a xs) : FrzL H' a xs := let ⟨o, e⟩ := h; ⟨o, l.frz _ _ _ e⟩
theorem FrzS.le {K : PySem.W.Frag} {H H' : Hp} (l : HLe H H') {a : Addr} {xs : List V} (h : FrzS K H a xs) : FrzS K H' a xs := by
  rcases h with ⟨o, h⟩ | h
  · exact .inl ⟨o, l.frz _ _ _ h⟩
  · exact .inr h
mutual
theorem Fz.le {K : PySem.W.Frag} {H H' : Hp} (l : HLe H H') : ∀ {v : V} {d : PV}, Fz K H v d → Fz K H' v d
  | _, _, .non => .non
  | _, _, .bl b => .bl b
  | _, _, .int b => .int b
  | _, _, .str b => .str b
  | _, _, .tup h q => .tup (SqT.le l h) (FzA.le l q)
  | _, _, .lst h q => .lst (FrzL.le l h) (FzA.le l q)
  | _, _, .scr h q => .scr (FrzS.le l h) (FzA.le l q)
  | _, _, .obj h q => .obj (l.frz _ _ _ h) (FzF.le l q)
  | _, _, .ad a => .ad a
  | _, _, .any v => .any v
theorem FzA.le {K : PySem.W.Frag} {H H' : Hp} (l : HLe H H') : ∀ {v : List V} {d : List PV}, FzA K H v d → FzA K H' v d
  | _, _, .nil => .nil
  | _, _, .cons h q => .cons (Fz.le l h) (FzA.le l q)
theorem FzF.le {K : PySem.W.Frag} {H H' : Hp} (l : HLe H H') : ∀ {v : List (Str × V)} {d : List (Str × PV)}, FzF K H v d → FzF K H' v d
  | _, _, .nil => .nil
  | _, _, .cons h q => .cons (Fz.le l h) (FzF.le l q)
end
theorem FzA.length {K : PySem.W.Frag} {H : Hp} : ∀ {v : List V} {d : List PV}, FzA K H v d → v.length = d.length
  | _, _, .nil => rfl
  | _, _, .cons _ q => by simp [FzA.length q]
theorem FzA.get {K : PySem.W.Frag} {H : Hp} : ∀ {v : List V} {d : List PV} {i : Nat} {x : PV}, FzA K H v d → d[i]? = some x → ∃ y, v[i]? = some y ∧ Fz K H y x
  | _, _, _, _, .nil, e => by simp at e
  | _, _, 0, _, .cons h _, e => by simp at e; subst e; exact ⟨_, rfl, h⟩
  | _, _, i + 1, _, .cons _ q, e => by simpa using FzA.get (i := i) q (by simpa using e)
theorem FzA.get' {K : PySem.W.Frag} {H : Hp} : ∀ {v : List V} {d : List PV} {i : Nat} {y : V}, FzA K H v d → v[i]? = some y → ∃ x, d[i]? = some x ∧ Fz K H y x
  | _, _, _, _, .nil, e => by simp at e
  | _, _, 0, _, .cons h _, e => by simp at e; subst e; exact ⟨_, rfl, h⟩
  | _, _, i + 1, _, .cons _ q, e => by simpa using FzA.get' (i := i) q (by simpa using e)
theorem FzA.append {K : PySem.W.Frag} {H : Hp} : ∀ {v w : List V} {d e : List PV}, FzA K H v d → FzA K H w e → FzA K H (v ++ w) (d ++ e)
  | _, _, _, _, .nil, r => r
  | _, _, _, _, .cons h q, r => .cons h (FzA.append q r)
theorem FzA.set {K : PySem.W.Frag} {H : Hp} {y : V} {x : PV} (h : Fz K H y x) : ∀ {v : List V} {d : List PV} (i : Nat), FzA K H v d → FzA K H (v.set i y) (d.set i x)
  | _, _, _, .nil => .nil
  | _, _, 0, .cons _ q => .cons h q
  | _, _, i + 1, .cons g q => .cons g (FzA.set h i q)
theorem FzA.take {K : PySem.W.Frag} {H : Hp} : ∀ {v : List V} {d : List PV} (n : Nat), FzA K H v d → FzA K H (v.take n) (d.take n)
  | _, _, 0, _ => .nil
  | _, _, _ + 1, .nil => .nil
  | _, _, n + 1, .cons h q => .cons h (FzA.take n q)
theorem FzA.drop {K : PySem.W.Frag} {H : Hp} : ∀ {v : List V} {d : List PV} (n : Nat), FzA K H v d → FzA K H (v.drop n) (d.drop n)
  | _, _, 0, r => r
  | _, _, _ + 1, .nil => .nil
  | _, _, n + 1, .cons _ q => FzA.drop n q
theorem FzF.lookup {K : PySem.W.Frag} {H : Hp} {f : Str} : ∀ {fs : List (Str × V)} {ds : List (Str × PV)} {x : PV}, FzF K H fs ds → ds.lookup f = some x → ∃ y, fs.lookup f = some y ∧ Fz K H y x
  | _, _, _, .nil, e => by simp at e
  | (n, v) :: fs, _ :: _, _, .cons h q, e => by
    by_cases z : f = n
    · subst z; simp at e; subst e; exact ⟨v, by simp, h⟩
    · have zz : (f == n) = false := by simpa using z
      simp only [List.lookup, zz] at e ⊢
      exact FzF.lookup q e
theorem FzF.lookup_none {K : PySem.W.Frag} {H : Hp} {f : Str} : ∀ {fs : List (Str × V)} {ds : List (Str × PV)}, FzF K H fs ds → ds.lookup f = none → fs.lookup f = none
  | _, _, .nil, _ => rfl
  | (n, v) :: fs, _ :: _, .cons h q, e => by
    by_cases z : f = n
    · subst z; simp at e
    · have zz : (f == n) = false := by simpa using z
      simp only [List.lookup, zz] at e ⊢
      exact FzF.lookup_none q e
def putP (f : Str) (v : PV) : List (Str × PV) → List (Str × PV)
  | [] => [(f, v)]
  | (g, u) :: r => if g = f then (g, v) :: r else (g, u) :: putP f v r
theorem FzF.put {K : PySem.W.Frag} {H : Hp} {f : Str} {y : V} {x : PV} (h : Fz K H y x) : ∀ {fs : List (Str × V)} {ds : List (Str × PV)}, FzF K H fs ds → FzF K H (putF f y fs) (putP f x ds)
  | _, _, .nil => .cons h .nil
  | (n, v) :: fs, _ :: _, .cons g q => by
    unfold putF putP
    by_cases z : n = f
    · rw [if_pos z, if_pos z]; exact .cons h q
    · rw [if_neg z, if_neg z]; exact .cons g (FzF.put h q)
theorem FzF.length {K : PySem.W.Frag} {H : Hp} : ∀ {v : List (Str × V)} {d : List (Str × PV)}, FzF K H v d → v.length = d.length
  | _, _, .nil => rfl
  | _, _, .cons _ q => by simp [FzF.length q]

/-- a thing held alone -/
def Ow (K : PySem.W.Frag) (H : Hp) (a : Addr) : PV → Prop
  | .lst ds => ∃ xs, H a = some (.lst xs) ∧ FzA K H xs ds
  | .obj C ds => ∃ dx fs, H a = some (.ins C dx fs) ∧ FzF K H fs ds
  | _ => False
theorem Ow.le {K : PySem.W.Frag} {H H' : Hp} (l : HLe H H') {a : Addr} {d : PV} (e : H' a = H a) (h : Ow K H a d) : Ow K H' a d := by
  cases d with
  | lst ds => obtain ⟨xs, h1, h2⟩ := h; exact ⟨xs, e.trans h1, h2.le l⟩
  | obj C ds => obtain ⟨dx, fs, h1, h2⟩ := h; exact ⟨dx, fs, e.trans h1, h2.le l⟩
  | _ => exact h.elim
/-- it is a list or an instance -/
theorem Ow.at {K : PySem.W.Frag} {H : Hp} {a : Addr} {d : PV} (h : Ow K H a d) : ∃ u, H a = some u ∧ (∀ xs, u ≠ .tup xs) ∧ ∀ o v, u ≠ .frz o v := by
  cases d with
  | lst ds => obtain ⟨xs, h1, h2⟩ := h; exact ⟨_, h1, fun _ z => (nomatch z), fun _ _ z => (nomatch z)⟩
  | obj C ds => obtain ⟨dx, fs, h1, h2⟩ := h; exact ⟨_, h1, fun _ z => (nomatch z), fun _ _ z => (nomatch z)⟩
  | _ => exact h.elim

/-- the slots e are what σ and H hold. P: what stood at H0 and may be written; B: the parameters held alone -/
structure VI (K : PySem.W.Frag) (np : Nat) (P : Addr → Prop) (B : List (Nat × Addr)) (H0 : Hp) (e : Fr) (σ : L2.St) (H : Hp) : Prop where
  len : e.length = σ.length
  fz : ∀ (i : Nat) d, e[i]? = some (.fz d) → ∃ v, σ[i]? = some (some v) ∧ Fz K H v d
  ow : ∀ (i : Nat) d, e[i]? = some (.own d) → ∃ a, σ[i]? = some (some (.ref a)) ∧ Ow K H a d ∧ (P a ∨ H0 a = none)
  dj : ∀ (i j : Nat) d d' a, e[i]? = some (.own d) → e[j]? = some (.own d') → σ[i]? = some (some (.ref a)) → σ[j]? = some (some (.ref a)) → i = j
  pin : ∀ i a, (i, a) ∈ B → i < np ∧ σ[i]? = some (some (.ref a)) ∧ ∃ d, e[i]? = some (.own d)
  keep : ∀ b o, H0 b = some o → ¬ P b → H b = some o
  al : ∀ b o, H0 b = some o → ∃ o', H b = some o'
section
variable {K : PySem.W.Frag} {np : Nat} {P : Addr → Prop} {B : List (Nat × Addr)} {H0 H H' : Hp} {e : Fr} {σ : L2.St}
/-- all that stood stands -/
theorem VI.same (I : VI K np P B H0 e σ H) (h : ∀ b o, H b = some o → H' b = some o) : VI K np P B H0 e σ H' where
  len := I.len
  fz := fun i d q => let ⟨v, a, b⟩ := I.fz i d q; ⟨v, a, b.le (.same h)⟩
  ow := fun i d q => let ⟨a, x, y, z⟩ := I.ow i d q; ⟨a, x, y.le (.same h) (by obtain ⟨u, e, _⟩ := y.at; rw [e, h _ _ e]), z⟩
  dj := I.dj
  pin := I.pin
  keep := fun b o q n => h _ _ (I.keep b o q n)
  al := fun b o q => let ⟨o', z⟩ := I.al b o q; ⟨o', h _ _ z⟩
theorem VI.alloc (I : VI K np P B H0 e σ H) {p : Addr} {o : HO} (h : H p = none) : VI K np P B H0 e σ (upd H p o) := I.same fun b u q => by rw [upd_ne (ne_of_none q h)]; exact q
theorem VI.fresh (I : VI K np P B H0 e σ H) {p : Addr} (h : H p = none) : H0 p = none := by
  cases q : H0 p with
  | none => rfl
  | some o => obtain ⟨o', z⟩ := I.al p o q; rw [z] at h; cases h
/-- the addresses held alone -/
def Owned (e : Fr) (σ : L2.St) (a : Addr) : Prop := ∃ (i : Nat) (d : PV), e[i]? = some (.own d) ∧ σ[i]? = some (some (.ref a))
/-- .. seen from here -/
theorem VI.base (I : VI K np P B H0 e σ H) : VI K np (Owned e σ) B H e σ H where
  len := I.len
  fz := I.fz
  ow := fun i d q => let ⟨a, x, y, _⟩ := I.ow i d q; ⟨a, x, y, .inl ⟨i, d, q, x⟩⟩
  dj := I.dj
  pin := I.pin
  keep := fun _ _ q _ => q
  al := fun _ o q => ⟨o, q⟩
/-- .. and back -/
theorem VI.back (I : VI K np P B H0 e σ H) {e' : Fr} {σ' : L2.St} (J : VI K np (Owned e σ) B H e' σ' H') : VI K np P B H0 e' σ' H' where
  len := J.len
  fz := J.fz
  ow := fun i d q => by
    obtain ⟨a, x, y, z⟩ := J.ow i d q
    refine ⟨a, x, y, ?_⟩
    rcases z with ⟨j, d', q', x'⟩ | z
    · obtain ⟨a', x2, _, z2⟩ := I.ow j d' q'
      rw [x'] at x2; cases x2
      exact z2
    · exact .inr (I.fresh z)
  dj := J.dj
  pin := J.pin
  keep := fun b o q n => J.keep b o (I.keep b o q n) fun ⟨j, d', q', x'⟩ => by
    obtain ⟨a', x2, _, z2⟩ := I.ow j d' q'
    rw [x'] at x2; cases x2
    rcases z2 with z2 | z2
    · exact n z2
    · rw [q] at z2; cases z2
  al := fun b o q => let ⟨o', z⟩ := I.al b o q; J.al b o' z
/-- a thing held alone at slot i is written -/
theorem VI.write (I : VI K np P B H0 e σ H) {i : Nat} {d d' : PV} {a : Addr} {o : HO} (h : e[i]? = some (.own d)) (hs : σ[i]? = some (some (.ref a))) (hw : Ow K (upd H a o) a d') :
    VI K np P B H0 (e.set i (.own d')) σ (upd H a o) := by
  obtain ⟨a', x, y, z⟩ := I.ow i d h
  rw [hs] at x; cases x
  obtain ⟨u, hu, u1, u2⟩ := y.at
  have le : HLe H (upd H a o) := .write hu u1 u2
  have hi : i < e.length := (List.getElem?_eq_some_iff.mp h).1
  have key : ∀ (j : Nat) (s : Sl), (e.set i (.own d'))[j]? = some s → (j = i ∧ s = .own d') ∨ (j ≠ i ∧ e[j]? = some s) := fun j s q => by
    by_cases hj : i = j
    · subst hj; rw [List.getElem?_set_self hi] at q; exact .inl ⟨rfl, (Option.some.inj q).symm⟩
    · rw [List.getElem?_set_ne hj] at q; exact .inr ⟨fun z => hj z.symm, q⟩
  refine ⟨by simpa using I.len, fun j dd q => ?_, fun j dd q => ?_, fun j k dd dd' b q1 q2 s1 s2 => ?_, fun j b q => ?_, fun b ob q n => ?_, fun b ob q => ?_⟩
  · rcases key j _ q with ⟨_, z⟩ | ⟨_, q⟩
    · cases z
    · obtain ⟨v, s1, s2⟩ := I.fz j dd q
      exact ⟨v, s1, s2.le le⟩
  · rcases key j _ q with ⟨rfl, zz⟩ | ⟨ne, q⟩
    · cases zz; exact ⟨a, hs, hw, z⟩
    · obtain ⟨b, s1, s2, s3⟩ := I.ow j dd q
      refine ⟨b, s1, s2.le le ?_, s3⟩
      rw [upd_ne]
      rintro rfl
      exact ne (I.dj _ _ _ _ _ q h s1 hs)
  · have f : ∀ (j : Nat) dd, (e.set i (.own d'))[j]? = some (.own dd) → ∃ dd', e[j]? = some (.own dd') := fun j dd q => by
      rcases key j _ q with ⟨rfl, zz⟩ | ⟨ne, q⟩
      · exact ⟨d, h⟩
      · exact ⟨dd, q⟩
    obtain ⟨_, r1⟩ := f j _ q1
    obtain ⟨_, r2⟩ := f k _ q2
    exact I.dj _ _ _ _ _ r1 r2 s1 s2
  · obtain ⟨h1, h2, dd, h3⟩ := I.pin j b q
    refine ⟨h1, h2, ?_⟩
    by_cases hj : i = j
    · subst hj; exact ⟨d', by rw [List.getElem?_set_self hi]⟩
    · exact ⟨dd, by rw [List.getElem?_set_ne hj]; exact h3⟩
  · rw [upd_ne]
    · exact I.keep b ob q n
    · rintro rfl
      rcases z with z | z
      · exact n z
      · rw [q] at z; cases z
  · obtain ⟨o', q'⟩ := I.al b ob q
    exact le.alive b o' q'
/-- a thing held alone at slot i, no parameter, is given away: from now on it stays as it is -/
theorem VI.freeze (I : VI K np P B H0 e σ H) {i : Nat} {d d' : PV} {a : Addr} {o : HO} (hn : np ≤ i) (h : e[i]? = some (.own d)) (hs : σ[i]? = some (some (.ref a))) (hw : Fz K (upd H a o) (.ref a) d') :
    VI K np P B H0 (e.set i (.fz d')) σ (upd H a o) := by
  obtain ⟨a', x, y, z⟩ := I.ow i d h
  rw [hs] at x; cases x
  obtain ⟨u, hu, u1, u2⟩ := y.at
  have le : HLe H (upd H a o) := .write hu u1 u2
  have hi : i < e.length := (List.getElem?_eq_some_iff.mp h).1
  have key : ∀ (j : Nat) (s : Sl), (e.set i (.fz d'))[j]? = some s → (j = i ∧ s = .fz d') ∨ (j ≠ i ∧ e[j]? = some s) := fun j s q => by
    by_cases hj : i = j
    · subst hj; rw [List.getElem?_set_self hi] at q; exact .inl ⟨rfl, (Option.some.inj q).symm⟩
    · rw [List.getElem?_set_ne hj] at q; exact .inr ⟨fun z => hj z.symm, q⟩
  refine ⟨by simpa using I.len, fun j dd q => ?_, fun j dd q => ?_, fun j k dd dd' b q1 q2 s1 s2 => ?_, fun j b q => ?_, fun b ob q n => ?_, fun b ob q => ?_⟩
  · rcases key j _ q with ⟨rfl, z⟩ | ⟨_, q⟩
    · cases z; exact ⟨_, hs, hw⟩
    · obtain ⟨v, s1, s2⟩ := I.fz j dd q
      exact ⟨v, s1, s2.le le⟩
  · rcases key j _ q with ⟨_, zz⟩ | ⟨ne, q⟩
    · cases zz
    · obtain ⟨b, s1, s2, s3⟩ := I.ow j dd q
      refine ⟨b, s1, s2.le le ?_, s3⟩
      rw [upd_ne]
      rintro rfl
      exact ne (I.dj _ _ _ _ _ q h s1 hs)
  · rcases key j _ q1 with ⟨_, zz⟩ | ⟨_, r1⟩
    · cases zz
    rcases key k _ q2 with ⟨_, zz⟩ | ⟨_, r2⟩
    · cases zz
    exact I.dj _ _ _ _ _ r1 r2 s1 s2
  · obtain ⟨h1, h2, dd, h3⟩ := I.pin j b q
    refine ⟨h1, h2, ?_⟩
    have hj : i ≠ j := by omega
    exact ⟨dd, by rw [List.getElem?_set_ne hj]; exact h3⟩
  · rw [upd_ne]
    · exact I.keep b ob q n
    · rintro rfl
      rcases z with z | z
      · exact n z
      · rw [q] at z; cases z
  · obtain ⟨o', q'⟩ := I.al b ob q
    exact le.alive b o' q'
/-- a slot that is no parameter held alone is stored -/
theorem VI.store (I : VI K np P B H0 e σ H) {i : Nat} {v : V} {s : Sl} (hn : np ≤ i ∨ ∀ d, e[i]? ≠ some (.own d))
    (hz : ∀ d, s = .fz d → Fz K H v d) (ho : ∀ d, s = .own d → np ≤ i ∧ ∃ a, v = .ref a ∧ Ow K H a d ∧ (P a ∨ H0 a = none) ∧ ∀ (j : Nat) d', j ≠ i → e[j]? = some (.own d') → σ[j]? ≠ some (some (.ref a))) :
    VI K np P B H0 (e.set i s) (σ.set i (some v)) H := by
  by_cases hi : i < e.length
  case neg =>
    have h1 : e.set i s = e := List.set_eq_of_length_le (by omega)
    have h2 : σ.set i (some v) = σ := List.set_eq_of_length_le (by have := I.len; omega)
    rw [h1, h2]; exact I
  have hi' : i < σ.length := by have := I.len; omega
  have key : ∀ (j : Nat) (t : Sl), (e.set i s)[j]? = some t → (j = i ∧ t = s) ∨ (j ≠ i ∧ e[j]? = some t) := fun j t q => by
    by_cases hj : i = j
    · subst hj; rw [List.getElem?_set_self hi] at q; exact .inl ⟨rfl, (Option.some.inj q).symm⟩
    · rw [List.getElem?_set_ne hj] at q; exact .inr ⟨fun z => hj z.symm, q⟩
  have kσ : ∀ (j : Nat), j ≠ i → (σ.set i (some v))[j]? = σ[j]? := fun j hj => List.getElem?_set_ne (Ne.symm hj)
  have kσ' : (σ.set i (some v))[i]? = some (some v) := List.getElem?_set_self hi'
  refine ⟨by simpa using I.len, fun j dd q => ?_, fun j dd q => ?_, fun j k dd dd' b q1 q2 s1 s2 => ?_, fun j b q => ?_, I.keep, I.al⟩
  · rcases key j _ q with ⟨rfl, z⟩ | ⟨ne, q⟩
    · exact ⟨v, kσ', hz dd z.symm⟩
    · obtain ⟨v', s1, s2⟩ := I.fz j dd q
      exact ⟨v', by rw [kσ j ne]; exact s1, s2⟩
  · rcases key j _ q with ⟨rfl, z⟩ | ⟨ne, q⟩
    · obtain ⟨_, a, rfl, h1, h2, _⟩ := ho dd z.symm
      exact ⟨a, kσ', h1, h2⟩
    · obtain ⟨b, s1, s2⟩ := I.ow j dd q
      exact ⟨b, by rw [kσ j ne]; exact s1, s2⟩
  · rcases key j _ q1 with ⟨rfl, z1⟩ | ⟨ne1, r1⟩
    · rcases key k _ q2 with ⟨rfl, z2⟩ | ⟨ne2, r2⟩
      · rfl
      · obtain ⟨_, a, rfl, h1, h2, h3⟩ := ho dd z1.symm
        rw [kσ'] at s1; cases s1
        rw [kσ k ne2] at s2
        exact absurd s2 (h3 k _ ne2 r2)
    · rcases key k _ q2 with ⟨rfl, z2⟩ | ⟨ne2, r2⟩
      · obtain ⟨_, a, rfl, h1, h2, h3⟩ := ho dd' z2.symm
        rw [kσ'] at s2; cases s2
        rw [kσ j ne1] at s1
        exact absurd s1 (h3 j _ ne1 r1)
      · rw [kσ j ne1] at s1
        rw [kσ k ne2] at s2
        exact I.dj _ _ _ _ _ r1 r2 s1 s2
  · obtain ⟨h1, h2, dd, h3⟩ := I.pin j b q
    have hj : j ≠ i := by
      rintro rfl
      rcases hn with z | z
      · omega
      · exact z dd h3
    exact ⟨h1, by rw [kσ j hj]; exact h2, dd, by rw [List.getElem?_set_ne (Ne.symm hj)]; exact h3⟩
end
end VS

set_option Elab.async false
set_option linter.all false
set_option maxRecDepth 100000
set_option maxHeartbeats 1000000
/-! VS2: outcomes, the judgements, expressions. -/
namespace VS
open PySem L2 PyProof.Rows

inductive Out (α : Type) where
  | ok (a : α) (e : Fr) | exc (C : Addr) (ds : List (Str × PV)) (e : Fr) | stuck
abbrev Mo (α : Type) := Fr → Out α
def mB {α β : Type} (m : Mo α) (k : α → Mo β) : Mo β := fun e => match m e with
  | .ok a e' => k a e'
  | .exc C ds e' => .exc C ds e'
  | .stuck => .stuck
def mR {α : Type} (a : α) : Mo α := fun e => .ok a e
def mO {α : Type} (o : Option α) : Mo α := fun e => match o with
  | some a => .ok a e
  | none => .stuck

/-- an exception's own dict -/
def ExD (K : PySem.W.Frag) (H : Hp) (x : Option Addr) (ds : List (Str × PV)) : Prop := match x with
  | none => ds = []
  | some a => ∃ fs, H a = some (.xd fs) ∧ FzF K H fs ds

abbrev RelR (α β : Type) := (Addr → Prop) → α → Fr → L2.St → Hp → β → Prop
section
variable (K : PySem.W.Frag) (np : Nat) (W : WX)
def PostG {α β : Type} (P : Addr → Prop) (B : List (Nat × Addr)) (H0 : Hp) (R : RelR α β) (σ : L2.St) (H : Hp) (o : Out α) (Q : β → Hp → Prop) : Prop := match o with
  | .ok a e' => ∀ b H', VI K np P B H0 e' σ H' → R (fun a => P a ∨ H0 a = none) a e' σ H' b → HLe H H' → Q b H'
  | .exc C ds e' => ∀ x H', VI K np P B H0 e' σ H' → ExD K H' x ds → HLe H H' → W (.ref C) x σ H'
  | .stuck => False
def tG {α β : Type} (R : RelR α β) (m : Mo α) : L2.St → Hp → (β → Hp → Prop) → Prop := fun σ H Q => ∃ P B H0 e, VI K np P B H0 e σ H ∧ PostG K np W P B H0 R σ H (m e) Q
end
section
variable {K : PySem.W.Frag} {np : Nat} {W : WX}
theorem PostG.le {α β : Type} {P : Addr → Prop} {B : List (Nat × Addr)} {H0 : Hp} {R : RelR α β} {σ : L2.St} {H H1 : Hp} {o : Out α} {Q : β → Hp → Prop} (l : HLe H H1) (h : PostG K np W P B H0 R σ H o Q) : PostG K np W P B H0 R σ H1 o Q := by
  cases o with
  | ok a e' => exact fun b H' I r l' => h b H' I r (l.trans l')
  | exc C ds e' => exact fun x H' I r l' => h x H' I r (l.trans l')
  | stuck => exact h
/-- THE STEP: m first, then k -/
theorem tG.bind {α α' β β' : Type} {R : RelR α β} {R' : RelR α' β'} {m : Mo α} {k : α → Mo α'} {σ : L2.St} {H : Hp} {Q : β → Hp → Prop} {Q' : β' → Hp → Prop} (h : tG K np W R' (mB m k) σ H Q')
    (hk : ∀ P B H0 a e1 b H1, VI K np P B H0 e1 σ H1 → R (fun a => P a ∨ H0 a = none) a e1 σ H1 b → HLe H H1 → PostG K np W P B H0 R' σ H1 (k a e1) Q' → Q b H1) : tG K np W R m σ H Q := by
  obtain ⟨P, B, H0, e, I, h⟩ := h
  refine ⟨P, B, H0, e, I, ?_⟩
  unfold mB at h
  generalize m e = o at h ⊢
  cases o with
  | ok a e' => exact fun b H' I' r l' => hk P B H0 a e' b H' I' r l' (PostG.le l' h)
  | exc C ds e' => exact h
  | stuck => exact h
theorem tG.of {α β : Type} {R : RelR α β} {m : Mo α} {σ : L2.St} {H : Hp} {Q : β → Hp → Prop} {P : Addr → Prop} {B : List (Nat × Addr)} {H0 : Hp} {e : Fr} (I : VI K np P B H0 e σ H) (h : PostG K np W P B H0 R σ H (m e) Q) : tG K np W R m σ H Q := ⟨P, B, H0, e, I, h⟩
end

/-! ### what a result stands for -/
/-- a value that stays -/
def rE (K : PySem.W.Frag) : RelR PV V := fun _ d _ _ H v => Fz K H v d
/-- a value that stays, or one that nothing else holds -/
def rS (K : PySem.W.Frag) : RelR Sl V := fun Z s e σ H v => match s with
  | .un => False
  | .fz d => Fz K H v d
  | .own d => ∃ a, v = .ref a ∧ Ow K H a d ∧ Z a ∧ ∀ (j : Nat) d', e[j]? = some (.own d') → σ[j]? ≠ some (some (.ref a))
/-- an operand: a value that stays, or what a slot holds at the time of use -/
inductive Opd where
  | val (d : PV) | pl (i : Nat)
def rO (K : PySem.W.Frag) : RelR Opd V := fun _ o e σ H v => match o with
  | .val d => Fz K H v d
  | .pl i => σ[i]? = some (some v) ∧ ∃ s, e[i]? = some s ∧ s ≠ .un
def rB : RelR Bool Bool := fun _ b _ _ _ c => c = b
def rA (K : PySem.W.Frag) : RelR (List PV) (List V) := fun _ ds _ _ H vs => FzA K H vs ds
/-- what may be read as d -/
def Rr (K : PySem.W.Frag) (H : Hp) (v : V) (d : PV) : Prop := Fz K H v d ∨ ∃ a, v = .ref a ∧ Ow K H a d
def Opd.get (o : Opd) (e : Fr) : Option PV := match o with
  | .val d => some d
  | .pl i => match e[i]? with
    | some (.fz d) => some d
    | some (.own d) => some d
    | _ => none
section
variable {K : PySem.W.Frag} {np : Nat} {P : Addr → Prop} {B : List (Nat × Addr)} {H0 H H' : Hp} {e : Fr} {σ : L2.St}
theorem rO.rr {Z : Addr → Prop} {o : Opd} {v : V} {d : PV} (I : VI K np P B H0 e σ H) (r : rO K Z o e σ H v) (g : o.get e = some d) : Rr K H v d := by
  cases o with
  | val d' => cases g; exact .inl r
  | pl i =>
    obtain ⟨h1, s, h2, h3⟩ := r
    unfold Opd.get at g
    simp only [h2] at g
    cases s with
    | un => exact absurd rfl h3
    | fz d' =>
      cases g
      obtain ⟨v', a, b⟩ := I.fz i d h2
      rw [h1] at a; cases a; exact .inl b
    | own d' =>
      cases g
      obtain ⟨a, x, y, _⟩ := I.ow i d h2
      rw [h1] at x; cases x; exact .inr ⟨a, rfl, y⟩
theorem rO.le {Z Z' : Addr → Prop} {o : Opd} {v : V} {e' : Fr} (l : HLe H H') (r : rO K Z o e σ H v) (h : ∀ i, o = .pl i → ∃ s, e'[i]? = some s ∧ s ≠ .un) : rO K Z' o e' σ H' v := by
  cases o with
  | val d => exact Fz.le l r
  | pl i => exact ⟨r.1, h i rfl⟩
theorem Rr.int {v : V} {i : Int} (h : Rr K H v (.int i)) : v = .int i := by
  rcases h with h | ⟨a, _, h⟩
  · cases h; rfl
  · exact h.elim
theorem Rr.bl {v : V} {i : Bool} (h : Rr K H v (.bl i)) : v = .bl i := by
  rcases h with h | ⟨a, _, h⟩
  · cases h; rfl
  · exact h.elim
theorem Rr.str {v : V} {i : Str} (h : Rr K H v (.str i)) : v = .str i := by
  rcases h with h | ⟨a, _, h⟩
  · cases h; rfl
  · exact h.elim
theorem Rr.non {v : V} (h : Rr K H v .non) : v = .non := by
  rcases h with h | ⟨a, _, h⟩
  · cases h; rfl
  · exact h.elim
theorem Rr.tup {v : V} {ds : List PV} (h : Rr K H v (.tup ds)) : ∃ a xs, v = .ref a ∧ SqT K H a xs ∧ FzA K H xs ds := by
  rcases h with h | ⟨a, _, h⟩
  · cases h with | tup a b => exact ⟨_, _, rfl, a, b⟩
  · exact h.elim
theorem Rr.lstR {v : V} {ds : List PV} (h : Rr K H v (.lst ds)) : ∃ a xs, v = .ref a ∧ Rd H a (.lst xs) ∧ FzA K H xs ds := by
  rcases h with h | ⟨a, rfl, h⟩
  · cases h with | lst a b => exact ⟨_, _, rfl, .inr a, b⟩
  · obtain ⟨xs, h1, h2⟩ := h
    exact ⟨a, xs, rfl, .inl h1, h2⟩
theorem Rr.lst {v : V} {ds : List PV} (h : Rr K H v (.lst ds)) : ∃ a xs, v = .ref a ∧ SqL K H a xs ∧ FzA K H xs ds := by
  obtain ⟨a, xs, h1, h2, h3⟩ := h.lstR
  exact ⟨a, xs, h1, .inl h2, h3⟩
theorem Rr.seq {v : V} {d : PV} {ds : List PV} (h : Rr K H v d) (e : d = .tup ds ∨ d = .lst ds) : ∃ a xs, v = .ref a ∧ (SqL K H a xs ∨ SqT K H a xs) ∧ FzA K H xs ds := by
  rcases e with rfl | rfl
  · obtain ⟨a, xs, h1, h2, h3⟩ := h.tup; exact ⟨a, xs, h1, .inr h2, h3⟩
  · obtain ⟨a, xs, h1, h2, h3⟩ := h.lst; exact ⟨a, xs, h1, .inl h2, h3⟩
/-- slots that are not empty stay so -/
def NE (e e' : Fr) : Prop := ∀ (i : Nat) s, e[i]? = some s → s ≠ .un → ∃ s', e'[i]? = some s' ∧ s' ≠ .un
end

theorem PEi {X : Cx} {e : Expr} {t t' : TE} (p : PE X e t) (f : ∀ σ H Q, t' σ H Q → t σ H Q) : PE X e t' := ⟨fun pins s σ H Q I h => p.run pins s σ H Q I (f σ H Q h)⟩
theorem PTi {X : Cx} {e : Expr} {t t' : TT} (p : PT X e t) (f : ∀ σ H Q, t' σ H Q → t σ H Q) : PT X e t' := ⟨fun pins s σ H Q I h => p.run pins s σ H Q I (f σ H Q h)⟩
theorem PWi {X : Cx} {e : Expr} {t t' : TT} (p : PW X e t) (f : ∀ σ H Q, t' σ H Q → t σ H Q) : PW X e t' := ⟨fun w pins s σ H Q I h => p.run w pins s σ H Q I (f σ H Q h)⟩
theorem PAi {X : Cx} {es : List Expr} {t t' : TA} (p : PA X es t) (f : ∀ σ H Q, t' σ H Q → t σ H Q) : PA X es t' := ⟨fun po pins s σ H Q I h => p.run po pins s σ H Q I (f σ H Q h)⟩

section
variable {X : Cx} {np : Nat} {W : WX} {a b c : Expr} {pos : Pos}
abbrev JS (X : Cx) (np : Nat) (W : WX) (e : Expr) (m : Mo Sl) : Prop := PE X e (tG X.K np W (rS X.K) m)
abbrev JE (X : Cx) (np : Nat) (W : WX) (e : Expr) (m : Mo PV) : Prop := PE X e (tG X.K np W (rE X.K) m)
abbrev JO (X : Cx) (np : Nat) (W : WX) (e : Expr) (m : Mo Opd) : Prop := PE X e (tG X.K np W (rO X.K) m)
abbrev JT (X : Cx) (np : Nat) (W : WX) (e : Expr) (m : Mo Bool) : Prop := PT X e (tG X.K np W rB m)
abbrev JW (X : Cx) (np : Nat) (W : WX) (e : Expr) (m : Mo Bool) : Prop := PW X e (tG X.K np W rB m)
abbrev JA (X : Cx) (np : Nat) (W : WX) (es : List Expr) (m : Mo (List PV)) : Prop := PA X es (tG X.K np W (rA X.K) m)

/-! ### constants, names -/
def mC (d : PV) : Mo Sl := fun e => .ok (.fz d) e
theorem js_c {e : Expr} {v : V} {d : PV} (h : PE X e (tC v)) (hd : ∀ H, Fz X.K H v d) : JS X np W e (mC d) :=
  PEi h fun σ H Q ⟨P, B, H0, e, I, h⟩ => h v H I (hd H) (.refl H)
theorem js_int {i j} : JS X np W (.Constant (.int i) j pos) (mC (.int i)) := js_c pe_int fun _ => .int i
theorem js_bl {i j} : JS X np W (.Constant (.bool i) j pos) (mC (.bl i)) := js_c pe_bl fun _ => .bl i
theorem js_non {j} : JS X np W (.Constant .none j pos) (mC .non) := js_c pe_non fun _ => .non
theorem js_str {x j} : JS X np W (.Constant (.str x) j pos) (mC (.str x)) := js_c pe_str fun _ => .str x
/-- a module's constant -/
theorem js_glob {x : Str} {v : V} {u : Value} {d : PV} (hg : Gl X x) (hm : X.mg x = some u) (r : RelV v u) (hd : ∀ H, Fz X.K H v d) (hdb : (x == ("__debug__" : Str)) = false := by decide) : JS X np W (.Name x pos) (mC d) := js_c (pe_glob hg hm r hdb) hd

/-- a name as an operand -/
def oN (i : Nat) : Mo Opd := fun e => match e[i]? with
  | some (.fz _) => .ok (.pl i) e
  | some (.own _) => .ok (.pl i) e
  | _ => .stuck
theorem jo_n (i : Nat) {x : Str} (h : PE X (.Name x pos) (tVar i)) : JO X np W (.Name x pos) (oN i) := by
  refine PEi h fun σ H Q ⟨P, B, H0, e, I, h⟩ => ?_
  unfold oN at h
  generalize he : e[i]? = s at h
  match s, h with
  | some (.fz d), h =>
    obtain ⟨v, h1, h2⟩ := I.fz i d he
    exact ⟨v, h1, h v H I ⟨h1, _, he, by simp⟩ (.refl H)⟩
  | some (.own d), h =>
    obtain ⟨v, h1, h2⟩ := I.ow i d he
    exact ⟨_, h1, h _ H I ⟨h1, _, he, by simp⟩ (.refl H)⟩
  | some .un, h => exact h.elim
  | none, h => exact h.elim

/-! ### giving away -/
theorem Inv.freeze {pins : List (Addr × Obj)} {σ : L2.St} {H : Hp} {s : Shared} {a : Addr} {u : HO} (I : Inv X pins σ H s) (h : H a = some u) (hu : (∃ xs, u = .lst xs) ∨ ∃ C dx fs, u = .ins C dx fs) :
    ∃ o, Inv X pins σ (upd H a (.frz o u)) s := by
  obtain ⟨o, ho⟩ : ∃ o, s.heap.get? a = some o := by
    have z := I.hok a u h
    rcases hu with ⟨xs, rfl⟩ | ⟨C, dx, fs, rfl⟩
    · obtain ⟨_, _, _, _, e⟩ := z; exact ⟨_, e⟩
    · obtain ⟨_, _, _, e, _⟩ := z; exact ⟨_, e⟩
  have ne : ∀ b v, H b = some v → (∀ w, v ≠ w ∨ ((∀ xs, w ≠ .lst xs) ∧ ∀ C dx fs, w ≠ .ins C dx fs)) → b = a → False := fun b v e hv z => by
    subst z
    rw [h] at e; cases e
    rcases hv u with z | ⟨z1, z2⟩
    · exact z rfl
    · rcases hu with ⟨xs, rfl⟩ | ⟨C, dx, fs, rfl⟩
      · exact z1 _ rfl
      · exact z2 _ _ _ rfl
  have n1 : ∀ b xs, H b = some (.tup xs) → b ≠ a := fun b xs e z => by
    subst z; rw [h] at e; cases e
    rcases hu with ⟨xs, z⟩ | ⟨C, dx, fs, z⟩ <;> cases z
  have n2 : ∀ b o v, H b = some (.frz o v) → b ≠ a := fun b o v e z => by
    subst z; rw [h] at e; cases e
    rcases hu with ⟨xs, z⟩ | ⟨C, dx, fs, z⟩ <;> cases z
  have n3 : ∀ b x, H b = some (.own x) → b ≠ a := fun b o e z => by
    subst z; rw [h] at e; cases e
    rcases hu with ⟨xs, z⟩ | ⟨C, dx, fs, z⟩ <;> cases z
  have n4 : ∀ b x, H b = some (.tbl x) → b ≠ a := fun b o e z => by
    subst z; rw [h] at e; cases e
    rcases hu with ⟨xs, z⟩ | ⟨C, dx, fs, z⟩ <;> cases z
  have n5 : ∀ b, H b = none → b ≠ a := fun b e z => by
    subst z; rw [h] at e; cases e
  have un : Un X.fs [] H (upd H a (.frz o u)) s.heap s.heap :=
    ⟨fun b ob q _ _ _ => q, fun b ob q _ _ _ => ⟨ob.slots, q⟩, fun b ob q n _ => by rw [upd_ne (n5 b n)]; exact n, fun b ob q _ => ⟨ob, q⟩,
     fun b xs e => by rw [upd_ne (n1 b xs e)]; exact e, fun b o xs e => by rw [upd_ne (n2 b o xs e)]; exact e, fun b ps e => ⟨#[], by rw [upd_ne (n4 b ps e), e]; simp⟩⟩
  refine ⟨o, I.un (t' := s.toks) un fun b v e => ?_⟩
  by_cases hb : b = a
  · subst hb
    rw [upd_same] at e; cases e
    exact ⟨ho, (I.hok b u h).stay (fun c w _ q => q) (fun c q => by rw [upd_ne (n3 c _ q)]; exact q) fun c xs q => by rw [upd_ne (n1 c xs q)]; exact q⟩
  · rw [upd_ne hb] at e
    exact (I.hok b v e).stay (fun c w _ q => q) (fun c q => by rw [upd_ne (n3 c _ q)]; exact q) fun c xs q => by rw [upd_ne (n1 c xs q)]; exact q
/-- behind an expression a thing may be fixed -/
theorem pe_fix {e : Expr} {t : TE} (h : PE X e t) : PE X e (fun σ H Q => t σ H fun v H' => Q v H' ∨ ∃ a u, H' a = some u ∧ ((∃ xs, u = .lst xs) ∨ ∃ C dx fs, u = .ins C dx fs) ∧ ∀ o, Q v (upd H' a (.frz o u))) := by
  refine ⟨fun pins s σ H Q I hq => thn (h.run pins s σ H _ I hq) fun v s1 ⟨x, H1, I1, r1, q1⟩ => ?_⟩
  rcases q1 with q1 | ⟨a, u, h1, h2, q1⟩
  · exact ⟨x, H1, I1, r1, q1⟩
  · obtain ⟨o, J⟩ := Inv.freeze I1 h1 h2
    exact ⟨x, _, J, r1, q1 o⟩
def Sl.pv : Sl → Option PV
  | .un => none
  | .fz d => some d
  | .own d => some d
theorem Ow.frz {K : PySem.W.Frag} {H : Hp} {a : Addr} {d : PV} (h : Ow K H a d) : ∃ u, H a = some u ∧ ((∃ xs, u = .lst xs) ∨ ∃ C dx fs, u = .ins C dx fs) ∧ ∀ o, Fz K (upd H a (.frz o u)) (.ref a) d := by
  obtain ⟨v, hv, v1, v2⟩ := h.at
  cases d with
  | lst ds =>
    obtain ⟨xs, h1, h2⟩ := h
    exact ⟨_, h1, .inl ⟨_, rfl⟩, fun o => .lst ⟨o, upd_same⟩ (h2.le (.write hv v1 v2))⟩
  | obj C ds =>
    obtain ⟨dx, fs, h1, h2⟩ := h
    exact ⟨_, h1, .inr ⟨_, _, _, rfl⟩, fun o => .obj upd_same (h2.le (.write hv v1 v2))⟩
  | _ => exact h.elim
/-- a thing that no slot holds is written or fixed -/
theorem VI.other {K : PySem.W.Frag} {P : Addr → Prop} {B : List (Nat × Addr)} {H0 H : Hp} {e : Fr} {σ : L2.St} (I : VI K np P B H0 e σ H) {a : Addr} {u o : HO} (h : H a = some u) (u1 : ∀ xs, u ≠ .tup xs) (u2 : ∀ o v, u ≠ .frz o v) (hz : P a ∨ H0 a = none)
    (hn : ∀ (j : Nat) d', e[j]? = some (.own d') → σ[j]? ≠ some (some (.ref a))) : VI K np P B H0 e σ (upd H a o) := by
  have le : HLe H (upd H a o) := .write h u1 u2
  refine ⟨I.len, fun i d q => let ⟨v, x, y⟩ := I.fz i d q; ⟨v, x, y.le le⟩, fun i d q => ?_, I.dj, I.pin, fun b ob q n => ?_, fun b ob q => let ⟨o', z⟩ := I.al b ob q; le.alive b o' z⟩
  · obtain ⟨b, x, y, z⟩ := I.ow i d q
    refine ⟨b, x, y.le le ?_, z⟩
    rw [upd_ne]
    rintro rfl
    exact hn i d q x
  · rw [upd_ne]
    · exact I.keep b ob q n
    · rintro rfl
      rcases hz with z | z
      · exact n z
      · rw [q] at z; cases z
/-- what comes is given away -/
def mFz (m : Mo Sl) : Mo PV := mB m fun s => mO s.pv
theorem je_s {e : Expr} {m : Mo Sl} (h : JS X np W e m) : JE X np W e (mFz m) := by
  refine PEi (pe_fix h) fun σ H Q h => tG.bind h fun P B H0 s e1 v H1 I r l h => ?_
  cases s with
  | un => exact h.elim
  | fz d => exact .inl (h v H1 I r (.refl _))
  | own d =>
    obtain ⟨a, rfl, ow, z, hn⟩ := r
    obtain ⟨u, hu, hk, hf⟩ := ow.frz
    obtain ⟨u', hu', u1, u2⟩ := ow.at
    rw [hu] at hu'; cases hu'
    exact .inr ⟨a, u, hu, hk, fun o => h _ _ (I.other hu u1 u2 z hn) (hf o) (.write hu u1 u2)⟩
def oV (m : Mo PV) : Mo Opd := mB m fun d => mR (.val d)
theorem jo_e {e : Expr} {m : Mo PV} (h : JE X np W e m) : JO X np W e (oV m) :=
  PEi h fun σ H Q h => tG.bind h fun P B H0 s e1 v H1 I r l h => h v H1 I r (.refl _)
theorem jo_s {e : Expr} {m : Mo Sl} (h : JS X np W e m) : JO X np W e (oV (mFz m)) := jo_e (je_s h)
def mFZ (m : Mo PV) : Mo Sl := mB m fun d => mR (.fz d)
theorem js_e {e : Expr} {m : Mo PV} (h : JE X np W e m) : JS X np W e (mFZ m) :=
  PEi h fun σ H Q h => tG.bind h fun P B H0 s e1 v H1 I r l h => h v H1 I r (.refl _)
/-- a name as a value: what it held alone is given away -/
def mN (np i : Nat) : Mo Sl := fun e => match e[i]? with
  | some (.fz d) => .ok (.fz d) e
  | some (.own d) => if np ≤ i then .ok (.fz d) (e.set i (.fz d)) else .stuck
  | _ => .stuck
theorem js_n (i : Nat) {x : Str} (h : PE X (.Name x pos) (tVar i)) : JS X np W (.Name x pos) (mN np i) := by
  refine PEi (pe_fix h) fun σ H Q ⟨P, B, H0, e, I, h⟩ => ?_
  unfold mN at h
  generalize he : e[i]? = s at h
  match s, h with
  | some (.fz d), h =>
    obtain ⟨v, h1, h2⟩ := I.fz i d he
    exact ⟨v, h1, .inl (h v H I h2 (.refl H))⟩
  | some (.own d), h =>
    by_cases hn : np ≤ i
    · dsimp only at h
      rw [if_pos hn] at h
      obtain ⟨a, h1, ow, z⟩ := I.ow i d he
      obtain ⟨u, hu, hk, hf⟩ := ow.frz
      obtain ⟨u', hu', u1, u2⟩ := ow.at
      rw [hu] at hu'; cases hu'
      exact ⟨_, h1, .inr ⟨a, u, hu, hk, fun o => h _ _ (I.freeze hn he h1 (hf o)) (hf o) (.write hu u1 u2)⟩⟩
    · dsimp only at h
      rw [if_neg hn] at h; exact h.elim
  | some .un, h => exact h.elim
  | none, h => exact h.elim
/-- a name, moved out: for return -/
def mV (np i : Nat) : Mo Sl := fun e => match e[i]? with
  | some (.fz d) => .ok (.fz d) e
  | some (.own d) => if np ≤ i then .ok (.own d) (e.set i .un) else .stuck
  | _ => .stuck
theorem VI.drop {K : PySem.W.Frag} {P : Addr → Prop} {B : List (Nat × Addr)} {H0 H : Hp} {e : Fr} {σ : L2.St} (I : VI K np P B H0 e σ H) {i : Nat} (hn : np ≤ i) : VI K np P B H0 (e.set i .un) σ H := by
  have key : ∀ (j : Nat) (s : Sl), s ≠ .un → (e.set i .un)[j]? = some s → j ≠ i ∧ e[j]? = some s := fun j s ns q => by
    by_cases hj : i = j
    · subst hj
      by_cases hi : i < e.length
      · rw [List.getElem?_set_self hi] at q; exact absurd (Option.some.inj q).symm ns
      · rw [List.getElem?_eq_none (by simpa using hi)] at q; cases q
    · rw [List.getElem?_set_ne hj] at q; exact ⟨fun z => hj z.symm, q⟩
  refine ⟨by simpa using I.len, fun j d q => I.fz j d (key j _ (by simp) q).2, fun j d q => I.ow j d (key j _ (by simp) q).2, fun j k d d' a q1 q2 => I.dj j k d d' a (key j _ (by simp) q1).2 (key k _ (by simp) q2).2, fun j a q => ?_, I.keep, I.al⟩
  obtain ⟨h1, h2, d, h3⟩ := I.pin j a q
  exact ⟨h1, h2, d, by rw [List.getElem?_set_ne (by omega)]; exact h3⟩
theorem js_v (i : Nat) {x : Str} (h : PE X (.Name x pos) (tVar i)) : JS X np W (.Name x pos) (mV np i) := by
  refine PEi h fun σ H Q ⟨P, B, H0, e, I, h⟩ => ?_
  unfold mV at h
  generalize he : e[i]? = s at h
  match s, h with
  | some (.fz d), h =>
    obtain ⟨v, h1, h2⟩ := I.fz i d he
    exact ⟨v, h1, h v H I h2 (.refl H)⟩
  | some (.own d), h =>
    by_cases hn : np ≤ i
    · dsimp only at h
      rw [if_pos hn] at h
      obtain ⟨a, h1, ow, z⟩ := I.ow i d he
      refine ⟨_, h1, h _ _ (I.drop hn) ⟨a, rfl, ow, z, fun j d' q z => ?_⟩ (.refl H)⟩
      by_cases hj : i = j
      · subst hj
        rw [List.getElem?_set_self (List.getElem?_eq_some_iff.mp he).1] at q; cases q
      · rw [List.getElem?_set_ne hj] at q
        exact hj (I.dj _ _ _ _ _ he q h1 z)
    · dsimp only at h
      rw [if_neg hn] at h; exact h.elim
  | some .un, h => exact h.elim
  | none, h => exact h.elim
end
end VS

set_option Elab.async false
set_option linter.all false
set_option maxRecDepth 100000
set_option maxHeartbeats 1000000
/-! VS3: operators, comparisons, subscripts, displays, calls of built-ins. -/
namespace VS
open PySem L2 PyProof.Rows

/-- what an operation on values gives: the heap grows by new objects alone -/
def Res (K : PySem.W.Frag) (H : Hp) (s : Sl) (Q : VK) : Prop := match s with
  | .un => False
  | .fz d => ∀ v H', (∀ b o, H b = some o → H' b = some o) → Fz K H' v d → Q v H'
  | .own d => ∀ a H', (∀ b o, H b = some o → H' b = some o) → Ow K H' a d → H a = none → Q (.ref a) H'
section
variable {K : PySem.W.Frag} {np : Nat} {P : Addr → Prop} {B : List (Nat × Addr)} {H0 H H' H1 H2 : Hp} {e e1 e2 : Fr} {σ : L2.St}
theorem rO.rr' {Z : Addr → Prop} {o : Opd} {v : V} {d : PV} (I : VI K np P B H0 e2 σ H2) (r : rO K Z o e1 σ H1 v) (l : HLe H1 H2) (g : o.get e2 = some d) : Rr K H2 v d := by
  cases o with
  | val d' => cases g; exact .inl (Fz.le l r)
  | pl i =>
    obtain ⟨h1, _⟩ := r
    cases he : e2[i]? with
    | none => simp [Opd.get, he] at g
    | some s =>
      cases s with
      | un => simp [Opd.get, he] at g
      | fz d' =>
        simp [Opd.get, he] at g
        subst g
        obtain ⟨v', a, b⟩ := I.fz i _ he
        rw [h1] at a; cases a; exact .inl b
      | own d' =>
        simp [Opd.get, he] at g
        subst g
        obtain ⟨a, x, y, _⟩ := I.ow i _ he
        rw [h1] at x; cases x; exact .inr ⟨a, rfl, y⟩
theorem Res.of {W : WX} {s : Sl} {Q : VK} (I : VI K np P B H0 e σ H) (h : PostG K np W P B H0 (rS K) σ H (.ok s e) Q) : Res K H s Q ∨ s = .un := by
  cases s with
  | un => exact .inr rfl
  | fz d => exact .inl fun v H' k f => h v H' (I.same k) f (.same k)
  | own d =>
    refine .inl fun a H' k f n => h _ H' (I.same k) ⟨a, rfl, f, .inr (I.fresh n), fun j d' q z => ?_⟩ (.same k)
    obtain ⟨b, x, y, _⟩ := I.ow j d' q
    rw [z] at x; cases x
    obtain ⟨u, hu, _⟩ := y.at
    rw [hu] at n; cases n
end

/-- f says what r gives -/
def F2 (K : PySem.W.Frag) (r : R2) (f : PV → PV → Option Sl) : Prop := ∀ H x y d1 d2 s Q, Rr K H x d1 → Rr K H y d2 → f d1 d2 = some s → s ≠ .un → Res K H s Q → r x y H Q
def sl? (o : Option Sl) : Mo Sl := fun e => match o with
  | some .un => .stuck
  | some s => .ok s e
  | none => .stuck
def mOp2 (f : PV → PV → Option Sl) (ma mb : Mo Opd) : Mo Sl := mB ma fun a => mB mb fun b e => sl? ((a.get e).bind fun x => (b.get e).bind fun y => f x y) e
def mOp1 (f : PV → Option Sl) (ma : Mo Opd) : Mo Sl := mB ma fun a e => sl? ((a.get e).bind f) e
def mT (m : Mo Sl) : Mo Bool := mB m fun s => match s with
  | .fz (.bl c) => mR c
  | _ => fun _ => .stuck
section
variable {X : Cx} {np : Nat} {W : WX} {a b c : Expr} {pos : Pos} {ma mb mc : Mo Opd} {f : PV → PV → Option Sl}
theorem op2_of {r : R2} (hf : F2 X.K r f) {σ : L2.St} {H : Hp} {Q : VK} (h : tG X.K np W (rS X.K) (mOp2 f ma mb) σ H Q) : tOp r (tG X.K np W (rO X.K) ma) (tG X.K np W (rO X.K) mb) σ H Q := by
  refine tG.bind h fun P B H0 x e1 v H1 I1 r1 l1 h => ?_
  refine tG.bind (tG.of I1 h) fun P B H0 y e2 u H2 I2 r2 l2 h => ?_
  try dsimp only at h
  generalize h3 : x.get e2 = d1 at h
  generalize h4 : y.get e2 = d2 at h
  cases d1 with
  | none => exact h.elim
  | some d1 =>
    cases d2 with
    | none => exact h.elim
    | some d2 =>
      simp only [Option.bind_some] at h
      generalize h5 : f d1 d2 = o at h
      match o, h with
      | none, h => exact h.elim
      | some .un, h => exact h.elim
      | some (.fz d), h =>
        rcases Res.of I2 h with q | q
        · exact hf H2 v u d1 d2 _ Q (rO.rr' I2 r1 l2 h3) (rO.rr' I2 r2 (.refl _) h4) h5 (by simp) q
        · cases q
      | some (.own d), h =>
        rcases Res.of I2 h with q | q
        · exact hf H2 v u d1 d2 _ Q (rO.rr' I2 r1 l2 h3) (rO.rr' I2 r2 (.refl _) h4) h5 (by simp) q
        · cases q
theorem js_op {op : Operator} {r : R2} (ho : OpR X (binaryOp op) r) (hf : F2 X.K r f) (ha : JO X np W a ma) (hb : JO X np W b mb) : JS X np W (.BinOp a op b pos) (mOp2 f ma mb) :=
  PEi (pe_op ho ha hb) fun _ _ _ h => op2_of hf h
theorem js_ix {r : R2} (ho : IxR X r) (hf : F2 X.K r f) (ha : JO X np W a ma) (hb : JO X np W b mb) (hs : PlainIx b := by exact fun _ _ => rfl) : JS X np W (.Subscript a b pos) (mOp2 f ma mb) :=
  PEi (pe_ix ho ha hb hs) fun _ _ _ h => op2_of hf h
theorem js_cmp {op : CmpOp} {r : R2} (ho : OpR X (compareOp op) r) (hf : F2 X.K r f) (ha : JO X np W a ma) (hb : JO X np W b mb) (hm : behindInMarks op b = false) : JS X np W (.Compare a [op] [b] pos) (mOp2 f ma mb) :=
  PEi (pe_cmpR ho ha hb hm) fun _ _ _ h => op2_of hf h
theorem tT_of {m : Mo Sl} {σ : L2.St} {H : Hp} {Q : Bool → Hp → Prop} (h : tG X.K np W rB (mT m) σ H Q) : tG X.K np W (rS X.K) m σ H (fun v H' => ∃ k, v = .bl k ∧ Q k H') := by
  refine tG.bind h fun P B H0 s e1 v H1 I r l h => ?_
  match s, h with
  | .fz (.bl k), h =>
    have z : Fz X.K H1 v (.bl k) := r
    cases z
    exact ⟨k, rfl, h k H1 I rfl (.refl _)⟩
  | .un, h => exact h.elim
  | .own _, h => exact h.elim
  | .fz .non, h => exact h.elim
  | .fz (.int _), h => exact h.elim
  | .fz (.str _), h => exact h.elim
  | .fz (.tup _), h => exact h.elim
  | .fz (.lst _), h => exact h.elim
  | .fz (.scr _), h => exact h.elim
  | .fz (.obj _ _), h => exact h.elim
  | .fz (.ad _), h => exact h.elim
  | .fz .any, h => exact h.elim
theorem jt_cmp {op : CmpOp} {r : R2} (ho : OpR X (compareOp op) r) (hf : F2 X.K r f) (ha : JO X np W a ma) (hb : JO X np W b mb) (hm : behindInMarks op b = false) : JT X np W (.Compare a [op] [b] pos) (mT (mOp2 f ma mb)) :=
  PTi (pt_cmpR ho ha hb hm) fun _ _ _ h => op2_of hf (tT_of h)
/-- a value that is a bool, as a test -/
theorem jt_val {e : Expr} {m : Mo Sl} (h : JS X np W e m) (he : ∀ whole, isTrue e X.env whole = (do let v ← whole; standAt e.pos; holding [v] (truthy v)) := by intro _; rfl) : JT X np W e (mT m) :=
  PTi (pt_val h he) fun _ _ _ h => tT_of h

/-! ### and, or, not, if else -/
def mAnd (a b : Mo Bool) : Mo Bool := mB a fun c => if c then b else mR false
def mOr (a b : Mo Bool) : Mo Bool := mB a fun c => if c then mR true else b
def mNot (a : Mo Bool) : Mo Bool := mB a fun c => mR !c
variable {ta tb : Mo Bool} {rest : List Expr}
theorem jw_and1 (h : JT X np W a ta) : JW X np W (.BoolOp .And [a] pos) ta := pw_and1 h
theorem jw_or1 (h : JT X np W a ta) : JW X np W (.BoolOp .Or [a] pos) ta := pw_or1 h
theorem jw_and (ha : JT X np W a ta) (hb : JW X np W (.BoolOp .And (b :: rest) pos) tb) : JW X np W (.BoolOp .And (a :: b :: rest) pos) (mAnd ta tb) := by
  refine PWi (pw_and ha hb) fun σ H Q h => tG.bind h fun P B H0 x e1 v H1 I r l h => ?_
  cases r
  cases x with
  | true => exact tG.of I h
  | false => exact h false H1 I rfl (.refl _)
theorem jw_or (ha : JT X np W a ta) (hb : JW X np W (.BoolOp .Or (b :: rest) pos) tb) : JW X np W (.BoolOp .Or (a :: b :: rest) pos) (mOr ta tb) := by
  refine PWi (pw_or ha hb) fun σ H Q h => tG.bind h fun P B H0 x e1 v H1 I r l h => ?_
  cases r
  cases x with
  | false => exact tG.of I h
  | true => exact h true H1 I rfl (.refl _)
theorem jt_w {e : Expr} {m : Mo Bool} (h : JW X np W e m) : JT X np W e m := PW.pt h
theorem jt_not (ha : JT X np W a ta) : JT X np W (.UnaryOp .Not a pos) (mNot ta) := by
  refine PTi (pt_not ha) fun σ H Q h => tG.bind h fun P B H0 x e1 v H1 I r l h => ?_
  cases r
  exact h _ H1 I rfl (.refl _)
/-- as values: bools -/
def mAndV (a b : Mo Sl) : Mo Sl := mB (mT a) fun c => if c then b else mR (.fz (.bl false))
def mOrV (a b : Mo Sl) : Mo Sl := mB (mT a) fun c => if c then mR (.fz (.bl true)) else b
def mNotV (a : Mo Sl) : Mo Sl := mB (mT a) fun c => mR (.fz (.bl !c))
variable {sa sb : Mo Sl}
theorem mTB {α : Type} {m : Mo Sl} {k : Bool → Mo α} {β : Type} {R : RelR α β} {σ : L2.St} {H : Hp} {Q : β → Hp → Prop} {Q' : V → Hp → Prop} (h : tG X.K np W R (mB (mT m) k) σ H Q)
    (hk : ∀ P B H0 c e1 H1, VI X.K np P B H0 e1 σ H1 → HLe H H1 → PostG X.K np W P B H0 R σ H1 (k c e1) Q → Q' (.bl c) H1) : tG X.K np W (rS X.K) m σ H Q' := by
  have h' : tG X.K np W R (mB m fun s => mB (match s with | .fz (.bl c) => mR c | _ => fun _ => .stuck) k) σ H Q := by
    obtain ⟨P, B, H0, e, I, h⟩ := h
    refine ⟨P, B, H0, e, I, ?_⟩
    unfold mT mB at h
    unfold mB
    generalize m e = o at h ⊢
    cases o <;> exact h
  refine tG.bind h' fun P B H0 s e1 v H1 I r l h => ?_
  match s, h with
  | .fz (.bl c), h =>
    have z : Fz X.K H1 v (.bl c) := r
    cases z
    exact hk P B H0 c e1 H1 I l h
  | .un, h => exact h.elim
  | .own _, h => exact h.elim
  | .fz .non, h => exact h.elim
  | .fz (.int _), h => exact h.elim
  | .fz (.str _), h => exact h.elim
  | .fz (.tup _), h => exact h.elim
  | .fz (.lst _), h => exact h.elim
  | .fz (.scr _), h => exact h.elim
  | .fz (.obj _ _), h => exact h.elim
  | .fz (.ad _), h => exact h.elim
  | .fz .any, h => exact h.elim
theorem js_one {op} {m : Mo Sl} (h : JS X np W a m) : JS X np W (.BoolOp op [a] pos) m := pe_one h
theorem js_and (ha : JS X np W a sa) (hb : JS X np W (.BoolOp .And (b :: rest) pos) sb) : JS X np W (.BoolOp .And (a :: b :: rest) pos) (mAndV sa sb) := by
  refine PEi (pe_and ha hb) fun σ H Q h => mTB h fun P B H0 c e1 H1 I l h => ⟨c, rfl, ?_⟩
  cases c with
  | true => exact tG.of I h
  | false => exact h _ H1 I (.bl false) (.refl _)
theorem js_or (ha : JS X np W a sa) (hb : JS X np W (.BoolOp .Or (b :: rest) pos) sb) : JS X np W (.BoolOp .Or (a :: b :: rest) pos) (mOrV sa sb) := by
  refine PEi (pe_or ha hb) fun σ H Q h => mTB h fun P B H0 c e1 H1 I l h => ⟨c, rfl, ?_⟩
  cases c with
  | false => exact tG.of I h
  | true => exact h _ H1 I (.bl true) (.refl _)
theorem js_not (ha : JS X np W a sa) : JS X np W (.UnaryOp .Not a pos) (mNotV sa) := by
  refine PEi (pe_not ha) fun σ H Q h => mTB h fun P B H0 c e1 H1 I l h => ⟨c, rfl, ?_⟩
  exact h _ H1 I (.bl _) (.refl _)
def mIf (t : Mo Bool) (a b : Mo Sl) : Mo Sl := mB t fun c => if c then a else b
theorem js_if {c : Expr} {t : Mo Bool} (hc : JT X np W c t) (ha : JS X np W a sa) (hb : JS X np W b sb) : JS X np W (.IfExp c a b pos) (mIf t sa sb) := by
  refine PEi (pe_ifExp hc ha hb) fun σ H Q h => tG.bind h fun P B H0 x e1 v H1 I r l h => ?_
  cases r
  cases x with
  | true => exact tG.of I h
  | false => exact tG.of I h

/-! ### argument lists, displays -/
def mNil : Mo (List PV) := mR []
def mCons (m : Mo PV) (r : Mo (List PV)) : Mo (List PV) := mB m fun d => mB r fun ds => mR (d :: ds)
theorem ja_nil : JA X np W [] mNil := PAi pa_nil fun σ H Q ⟨P, B, H0, e, I, h⟩ => h [] H I .nil (.refl H)
theorem ja_cons {e : Expr} {es : List Expr} {m : Mo PV} {r : Mo (List PV)} (ha : JE X np W e m) (hr : JA X np W es r) (hs : starEach (e :: es) X.env = (false, eval e X.env) :: starEach es X.env := by rfl) : JA X np W (e :: es) (mCons m r) := by
  refine PAi (pa_cons ha hr hs) fun σ H Q h => tG.bind h fun P B H0 x e1 v H1 I r l h => ?_
  refine tG.bind (tG.of I h) fun P B H0 y e2 u H2 I2 r2 l2 h => ?_
  exact h _ H2 I2 (.cons (Fz.le l2 r) r2) (.refl _)
def mTup (m : Mo (List PV)) : Mo Sl := mB m fun ds => if ds.length ≤ sizeLine then mR (.fz (.tup ds)) else fun _ => .stuck
def mLst (m : Mo (List PV)) : Mo Sl := mB m fun ds => if ds.length ≤ sizeLine then mR (.own (.lst ds)) else fun _ => .stuck
theorem js_tup {es : List Expr} {x1} {m : Mo (List PV)} (h : JA X np W es m) : JS X np W (.Tuple es x1 pos) (mTup m) := by
  refine PEi (pe_tup h) fun σ H Q h => tG.bind h fun P B H0 ds e1 vs H1 I r l h => ?_
  have hl : vs.length = ds.length := FzA.length r
  by_cases hz : ds.length ≤ sizeLine
  · rw [if_pos hz] at h
    refine ⟨by omega, fun p hp => h _ _ (I.alloc hp) ?_ (.alloc hp)⟩
    exact .tup (SqT.of upd_same) (FzA.le (.alloc hp) r)
  · rw [if_neg hz] at h; exact h.elim
theorem js_lst {es : List Expr} {m : Mo (List PV)} (h : JA X np W es m) : JS X np W (.List es pos) (mLst m) := by
  refine PEi (pe_lst h) fun σ H Q h => tG.bind h fun P B H0 ds e1 vs H1 I r l h => ?_
  have hl : vs.length = ds.length := FzA.length r
  by_cases hz : ds.length ≤ sizeLine
  · rw [if_pos hz] at h
    refine ⟨by omega, fun p hp => ?_⟩
    rcases Res.of I h with q | q
    · exact q p _ (fun b u z => by rw [upd_ne (ne_of_none z hp)]; exact z) ⟨_, upd_same, FzA.le (.alloc hp) r⟩ hp
    · cases q
  · rw [if_neg hz] at h; exact h.elim

/-! ### calls of built-ins: operands in a row -/
def rOs (K : PySem.W.Frag) : RelR (List Opd) (List V) := fun Z os e σ H vs => Paired (fun o v => rO K Z o e σ H v) os vs
def gets (os : List Opd) (e : Fr) : Option (List PV) := match os with
  | [] => some []
  | o :: r => (o.get e).bind fun d => (gets r e).map fun ds => d :: ds
/-- one operand -/
def F1 (K : PySem.W.Frag) (r : List V → Hp → VK → Prop) (f : PV → Option Sl) : Prop := ∀ H x d1 s Q, Rr K H x d1 → f d1 = some s → s ≠ .un → Res K H s Q → r [x] H Q
theorem op1_of {r : List V → Hp → VK → Prop} {f : PV → Option Sl} (hf : F1 X.K r f) {σ : L2.St} {H : Hp} {Q : VK} (h : tG X.K np W (rS X.K) (mOp1 f ma) σ H Q) : tG X.K np W (rO X.K) ma σ H (fun v H1 => r [v] H1 Q) := by
  refine tG.bind h fun P B H0 x e1 v H1 I1 r1 l1 h => ?_
  try dsimp only at h
  generalize h3 : x.get e1 = d1 at h
  cases d1 with
  | none => exact h.elim
  | some d1 =>
    simp only [Option.bind_some] at h
    generalize h5 : f d1 = o at h
    match o, h with
    | none, h => exact h.elim
    | some .un, h => exact h.elim
    | some (.fz d), h =>
      rcases Res.of I1 h with q | q
      · exact hf H1 v d1 _ Q (rO.rr' I1 r1 (.refl _) h3) h5 (by simp) q
      · cases q
    | some (.own d), h =>
      rcases Res.of I1 h with q | q
      · exact hf H1 v d1 _ Q (rO.rr' I1 r1 (.refl _) h3) h5 (by simp) q
      · cases q
theorem js_b1 {x : Str} {id : String} {p : Pos} {r : List V → Hp → VK → Prop} {f : PV → Option Sl} (hc : CallR X (.builtin id) r) (hf : F1 X.K r f) (ha : JO X np W a ma) (hm : X.mg x = none) (hv : bootBuiltins x = some (.builtin id)) (hg : Gl X x := by rfl) (hn : x ≠ "__name__" := by decide) (hdb : (x == ("__debug__" : Str)) = false := by decide)
    (he : starEach [a] X.env = (false, eval a X.env) :: starEach [] X.env := by rfl) (hpl : (backTo pos (starEach [] X.env)).any (·.1) = false := by rfl) : JS X np W (.Call (.Name x p) [a] [] pos) (mOp1 f ma) :=
  PEi (pe_callB hc hg hm hv (pa_cons ha pa_nil he) hn hdb he hpl) fun _ _ _ h => op1_of hf h
theorem js_t1 {x : Str} {T : String} {p : Pos} {r : List V → Hp → VK → Prop} {f : PV → Option Sl} (hc : CallR X (.type T) r) (hf : F1 X.K r f) (ha : JO X np W a ma) (hm : X.mg x = none) (hv : bootBuiltins x = some (.type T)) (hg : Gl X x := by rfl) (hn : x ≠ "__name__" := by decide) (hdb : (x == ("__debug__" : Str)) = false := by decide)
    (he : starEach [a] X.env = (false, eval a X.env) :: starEach [] X.env := by rfl) (hpl : (backTo pos (starEach [] X.env)).any (·.1) = false := by rfl) : JS X np W (.Call (.Name x p) [a] [] pos) (mOp1 f ma) :=
  PEi (pe_callTy hc hg hm hv (pa_cons ha pa_nil he) hn hdb he hpl) fun _ _ _ h => op1_of hf h
end
end VS

set_option Elab.async false
set_option linter.all false
set_option maxRecDepth 100000
set_option maxHeartbeats 1000000
/-! VS4: statements, targets, what is walked, loops, list comprehensions. -/
namespace VS
open PySem L2 PyProof.Rows

inductive OutS where
  | nx (e : Fr) | ret (s : Sl) (e : Fr) | brk (e : Fr) | cont (e : Fr) | exc (C : Addr) (ds : List (Str × PV)) (e : Fr) | stuck
abbrev MS := Fr → OutS
section
variable (K : PySem.W.Frag) (np : Nat) (W : WX)
def PostS (P : Addr → Prop) (B : List (Nat × Addr)) (H0 : Hp) (H : Hp) (o : OutS) (D : Ends) : Prop := match o with
  | .nx e' => ∀ σ' H', VI K np P B H0 e' σ' H' → HLe H H' → D.nx σ' H'
  | .brk e' => ∀ σ' H', VI K np P B H0 e' σ' H' → HLe H H' → D.bk σ' H'
  | .cont e' => ∀ σ' H', VI K np P B H0 e' σ' H' → HLe H H' → D.ct σ' H'
  | .ret s e' => ∀ v σ' H', VI K np P B H0 e' σ' H' → rS K (fun a => P a ∨ H0 a = none) s e' σ' H' v → HLe H H' → D.rt v H'
  | .exc C ds e' => ∀ x σ' H', VI K np P B H0 e' σ' H' → ExD K H' x ds → HLe H H' → W (.ref C) x σ' H'
  | .stuck => False
def tS (m : MS) : TS := fun D σ H => ∃ P B H0 e, VI K np P B H0 e σ H ∧ PostS K np W P B H0 H (m e) D
end
section
variable {K : PySem.W.Frag} {np : Nat} {W : WX}
theorem PostS.le {P : Addr → Prop} {B : List (Nat × Addr)} {H0 H H1 : Hp} {o : OutS} {D : Ends} (l : HLe H H1) (h : PostS K np W P B H0 H o D) : PostS K np W P B H0 H1 o D := by
  cases o with
  | nx e' => exact fun σ' H' I l' => h σ' H' I (l.trans l')
  | brk e' => exact fun σ' H' I l' => h σ' H' I (l.trans l')
  | cont e' => exact fun σ' H' I l' => h σ' H' I (l.trans l')
  | ret s e' => exact fun v σ' H' I r l' => h v σ' H' I r (l.trans l')
  | exc C ds e' => exact fun x σ' H' I r l' => h x σ' H' I r (l.trans l')
  | stuck => exact h
def mS {α : Type} (m : Mo α) (k : α → MS) : MS := fun e => match m e with
  | .ok a e' => k a e'
  | .exc C ds e' => .exc C ds e'
  | .stuck => .stuck
theorem tS.bind {α β : Type} {R : RelR α β} {m : Mo α} {k : α → MS} {σ : L2.St} {H : Hp} {D : Ends} {Q : β → Hp → Prop} (h : tS K np W (mS m k) D σ H)
    (hk : ∀ P B H0 a e1 b H1, VI K np P B H0 e1 σ H1 → R (fun a => P a ∨ H0 a = none) a e1 σ H1 b → HLe H H1 → PostS K np W P B H0 H1 (k a e1) D → Q b H1) : tG K np W R m σ H Q := by
  obtain ⟨P, B, H0, e, I, h⟩ := h
  refine ⟨P, B, H0, e, I, ?_⟩
  unfold mS at h
  generalize m e = o at h ⊢
  cases o with
  | ok a e' => exact fun b H' I' r l' => hk P B H0 a e' b H' I' r l' (PostS.le l' h)
  | exc C ds e' => exact fun x H' I' r l' => h x σ H' I' r l'
  | stuck => exact h
theorem tS.of {m : MS} {σ : L2.St} {H : Hp} {D : Ends} {P : Addr → Prop} {B : List (Nat × Addr)} {H0 : Hp} {e : Fr} (I : VI K np P B H0 e σ H) (h : PostS K np W P B H0 H (m e) D) : tS K np W m D σ H := ⟨P, B, H0, e, I, h⟩
end
theorem PSi {X : Cx} {st : Stmt} {t t' : TS} (p : PS X st t) (f : ∀ D σ H, t' D σ H → t D σ H) : PS X st t' := ⟨fun pins s σ H D I h => p.run pins s σ H D I (f D σ H h)⟩
theorem PSsi {X : Cx} {st : List Stmt} {t t' : TS} (p : PSs X st t) (f : ∀ D σ H, t' D σ H → t D σ H) : PSs X st t' := ⟨fun pins s σ H D I h => p.run pins s σ H D I (f D σ H h)⟩
abbrev JSt (X : Cx) (np : Nat) (W : WX) (st : Stmt) (m : MS) : Prop := PS X st (tS X.K np W m)
abbrev JB (X : Cx) (np : Nat) (W : WX) (st : List Stmt) (m : MS) : Prop := PSs X st (tS X.K np W m)

section
variable {X : Cx} {np : Nat} {W : WX} {a b c : Expr} {pos : Pos} {st : Stmt} {rest : List Stmt} {m m' : MS}
def sNx : MS := fun e => .nx e
def sSq (a b : MS) : MS := fun e => match a e with
  | .nx e' => b e'
  | o => o
theorem jb_nil : JB X np W [] sNx := PSsi pss_nil fun D σ H ⟨P, B, H0, e, I, h⟩ => h σ H I (.refl H)
theorem jb_cons (h1 : JSt X np W st m) (h2 : JB X np W rest m') : JB X np W (st :: rest) (sSq m m') := by
  refine PSsi (pss_cons h1 h2) fun D σ H ⟨P, B, H0, e, I, h⟩ => ⟨P, B, H0, e, I, ?_⟩
  unfold sSq at h
  generalize m e = o at h ⊢
  cases o with
  | nx e' => exact fun σ' H' I' l => tS.of I' (PostS.le l h)
  | ret s e' => exact h
  | brk e' => exact h
  | cont e' => exact h
  | exc C ds e' => exact h
  | stuck => exact h
theorem jb_one (h1 : JSt X np W st m) : JB X np W [st] m := pss_one h1
theorem jst_pass : JSt X np W (.Pass pos) sNx := PSi ps_pass fun D σ H ⟨P, B, H0, e, I, h⟩ => h σ H I (.refl H)
theorem jst_doc {x j pos'} : JSt X np W (.Expr (.Constant (.str x) j pos) pos') sNx := PSi ps_doc fun D σ H ⟨P, B, H0, e, I, h⟩ => h σ H I (.refl H)
def sBrk : MS := fun e => .brk e
def sCont : MS := fun e => .cont e
theorem jst_break : JSt X np W (.Break pos) sBrk := PSi ps_break fun D σ H ⟨P, B, H0, e, I, h⟩ => h σ H I (.refl H)
theorem jst_continue : JSt X np W (.Continue pos) sCont := PSi ps_continue fun D σ H ⟨P, B, H0, e, I, h⟩ => h σ H I (.refl H)
/-- a statement that the run does not come to -/
def sNo : MS := fun _ => .stuck
theorem jst_no : JSt X np W st sNo := PSi ps_never fun D σ H ⟨P, B, H0, e, I, h⟩ => h
theorem jb_no : JB X np W rest sNo := PSsi pss_never fun D σ H ⟨P, B, H0, e, I, h⟩ => h
def sDrop (m : Mo Sl) : MS := mS m fun _ => sNx
theorem jst_expr {m : Mo Sl} (h : JS X np W a m) (hs : swapsWith a none pos.line X.env = pure false := by rfl) : JSt X np W (.Expr a pos) (sDrop m) :=
  PSi (ps_expr h hs) fun D σ H h => tS.bind h fun P B H0 s e1 v H1 I r l h => h σ H1 I (.refl _)
def sRet (m : Mo Sl) : MS := mS m fun s e => .ret s e
theorem jst_ret {m : Mo Sl} (h : JS X np W a m) : JSt X np W (.Return (some a) pos) (sRet m) :=
  PSi (ps_ret h) fun D σ H h => tS.bind h fun P B H0 s e1 v H1 I r l h => h v σ H1 I r (.refl _)
def sRetN : MS := fun e => .ret (.fz .non) e
theorem jst_retN : JSt X np W (.Return none pos) sRetN := PSi ps_retN fun D σ H ⟨P, B, H0, e, I, h⟩ => h .non σ H I .non (.refl H)
def sIf (t : Mo Bool) (a b : MS) : MS := mS t fun c => if c then a else b
theorem jst_if {t : Mo Bool} {x y : List Stmt} (hc : JT X np W c t) (ha : JB X np W x m) (hb : JB X np W y m') : JSt X np W (.If c x y pos) (sIf t m m') := by
  refine PSi (ps_if hc ha hb) fun D σ H h => tS.bind h fun P B H0 v e1 d H1 I r l h => ?_
  cases r
  cases v with
  | true => exact tS.of I h
  | false => exact tS.of I h

/-- name = value -/
def sPut (np i : Nat) (s : Sl) : MS := fun e => match s with
  | .un => .stuck
  | .fz d => if np ≤ i then .nx (e.set i (.fz d)) else match e[i]? with
    | some (.fz _) => .nx (e.set i (.fz d))
    | _ => .stuck
  | .own d => if np ≤ i then .nx (e.set i (.own d)) else .stuck
theorem put_ok {P : Addr → Prop} {B : List (Nat × Addr)} {H0 H : Hp} {e : Fr} {σ : L2.St} {i : Nat} {s : Sl} {v : V} {D : Ends} (I : VI X.K np P B H0 e σ H) (r : rS X.K (fun a => P a ∨ H0 a = none) s e σ H v)
    (h : PostS X.K np W P B H0 H (sPut np i s e) D) : D.nx (σ.set i (some v)) H := by
  cases s with
  | un => exact h.elim
  | fz d =>
    unfold sPut at h
    by_cases hn : np ≤ i
    · dsimp only at h
      rw [if_pos hn] at h
      exact h _ _ (I.store (.inl hn) (fun d' z => by cases z; exact r) (fun d' z => nomatch z)) (.refl _)
    · dsimp only at h
      rw [if_neg hn] at h
      generalize he : e[i]? = q at h
      match q, h with
      | some (.fz d'), h => exact h _ _ (I.store (.inr fun d z => by rw [he] at z; cases z) (fun d' z => by cases z; exact r) (fun d' z => nomatch z)) (.refl _)
      | some .un, h => exact h.elim
      | some (.own _), h => exact h.elim
      | none, h => exact h.elim
  | own d =>
    unfold sPut at h
    by_cases hn : np ≤ i
    · dsimp only at h
      rw [if_pos hn] at h
      obtain ⟨a, rfl, ow, z, hh⟩ := r
      exact h _ _ (I.store (.inl hn) (fun d' z => nomatch z) (fun d' zz => by cases zz; exact ⟨hn, a, rfl, ow, z, fun j d' _ q => hh j d' q⟩)) (.refl _)
    · dsimp only at h
      rw [if_neg hn] at h; exact h.elim
def sSet (np i : Nat) (m : Mo Sl) : MS := mS m (sPut np i)
theorem jst_set {i : Nat} {x : Str} {m : Mo Sl} {pos' : Pos} (hN : X.N.Nodup) (h : JS X np W a m) (hi : X.N[i]? = some x := by rfl) (hx : Loc X.env.scope x := by first | exact Or.inl rfl | exact Or.inr rfl) (hs : swapsWith a (some (.Name x pos')) pos.line X.env = pure false := by rfl)
    (hf : X.fn x = true ∨ X.env.scope.names.lookup x = some .local := by first | exact .inl rfl | exact .inr rfl) : JSt X np W (.Assign [.Name x pos'] a pos) (sSet np i m) :=
  PSi (ps_set hN hi hx h hs hf) fun D σ H h => tS.bind h fun P B H0 s e1 v H1 I r l h => put_ok I r h

/-! ### targets -/
def Diff (ws : List Nat) (σ σ' : L2.St) : Prop := σ'.length = σ.length ∧ ∀ j, j ∉ ws → σ'[j]? = σ[j]?
abbrev MG := PV → Fr → Option Fr
def tTg (K : PySem.W.Frag) (np : Nat) (mg : MG) (ws : List Nat) : TG := fun v σ H Q => ∃ P B H0 e d, VI K np P B H0 e σ H ∧ Fz K H v d ∧ match mg d e with
  | some e' => ∀ σ', VI K np P B H0 e' σ' H → Diff ws σ σ' → Q σ' H
  | none => False
abbrev JG (X : Cx) (np : Nat) (tg : Expr) (mg : MG) (ws : List Nat) : Prop := PG X tg (tTg X.K np mg ws)
def gN (np i : Nat) : MG := fun d e => if np ≤ i then some (e.set i (.fz d)) else none
theorem PGi {X : Cx} {tg : Expr} {t t' : TG} (p : PG X tg t) (f : ∀ v σ H Q, t' v σ H Q → t v σ H Q) : PG X tg t' := ⟨fun pins s σ H v u Q I r h => p.run pins s σ H v u Q I r (f v σ H Q h)⟩
theorem jg_n {i : Nat} {x : Str} (hN : X.N.Nodup) (hi : X.N[i]? = some x := by rfl) (hx : Loc X.env.scope x := by first | exact Or.inl rfl | exact Or.inr rfl) (hf : X.fn x = true ∨ X.env.scope.names.lookup x = some .local := by first | exact .inl rfl | exact .inr rfl) : JG X np (.Name x pos) (gN np i) [i] := by
  refine PGi (pg_name hN hi hx hf) fun v σ H Q ⟨P, B, H0, e, d, I, f, h⟩ => ?_
  unfold gN at h
  by_cases hn : np ≤ i
  · rw [if_pos hn] at h
    refine h _ (I.store (.inl hn) (fun d' z => by cases z; exact f) (fun d' z => nomatch z)) ⟨by simp, fun j hj => ?_⟩
    exact List.getElem?_set_ne (fun z => hj (by simp [z]))
  · rw [if_neg hn] at h; exact h.elim
abbrev MGs := List PV → Fr → Option Fr
def tTgs (K : PySem.W.Frag) (np : Nat) (mg : MGs) (ws : List Nat) : TGs := fun vs σ H Q => ∃ P B H0 e ds, VI K np P B H0 e σ H ∧ FzA K H vs ds ∧ match mg ds e with
  | some e' => ∀ σ', VI K np P B H0 e' σ' H → Diff ws σ σ' → Q σ' H
  | none => False
abbrev JGs (X : Cx) (np : Nat) (tgs : List Expr) (mg : MGs) (ws : List Nat) : Prop := PGs X tgs (tTgs X.K np mg ws)
theorem PGsi {X : Cx} {tg : List Expr} {t t' : TGs} (p : PGs X tg t) (f : ∀ v σ H Q, t' v σ H Q → t v σ H Q) : PGs X tg t' := ⟨fun pins s σ H v u Q I r h => p.run pins s σ H v u Q I r (f v σ H Q h)⟩
def gNl : MGs := fun ds e => match ds with
  | [] => some e
  | _ => none
def gCn (g : MG) (r : MGs) : MGs := fun ds e => match ds with
  | [] => none
  | d :: ds => match g d e with
    | some e' => r ds e'
    | none => none
theorem jgs_nil : JGs X np [] gNl [] := by
  refine PGsi pgs_nil fun v σ H Q ⟨P, B, H0, e, d, I, f, h⟩ => ?_
  cases f with
  | nil => exact ⟨rfl, h σ I ⟨rfl, fun _ _ => rfl⟩⟩
  | cons _ _ => exact h.elim
theorem jgs_cons {e : Expr} {es : List Expr} {g : MG} {r : MGs} {w1 w2 : List Nat} (h1 : JG X np e g w1) (h2 : JGs X np es r w2)
    (hs : (assignEach (e :: es) X.env).map (·.2) = assign e X.env :: (assignEach es X.env).map (·.2) := by rfl) : JGs X np (e :: es) (gCn g r) (w1 ++ w2) := by
  refine PGsi (pgs_cons h1 h2 hs) fun v σ H Q ⟨P, B, H0, e, ds, I, f, h⟩ => ?_
  cases f with
  | nil => exact h.elim
  | @cons v d vs ds f1 f2 =>
    refine ⟨v, vs, rfl, P, B, H0, e, d, I, f1, ?_⟩
    unfold gCn at h
    dsimp only at h
    generalize g d e = o at h ⊢
    cases o with
    | none => exact h.elim
    | some e1 =>
      refine fun σ1 I1 df => ⟨P, B, H0, e1, ds, I1, f2, ?_⟩
      dsimp only at h
      generalize r ds e1 = o2 at h ⊢
      cases o2 with
      | none => exact h.elim
      | some e2 =>
        refine fun σ2 I2 df2 => h σ2 I2 ⟨df2.1.trans df.1, fun j hj => ?_⟩
        rw [df2.2 j fun z => hj (List.mem_append_right _ z), df.2 j fun z => hj (List.mem_append_left _ z)]
def gTp (n : Nat) (r : MGs) : MG := fun d e => match d with
  | .tup ds => if ds.length = n then r ds e else none
  | _ => none
theorem jg_tup {es : List Expr} {k : Nat} {r : MGs} {n : Nat} {ws : List Nat} (hc : X.calm = true) (h : JGs X np es r ws)
    (hn : (assignEach es X.env).length = n := by rfl) (hst : (assignEach es X.env).findIdx? (·.1) = none := by rfl) : JG X np (.Tuple es k pos) (gTp n r) ws := by
  refine PGi (pg_tup hc h hn hst) fun v σ H Q ⟨P, B, H0, e, d, I, f, h⟩ => ?_
  cases f with
  | @tup a xs ds hq hf =>
    unfold gTp at h
    dsimp only at h
    by_cases hl : ds.length = n
    · rw [if_pos hl] at h
      exact ⟨a, xs, rfl, hq, by rw [hf.length, hl], P, B, H0, e, ds, I, hf, h⟩
    · rw [if_neg hl] at h; exact h.elim
  | _ => exact h.elim
/-- target = value, for a row of targets -/
def sTgt (g : MG) (m : Mo PV) : MS := mS m fun d e => match g d e with
  | some e' => .nx e'
  | none => .stuck
theorem jst_tgt {tg : Expr} {g : MG} {ws : List Nat} {m : Mo PV} (he : JE X np W a m) (hg : JG X np tg g ws) (hs : swapsWithSole [tg] a pos.line X.env = pure false := by rfl) (hw : swappedStores [tg] a X.env = pure none := by rfl)
    (h1 : (assignEach [tg] X.env).map (·.2) = [assign tg X.env] := by rfl) : JSt X np W (.Assign [tg] a pos) (sTgt g m) := by
  refine PSi (ps_asg he hg hs hw h1) fun D σ H h => tS.bind h fun P B H0 d e1 v H1 I r l h => ⟨P, B, H0, e1, d, I, r, ?_⟩
  generalize g d e1 = o at h ⊢
  cases o with
  | none => exact h.elim
  | some e2 => exact fun σ2 I2 _ => h σ2 H1 I2 (.refl _)

/-! ### what is walked -/
/-- J hands out ds, one after another, whatever new things come meanwhile -/
def ItOk (K : PySem.W.Frag) (J : It) (ds : List PV) (H : Hp) : Prop := ∀ i H', HLe H H' →
  (∀ d, ds[i]? = some d → J.go i H' ∧ ∀ x H'', J.yld i H' x H'' → Fz K H'' x d ∧ ∀ b o, H' b = some o → H'' b = some o) ∧ (ds.length ≤ i → J.stop i H')
def rI (K : PySem.W.Frag) : RelR (List PV) It := fun _ ds _ _ H J => ItOk K J ds H
abbrev JI (X : Cx) (np : Nat) (W : WX) (tg iter : Expr) (mi : Mo (List PV)) : Prop := PI X tg iter (tG X.K np W (rI X.K) mi)
theorem PIi {X : Cx} {tg iter : Expr} {t t' : TI} (p : PI X tg iter t) (f : ∀ σ H R, t' σ H R → t σ H R) : PI X tg iter t' := ⟨fun pins s σ H R I h => p.run pins s σ H R I (f σ H R h)⟩
def iL (m : Mo PV) : Mo (List PV) := mB m fun d => match d with
  | .lst ds => mR ds
  | .scr ds => mR ds
  | _ => fun _ => .stuck
def iT (m : Mo PV) : Mo (List PV) := mB m fun d => match d with
  | .tup ds => mR ds
  | _ => fun _ => .stuck
variable {tg : Expr}
theorem ji_list {m : Mo PV} (h : JE X np W a m) : JI X np W tg a (iL m) := by
  refine PIi (pi_list h) fun σ H R h => tG.bind h fun P B H0 d e1 v H1 I r l h => ?_
  cases d with
  | lst ds =>
    cases r with
    | @lst a xs _ h1 h2 =>
      refine ⟨a, rfl, ⟨xs, h1.sq⟩, h _ H1 I (fun i H' l' => ?_) (.refl _)⟩
      refine ⟨fun d e => ?_, fun e => ⟨xs, (h1.le l').sq, by rw [h2.length]; exact e⟩⟩
      obtain ⟨y, e1, e2⟩ := h2.get e
      refine ⟨⟨xs, y, (h1.le l').sq, e1⟩, fun x H'' ⟨e3, e4⟩ => ?_⟩
      subst e3
      have e5 := e4 xs (h1.le l').sq
      rw [e1] at e5; cases e5
      exact ⟨e2.le l', fun _ _ z => z⟩
  | scr ds =>
    cases r with
    | @scr a xs _ h1 h2 =>
      refine ⟨a, rfl, ⟨xs, h1.sq⟩, h _ H1 I (fun i H' l' => ?_) (.refl _)⟩
      refine ⟨fun d e => ?_, fun e => ⟨xs, (h1.le l').sq, by rw [h2.length]; exact e⟩⟩
      obtain ⟨y, e1, e2⟩ := h2.get e
      refine ⟨⟨xs, y, (h1.le l').sq, e1⟩, fun x H'' ⟨e3, e4⟩ => ?_⟩
      subst e3
      have e5 := e4 xs (h1.le l').sq
      rw [e1] at e5; cases e5
      exact ⟨e2.le l', fun _ _ z => z⟩
  | _ => exact h.elim
theorem ji_tup {m : Mo PV} (h : JE X np W a m) : JI X np W tg a (iT m) := by
  refine PIi (pi_tup h) fun σ H R h => tG.bind h fun P B H0 d e1 v H1 I r l h => ?_
  cases d with
  | tup ds =>
    cases r with
    | @tup a xs _ h1 h2 =>
      refine ⟨a, rfl, ⟨xs, h1⟩, h _ H1 I (fun i H' l' => ?_) (.refl _)⟩
      refine ⟨fun d e => ?_, fun e => ⟨xs, SqT.le l' h1, by rw [h2.length]; exact e⟩⟩
      obtain ⟨y, e1, e2⟩ := h2.get e
      refine ⟨⟨xs, y, SqT.le l' h1, e1⟩, fun x H'' ⟨e3, e4⟩ => ?_⟩
      subst e3
      have e5 := e4 xs (SqT.le l' h1)
      rw [e1] at e5; cases e5
      exact ⟨e2.le l', fun _ _ z => z⟩
  | _ => exact h.elim
def rangeL (lo hi : Int) : List PV := (List.range (hi - lo).toNat).map fun (k : Nat) => .int (lo + (k : Int))
theorem rangeL_get {lo hi : Int} {i : Nat} {d : PV} (h : (rangeL lo hi)[i]? = some d) : i < (hi - lo).toNat ∧ d = .int (lo + i) := by
  unfold rangeL at h
  rw [List.getElem?_map] at h
  cases e : (List.range (hi - lo).toNat)[i]? with
  | none => rw [e] at h; cases h
  | some k =>
    rw [e] at h; cases h
    obtain ⟨h1, h2⟩ := List.getElem?_eq_some_iff.mp e
    simp at h1 h2
    subst h2
    exact ⟨by omega, rfl⟩
theorem rangeL_len (lo hi : Int) : (rangeL lo hi).length = (hi - lo).toNat := by simp [rangeL]
theorem ItOk.range {K : PySem.W.Frag} {lo hi : Int} {H : Hp} : ItOk K (Itr lo (hi - lo).toNat) (rangeL lo hi) H := fun i H' l => by
  refine ⟨fun d e => ?_, fun e => by rw [rangeL_len] at e; exact e⟩
  obtain ⟨h1, rfl⟩ := rangeL_get e
  exact ⟨h1, fun x H'' ⟨e1, e2⟩ => by subst e1; subst e2; exact ⟨.int _, fun _ _ z => z⟩⟩
def inR (i : Int) : Bool := decide (-(2 ^ 62) ≤ i) && decide (i < 2 ^ 62)
def iR1 (m : Mo PV) : Mo (List PV) := mB m fun d => match d with
  | .int j => if inR j then mR (rangeL 0 j) else fun _ => .stuck
  | _ => fun _ => .stuck
def iR2 (m m2 : Mo PV) : Mo (List PV) := mB m fun d => mB m2 fun d2 => match d, d2 with
  | .int i, .int j => if inR i && inR j then mR (rangeL i j) else fun _ => .stuck
  | _, _ => fun _ => .stuck
theorem inR_of {i : Int} (h : inR i = true) : -(2 ^ 62) ≤ i ∧ i < 2 ^ 62 := by
  unfold inR at h
  rw [Bool.and_eq_true] at h
  exact ⟨of_decide_eq_true h.1, of_decide_eq_true h.2⟩
theorem ji_range1 {p : Pos} {m : Mo PV} (hm : X.mg "range" = none) (h : JE X np W a m) (hg : Gl X "range" := by rfl) (hs : starEach [a] X.env = [(false, eval a X.env)] := by rfl) : JI X np W tg (.Call (.Name "range" p) [a] [] pos) (iR1 m) := by
  refine PIi (pi_range1 hg hm (pa_cons h pa_nil hs) hs) fun σ H R h => tG.bind h fun P B H0 d e1 v H1 I r l h => ?_
  cases d with
  | int j =>
    cases r
    dsimp only at h
    by_cases hj : inR j = true
    · rw [if_pos hj] at h
      obtain ⟨h1, h2⟩ := inR_of hj
      refine ⟨j, rfl, h1, h2, ?_⟩
      have z := h (Itr 0 (j - 0).toNat) H1 I ItOk.range (.refl _)
      simpa using z
    · rw [if_neg hj] at h; exact h.elim
  | _ => exact h.elim
theorem ji_range2 {p : Pos} {m m2 : Mo PV} (hm : X.mg "range" = none) (h : JE X np W a m) (h2 : JE X np W b m2) (hg : Gl X "range" := by rfl) (hs : starEach [a, b] X.env = [(false, eval a X.env), (false, eval b X.env)] := by rfl) (hs2 : starEach [b] X.env = [(false, eval b X.env)] := by rfl)
    (hs3 : starEach (a :: [b]) X.env = (false, eval a X.env) :: starEach [b] X.env := by rfl) : JI X np W tg (.Call (.Name "range" p) [a, b] [] pos) (iR2 m m2) := by
  refine PIi (pi_range2 hg hm (pa_cons h (pa_cons h2 pa_nil hs2) hs3) hs hs2) fun σ H R h => tG.bind h fun P B H0 d e1 v H1 I r l h => ?_
  refine tG.bind (tG.of I h) fun P B H0 d2 e2 v2 H2 I2 r2 l2 h => ?_
  cases d with
  | int i =>
    cases d2 with
    | int j =>
      cases r
      cases r2
      dsimp only at h
      by_cases hj : (inR i && inR j) = true
      · rw [if_pos hj] at h
        rw [Bool.and_eq_true] at hj
        obtain ⟨h1, h2⟩ := inR_of hj.1
        obtain ⟨h3, h4⟩ := inR_of hj.2
        exact ⟨i, j, rfl, ⟨h1, h2, h3, h4⟩, h (Itr i (j - i).toNat) H2 I2 ItOk.range (.refl _)⟩
      · rw [if_neg hj] at h; exact h.elim
    | _ => exact h.elim
  | _ => exact h.elim

/-! ### for -/
def forRun (g : MG) (mb : MS) : List PV → MS
  | [], e => .nx e
  | d :: ds, e => match g d e with
    | none => .stuck
    | some e1 => match mb e1 with
      | .nx e2 => forRun g mb ds e2
      | .cont e2 => forRun g mb ds e2
      | .brk e2 => .nx e2
      | .ret s e2 => .ret s e2
      | .exc C es e2 => .exc C es e2
      | .stuck => .stuck
def sFor (mi : Mo (List PV)) (g : MG) (mb : MS) : MS := mS mi fun ds => forRun g mb ds
theorem jst_for {iter : Expr} {body : List Stmt} {mi : Mo (List PV)} {g : MG} {ws : List Nat} {mb : MS} (hp : PassesOwn (model X.prog X.w) X.A X.env X.xe) (hc : X.calm = true) (hi : JI X np W tg iter mi) (hg : JG X np tg g ws) (hb : JB X np W body mb)
    (hs : ∀ x, foldedSetIterable iter X.env x = pure x := by intro _; rfl) : JSt X np W (.For tg iter body [] pos) (sFor mi g mb) := by
  refine PSi (ps_for hp hc hi hg hb hs) fun D σ H h => tS.bind h fun P B H0 ds e1 J H1 I r l h => ?_
  refine ⟨fun i m σ' H' => m = ds.length - i ∧ ∃ e, VI X.K np P B H0 e σ' H' ∧ HLe H1 H' ∧ i ≤ ds.length ∧ PostS X.K np W P B H0 H' (forRun g mb (ds.drop i) e) D, ⟨_, rfl, e1, I, .refl _, Nat.zero_le _, h⟩, ?_⟩
  rintro i m σ2 H2 ⟨rfl, e2, I2, l2, hle, h2⟩
  by_cases hlt : i < ds.length
  · obtain ⟨gi, yi⟩ := (r i H2 l2).1 ds[i] (by simp [hlt])
    have ed : ds.drop i = ds[i] :: ds.drop (i + 1) := (List.getElem_cons_drop hlt).symm
    rw [ed] at h2
    unfold forRun at h2
    refine .inr ⟨gi, fun σ3 H3 => ∃ e3, VI X.K np P B H0 e3 σ3 H3 ∧ HLe H1 H3 ∧ PostS X.K np W P B H0 H3 (forRun g mb (ds.drop (i + 1)) e3) D, fun σ3 H3 ⟨e3, I3, l3, h3⟩ => ⟨ds.length - (i + 1), by omega, rfl, e3, I3, l3, hlt, h3⟩, fun x H3 y => ?_⟩
    obtain ⟨fx, k⟩ := yi x H3 y
    refine ⟨P, B, H0, e2, ds[i], I2.same k, fx, ?_⟩
    generalize g ds[i] e2 = o at h2 ⊢
    cases o with
    | none => exact h2.elim
    | some e3 =>
      refine fun σ3 I3 _ => ⟨P, B, H0, e3, I3, ?_⟩
      dsimp only at h2
      have lk : HLe H2 H3 := .same k
      generalize mb e3 = o2 at h2 ⊢
      cases o2 with
      | nx e4 => exact fun σ4 H4 I4 l4 => ⟨e4, I4, l2.trans (lk.trans l4), PostS.le (lk.trans l4) h2⟩
      | cont e4 => exact fun σ4 H4 I4 l4 => ⟨e4, I4, l2.trans (lk.trans l4), PostS.le (lk.trans l4) h2⟩
      | brk e4 => exact fun σ4 H4 I4 l4 => h2 σ4 H4 I4 (lk.trans l4)
      | ret s e4 => exact fun v σ4 H4 I4 r4 l4 => h2 v σ4 H4 I4 r4 (lk.trans l4)
      | exc C es e4 => exact fun v σ4 H4 I4 r4 l4 => h2 v σ4 H4 I4 r4 (lk.trans l4)
      | stuck => exact h2
  · have e : i = ds.length := by omega
    subst e
    rw [List.drop_length] at h2
    exact .inl ⟨(r _ H2 l2).2 (Nat.le_refl _), h2 σ2 H2 I2 (.refl _)⟩

/-! ### while -/
def whileRun (t : Mo Bool) (mb : MS) : Nat → MS
  | 0, _ => .stuck
  | n + 1, e => match t e with
    | .ok true e1 => match mb e1 with
      | .nx e2 => whileRun t mb n e2
      | .cont e2 => whileRun t mb n e2
      | .brk e2 => .nx e2
      | .ret s e2 => .ret s e2
      | .exc C es e2 => .exc C es e2
      | .stuck => .stuck
    | .ok false e1 => .nx e1
    | .exc C es e1 => .exc C es e1
    | .stuck => .stuck
def sWhile (n : Fr → Nat) (t : Mo Bool) (mb : MS) : MS := fun e => whileRun t mb (n e) e
theorem jst_while (n : Fr → Nat) {body : List Stmt} {t : Mo Bool} {mb : MS} (hp : PassesOwn (model X.prog X.w) X.A X.env X.xe) (hc : JT X np W c t) (hb : JB X np W body mb) : JSt X np W (.While c body [] pos) (sWhile n t mb) := by
  refine PSi (ps_while hp hc hb) fun D σ H ⟨P, B, H0, e, I, h⟩ => ?_
  refine ⟨fun m σ' H' => ∃ e, VI X.K np P B H0 e σ' H' ∧ PostS X.K np W P B H0 H' (whileRun t mb m e) D, ⟨_, e, I, h⟩, ?_⟩
  rintro m σ1 H1 ⟨e1, I1, h1⟩
  cases m with
  | zero => exact h1.elim
  | succ m =>
    unfold whileRun at h1
    refine ⟨P, B, H0, e1, I1, ?_⟩
    generalize t e1 = o at h1 ⊢
    cases o with
    | stuck => exact h1
    | exc C es e2 => exact fun x H2 I2 r2 l2 => h1 x σ1 H2 I2 r2 l2
    | ok b e2 =>
      intro b' H2 I2 r2 l2
      cases r2
      cases b with
      | false => exact h1 σ1 H2 I2 l2
      | true =>
        rw [if_pos rfl]
        refine ⟨fun σ3 H3 => ∃ e3, VI X.K np P B H0 e3 σ3 H3 ∧ PostS X.K np W P B H0 H3 (whileRun t mb m e3) D, fun σ3 H3 z => ⟨m, Nat.lt_succ_self _, z⟩, P, B, H0, e2, I2, ?_⟩
        dsimp only at h1
        generalize mb e2 = o2 at h1 ⊢
        cases o2 with
        | nx e4 => exact fun σ4 H4 I4 l4 => ⟨e4, I4, PostS.le (l2.trans l4) h1⟩
        | cont e4 => exact fun σ4 H4 I4 l4 => ⟨e4, I4, PostS.le (l2.trans l4) h1⟩
        | brk e4 => exact fun σ4 H4 I4 l4 => h1 σ4 H4 I4 (l2.trans l4)
        | ret s e4 => exact fun v σ4 H4 I4 r4 l4 => h1 v σ4 H4 I4 r4 (l2.trans l4)
        | exc C es e4 => exact fun v σ4 H4 I4 r4 l4 => h1 v σ4 H4 I4 r4 (l2.trans l4)
        | stuck => exact h1
end
end VS

set_option Elab.async false
set_option linter.all false
set_option maxRecDepth 100000
set_option maxHeartbeats 1000000
/-! VS5: list comprehensions, append, stores into a list; defs and their calls. -/
namespace VS
open PySem L2 PyProof.Rows

def wipeE (e : Fr) : List Nat → Fr
  | [] => e
  | v :: vs => (wipeE e vs).set v .un
theorem wipe_out' {σ : L2.St} {i : Nat} : ∀ {vs : List Nat}, i ∉ vs → (wipe σ vs)[i]? = σ[i]?
  | [], _ => rfl
  | v :: vs, h => by
    unfold wipe
    rw [List.getElem?_set_ne (fun z => h (by simp [z]))]
    exact wipe_out' fun z => h (List.mem_cons_of_mem _ z)
theorem wipe_in {σ : L2.St} {i : Nat} : ∀ {vs : List Nat}, i ∈ vs → i < σ.length → (wipe σ vs)[i]? = some none
  | v :: vs, h, hl => by
    unfold wipe
    by_cases e : v = i
    · subst e; rw [List.getElem?_set_self (by rw [wipe_length]; exact hl)]
    · rw [List.getElem?_set_ne e]
      refine wipe_in ?_ hl
      rcases List.mem_cons.mp h with z | z
      · exact absurd z.symm e
      · exact z
theorem wipe_diff {σ σ' : L2.St} {ws vs : List Nat} (d : Diff ws (wipe σ vs) σ') (h : ∀ v ∈ ws, v ∈ vs) : wipe σ' vs = wipe σ vs := by
  have hl : σ'.length = σ.length := d.1.trans (wipe_length σ vs)
  refine List.ext_getElem? fun j => ?_
  by_cases hj : j ∈ vs
  · by_cases hb : j < σ.length
    · rw [wipe_in hj (by omega), wipe_in hj hb]
    · rw [List.getElem?_eq_none (by rw [wipe_length]; omega), List.getElem?_eq_none (by rw [wipe_length]; omega)]
  · rw [wipe_out' hj, d.2 j fun z => hj (h j z)]
section
variable {K : PySem.W.Frag} {np : Nat} {P : Addr → Prop} {B : List (Nat × Addr)} {H0 H H' : Hp} {e : Fr} {σ : L2.St}
theorem VI.wipe1 (I : VI K np P B H0 e σ H) {i : Nat} (hn : np ≤ i) : VI K np P B H0 (e.set i .un) (σ.set i none) H := by
  have J := I.drop hn
  have key : ∀ (j : Nat) (s : Sl), s ≠ .un → (e.set i .un)[j]? = some s → j ≠ i := fun j s ns q z => by
    subst z
    by_cases hi : j < e.length
    · rw [List.getElem?_set_self hi] at q; exact ns (Option.some.inj q).symm
    · rw [List.getElem?_eq_none (by simpa using hi)] at q; cases q
  have kσ : ∀ (j : Nat), j ≠ i → (σ.set i none)[j]? = σ[j]? := fun j hj => List.getElem?_set_ne (Ne.symm hj)
  refine ⟨by simpa using I.len, fun j d q => ?_, fun j d q => ?_, fun j k d d' a q1 q2 s1 s2 => ?_, fun j a q => ?_, I.keep, I.al⟩
  · rw [kσ j (key j _ (by simp) q)]; exact J.fz j d q
  · rw [kσ j (key j _ (by simp) q)]; exact J.ow j d q
  · rw [kσ j (key j _ (by simp) q1)] at s1
    rw [kσ k (key k _ (by simp) q2)] at s2
    exact J.dj j k d d' a q1 q2 s1 s2
  · obtain ⟨h1, h2, h3⟩ := J.pin j a q
    exact ⟨h1, by rw [kσ j (by omega)]; exact h2, h3⟩
theorem VI.wipe (I : VI K np P B H0 e σ H) : ∀ {vs : List Nat}, (∀ v ∈ vs, np ≤ v) → VI K np P B H0 (wipeE e vs) (L2.wipe σ vs) H
  | [], _ => I
  | v :: vs, h => VI.wipe1 (VI.wipe I fun w hw => h w (List.mem_cons_of_mem _ hw)) (h v List.mem_cons_self)
theorem VI.unwipe {vs : List Nat} (I : VI K np P B H0 e (L2.wipe σ vs) H) : VI K np P B H0 e σ H where
  len := I.len.trans (wipe_length σ vs)
  fz := fun i d q => let ⟨v, x, y⟩ := I.fz i d q; ⟨v, (wipe_some x).1, y⟩
  ow := fun i d q => let ⟨a, x, y⟩ := I.ow i d q; ⟨a, (wipe_some x).1, y⟩
  dj := fun i j d d' a q1 q2 s1 s2 => by
    obtain ⟨b, x, _⟩ := I.ow i d q1
    obtain ⟨c, y, _⟩ := I.ow j d' q2
    have x' := (wipe_some x).1
    have y' := (wipe_some y).1
    rw [s1] at x'; cases x'
    rw [s2] at y'; cases y'
    exact I.dj i j d d' _ q1 q2 x y
  pin := fun i a q => let ⟨h1, h2, h3⟩ := I.pin i a q; ⟨h1, (wipe_some h2).1, h3⟩
  keep := I.keep
  al := I.al
theorem wipeE_own {vs : List Nat} {j : Nat} {s : Sl} (hs : s ≠ .un) (h : (wipeE e vs)[j]? = some s) : e[j]? = some s := by
  induction vs with
  | nil => exact h
  | cons v vs ih =>
    unfold wipeE at h
    by_cases hv : v = j
    · subst hv
      by_cases hi : v < (wipeE e vs).length
      · rw [List.getElem?_set_self hi] at h; exact absurd (Option.some.inj h).symm hs
      · rw [List.getElem?_eq_none (by simpa using hi)] at h; cases h
    · rw [List.getElem?_set_ne hv] at h; exact ih h
end

def compRun (vs : List Nat) (g : MG) (mt : Mo Bool) (me : Mo PV) : List PV → List PV → Fr → Out Sl
  | [], acc, e => .ok (.own (.lst acc)) e
  | d :: ds, acc, e => match g d e with
    | none => .stuck
    | some e1 => match mt e1 with
      | .ok false e2 => compRun vs g mt me ds acc (wipeE e2 vs)
      | .ok true e2 => match me e2 with
        | .ok x e3 => if acc.length < sizeLine then compRun vs g mt me ds (acc ++ [x]) (wipeE e3 vs) else .stuck
        | _ => .stuck
      | _ => .stuck
def mComp (vs : List Nat) (mi : Mo (List PV)) (g : MG) (mt : Mo Bool) (me : Mo PV) : Mo Sl := mB mi fun ds e => compRun vs g mt me ds [] (wipeE e vs)
def WF : WX := fun _ _ _ _ => False
def CInv (K : PySem.W.Frag) (np : Nat) (W : WX) (P : Addr → Prop) (B : List (Nat × Addr)) (H0 : Hp) (σ : L2.St) (vs : List Nat) (H1 : Hp) (D : Addr) (g : MG) (mt : Mo Bool) (me : Mo PV) (Q : VK) (ds : List PV) (H : Hp) : Prop :=
  ∃ e acc xs, VI K np P B H0 e (wipe σ vs) H ∧ HLe H1 H ∧ H D = some (.lst xs) ∧ FzA K H xs acc ∧ (∀ (j : Nat) d', e[j]? = some (.own d') → (wipe σ vs)[j]? ≠ some (some (.ref D))) ∧
    PostG K np W P B H0 (rS K) σ H (compRun vs g mt me ds acc e) Q
section
variable {X : Cx} {np : Nat} {W : WX} {pos : Pos}
abbrev JTs (X : Cx) (np : Nat) (W : WX) (ifs : List Expr) (m : Mo Bool) : Prop := PTs X ifs (tG X.K np W rB m)
theorem jts_nil : JTs X np W [] (mR true) := ⟨fun pins s σ H Q I ⟨P, B, H0, e, J, h⟩ => pts_nil.run pins s σ H Q I (h true H J rfl (.refl H))⟩
theorem jts_one {c : Expr} {m : Mo Bool} (h : JT X np W c m) : JTs X np W [c] m := pts_one h
theorem comp_of {ws vs : List Nat} {mi : Mo (List PV)} {g : MG} {mt : Mo Bool} {me : Mo PV} (hw : ∀ v ∈ ws, v ∈ vs) (hn : ∀ v ∈ vs, np ≤ v) {σ : L2.St} {H : Hp} {Q : VK} (h : tG X.K np W (rS X.K) (mComp vs mi g mt me) σ H Q) :
    tLc (tG X.K np W (rI X.K) mi) (tTg X.K np g ws) (tG X.K np WF rB mt) (tG X.K np WF (rE X.K) me) vs σ H Q := by
  refine tG.bind h fun P B H0 ds e1 J H1 I r l h D hD => ?_
  have hD0 : H0 D = none := I.fresh hD
  refine ⟨fun i m H' => m = ds.length - i ∧ i ≤ ds.length ∧ CInv X.K np W P B H0 σ vs H1 D g mt me Q (ds.drop i) H', ⟨_, rfl, Nat.zero_le _, wipeE e1 vs, [], [], (I.alloc hD).wipe hn, .alloc hD, upd_same, .nil, fun j d' q z => ?_, PostG.le (.alloc hD) h⟩, ?_⟩
  · obtain ⟨a, x, y, _⟩ := (I.wipe hn).ow j d' q
    rw [z] at x; cases x
    obtain ⟨u, hu, _⟩ := y.at
    rw [hD] at hu; cases hu
  rintro i m H2 ⟨rfl, hle, e2, acc, xs, I2, l2, d2, f2, o2, h2⟩
  by_cases hlt : i < ds.length
  case neg =>
    have e : i = ds.length := by omega
    subst e
    rw [List.drop_length] at h2
    refine .inl ⟨(r _ H2 l2).2 (Nat.le_refl _), ?_⟩
    have I3 := I2.unwipe
    refine h2 _ H2 I3 ⟨D, rfl, ⟨xs, d2, f2⟩, .inr hD0, fun j d' q z => ?_⟩ (.refl _)
    obtain ⟨a, x, y, _⟩ := I2.ow j d' q
    have x' := (wipe_some x).1
    rw [z] at x'; cases x'
    exact o2 j d' q x
  obtain ⟨gi, yi⟩ := (r i H2 l2).1 ds[i] (by simp [hlt])
  have ed : ds.drop i = ds[i] :: ds.drop (i + 1) := (List.getElem_cons_drop hlt).symm
  rw [ed] at h2
  unfold compRun at h2
  refine .inr ⟨gi, CInv X.K np W P B H0 σ vs H1 D g mt me Q (ds.drop (i + 1)), fun H' z => ⟨ds.length - (i + 1), by omega, rfl, hlt, z⟩, fun x H3 y => ?_⟩
  obtain ⟨fx, k⟩ := yi x H3 y
  have J := I2.base
  have nD : ¬ Owned e2 (wipe σ vs) D := fun ⟨j, d', q, z⟩ => o2 j d' q z
  refine ⟨_, B, H2, e2, ds[i], J.same k, fx, ?_⟩
  generalize g ds[i] e2 = o at h2 ⊢
  cases o with
  | none => exact h2.elim
  | some e3 =>
    intro σ3 J3 df
    have hws := wipe_diff df hw
    refine ⟨hws, _, B, H2, e3, J3, ?_⟩
    dsimp only at h2
    -- the turn's end
    have fin : ∀ {e' : Fr} {H' : Hp} {acc' : List PV} {xs' : List V}, VI X.K np (Owned e2 (wipe σ vs)) B H2 e' σ3 H' → HLe H2 H' → ∀ (xs' : List V), FzA X.K H' xs' acc' → (xs' = xs ∨ True) →
        PostG X.K np W P B H0 (rS X.K) σ H2 (compRun vs g mt me (ds.drop (i + 1)) acc' (wipeE e' vs)) Q → CInv X.K np W P B H0 σ vs H1 D g mt me Q (ds.drop (i + 1)) (upd H' D (.lst xs')) := by
      intro e' H' acc' _ Je le xs' fa _ hp
      have hD' : H' D = some (.lst xs) := Je.keep D _ d2 nD
      have Jb := I2.back Je
      have no : ∀ (j : Nat) d', e'[j]? = some (.own d') → σ3[j]? ≠ some (some (.ref D)) := fun j d' q z => by
        obtain ⟨a, x, y, zz⟩ := Je.ow j d' q
        rw [z] at x; cases x
        rcases zz with zz | zz
        · exact nD zz
        · rw [d2] at zz; cases zz
      have lw : HLe H' (upd H' D (.lst xs')) := .write hD' (fun _ z => nomatch z) (fun _ _ z => nomatch z)
      have Jw := (Jb.other (o := .lst xs') hD' (fun _ z => nomatch z) (fun _ _ z => nomatch z) (.inr hD0) no).wipe hn
      rw [hws] at Jw
      refine ⟨wipeE e' vs, acc', xs', Jw, l2.trans (le.trans lw), upd_same, FzA.le lw fa, fun j d' q z => ?_, PostG.le (le.trans lw) hp⟩
      have q' := wipeE_own (by simp) q
      rw [← hws] at z
      exact no j d' q' (wipe_some z).1
    have lk : HLe H2 H3 := .same k
    generalize mt e3 = o3 at h2 ⊢
    cases o3 with
    | stuck => exact h2.elim
    | exc C es e4 => exact h2.elim
    | ok b e4 =>
      intro b' H4 J4 r4 l4
      cases r4
      cases b with
      | false =>
        dsimp only at h2
        rw [if_neg Bool.false_ne_true]
        have hD' : H4 D = some (.lst xs) := J4.keep D _ d2 nD
        have z := fin J4 (lk.trans l4) xs (f2.le (lk.trans l4)) (.inl rfl) h2 (xs' := xs)
        have e : upd H4 D (.lst xs) = H4 := by
          funext b
          by_cases hb : b = D
          · subst hb; rw [upd_same, hD']
          · rw [upd_ne hb]
        rw [e] at z
        exact z
      | true =>
        dsimp only at h2
        rw [if_pos rfl]
        refine ⟨_, B, H2, e4, J4, ?_⟩
        generalize me e4 = o4 at h2 ⊢
        cases o4 with
        | stuck => exact h2.elim
        | exc C es e5 => exact h2.elim
        | ok xv e5 =>
          intro v H5 J5 r5 l5
          have hD' : H5 D = some (.lst xs) := J5.keep D _ d2 nD
          dsimp only at h2
          by_cases hz : acc.length < sizeLine
          · rw [if_pos hz] at h2
            have lq : HLe H2 H5 := lk.trans (l4.trans l5)
            refine ⟨xs, hD', by rw [f2.length]; exact hz, fin J5 lq (xs ++ [v]) (FzA.append (f2.le lq) (.cons r5 .nil)) (.inr trivial) h2 (xs' := xs)⟩
          · rw [if_neg hz] at h2; exact h2.elim
theorem js_comp {elt tg iter : Expr} {ifs : List Expr} {scope : Scope} {own : List (Str × Nat)} {ws : List Nat} {mi : Mo (List PV)} {g : MG} {mt : Mo Bool} {me : Mo PV} (hc : X.calm = true) (hN : X.N.Nodup) (hi : JI X np W tg iter mi) (ok : BlkOk X.N X.env.scope scope own)
    (hg : ∀ (s : Shared) (H : Hp) (C : Addr) (cl : List (Str × Addr)) (fp : List Addr), JG (X.blk s H scope (compEnvC scope cl C X.env) fp) np tg g ws) (ht : ∀ (s : Shared) (H : Hp) (C : Addr) (cl : List (Str × Addr)) (fp : List Addr), JTs (X.blk s H scope (compEnvC scope cl C X.env) fp) np WF ifs mt)
    (he : ∀ (s : Shared) (H : Hp) (C : Addr) (cl : List (Str × Addr)) (fp : List Addr), JE (X.blk s H scope (compEnvC scope cl C X.env) fp) np WF elt me)
    (hw : ∀ v ∈ ws, v ∈ own.map (·.2) := by decide) (hn : ∀ v ∈ own.map (·.2), np ≤ v := by decide) (hs : ∀ x, foldedSetIterable iter X.env x = pure x := by intro _; rfl) :
    JS X np W (.ListComp elt [⟨tg, iter, ifs, 0⟩] scope pos) (mComp (own.map (·.2)) mi g mt me) :=
  PEi (pe_lc (pos := pos) (te := tG X.K np WF (rE X.K) me) (tt := tG X.K np WF rB mt) (g := tTg X.K np g ws) hc hN hi ok hg ht he hs) fun σ H Q h => comp_of hw hn h
/-- where the statement stores the list as it comes -/
theorem jst_comp {i : Nat} {y : Str} {py spos : Pos} {elt tg iter : Expr} {ifs : List Expr} {scope : Scope} {own : List (Str × Nat)} {ws : List Nat} {mi : Mo (List PV)} {g : MG} {mt : Mo Bool} {me : Mo PV} (hc : X.calm = true) (hN : X.N.Nodup)
    (hsw : swapsWith (.ListComp elt [⟨tg, iter, ifs, 0⟩] scope pos) (some (.Name y py)) spos.line X.env = pure true) (hi : JI X np W tg iter mi) (ok : BlkOk X.N X.env.scope scope own)
    (hg : ∀ (s : Shared) (H : Hp) (C : Addr) (cl : List (Str × Addr)) (fp : List Addr), JG (X.blk s H scope (compEnvC scope cl C X.env) fp) np tg g ws) (ht : ∀ (s : Shared) (H : Hp) (C : Addr) (cl : List (Str × Addr)) (fp : List Addr), JTs (X.blk s H scope (compEnvC scope cl C X.env) fp) np WF ifs mt)
    (he : ∀ (s : Shared) (H : Hp) (C : Addr) (cl : List (Str × Addr)) (fp : List Addr), JE (X.blk s H scope (compEnvC scope cl C X.env) fp) np WF elt me)
    (hy : X.N[i]? = some y := by rfl) (hyl : X.env.scope.names.lookup y = some .local := by rfl)
    (hw : ∀ v ∈ ws, v ∈ own.map (·.2) := by decide) (hn : ∀ v ∈ own.map (·.2), np ≤ v := by decide) (hs : ∀ x, foldedSetIterable iter X.env x = pure x := by intro _; rfl) :
    JSt X np W (.Assign [.Name y py] (.ListComp elt [⟨tg, iter, ifs, 0⟩] scope pos) spos) (sSet np i (mComp (own.map (·.2)) mi g mt me)) := by
  have q := ps_setLc (i := i) (py := py) (spos := spos) (pos := pos) (te := tG X.K np WF (rE X.K) me) (tt := tG X.K np WF rB mt) (g := tTg X.K np g ws) hc hN hy hyl hsw hi ok hg ht he hs
  exact PSi q fun D σ H h => comp_of hw hn (tS.bind h fun P B H0 s e1 v H1 I r l h => put_ok I r h)
end
end VS

set_option Elab.async false
set_option linter.all false
set_option maxRecDepth 100000
set_option maxHeartbeats 1000000
/-! VS6: a def as a function on rows of slots; its call. -/
namespace VS
open PySem L2 PyProof.Rows

inductive OutF where
  | ret (s : Sl) (as : List Sl) | exc (C : Addr) (ds : List (Str × PV)) (as : List Sl) | stuck
abbrev MF := List Sl → OutF
/-- the arguments -/
abbrev AI (K : PySem.W.Frag) (H0 : Hp) (vs : List V) (as0 as : List Sl) (H : Hp) : Prop := VI K 0 (Owned as0 (vs.map some)) [] H0 as (vs.map some) H
def rF (K : PySem.W.Frag) (H H' : Hp) (s : Sl) (v : V) : Prop := match s with
  | .un => False
  | .fz d => Fz K H' v d
  | .own d => ∃ a, v = .ref a ∧ Ow K H' a d ∧ H a = none
def PostF (K : PySem.W.Frag) (vs : List V) (as : List Sl) (H : Hp) (o : OutF) (Q : VK) (E : XK) : Prop := match o with
  | .ret s as' => ∀ v H', AI K H vs as as' H' → rF K H H' s v → HLe H H' → Q v H'
  | .exc C ds as' => ∀ x H', AI K H vs as as' H' → ExD K H' x ds → HLe H H' → E (.ref C) x H'
  | .stuck => False
/-- the promise that a function on rows of slots is -/
def spF (K : PySem.W.Frag) (n : Nat) (mf : MF) : Sp := fun vs H Q E => ∃ as, as.length = n ∧ AI K H vs as as H ∧ PostF K vs as H (mf as) Q E
def outA : List Sl → Fr → List Sl
  | [], _ => []
  | .own d :: as, e :: es => e :: outA as es
  | a :: as, _ :: es => a :: outA as es
  | as, [] => as
theorem outA_len : ∀ (as : List Sl) (e : Fr), (outA as e).length = as.length
  | [], _ => rfl
  | .own d :: as, e :: es => by simp [outA, outA_len as es]
  | .fz d :: as, e :: es => by simp [outA, outA_len as es]
  | .un :: as, e :: es => by simp [outA, outA_len as es]
  | _ :: as, [] => by simp [outA]
theorem outA_get : ∀ {as : List Sl} {e : Fr} {i : Nat} {s : Sl}, (∀ (i : Nat) d, as[i]? = some (.own d) → i < e.length) → (outA as e)[i]? = some s → (∃ d, as[i]? = some (.own d) ∧ e[i]? = some s) ∨ ((∀ d, as[i]? ≠ some (.own d)) ∧ as[i]? = some s)
  | [], _, _, _, _, h => by simp [outA] at h
  | .own d :: as, [], _, _, hl, _ => by have := hl 0 d rfl; simp at this
  | .fz d :: as, [], i, s, hl, h => .inr ⟨fun d z => by have := hl i d z; simp at this, by simpa [outA] using h⟩
  | .un :: as, [], i, s, hl, h => .inr ⟨fun d z => by have := hl i d z; simp at this, by simpa [outA] using h⟩
  | .own d :: as, e :: es, 0, s, hl, h => by simp [outA] at h; subst h; exact .inl ⟨d, rfl, rfl⟩
  | .fz d :: as, e :: es, 0, s, hl, h => by simp [outA] at h; subst h; exact .inr ⟨fun d z => by simp at z, rfl⟩
  | .un :: as, e :: es, 0, s, hl, h => by simp [outA] at h; subst h; exact .inr ⟨fun d z => by simp at z, rfl⟩
  | .own d :: as, e :: es, i + 1, s, hl, h => by simpa using outA_get (as := as) (e := es) (i := i) (fun j d z => by simpa using hl (j + 1) d (by simpa using z)) (by simpa [outA] using h)
  | .fz d :: as, e :: es, i + 1, s, hl, h => by simpa using outA_get (as := as) (e := es) (i := i) (fun j d z => by simpa using hl (j + 1) d (by simpa using z)) (by simpa [outA] using h)
  | .un :: as, e :: es, i + 1, s, hl, h => by simpa using outA_get (as := as) (e := es) (i := i) (fun j d z => by simpa using hl (j + 1) d (by simpa using z)) (by simpa [outA] using h)
def bodyRun (N : Nat) (m : MS) : MF := fun as => match m (as ++ List.replicate (N - as.length) .un) with
  | .nx e => .ret (.fz .non) (outA as e)
  | .ret s e => .ret s (outA as e)
  | .exc C ds e => .exc C ds (outA as e)
  | _ => .stuck
section
variable {P : Program} {w : World} {K : PySem.W.Frag} {mg : Str → Option Value} {base : Heap}
def ownB (as : List Sl) (vs : List V) : List (Nat × Addr) := (List.range as.length).filterMap fun (i : Nat) => match as[i]?, vs[i]? with
  | some (Sl.own _), some (V.ref a) => some (i, a)
  | _, _ => none
theorem mem_ownB {as : List Sl} {vs : List V} {i : Nat} {a : Addr} : (i, a) ∈ ownB as vs ↔ ∃ d, as[i]? = some (.own d) ∧ vs[i]? = some (.ref a) := by
  unfold ownB
  rw [List.mem_filterMap]
  constructor
  · rintro ⟨j, hj, h⟩
    split at h
    · rename_i d b h1 h2
      cases h
      exact ⟨d, h1, h2⟩
    · cases h
  · rintro ⟨d, h1, h2⟩
    refine ⟨i, ?_, ?_⟩
    · rw [List.mem_range]; exact (List.getElem?_eq_some_iff.mp h1).1
    · rw [h1, h2]
/-- a def of the text as it stands behind the top, dvs its defaults -/
abbrev FunG (K : PySem.W.Frag) (x qual : Str) (st : Stmt) (dvs : List V) (f : Addr) (fd : FuncData) : Prop := FunD K x qual (defArgs st) (defBody st) (defScope st) dvs [] f fd
theorem fn_ok {x qual : Str} {st : Stmt} {dvs : List V} {f : Addr} {fd : FuncData} {N ps : List Str} {k : Nat} {m : MS} (F : FunG K x qual st dvs f fd) (S : FnScope N ps (defScope st))
    (hbody : ∀ (cdv : Value) (A : Around) (outer : List Env) (s : Shared) (H : Hp) (E : XK), Room k (A.deeper (envOfC qual (defScope st) s.heap.objs.size f cdv)) →
      JB (cxOf (L2.CX P w) P w K mg base N qual (defScope st) f cdv A outer s H E) ps.length (fun cls d _ H => E cls d H) (defBody st) m) :
    FnOk P w K mg base (L2.CX P w) (k + 1) f fd ps (spF K ps.length (bodyRun N.length m)) := by
  refine FunD.ok F S (fun vs H Q E h => ?_) (fun cdv A outer s H vs Q E hr h => ?_)
  · obtain ⟨as, h1, h2, _⟩ := h
    have := h2.len
    simp at this
    omega
  · obtain ⟨as, h1, I, h⟩ := h
    refine ⟨_, hbody cdv A outer s H E hr, ?_⟩
    have hl : as.length = vs.length := by simpa using I.len
    have hN : ps.length ≤ N.length := by have := congrArg List.length S.pre; rw [List.length_take] at this; omega
    have ge : ∀ (i : Nat) s, s ≠ Sl.un → (as ++ List.replicate (N.length - as.length) Sl.un)[i]? = some s → as[i]? = some s := fun i s hs q => by
      by_cases hi : i < as.length
      · rw [List.getElem?_append_left hi] at q; exact q
      · rw [List.getElem?_append_right (by omega), List.getElem?_replicate] at q
        split at q
        · cases q; exact absurd rfl hs
        · cases q
    have gσ : ∀ (i : Nat) (v : V), (vs.map some)[i]? = some (some v) → (L2.start N vs)[i]? = some (some v) := fun i v q => by
      unfold L2.start
      rw [List.getElem?_append_left (List.getElem?_eq_some_iff.mp q).1]; exact q
    have gσ' : ∀ (i : Nat) (v : V), (L2.start N vs)[i]? = some (some v) → (vs.map some)[i]? = some (some v) := fun i v q => by
      unfold L2.start at q
      by_cases hi : i < (vs.map some).length
      · rw [List.getElem?_append_left hi] at q; exact q
      · rw [List.getElem?_append_right (by omega), List.getElem?_replicate] at q
        split at q <;> cases q
    refine ⟨Owned as (vs.map some), ownB as vs, H, as ++ List.replicate (N.length - as.length) .un, ⟨?_, fun i d q => ?_, fun i d q => ?_, fun i j d d' a q1 q2 s1 s2 => ?_, fun i a q => ?_, fun b o q _ => q, fun b o q => ⟨o, q⟩⟩, ?_⟩
    · unfold L2.start; simp; omega
    · obtain ⟨v, q1, q2⟩ := I.fz i d (ge i _ (by simp) q)
      exact ⟨v, gσ i v q1, q2⟩
    · obtain ⟨v, q1, q2⟩ := I.ow i d (ge i _ (by simp) q)
      exact ⟨v, gσ i _ q1, q2⟩
    · exact I.dj i j d d' a (ge i _ (by simp) q1) (ge j _ (by simp) q2) (gσ' _ _ s1) (gσ' _ _ s2)
    · obtain ⟨d, q1, q2⟩ := mem_ownB.mp q
      have hi := (List.getElem?_eq_some_iff.mp q1).1
      exact ⟨by omega, gσ i _ (by rw [List.getElem?_map, q2]; rfl), d, by rw [List.getElem?_append_left hi]; exact q1⟩
    -- the end
    have back : ∀ {e' : Fr} {σ' : L2.St} {H' : Hp}, VI K ps.length (Owned as (vs.map some)) (ownB as vs) H e' σ' H' → HLe H H' → AI K H vs as (outA as e') H' := fun {e' σ' H'} J l => by
      have hle : as.length ≤ e'.length ∨ True := .inr trivial
      have pin : ∀ (i : Nat) d, as[i]? = some (.own d) → ∃ a d', vs[i]? = some (.ref a) ∧ σ'[i]? = some (some (.ref a)) ∧ e'[i]? = some (.own d') := fun i d q => by
        obtain ⟨a, q1, q2, _⟩ := I.ow i d q
        rw [List.getElem?_map] at q1
        cases z : vs[i]? with
        | none => rw [z] at q1; cases q1
        | some v =>
          rw [z] at q1; cases q1
          obtain ⟨h1, h2, d', h3⟩ := J.pin i a (mem_ownB.mpr ⟨d, q, z⟩)
          exact ⟨a, d', rfl, h2, h3⟩
      have key : ∀ (i : Nat) s, (outA as e')[i]? = some s → (∃ d d' a, s = .own d' ∧ as[i]? = some (.own d) ∧ vs[i]? = some (.ref a) ∧ σ'[i]? = some (some (.ref a)) ∧ e'[i]? = some (.own d')) ∨ ((∀ d, as[i]? ≠ some (.own d)) ∧ as[i]? = some s) := by
        intro i s q
        rcases outA_get (fun j d z => let ⟨_, _, _, _, p⟩ := pin j d z; (List.getElem?_eq_some_iff.mp p).1) q with ⟨d, q1, q2⟩ | q
        · obtain ⟨a, d', p1, p2, p3⟩ := pin i d q1
          rw [q2] at p3; cases p3
          exact .inl ⟨d, d', a, rfl, q1, p1, p2, q2⟩
        · exact .inr q
      refine ⟨by rw [outA_len]; exact I.len, fun i d q => ?_, fun i d q => ?_, fun i j d d' a q1 q2 s1 s2 => ?_, fun i a q => (by cases q), J.keep, J.al⟩
      · rcases key i _ q with ⟨_, d', _, z, _⟩ | ⟨_, q⟩
        · cases z
        · obtain ⟨v, q1, q2⟩ := I.fz i d q
          exact ⟨v, q1, q2.le l⟩
      · rcases key i _ q with ⟨d0, d', a, z, p1, p2, p3, p4⟩ | ⟨n, q⟩
        · cases z
          obtain ⟨a', r1, r2, r3⟩ := J.ow i d p4
          rw [p3] at r1; cases r1
          exact ⟨a, by rw [List.getElem?_map, p2]; rfl, r2, r3⟩
        · exact absurd q (n d)
      · rcases key i _ q1 with ⟨d0, _, _, _, p1, _⟩ | ⟨n, q⟩
        · rcases key j _ q2 with ⟨d1, _, _, _, p2, _⟩ | ⟨n, q⟩
          · exact I.dj i j _ _ a p1 p2 s1 s2
          · exact absurd q (n _)
        · exact absurd q (n _)
    have res : ∀ {s : Sl} {e' : Fr} {σ' : L2.St} {H' : Hp} {v : V}, VI K ps.length (Owned as (vs.map some)) (ownB as vs) H e' σ' H' → rS K (fun a => Owned as (vs.map some) a ∨ H a = none) s e' σ' H' v → rF K H H' s v := fun {s e' σ' H' v} J r => by
      cases s with
      | un => exact r
      | fz d => exact r
      | own d =>
        obtain ⟨a, e1, e2, e3, e4⟩ := r
        refine ⟨a, e1, e2, ?_⟩
        rcases e3 with ⟨i, d', q, z⟩ | e3
        · rw [List.getElem?_map] at z
          cases zz : vs[i]? with
          | none => rw [zz] at z; cases z
          | some v' =>
            rw [zz] at z; cases z
            obtain ⟨h1, h2, d', h3⟩ := J.pin i a (mem_ownB.mpr ⟨_, q, zz⟩)
            exact absurd h2 (e4 i d' h3)
        · exact e3
    unfold bodyRun at h
    generalize m (as ++ List.replicate (N.length - as.length) .un) = o at h ⊢
    cases o with
    | nx e' => exact fun σ' H' J l => h .non H' (back J l) .non l
    | ret s e' => exact fun v σ' H' J r l => h v H' (back J l) (res J r) l
    | exc C ds e' => exact fun x σ' H' J r l => h x H' (back J l) r l
    | brk e' => exact h.elim
    | cont e' => exact h.elim
    | stuck => exact h.elim
end
end VS

set_option Elab.async false
set_option linter.all false
set_option maxRecDepth 100000
set_option maxHeartbeats 1000000
/-! VS7: calls of defs; append, pop, stores into lists. -/
namespace VS
open PySem L2 PyProof.Rows

def slO (o : Opd) (e : Fr) : Option Sl := match o with
  | .val d => some (.fz d)
  | .pl i => match e[i]? with
    | some (.fz d) => some (.fz d)
    | some (.own d) => some (.own d)
    | _ => none
def getA : List Opd → Fr → Option (List Sl)
  | [], _ => some []
  | o :: os, e => match slO o e, getA os e with
    | some s, some r => some (s :: r)
    | _, _ => none
/-- the slots whose things are handed on -/
def ownIx : List Opd → Fr → List Nat
  | [], _ => []
  | .val _ :: os, e => ownIx os e
  | .pl i :: os, e => match e[i]? with
    | some (.own _) => i :: ownIx os e
    | _ => ownIx os e
def putA : List Opd → List Sl → Fr → Fr → Option Fr
  | .val _ :: os, _ :: as, e0, e => putA os as e0 e
  | .pl i :: os, s :: as, e0, e => match e0[i]? with
    | some (.own _) => match s with
      | .own d => putA os as e0 (e.set i (.own d))
      | _ => none
    | _ => putA os as e0 e
  | _, _, _, e => some e
theorem getA_len : ∀ {os : List Opd} {e : Fr} {as : List Sl}, getA os e = some as → as.length = os.length
  | [], _, _, h => by simp [getA] at h; subst h; rfl
  | o :: os, e, as, h => by
    unfold getA at h
    split at h
    · rename_i s r h1 h2
      cases h
      simp [getA_len h2]
    · cases h
theorem getA_get : ∀ {os : List Opd} {e : Fr} {as : List Sl} {i : Nat} {s : Sl}, getA os e = some as → as[i]? = some s → ∃ o, os[i]? = some o ∧ slO o e = some s
  | [], _, _, _, _, h, q => by simp [getA] at h; subst h; simp at q
  | o :: os, e, as, i, s, h, q => by
    unfold getA at h
    split at h
    · rename_i s' r h1 h2
      cases h
      cases i with
      | zero => simp at q; subst q; exact ⟨o, rfl, h1⟩
      | succ i => simpa using getA_get h2 (by simpa using q)
    · cases h
theorem ownIx_mem : ∀ {os : List Opd} {e : Fr} {i j : Nat} {d : PV}, os[i]? = some (.pl j) → e[j]? = some (.own d) → j ∈ ownIx os e
  | .val _ :: os, e, 0, j, d, h, q => by simp at h
  | .pl k :: os, e, 0, j, d, h, q => by simp at h; subst h; unfold ownIx; rw [q]; exact List.mem_cons_self
  | .val _ :: os, e, i + 1, j, d, h, q => by unfold ownIx; exact ownIx_mem (i := i) (by simpa using h) q
  | .pl k :: os, e, i + 1, j, d, h, q => by
    unfold ownIx
    have z := ownIx_mem (os := os) (i := i) (by simpa using h) q
    split
    · exact List.mem_cons_of_mem _ z
    · exact z
  | [], _, _, _, _, h, _ => by simp at h
theorem ownIx_inj : ∀ {os : List Opd} {e : Fr} {i i' j : Nat} {d : PV}, (ownIx os e).Nodup → os[i]? = some (.pl j) → os[i']? = some (.pl j) → e[j]? = some (.own d) → i = i'
  | [], _, _, _, _, _, _, h, _, _ => by simp at h
  | o :: os, e, 0, 0, j, d, nd, h, h', q => rfl
  | o :: os, e, 0, i' + 1, j, d, nd, h, h', q => by
    simp at h; subst h
    unfold ownIx at nd
    rw [q] at nd
    exact absurd (ownIx_mem (os := os) (i := i') (by simpa using h') q) (List.nodup_cons.mp nd).1
  | o :: os, e, i + 1, 0, j, d, nd, h, h', q => by
    simp at h'; subst h'
    unfold ownIx at nd
    rw [q] at nd
    exact absurd (ownIx_mem (os := os) (i := i) (by simpa using h) q) (List.nodup_cons.mp nd).1
  | o :: os, e, i + 1, i' + 1, j, d, nd, h, h', q => by
    have nd' : (ownIx os e).Nodup := by
      cases o with
      | val _ => exact nd
      | pl k =>
        unfold ownIx at nd
        split at nd
        · exact (List.nodup_cons.mp nd).2
        · exact nd
    rw [ownIx_inj (os := os) (i := i) (i' := i') nd' (by simpa using h) (by simpa using h') q]
theorem putA_spec : ∀ {os : List Opd} {as : List Sl} {e0 e e2 : Fr}, putA os as e0 e = some e2 → os.length = as.length → e.length = e0.length → e2.length = e.length ∧
    ∀ (j : Nat), (∃ (i : Nat) (d d' : PV), os[i]? = some (.pl j) ∧ as[i]? = some (.own d') ∧ e0[j]? = some (.own d) ∧ e2[j]? = some (.own d')) ∨ ((∀ (i : Nat) d, os[i]? = some (.pl j) → e0[j]? ≠ some (.own d)) ∧ e2[j]? = e[j]?)
  | [], as, e0, e, e2, h, _, _ => by
    cases as with
    | nil => simp [putA] at h; subst h; exact ⟨rfl, fun j => .inr ⟨fun i d z => by simp at z, rfl⟩⟩
    | cons _ _ => simp [putA] at h; subst h; exact ⟨rfl, fun j => .inr ⟨fun i d z => by simp at z, rfl⟩⟩
  | _ :: _, [], _, _, _, _, hl, _ => by simp at hl
  | .val v :: os, s :: as, e0, e, e2, h, hl, hl2 => by
    unfold putA at h
    obtain ⟨h1, h2⟩ := putA_spec h (by simpa using hl) hl2
    refine ⟨h1, fun j => ?_⟩
    rcases h2 j with ⟨i, d, d', a, b, c, f⟩ | ⟨n, q⟩
    · exact .inl ⟨i + 1, d, d', by simpa using a, by simpa using b, c, f⟩
    · refine .inr ⟨fun i d z => ?_, q⟩
      cases i with
      | zero => simp at z
      | succ i => exact n i d (by simpa using z)
  | .pl k :: os, s :: as, e0, e, e2, h, hl, hl2 => by
    unfold putA at h
    split at h
    · rename_i dk hk
      cases s with
      | own d' =>
        dsimp only at h
        obtain ⟨h1, h2⟩ := putA_spec h (by simpa using hl) (by simpa using hl2)
        have hkl : k < e.length := by rw [hl2]; exact (List.getElem?_eq_some_iff.mp hk).1
        refine ⟨by simpa using h1, fun j => ?_⟩
        rcases h2 j with ⟨i, d, d', a, b, c, f⟩ | ⟨n, q⟩
        · exact .inl ⟨i + 1, d, d', by simpa using a, by simpa using b, c, f⟩
        · by_cases hj : k = j
          · subst hj
            rw [List.getElem?_set_self hkl] at q
            exact .inl ⟨0, dk, d', rfl, rfl, hk, q⟩
          · rw [List.getElem?_set_ne hj] at q
            refine .inr ⟨fun i d z => ?_, q⟩
            cases i with
            | zero => simp at z; exact absurd z hj
            | succ i => exact n i d (by simpa using z)
      | fz _ => cases h
      | un => cases h
    · rename_i hk
      obtain ⟨h1, h2⟩ := putA_spec h (by simpa using hl) hl2
      refine ⟨h1, fun j => ?_⟩
      rcases h2 j with ⟨i, d, d', a, b, c, f⟩ | ⟨n, q⟩
      · exact .inl ⟨i + 1, d, d', by simpa using a, by simpa using b, c, f⟩
      · refine .inr ⟨fun i d z => ?_, q⟩
        cases i with
        | zero => simp at z; subst z; exact fun zz => hk _ zz
        | succ i => exact n i d (by simpa using z)

section
variable {K : PySem.W.Frag} {np : Nat} {P : Addr → Prop} {B : List (Nat × Addr)} {H0 H H' : Hp} {e e2 : Fr} {σ : L2.St} {os : List Opd} {as as' : List Sl} {vs : List V} {Z : Addr → Prop}
theorem os_get {i : Nat} {o : Opd} (r : rOs K Z os e σ H vs) (h : os[i]? = some o) : ∃ v, vs[i]? = some v ∧ rO K Z o e σ H v := by
  have r' : Paired (fun o v => rO K Z o e σ H v) os vs := r
  clear r
  induction r' generalizing i with
  | nil => simp at h
  | cons a b ih =>
    cases i with
    | zero => simp at h; subst h; exact ⟨_, rfl, a⟩
    | succ i => simpa using ih (i := i) (by simpa using h)
theorem os_len (r : rOs K Z os e σ H vs) : os.length = vs.length := Paired.length r
theorem ai_of (I : VI K np P B H0 e σ H) (r : rOs K Z os e σ H vs) (g : getA os e = some as) (nd : (ownIx os e).Nodup) : AI K H vs as as H := by
  have hl : as.length = vs.length := (getA_len g).trans (os_len r)
  have own : ∀ (i : Nat) d, as[i]? = some (.own d) → ∃ (j : Nat) (a : Addr), os[i]? = some (.pl j) ∧ e[j]? = some (.own d) ∧ vs[i]? = some (.ref a) ∧ σ[j]? = some (some (.ref a)) ∧ Ow K H a d := fun i d q => by
    obtain ⟨o, h1, h2⟩ := getA_get g q
    cases o with
    | val d' => simp [slO] at h2
    | pl j =>
      obtain ⟨v, h3, h4⟩ := os_get r h1
      unfold slO at h2
      dsimp only at h2
      split at h2
      · cases h2
      · rename_i d' hj
        cases h2
        obtain ⟨a, x, y, _⟩ := I.ow j d hj
        have h5 := h4.1
        rw [x] at h5; cases h5
        exact ⟨j, a, h1, hj, h3, x, y⟩
      · cases h2
  refine ⟨by simpa using hl, fun i d q => ?_, fun i d q => ?_, fun i j d d' a q1 q2 s1 s2 => ?_, fun i a q => (by cases q), fun b o q _ => q, fun b o q => ⟨o, q⟩⟩
  · obtain ⟨o, h1, h2⟩ := getA_get g q
    obtain ⟨v, h3, h4⟩ := os_get r h1
    refine ⟨v, by rw [List.getElem?_map, h3]; rfl, ?_⟩
    cases o with
    | val d' => simp [slO] at h2; subst h2; exact h4
    | pl j =>
      unfold slO at h2
      dsimp only at h2
      split at h2
      · rename_i d' hj
        cases h2
        obtain ⟨v', x, y⟩ := I.fz j d hj
        have h5 := h4.1
        rw [x] at h5; cases h5
        exact y
      · cases h2
      · cases h2
  · obtain ⟨j, a, h1, h2, h3, h4, h5⟩ := own i d q
    exact ⟨a, by rw [List.getElem?_map, h3]; rfl, h5, .inl ⟨i, d, q, by rw [List.getElem?_map, h3]; rfl⟩⟩
  · obtain ⟨k, b, h1, h2, h3, h4, _⟩ := own i d q1
    obtain ⟨k', b', h1', h2', h3', h4', _⟩ := own j d' q2
    rw [List.getElem?_map, h3] at s1; cases s1
    rw [List.getElem?_map, h3'] at s2; cases s2
    have e := I.dj k k' _ _ _ h2 h2' h4 h4'
    subst e
    exact ownIx_inj nd h1 h1' h2
theorem ai_back (I : VI K np P B H0 e σ H) (r : rOs K Z os e σ H vs) (g : getA os e = some as) (nd : (ownIx os e).Nodup) (J : AI K H vs as as' H') (l : HLe H H') (hp : putA os as' e e = some e2) : VI K np P B H0 e2 σ H' := by
  have hl : as.length = vs.length := (getA_len g).trans (os_len r)
  have hl' : as'.length = vs.length := by simpa using J.len
  obtain ⟨pl, ps⟩ := putA_spec hp ((os_len r).trans hl'.symm) rfl
  -- an owner of the callee's is a slot of ours that was handed on
  have owner : ∀ b, Owned as (vs.map some) b → ∃ (i j : Nat) (d : PV), os[i]? = some (.pl j) ∧ e[j]? = some (.own d) ∧ σ[j]? = some (some (.ref b)) := fun b ⟨i, d, q, z⟩ => by
    obtain ⟨o, h1, h2⟩ := getA_get g q
    obtain ⟨v, h3, h4⟩ := os_get r h1
    rw [List.getElem?_map, h3] at z; cases z
    cases o with
    | val d' => simp [slO] at h2
    | pl j =>
      unfold slO at h2
      dsimp only at h2
      split at h2
      · cases h2
      · rename_i d' hj; exact ⟨i, j, d', h1, hj, h4.1⟩
      · cases h2
  have key : ∀ (j : Nat) d, e2[j]? = some (.own d) → ∃ d0 a, e[j]? = some (.own d0) ∧ σ[j]? = some (some (.ref a)) ∧ Ow K H' a d ∧ (P a ∨ H0 a = none) := fun j d q => by
    rcases ps j with ⟨i, d0, d', h1, h2, h3, h4⟩ | ⟨n, h⟩
    · rw [h4] at q; cases q
      obtain ⟨a, x, y, z⟩ := I.ow j d0 h3
      obtain ⟨v, h5, h6⟩ := os_get r h1
      have h7 := h6.1
      rw [x] at h7; cases h7
      obtain ⟨a', x', y', _⟩ := J.ow i _ h2
      rw [List.getElem?_map, h5] at x'; cases x'
      exact ⟨d0, a, h3, x, y', z⟩
    · rw [h] at q
      obtain ⟨a, x, y, z⟩ := I.ow j d q
      refine ⟨d, a, q, x, y.le l ?_, z⟩
      obtain ⟨u, hu, _⟩ := y.at
      rw [hu]
      refine J.keep a u hu fun w => ?_
      obtain ⟨i, j', d', h1, h2, h3⟩ := owner a w
      have e := I.dj j j' _ _ _ q h2 x h3
      subst e
      exact n i d' h1 h2
  refine ⟨pl.trans I.len, fun j d q => ?_, fun j d q => ?_, fun j k d d' a q1 q2 s1 s2 => ?_, fun j a q => ?_, fun b o q n => ?_, fun b o q => ?_⟩
  · rcases ps j with ⟨i, d0, d', h1, h2, h3, h4⟩ | ⟨n, h⟩
    · rw [h4] at q; cases q
    · rw [h] at q
      obtain ⟨v, x, y⟩ := I.fz j d q
      exact ⟨v, x, y.le l⟩
  · obtain ⟨d0, a, _, h2, h3, h4⟩ := key j d q
    exact ⟨a, h2, h3, h4⟩
  · obtain ⟨d0, _, h1, _⟩ := key j d q1
    obtain ⟨d1, _, h2, _⟩ := key k d' q2
    exact I.dj j k _ _ a h1 h2 s1 s2
  · obtain ⟨h1, h2, d, h3⟩ := I.pin j a q
    refine ⟨h1, h2, ?_⟩
    rcases ps j with ⟨i, d0, d', _, _, _, h4⟩ | ⟨n, h⟩
    · exact ⟨d', h4⟩
    · exact ⟨d, by rw [h]; exact h3⟩
  · refine J.keep b o (I.keep b o q n) fun w => ?_
    obtain ⟨i, j', d', h1, h2, h3⟩ := owner b w
    obtain ⟨a, x, _, z⟩ := I.ow j' d' h2
    rw [h3] at x; cases x
    rcases z with z | z
    · exact n z
    · rw [q] at z; cases z
  · obtain ⟨o', q'⟩ := I.al b o q
    exact l.alive b o' q'
end

/-- the call of a def that is mf -/
def mCall (mf : MF) (mos : Mo (List Opd)) : Mo Sl := mB mos fun os e => match getA os e with
  | none => .stuck
  | some as => if (ownIx os e).Nodup then match mf as with
      | .ret s as' => match putA os as' e e with
        | some e2 => .ok s e2
        | none => .stuck
      | .exc C ds as' => match putA os as' e e with
        | some e2 => .exc C ds e2
        | none => .stuck
      | .stuck => .stuck
    else .stuck
section
variable {X : Cx} {np : Nat} {W : WX} {a b c : Expr} {pos : Pos}
abbrev JAO (X : Cx) (np : Nat) (W : WX) (es : List Expr) (m : Mo (List Opd)) : Prop := PA X es (tG X.K np W (rOs X.K) m)
def mNilO : Mo (List Opd) := mR []
def mConsO (m : Mo Opd) (r : Mo (List Opd)) : Mo (List Opd) := mB m fun d => mB r fun ds => mR (d :: ds)
theorem jao_nil : JAO X np W [] mNilO := PAi pa_nil fun σ H Q ⟨P, B, H0, e, I, h⟩ => h [] H I .nil (.refl H)
theorem rO.ne {K : PySem.W.Frag} {Z Z' : Addr → Prop} {o : Opd} {v : V} {e e' : Fr} {σ : L2.St} {H H' : Hp} (l : HLe H H') (r : rO K Z o e σ H v) (h : NE e e') : rO K Z' o e' σ H' v := by
  cases o with
  | val d => exact Fz.le l r
  | pl i => obtain ⟨h1, s, h2, h3⟩ := r; exact ⟨h1, h i s h2 h3⟩
/-- operands in a row; the later ones leave no slot of the earlier ones empty -/
def neB (o : Opd) (e : Fr) : Bool := match o with
  | .val _ => true
  | .pl i => match e[i]? with
    | some (.fz _) => true
    | some (.own _) => true
    | _ => false
def mConsO' (m : Mo Opd) (r : Mo (List Opd)) : Mo (List Opd) := mB m fun d => mB r fun ds e => if neB d e then .ok (d :: ds) e else .stuck
theorem jao_cons {e : Expr} {es : List Expr} {m : Mo Opd} {r : Mo (List Opd)} (ha : JO X np W e m) (hr : JAO X np W es r) (hs : starEach (e :: es) X.env = (false, eval e X.env) :: starEach es X.env := by rfl) : JAO X np W (e :: es) (mConsO' m r) := by
  refine PAi (pa_cons ha hr hs) fun σ H Q h => tG.bind h fun P B H0 x e1 v H1 I r l h => ?_
  refine tG.bind (tG.of I h) fun P B H0 y e2 u H2 I2 r2 l2 h => ?_
  by_cases hn : neB x e2 = true
  · rw [if_pos hn] at h
    refine h _ H2 I2 (.cons ?_ r2) (.refl _)
    cases x with
    | val d => exact Fz.le l2 r
    | pl i =>
      refine ⟨r.1, ?_⟩
      unfold neB at hn
      dsimp only at hn
      split at hn
      · rename_i d hd; exact ⟨_, hd, by simp⟩
      · rename_i d hd; exact ⟨_, hd, by simp⟩
      · cases hn
  · rw [if_neg hn] at h; exact h.elim
theorem putA_own {os : List Opd} {as : List Sl} {e e2 : Fr} (h : putA os as e e = some e2) (hl : os.length = as.length) {j : Nat} {d : PV} (q : e2[j]? = some (.own d)) : ∃ d0, e[j]? = some (.own d0) := by
  rcases (putA_spec h hl rfl).2 j with ⟨i, d0, d', _, _, h3, _⟩ | ⟨_, h⟩
  · exact ⟨d0, h3⟩
  · exact ⟨d, by rw [← h]; exact q⟩
/-- f(e, ..), f a def of the text -/
theorem js_call {mf : MF} {mos : Mo (List Opd)} {n k : Nat} {f : Addr} {fd : FuncData} {ps : List Str} {x : Str} {p : Pos} {es : List Expr} {e : Expr} (hW : Takes X W) (F : FnOk X.prog X.w X.K X.mg X.base (L2.CX X.prog X.w) k f fd ps (spF X.K n mf)) (hr : Room k X.A)
    (hm : X.mg x = some (.ref f)) (hk : PySem.W.keepIn X.K (.ref f) = true) (hb : Binds X.K fd ps []) (ha : JAO X np W (e :: es) mos) (hn : (e :: es).length = n := by rfl) (hlen : ∀ e e' os, mos e = .ok os e' → os.length = n) (hg : Gl X x := by rfl)
    (hdb : (x == ("__debug__" : Str)) = false := by decide) (he : starEach (e :: es) X.env = (false, eval e X.env) :: starEach es X.env := by rfl) (hpl : (backTo pos (starEach es X.env)).any (·.1) = false := by rfl) :
    JS X np W (.Call (.Name x p) (e :: es) [] pos) (mCall mf mos) := by
  refine PEi (pe_callSD (dvs := []) (E := WE W) F hr hg hm hk hb .nil (fun σ => passAt hW σ) ha hdb he hpl) fun σ H Q h => ?_
  obtain ⟨P, B, H0, e0, I0, h⟩ := h
  refine ⟨P, B, H0, e0, I0, ?_⟩
  unfold mCall mB at h
  generalize hos : mos e0 = o at h ⊢
  cases o with
  | stuck => exact h
  | exc C ds e1 => exact h
  | ok os e1 =>
    intro vs H1 I1 r1 l1
    rw [List.append_nil]
    dsimp only at h
    generalize hg : getA os e1 = ga at h
    cases ga with
    | none => exact h.elim
    | some as =>
      dsimp only at h
      by_cases hnd : (ownIx os e1).Nodup
      case neg => rw [if_neg hnd] at h; exact h.elim
      rw [if_pos hnd] at h
      refine ⟨as, (getA_len hg).trans (hlen _ _ _ hos), ai_of I1 r1 hg hnd, ?_⟩
      generalize hmf : mf as = om at h ⊢
      cases om with
      | stuck => exact h.elim
      | ret s as' =>
        intro v H2 J rf l2
        dsimp only at h
        generalize hp : putA os as' e1 e1 = op at h
        cases op with
        | none => exact h.elim
        | some e2 =>
          have I2 := ai_back I1 r1 hg hnd J l2 hp
          refine h v H2 I2 ?_ (l1.trans l2)
          cases s with
          | un => exact rf.elim
          | fz d => exact rf
          | own d =>
            obtain ⟨b, rfl, ow, hn0⟩ := rf
            refine ⟨b, rfl, ow, .inr (I1.fresh hn0), fun j d' q z => ?_⟩
            have hl1 : os.length = as'.length := (os_len r1).trans (by simpa using J.len.symm)
            obtain ⟨d0, q0⟩ := putA_own hp hl1 q
            obtain ⟨b', x', y', z'⟩ := I1.ow j d0 q0
            rw [z] at x'; cases x'
            obtain ⟨u, hu, _⟩ := y'.at
            rw [hn0] at hu; cases hu
      | exc C ds as' =>
        intro xd H2 J rf l2
        dsimp only at h
        generalize hp : putA os as' e1 e1 = op at h
        cases op with
        | none => exact h.elim
        | some e2 => exact h xd H2 (ai_back I1 r1 hg hnd J l2 hp) rf (l1.trans l2)
end
end VS

set_option Elab.async false
set_option linter.all false
set_option maxRecDepth 100000
set_option maxHeartbeats 1000000
/-! VS8: the operations. -/
namespace VS
open PySem L2 PyProof.Rows

mutual
/-- as data; a thing that is none becomes a dict -/
def PV.toD : PV → PyData
  | .non => .none
  | .bl b => .bool b
  | .int i => .int i
  | .str x => .str x
  | .tup xs => .tuple (toDs xs)
  | .lst xs => .list (toDs xs)
  | .scr _ => .dict []
  | .obj _ _ => .dict []
  | .ad _ => .dict []
  | .any => .dict []
def toDs : List PV → List PyData
  | [] => []
  | x :: xs => x.toD :: toDs xs
end
theorem toDs_map : ∀ xs : List PV, toDs xs = xs.map PV.toD
  | [] => rfl
  | x :: xs => by rw [toDs, toDs_map xs]; rfl
mutual
theorem Fz.dp {K : PySem.W.Frag} {H : Hp} : ∀ (d : PV) (v : V), Fz K H v d → d.toD.canLay0 = true → Dp K H v d.toD
  | .non, _, h, _ => by cases h; exact .non
  | .bl b, _, h, _ => by cases h; exact .bl b
  | .int i, _, h, _ => by cases h; exact .int i
  | .str i, _, h, _ => by cases h; exact .str i
  | .tup xs, _, h, c => by
    cases h with | tup h1 h2 => exact .tup h1 (FzA.dp xs _ h2 (by simpa [PV.toD, PyData.canLay0] using c))
  | .lst xs, _, h, c => by
    cases h with | lst h1 h2 => exact .lst h1.sq (FzA.dp xs _ h2 (by simpa [PV.toD, PyData.canLay0] using c))
  | .scr _, _, _, c => by simp [PV.toD, PyData.canLay0] at c
  | .obj _ _, _, _, c => by simp [PV.toD, PyData.canLay0] at c
  | .ad _, _, _, c => by simp [PV.toD, PyData.canLay0] at c
  | .any, _, _, c => by simp [PV.toD, PyData.canLay0] at c
theorem FzA.dp {K : PySem.W.Frag} {H : Hp} : ∀ (ds : List PV) (vs : List V), FzA K H vs ds → PyData.canLayAll0 (toDs ds) = true → DpAll K H vs (toDs ds)
  | [], _, h, _ => by cases h; exact .nil
  | d :: ds, _, h, c => by
    cases h with
    | cons h1 h2 =>
      have c' : (d.toD.canLay0 && PyData.canLayAll0 (toDs ds)) = true := c
      rw [Bool.and_eq_true] at c'
      exact .cons (Fz.dp d _ h1 c'.1) (FzA.dp ds _ h2 c'.2)
end
theorem Rr.dp {K : PySem.W.Frag} {H : Hp} {v : V} {d : PV} (h : Rr K H v d) (c : d.toD.canLay0 = true) : Dp K H v d.toD := by
  rcases h with h | ⟨a, rfl, h⟩
  · exact h.dp d v c
  · cases d with
    | lst ds =>
      obtain ⟨xs, h1, h2⟩ := h
      exact .lst (SqL.of h1) (FzA.dp ds xs h2 (by simpa [PV.toD, PyData.canLay0] using c))
    | obj _ _ => simp [PV.toD, PyData.canLay0] at c
    | _ => exact h.elim
/-- plain data of little depth -/
def okD (d : PV) : Bool := SeqAt.shaped d.toD
theorem okD.lay {d : PV} (h : okD d = true) : d.toD.canLay0 = true := SeqAt.canLay_of_shaped h

section
variable {K : PySem.W.Frag}
theorem Res.int {H : Hp} {i : Int} {Q : VK} (h : Res K H (.fz (.int i)) Q) : Q (.int i) H := h _ H (fun _ _ z => z) (.int i)
theorem Res.bl {H : Hp} {i : Bool} {Q : VK} (h : Res K H (.fz (.bl i)) Q) : Q (.bl i) H := h _ H (fun _ _ z => z) (.bl i)
theorem Res.str {H : Hp} {i : Str} {Q : VK} (h : Res K H (.fz (.str i)) Q) : Q (.str i) H := h _ H (fun _ _ z => z) (.str i)
theorem Res.non {H : Hp} {Q : VK} (h : Res K H (.fz .non) Q) : Q .non H := h _ H (fun _ _ z => z) .non

/-! ints -/
def fI (C : Int → Int → Bool) (g : Int → Int → PV) : PV → PV → Option Sl := fun x y => match x, y with
  | .int i, .int j => if C i j then some (.fz (g i j)) else none
  | _, _ => none
theorem f2I {C : Int → Int → Prop} {C' : Int → Int → Bool} {g : Int → Int → V} {g' : Int → Int → PV} (hC : ∀ i j, C' i j = true → C i j) (hg : ∀ H i j, Fz K H (g i j) (g' i j)) : F2 K (L2.rI C g) (fI C' g') := by
  intro H x y d1 d2 s Q r1 r2 h _ q
  unfold fI at h
  split at h
  · rename_i i j
    split at h
    · rename_i hc
      cases h
      exact ⟨i, j, r1.int, r2.int, hC i j hc, q _ H (fun _ _ z => z) (hg H i j)⟩
    · cases h
  · cases h
theorem f2I0 {g : Int → Int → V} {g' : Int → Int → PV} (hg : ∀ H i j, Fz K H (g i j) (g' i j)) : F2 K (rI0 g) (fI (fun _ _ => true) g') := by
  intro H x y d1 d2 s Q r1 r2 h _ q
  unfold fI at h
  split at h
  · rename_i i j
    rw [if_pos rfl] at h
    cases h
    exact ⟨i, j, r1.int, r2.int, q _ H (fun _ _ z => z) (hg H i j)⟩
  · cases h
def fSub := fI (fun _ _ => true) fun i j => .int (i - j)
theorem f2_sub : F2 K (rI0 fun i j => .int (i - j)) fSub := f2I0 fun _ _ _ => .int _
def mulB (i j : Int) : Bool := (decide (-(2 ^ 64) < i) && decide (i < 2 ^ 64)) || (decide (-(2 ^ 64) < j) && decide (j < 2 ^ 64))
def fMul := fI mulB fun i j => .int (i * j)
theorem f2_mul : F2 K (L2.rI CMul fun i j => .int (i * j)) fMul := f2I (fun i j h => by
  unfold mulB at h
  rw [Bool.or_eq_true, Bool.and_eq_true, Bool.and_eq_true, decide_eq_true_eq, decide_eq_true_eq, decide_eq_true_eq, decide_eq_true_eq] at h
  exact h) fun _ _ _ => .int _
def fDiv := fI (fun _ j => decide (0 < j) && decide (j < 1073741824)) fun i j => .int (i / j)
theorem f2_div : F2 K (L2.rI CDiv fun i j => .int (i / j)) fDiv := f2I (fun i j h => by
  rw [Bool.and_eq_true, decide_eq_true_eq, decide_eq_true_eq] at h; exact h) fun _ _ _ => .int _
def fMod := fI (fun _ j => decide (0 < j)) fun i j => .int (i % j)
theorem f2_mod : F2 K (L2.rI (fun _ j => 0 < j) fun i j => .int (i % j)) fMod := f2I (fun i j h => by
  rw [decide_eq_true_eq] at h; exact h) fun _ _ _ => .int _
def fAnd := fI (fun _ _ => true) fun i j => .int (Builtin.bitAnd i j)
theorem f2_and : F2 K (rI0 fun i j => .int (Builtin.bitAnd i j)) fAnd := f2I0 fun _ _ _ => .int _
def fShr := fI (fun _ j => decide (0 ≤ j)) fun i j => .int (i / 2 ^ j.toNat)
theorem f2_shr : F2 K (L2.rI (fun _ j => 0 ≤ j) fun i j => .int (i / 2 ^ j.toNat)) fShr := f2I (fun i j h => by
  rw [decide_eq_true_eq] at h; exact h) fun _ _ _ => .int _
def fPow := fI (fun i j => decide (0 ≤ j) && decide (j ≤ 1000000) && decide (i.natAbs < 2 ^ 64)) fun i j => .int (i ^ j.toNat)
theorem f2_pow : F2 K (L2.rI CPow fun i j => .int (i ^ j.toNat)) fPow := f2I (fun i j h => by
  rw [Bool.and_eq_true, Bool.and_eq_true, decide_eq_true_eq, decide_eq_true_eq, decide_eq_true_eq] at h; exact ⟨h.1.1, h.1.2, h.2⟩) fun _ _ _ => .int _
def fLt := fI (fun _ _ => true) fun i j => .bl (decide (i < j))
theorem f2_lt : F2 K (rI0 fun i j => .bl (decide (i < j))) fLt := f2I0 fun _ _ _ => .bl _
def fLe := fI (fun _ _ => true) fun i j => .bl (decide (i ≤ j))
theorem f2_le : F2 K (rI0 fun i j => .bl (decide (i ≤ j))) fLe := f2I0 fun _ _ _ => .bl _
def fGt := fI (fun _ _ => true) fun i j => .bl (decide (j < i))
theorem f2_gt : F2 K (rI0 fun i j => .bl (decide (j < i))) fGt := f2I0 fun _ _ _ => .bl _
def fGe := fI (fun _ _ => true) fun i j => .bl (decide (j ≤ i))
theorem f2_ge : F2 K (rI0 fun i j => .bl (decide (j ≤ i))) fGe := f2I0 fun _ _ _ => .bl _

/-! + -/
def rCatR : R2 := fun x y H Q => ∃ l b xs zs, x = .ref l ∧ y = .ref b ∧ Rd H l (.lst xs) ∧ Rd H b (.lst zs) ∧ xs.length + zs.length ≤ sizeLine ∧ ∀ p, H p = none → Q (.ref p) (upd H p (.lst (xs ++ zs)))
theorem rd_lst {X : Cx} {pins : List (Addr × Obj)} {σ : L2.St} {H : Hp} {s : Shared} {l : Addr} {xs : List V} (I : Inv X pins σ H s) (h : Rd H l (.lst xs)) : xs.length ≤ sizeLine ∧ ∃ (its : List Value) (n : Nat), Vals xs its ∧ s.heap.get? l = some { cls := .type "list", data := .seq its.toArray n } := by
  obtain ⟨z, its, n, r, e⟩ := h.ok I.hok
  exact ⟨z, its, n, r, e⟩
theorem op_catR {X : Cx} : OpR X (binaryOp .Add) rCatR := by
  intro pins s σ H x y v u Q I rx ry h
  obtain ⟨l, b, xs, zs, rfl, rfl, hH, hB, hz, q⟩ := h
  cases rx
  cases ry
  obtain ⟨z, its, n, r, e⟩ := rd_lst I hH
  obtain ⟨z2, its2, n2, r2, e2⟩ := rd_lst I hB
  have h1 := r.length
  have h2 := r2.length
  refine PySem.P.add_list e e2 ?_ (by rw [List.size_toArray, List.size_toArray]; omega)
  have ea : its.toArray ++ its2.toArray = (its ++ its2).toArray := by simp
  rw [ea]
  exact ⟨.ref _, _, I.lnew (t' := s.toks) (r.append r2) (by rw [List.length_append]; omega), rfl, q _ I.fresh⟩
def fAdd : PV → PV → Option Sl := fun x y => match x, y with
  | .int i, .int j => some (.fz (.int (i + j)))
  | .str i, .str j => if i.length + j.length ≤ sizeLine then some (.fz (.str (i ++ j))) else none
  | .tup xs, .tup ys => if xs.length + ys.length ≤ sizeLine then some (.fz (.tup (xs ++ ys))) else none
  | .lst xs, .lst ys => if xs.length + ys.length ≤ sizeLine then some (.own (.lst (xs ++ ys))) else none
  | _, _ => none
def rAddV (K : PySem.W.Frag) : R2 := fun x y H Q => (∃ i j, x = .int i ∧ y = .int j ∧ Q (.int (i + j)) H) ∨ (∃ i j, x = .str i ∧ y = .str j ∧ i.length + j.length ≤ sizeLine ∧ Q (.str (i ++ j)) H) ∨ rCatA K x y H Q ∨ rCatR x y H Q
theorem op_addV {X : Cx} : OpR X (binaryOp .Add) (rAddV X.K) := OpR.or op_add (OpR.or op_add_str (OpR.or op_catA op_catR))
theorem f2_add : F2 K (rAddV K) fAdd := by
  intro H x y d1 d2 s Q r1 r2 h _ q
  unfold fAdd at h
  split at h
  · cases h; exact .inl ⟨_, _, r1.int, r2.int, q.int⟩
  · split at h
    · rename_i hz; cases h; exact .inr (.inl ⟨_, _, r1.str, r2.str, hz, q.str⟩)
    · cases h
  · rename_i xs ys
    split at h
    · rename_i hz
      cases h
      obtain ⟨a, vs, e1, h1, h2⟩ := r1.tup
      obtain ⟨b, ws, e2, h3, h4⟩ := r2.tup
      refine .inr (.inr (.inl ⟨a, b, vs, ws, e1, e2, h1, h3, by rw [h2.length, h4.length]; exact hz, fun e => ?_, fun n e => ?_, fun n1 n2 p hp => ?_⟩))
      · subst e; cases h2
        exact q _ H (fun _ _ z => z) (.tup h3 h4)
      · subst e; cases h4
        rw [List.append_nil] at q
        exact q _ H (fun _ _ z => z) (.tup h1 h2)
      · exact q _ _ (fun b u z => by rw [upd_ne (ne_of_none z hp)]; exact z) (.tup (SqT.of upd_same) (FzA.le (.alloc hp) (h2.append h4)))
    · cases h
  · rename_i xs ys
    split at h
    · rename_i hz
      cases h
      obtain ⟨a, vs, e1, h1, h2⟩ := r1.lstR
      obtain ⟨b, ws, e2, h3, h4⟩ := r2.lstR
      refine .inr (.inr (.inr ⟨a, b, vs, ws, e1, e2, h1, h3, by rw [h2.length, h4.length]; exact hz, fun p hp => ?_⟩))
      exact q _ _ (fun b u z => by rw [upd_ne (ne_of_none z hp)]; exact z) ⟨_, upd_same, FzA.le (.alloc hp) (h2.append h4)⟩ hp
    · cases h
  · cases h

/-! ==, in, is -/
def fEq : PV → PV → Option Sl := fun x y => if okD x && okD y then some (.fz (.bl (PyData.eqv x.toD y.toD))) else none
def fNe : PV → PV → Option Sl := fun x y => if okD x && okD y then some (.fz (.bl (!PyData.eqv x.toD y.toD))) else none
theorem f2_eq : F2 K (rEqD K) fEq := by
  intro H x y d1 d2 s Q r1 r2 h _ q
  unfold fEq at h
  split at h
  · rename_i hc
    rw [Bool.and_eq_true] at hc
    cases h
    exact ⟨_, _, r1.dp (okD.lay hc.1), r2.dp (okD.lay hc.2), hc.1, hc.2, q.bl⟩
  · cases h
theorem f2_ne : F2 K (rNeD K) fNe := by
  intro H x y d1 d2 s Q r1 r2 h _ q
  unfold fNe at h
  split at h
  · rename_i hc
    rw [Bool.and_eq_true] at hc
    cases h
    exact ⟨_, _, r1.dp (okD.lay hc.1), r2.dp (okD.lay hc.2), hc.1, hc.2, q.bl⟩
  · cases h
def rInT (K : PySem.W.Frag) : R2 := fun x y H Q => ∃ d ds, Dp K H x d ∧ Dp K H y (.tuple ds) ∧ SeqAt.shaped d = true ∧ SeqAt.shaped (.tuple ds) = true ∧ Q (.bl (ds.any fun z => PyData.eqv z d)) H
def rNotInT (K : PySem.W.Frag) : R2 := fun x y H Q => ∃ d ds, Dp K H x d ∧ Dp K H y (.tuple ds) ∧ SeqAt.shaped d = true ∧ SeqAt.shaped (.tuple ds) = true ∧ Q (.bl (!ds.any fun z => PyData.eqv z d)) H
theorem op_inT {X : Cx} (hu : X.A.units + 65 < cLine) : OpR X (compareOp .In) (rInT X.K) := by
  intro pins s σ H x y v u Q I rx ry h
  obtain ⟨d, ds, hd, he, sd, se, q⟩ := h
  obtain ⟨as, r1⟩ := Dp.reads I d x v hd rx
  obtain ⟨bs, r2⟩ := Dp.reads I (.tuple ds) y u he ry
  exact SeqAt.in_tuple_reads r2 r1 (SeqAt.canLay_of_shaped se) (SeqAt.canLay_of_shaped sd) (room_in_shaped sd hu) ⟨.bl _, H, I, rfl, q⟩
theorem op_notInT {X : Cx} (hu : X.A.units + 65 < cLine) : OpR X (compareOp .NotIn) (rNotInT X.K) := by
  intro pins s σ H x y v u Q I rx ry h
  obtain ⟨d, ds, hd, he, sd, se, q⟩ := h
  obtain ⟨as, r1⟩ := Dp.reads I d x v hd rx
  obtain ⟨bs, r2⟩ := Dp.reads I (.tuple ds) y u he ry
  exact SeqAt.notIn_tuple_reads r2 r1 (SeqAt.canLay_of_shaped se) (SeqAt.canLay_of_shaped sd) (room_in_shaped sd hu) ⟨.bl _, H, I, rfl, q⟩
def inD (x : PV) (ds : List PV) : Bool := ds.any fun z => PyData.eqv z.toD x.toD
theorem inD_eq (x : PV) (ds : List PV) : (toDs ds).any (fun z => PyData.eqv z x.toD) = inD x ds := by rw [toDs_map, List.any_map]; rfl
def fIn : PV → PV → Option Sl := fun x y => match y with
  | .lst ds => if okD x && okD y then some (.fz (.bl (inD x ds))) else none
  | .tup ds => if okD x && okD y then some (.fz (.bl (inD x ds))) else none
  | _ => none
def fNotIn : PV → PV → Option Sl := fun x y => match y with
  | .lst ds => if okD x && okD y then some (.fz (.bl (!inD x ds))) else none
  | .tup ds => if okD x && okD y then some (.fz (.bl (!inD x ds))) else none
  | _ => none
def rInV (K : PySem.W.Frag) : R2 := fun x y H Q => rInD K x y H Q ∨ rInT K x y H Q
def rNotInV (K : PySem.W.Frag) : R2 := fun x y H Q => rNotInD K x y H Q ∨ rNotInT K x y H Q
theorem op_inV {X : Cx} (hu : X.A.units + 65 < cLine) : OpR X (compareOp .In) (rInV X.K) := OpR.or (op_inD hu) (op_inT hu)
theorem op_notInV {X : Cx} (hu : X.A.units + 65 < cLine) : OpR X (compareOp .NotIn) (rNotInV X.K) := OpR.or (op_notInD hu) (op_notInT hu)
theorem f2_in : F2 K (rInV K) fIn := by
  intro H x y d1 d2 s Q r1 r2 h _ q
  unfold fIn at h
  split at h
  · split at h
    · rename_i ds hc
      rw [Bool.and_eq_true] at hc
      cases h
      exact .inl ⟨_, toDs ds, r1.dp (okD.lay hc.1), r2.dp (okD.lay hc.2), hc.1, hc.2, by rw [inD_eq]; exact q.bl⟩
    · cases h
  · split at h
    · rename_i ds hc
      rw [Bool.and_eq_true] at hc
      cases h
      exact .inr ⟨_, toDs ds, r1.dp (okD.lay hc.1), r2.dp (okD.lay hc.2), hc.1, hc.2, by rw [inD_eq]; exact q.bl⟩
    · cases h
  · cases h
theorem f2_notIn : F2 K (rNotInV K) fNotIn := by
  intro H x y d1 d2 s Q r1 r2 h _ q
  unfold fNotIn at h
  split at h
  · split at h
    · rename_i ds hc
      rw [Bool.and_eq_true] at hc
      cases h
      exact .inl ⟨_, toDs ds, r1.dp (okD.lay hc.1), r2.dp (okD.lay hc.2), hc.1, hc.2, by rw [inD_eq]; exact q.bl⟩
    · cases h
  · split at h
    · rename_i ds hc
      rw [Bool.and_eq_true] at hc
      cases h
      exact .inr ⟨_, toDs ds, r1.dp (okD.lay hc.1), r2.dp (okD.lay hc.2), hc.1, hc.2, by rw [inD_eq]; exact q.bl⟩
    · cases h
  · cases h
def PV.isN : PV → Bool
  | .non => true
  | _ => false
theorem Rr.isN {H : Hp} {v : V} {d : PV} (h : Rr K H v d) (hd : d ≠ .any) : decide (v = .non) = d.isN := by
  rcases h with h | ⟨a, rfl, h⟩
  · cases h <;> first | exact absurd rfl hd | simp [PV.isN]
  · cases d <;> first | (exact h.elim) | simp [PV.isN]
def fIs : PV → PV → Option Sl := fun x y => match x, y with
  | .any, _ => none
  | _, .non => some (.fz (.bl x.isN))
  | .bl a, .bl b => some (.fz (.bl (decide (a = b))))
  | _, _ => none
def fIsNot : PV → PV → Option Sl := fun x y => match x, y with
  | .any, _ => none
  | _, .non => some (.fz (.bl (!x.isN)))
  | .bl a, .bl b => some (.fz (.bl (!decide (a = b))))
  | _, _ => none
def rIsV : R2 := fun x y H Q => (y = .non ∧ Q (.bl (decide (x = .non))) H) ∨ (∃ a b, x = .bl a ∧ y = .bl b ∧ Q (.bl (decide (a = b))) H)
def rIsNotV : R2 := fun x y H Q => (y = .non ∧ Q (.bl (!decide (x = .non))) H) ∨ (∃ a b, x = .bl a ∧ y = .bl b ∧ Q (.bl (!decide (a = b))) H)
theorem op_isV {X : Cx} : OpR X (compareOp .Is) rIsV := OpR.or op_isN op_is_bl
theorem op_isNotV {X : Cx} : OpR X (compareOp .IsNot) rIsNotV := OpR.or op_notN op_isnot_bl
theorem f2_is : F2 K rIsV fIs := by
  intro H x y d1 d2 s Q r1 r2 h _ q
  unfold fIs at h
  split at h
  · cases h
  · rename_i hne; cases h; exact .inl ⟨r2.non, by rw [r1.isN hne]; exact q.bl⟩
  · cases h; exact .inr ⟨_, _, r1.bl, r2.bl, q.bl⟩
  · cases h
theorem f2_isNot : F2 K rIsNotV fIsNot := by
  intro H x y d1 d2 s Q r1 r2 h _ q
  unfold fIsNot at h
  split at h
  · cases h
  · rename_i hne; cases h; exact .inl ⟨r2.non, by rw [r1.isN hne]; exact q.bl⟩
  · cases h; exact .inr ⟨_, _, r1.bl, r2.bl, q.bl⟩
  · cases h

/-! subscripts -/
def fIx : PV → PV → Option Sl := fun x y => match x, y with
  | .lst xs, .int i => (atI xs i).map .fz
  | .tup xs, .int i => (atI xs i).map .fz
  | .str z, .int i => if z.length ≤ sizeLine then (atI z.cps.toList i).map fun c => .fz (.str ⟨#[c]⟩) else none
  | _, _ => none
theorem FzA.at {H : Hp} {vs : List V} {ds : List PV} {i : Int} {d : PV} (f : FzA K H vs ds) (h : atI ds i = some d) : ∃ v, atI vs i = some v ∧ Fz K H v d := by
  unfold atI at h ⊢
  rw [f.length]
  cases e : ixN ds.length i with
  | none => rw [e] at h; cases h
  | some j =>
    rw [e] at h
    exact f.get h
theorem f2_ix : F2 K (rIx K) fIx := by
  intro H x y d1 d2 s Q r1 r2 h _ q
  unfold fIx at h
  split at h
  · rename_i xs i
    cases e : atI xs i with
    | none => rw [e] at h; cases h
    | some d =>
      rw [e] at h; cases h
      obtain ⟨a, vs, e1, h1, h2⟩ := r1.lst
      obtain ⟨v, h3, h4⟩ := h2.at e
      exact .inl ⟨a, vs, i, v, e1, r2.int, h1, h3, q v H (fun _ _ z => z) h4⟩
  · rename_i xs i
    cases e : atI xs i with
    | none => rw [e] at h; cases h
    | some d =>
      rw [e] at h; cases h
      obtain ⟨a, vs, e1, h1, h2⟩ := r1.tup
      obtain ⟨v, h3, h4⟩ := h2.at e
      exact .inr (.inl ⟨a, vs, i, v, e1, r2.int, h1, h3, q v H (fun _ _ z => z) h4⟩)
  · rename_i z i
    split at h
    · rename_i hz
      cases e : atI z.cps.toList i with
      | none => rw [e] at h; cases h
      | some c =>
        rw [e] at h; cases h
        exact .inr (.inr ⟨z, i, c, r1.str, r2.int, hz, e, q.str⟩)
    · cases h
  · cases h

/-! calls of built-ins -/
def fLen : PV → Option Sl
  | .lst xs => some (.fz (.int xs.length))
  | .tup xs => some (.fz (.int xs.length))
  | .str z => if z.length ≤ sizeLine then some (.fz (.int z.length)) else none
  | _ => none
def rLenV (K : PySem.W.Frag) : List V → Hp → VK → Prop := fun xs H Q => (∃ p ys, xs = [.ref p] ∧ (SqL K H p ys ∨ SqT K H p ys) ∧ Q (.int ys.length) H) ∨ (∃ z, xs = [.str z] ∧ z.length ≤ sizeLine ∧ Q (.int z.length) H)
theorem cr_len {X : Cx} : CallR X (.builtin "len") (rLenV X.K) := CallR.or call_len_seq call_len_str
theorem f1_len : F1 K (rLenV K) fLen := by
  intro H x d1 s Q r1 h _ q
  unfold fLen at h
  split at h
  · cases h
    obtain ⟨a, vs, rfl, h1, h2⟩ := r1.lst
    exact .inl ⟨a, vs, rfl, .inl h1, by rw [h2.length]; exact q.int⟩
  · cases h
    obtain ⟨a, vs, rfl, h1, h2⟩ := r1.tup
    exact .inl ⟨a, vs, rfl, .inr h1, by rw [h2.length]; exact q.int⟩
  · split at h
    · rename_i hz
      cases h
      exact .inr ⟨_, by rw [r1.str], hz, q.int⟩
    · cases h
  · cases h
def fInt : PV → Option Sl
  | .int i => some (.fz (.int i))
  | _ => none
theorem f1_int : F1 K (fun xs H Q => (∃ i, xs = [.int i] ∧ Q (.int i) H) ∨ ∃ k, xs = [.bl k] ∧ Q (.int (if k then 1 else 0)) H) fInt := by
  intro H x d1 s Q r1 h _ q
  unfold fInt at h
  split at h
  · cases h
    exact .inl ⟨_, by rw [r1.int], q.int⟩
  · cases h
def fAbs : PV → Option Sl
  | .int i => some (.fz (.int (if i < 0 then -i else i)))
  | _ => none
theorem f1_abs : F1 K (fun xs H Q => ∃ i, xs = [.int i] ∧ Q (.int (if i < 0 then -i else i)) H) fAbs := by
  intro H x d1 s Q r1 h _ q
  unfold fAbs at h
  split at h
  · cases h
    exact ⟨_, by rw [r1.int], q.int⟩
  · cases h
def fTuple : PV → Option Sl
  | .lst xs => some (.fz (.tup xs))
  | .tup xs => some (.fz (.tup xs))
  | _ => none
def rTupleV (K : PySem.W.Frag) : List V → Hp → VK → Prop := fun xs H Q => ∃ p ys, xs = [.ref p] ∧ ((SqL K H p ys ∧ ∀ l, H l = none → Q (.ref l) (upd H l (.tup ys))) ∨ (SqT K H p ys ∧ Q (.ref p) H))
theorem f1_tuple : F1 K (rTupleV K) fTuple := by
  intro H x d1 s Q r1 h _ q
  unfold fTuple at h
  split at h
  · cases h
    obtain ⟨a, vs, rfl, h1, h2⟩ := r1.lst
    refine ⟨a, vs, rfl, .inl ⟨h1, fun l hl => ?_⟩⟩
    exact q _ _ (fun b u z => by rw [upd_ne (ne_of_none z hl)]; exact z) (.tup (SqT.of upd_same) (FzA.le (.alloc hl) h2))
  · cases h
    obtain ⟨a, vs, rfl, h1, h2⟩ := r1.tup
    exact ⟨a, vs, rfl, .inr ⟨h1, q _ H (fun _ _ z => z) (.tup h1 h2)⟩⟩
  · cases h
def fList : PV → Option Sl
  | .lst xs => some (.own (.lst xs))
  | .tup xs => some (.own (.lst xs))
  | _ => none
theorem f1_list : F1 K (fun xs H Q => ∃ p ys, xs = [.ref p] ∧ (SqL K H p ys ∨ SqT K H p ys) ∧ ∀ l, H l = none → Q (.ref l) (upd H l (.lst ys))) fList := by
  intro H x d1 s Q r1 h _ q
  unfold fList at h
  split at h
  · cases h
    obtain ⟨a, vs, rfl, h1, h2⟩ := r1.lst
    refine ⟨a, vs, rfl, .inl h1, fun l hl => ?_⟩
    exact q _ _ (fun b u z => by rw [upd_ne (ne_of_none z hl)]; exact z) ⟨_, upd_same, FzA.le (.alloc hl) h2⟩ hl
  · cases h
    obtain ⟨a, vs, rfl, h1, h2⟩ := r1.tup
    refine ⟨a, vs, rfl, .inr h1, fun l hl => ?_⟩
    exact q _ _ (fun b u z => by rw [upd_ne (ne_of_none z hl)]; exact z) ⟨_, upd_same, FzA.le (.alloc hl) h2⟩ hl
  · cases h
end
end VS

set_option Elab.async false
set_option linter.all false
set_option maxRecDepth 100000
set_option maxHeartbeats 1000000
/-! VS9: sorted, min; append, stores; attributes, new instances; isinstance. -/
namespace VS
open PySem L2 PyProof.Rows

/-! ### sorted, min -/
def tup1 : PyData → Bool
  | .tuple (_ :: _) => true
  | _ => false
def notTup : PyData → Bool
  | .tuple _ => false
  | .none => false
  | _ => true
def alikeB (ds : List PyData) : Bool := ds.all fun d => ds.all fun d' => PySem.W.alike d d'
theorem alikeB_of {ds : List PyData} (h : alikeB ds = true) : ∀ d ∈ ds, ∀ d' ∈ ds, PySem.W.alike d d' = true := fun d hd d' hd' =>
  List.all_eq_true.mp (List.all_eq_true.mp h d hd) d' hd'
def sortB (xs : List PV) : Bool := okD (.lst xs) && alikeB (toDs xs) && ((toDs xs).all tup1 || (toDs xs).all notTup) && decide (xs.length ≤ sizeLine)
def leD : PV → PV → Bool := PySem.W.dataLe false PV.toD
def fSorted : PV → Option Sl
  | .lst xs => if sortB xs then some (.own (.lst (xs.mergeSort leD))) else none
  | _ => none
def rSortedV (K : PySem.W.Frag) : List V → Hp → VK → Prop := fun vs H Q => ∃ (a : Addr) (ys : List V) (ds : List PV), vs = [V.ref a] ∧ SqL K H a ys ∧ FzA K H ys ds ∧ sortB ds = true ∧
  ∀ (p : Addr) (zs : List V), FzA K H zs (ds.mergeSort leD) → H p = none → Q (.ref p) (upd H p (.lst zs))
theorem depth_all : ∀ {ds : List PyData} {d : PyData}, d ∈ ds → d.depth ≤ PyData.depthAll ds
  | x :: xs, d, h => by
    rw [PyData.depthAll]
    rcases List.mem_cons.mp h with rfl | h
    · exact Nat.le_max_left _ _
    · exact Nat.le_trans (depth_all h) (Nat.le_max_right _ _)
theorem each_of {K : PySem.W.Frag} {H : Hp} : ∀ {ys : List V} {us : List Value} {ds : List PV}, Vals ys us → FzA K H ys ds → PySem.W.EachIs (fun v b => ∃ x, RelV x v ∧ Fz K H x b) us ds
  | _, _, _, .nil, .nil => .nil
  | _, _, _, .cons r t, .cons f g => .cons ⟨_, r, f⟩ (each_of t g)
theorem each_back {K : PySem.W.Frag} {H : Hp} : ∀ {us : List Value} {ds : List PV}, PySem.W.EachIs (fun v b => ∃ x, RelV x v ∧ Fz K H x b) us ds → ∃ zs, Vals zs us ∧ FzA K H zs ds
  | _, _, .nil => ⟨[], .nil, .nil⟩
  | _, _, .cons ⟨x, r, f⟩ t => let ⟨zs, a, b⟩ := each_back t; ⟨x :: zs, .cons r a, .cons f b⟩
theorem each_reads {X : Cx} {pins : List (Addr × Obj)} {σ : L2.St} {H : Hp} {s : Shared} (I : Inv X pins σ H s) : ∀ {ys : List V} {us : List Value} {ds : List PV}, Vals ys us → FzA X.K H ys ds → PyData.canLayAll0 (toDs ds) = true →
    PySem.W.EachIs (fun v b => ∃ as, Reads s.heap v (PV.toD b) as) us ds
  | _, _, _, .nil, .nil, _ => .nil
  | _, _, _, .cons r t, .cons f g, h => by
    have h' : (PyData.canLay0 _ && PyData.canLayAll0 _) = true := h
    rw [Bool.and_eq_true] at h'
    exact .cons (Dp.reads I _ _ _ (Fz.dp _ _ f h'.1) r) (each_reads I t g h'.2)
theorem cr_sortedV {X : Cx} (hu : X.A.units + 100 < cLine) : CallR X (.builtin "sorted") (rSortedV X.K) := by
  intro pins s σ H vs us Q I r h
  obtain ⟨a, ys, ds, rfl, hs, hf, hb, q⟩ := h
  obtain ⟨its, rv, hl, hz⟩ := I.list hs
  rw [Vals.ref1 r]
  unfold sortB at hb
  rw [Bool.and_eq_true, Bool.and_eq_true, Bool.and_eq_true] at hb
  obtain ⟨⟨⟨h1, h2⟩, h3⟩, h4⟩ := hb
  have hlay : PyData.canLayAll0 (toDs ds) = true := by simpa [PV.toD, PyData.canLay0] using okD.lay h1
  have hdep : PyData.depthAll (toDs ds) ≤ 64 := by
    have z := SeqAt.depth_of_shaped h1
    rw [PV.toD, PyData.depth] at z
    omega
  refine PySem.W.sorted_data (enc := PV.toD) (R := fun v b => ∃ x, RelV x v ∧ Fz X.K H x b) hl.isList (each_of rv hf) (each_reads I rv hf hlay) ?_ ?_ (of_decide_eq_true h4) (fun b hb => ?_) fun out hlen he => ?_
  · rw [← toDs_map]; exact alikeB_of h2
  · rw [← toDs_map]
    rcases Bool.or_eq_true _ _ ▸ h3 with h3 | h3
    · refine .inl fun d hd => ?_
      have z := List.all_eq_true.mp h3 d hd
      cases d with
      | tuple xs =>
        cases xs with
        | nil => cases z
        | cons x r => exact ⟨x, r, rfl⟩
      | _ => cases z
    · refine .inr fun d hd => ?_
      have z := List.all_eq_true.mp h3 d hd
      refine ⟨fun e => ?_, fun xs e => ?_⟩
      · subst e; cases z
      · subst e; cases z
  · have z : (PV.toD b).depth ≤ PyData.depthAll (toDs ds) := depth_all (by rw [toDs_map]; exact List.mem_map_of_mem hb)
    omega
  · obtain ⟨zs, e1, e2⟩ := each_back he
    obtain ⟨ep, he'⟩ := PyProof.Rows.sortedAll_at s.heap its out.toArray
    have hl2 : zs.length ≤ sizeLine := by rw [e1.length, hlen]; exact of_decide_eq_true h4
    exact ⟨.ref _, upd H (s.heap.objs.size + 1) (.lst zs), I.laid (t' := s.toks) (fun _ _ => PyProof.Rows.sortedAll_old) (Nat.le_succ _) ⟨hl2, out, ep, e1, by simpa using he'⟩, rfl, q _ zs e2 (I.hok.fresh (Nat.le_succ _))⟩
theorem f1_sorted {K : PySem.W.Frag} : F1 K (rSortedV K) fSorted := by
  intro H x d1 s Q r1 h _ q
  unfold fSorted at h
  split at h
  · rename_i xs
    split at h
    · rename_i hb
      cases h
      obtain ⟨a, vs, rfl, h1, h2⟩ := r1.lst
      refine ⟨a, vs, xs, rfl, h1, h2, hb, fun p zs hz hp => ?_⟩
      exact q p _ (fun b u z => by rw [upd_ne (ne_of_none z hp)]; exact z) ⟨_, upd_same, FzA.le (.alloc hp) hz⟩ hp
    · cases h
  · cases h
/-- min of a list of texts or of numbers -/
def allS : List PV → Option (List Str)
  | [] => some []
  | .str x :: r => (allS r).map (x :: ·)
  | _ :: _ => none
def ltS (x y : Str) : Bool := decide (x.cps.toList < y.cps.toList)
def minS (x : Str) (xs : List Str) : Str := xs.foldl (fun a y => if ltS y a then y else a) x
def fMin : PV → Option Sl
  | .lst (.str x :: r) => if okD (.lst (.str x :: r)) then (allS r).map fun xs => .fz (.str (minS x xs)) else none
  | _ => none
theorem allS_map : ∀ {ds : List PV} {xs : List Str}, allS ds = some xs → ds = xs.map PV.str
  | [], xs, h => by simp [allS] at h; subst h; rfl
  | .str x :: r, xs, h => by
    unfold allS at h
    cases e : allS r with
    | none => rw [e] at h; cases h
    | some ys => rw [e] at h; cases h; rw [allS_map e]; rfl
  | .non :: _, _, h | .bl _ :: _, _, h | .int _ :: _, _, h | .tup _ :: _, _, h | .lst _ :: _, _, h | .scr _ :: _, _, h | .obj _ _ :: _, _, h | .ad _ :: _, _, h | .any :: _, _, h => by simp [allS] at h
theorem dataLt_str (x y : Str) : PySem.W.dataLt (.str x) (.str y) = ltS x y := by
  have e := congrFun (congrFun (PySem.W.dataLe_str (fun z : Str => z)) y) x
  rw [PySem.W.dataLe_eq] at e
  simp only [cond_false] at e
  unfold ltS
  have h : (PySem.W.dataLt (.str x) (.str y)) = !decide (y.cps.toList ≤ x.cps.toList) := by rw [← e, Bool.not_not]
  rw [h]
  by_cases z : x.cps.toList < y.cps.toList
  · rw [decide_eq_true z, decide_eq_false (List.not_le.mpr z)]; rfl
  · rw [decide_eq_false z, decide_eq_true (List.not_lt.mp z)]; rfl
theorem minD_str (x : Str) : ∀ xs : List Str, PySem.W.minD (.str x) (xs.map .str) = .str (minS x xs) := by
  intro xs
  unfold PySem.W.minD minS
  induction xs generalizing x with
  | nil => rfl
  | cons y r ih =>
    rw [List.map_cons, List.foldl_cons, List.foldl_cons, dataLt_str]
    cases ltS y x with
    | true => exact ih y
    | false => exact ih x
def rMinS (K : PySem.W.Frag) : List V → Hp → VK → Prop := fun vs H Q => ∃ (a : Addr) (x : Str) (xs : List Str), vs = [V.ref a] ∧ SqL K H a ((x :: xs).map V.str) ∧ Q (.str (minS x xs)) H
theorem strs_reads {h : Heap} : ∀ {xs : List Str} {us : List Value}, Vals (xs.map V.str) us → ReadsAll h us (xs.map .str) []
  | [], _, .nil => .nil
  | x :: xs, _, .cons r t => by
    obtain ⟨tk, rfl⟩ := r
    exact ReadsAll.cons (as := []) (bs := []) (.str _ _) (strs_reads t)
theorem cr_minS {X : Cx} (hc : X.calm = true) (hu : X.A.units + 100 < cLine) : CallR X (.builtin "min") (rMinS X.K) := by
  intro pins s σ H vs us Q I r h
  obtain ⟨a, x, xs, rfl, hs, q⟩ := h
  obtain ⟨its, rv, hl, hz⟩ := I.list hs
  rw [Vals.ref1 r]
  have dep : ∀ l : List Str, PyData.depthAll (l.map PyData.str) = 0 := fun l => by
    induction l with
    | nil => rfl
    | cons y l ih => rw [List.map_cons, PyData.depthAll, ih]; rfl
  refine PySem.W.min_list_data (x := .str x) (xs := xs.map .str) (I.ok.hd hc) hl.isList (by simpa using strs_reads rv) ⟨fun d hd d' hd' => ?_, fun d hd e => ?_⟩ ?_ fun i v h' tk bs hi hr hk => ?_
  · have f : ∀ d, d ∈ PyData.str x :: xs.map PyData.str → ∃ y, d = .str y := fun d hd => by
      rcases List.mem_cons.mp hd with rfl | hd
      · exact ⟨x, rfl⟩
      · obtain ⟨y, _, rfl⟩ := List.mem_map.mp hd; exact ⟨y, rfl⟩
    obtain ⟨y, rfl⟩ := f d hd
    obtain ⟨z, rfl⟩ := f d' hd'
    simp [PySem.W.alike]
  · subst e
    rcases List.mem_cons.mp hd with z | hd
    · cases z
    · obtain ⟨y, _, z⟩ := List.mem_map.mp hd; cases z
  · have := dep (x :: xs)
    rw [List.map_cons] at this
    rw [this]; omega
  · rw [minD_str] at hr
    cases hr
    exact ⟨.str _, H, I.kept hk, ⟨_, rfl⟩, q⟩
theorem vals_str_of {K : PySem.W.Frag} {H : Hp} : ∀ {xs : List Str} {vs : List V}, FzA K H vs (xs.map PV.str) → vs = xs.map V.str
  | [], _, .nil => rfl
  | x :: xs, _, .cons f g => by cases f; rw [vals_str_of g]; rfl
theorem f1_min {K : PySem.W.Frag} : F1 K (rMinS K) fMin := by
  intro H x d1 s Q r1 h _ q
  unfold fMin at h
  split at h
  · rename_i x r
    split at h
    · rename_i hb
      cases e : allS r with
      | none => rw [e] at h; cases h
      | some xs =>
        rw [e] at h; cases h
        have e' := allS_map e
        subst e'
        obtain ⟨a, vs, rfl, h1, h2⟩ := r1.lst
        have e2 : vs = (x :: xs).map V.str := vals_str_of (xs := x :: xs) h2
        subst e2
        exact ⟨a, x, xs, rfl, h1, q.str⟩
    · cases h
  · cases h

/-! ### append, stores into a list -/
section
variable {X : Cx} {np : Nat} {W : WX} {a b c : Expr} {pos : Pos}
def ownL : Option Sl → Option (List PV)
  | some (.own (.lst ds)) => some ds
  | _ => none
theorem ownL_eq {s : Option Sl} {ds : List PV} (h : ownL s = some ds) : s = some (.own (.lst ds)) := by
  unfold ownL at h
  split at h
  · cases h; rfl
  · cases h
def mApp (i : Nat) (m : Mo PV) : Mo Sl := fun e => match ownL e[i]? with
  | some _ => mB m (fun d e1 => match ownL e1[i]? with
    | some ds => if ds.length < sizeLine then .ok (.fz .non) (e1.set i (.own (.lst (ds ++ [d])))) else .stuck
    | none => .stuck) e
  | none => .stuck
theorem js_app (i : Nat) {x : Str} {p apos : Pos} {m : Mo PV} (hx : PE X (.Name x p) (tVar i)) (h : JE X np W a m) (hline : (apos.endLine == pos.line) = true := by rfl)
    (hbase : attributeBase (.Name x p) "append" X.env (eval (.Name x p) X.env) = eval (.Name x p) X.env := by rfl) (hs : starEach [a] X.env = (false, eval a X.env) :: starEach [] X.env := by rfl)
    (hfew : ((backTo pos (starEach [a] X.env)).all (fun x => !x.1) && (backToKw pos (keywordEach [] X.env)).all (fun x => x.1.isSome)
      && decide ([a].length + ([] : List Keyword).length + (if ([] : List Keyword).isEmpty then 0 else 1) < 30)) = true := by rfl) (hplain : (backTo pos (starEach [] X.env)).any (·.1) = false := by rfl) :
    JS X np W (.Call (.Attribute (.Name x p) "append" apos) [a] [] pos) (mApp i m) := by
  refine PEi (pe_bm PySem.F.plainAttrs_list PySem.F.slot_list_append PySem.F.type_list_append mt_append hx (pa_cons h pa_nil hs) hbase hfew hline hs hplain) fun σ H Q ⟨P, B, H0, e, I, h⟩ => ?_
  unfold mApp at h
  cases he : ownL e[i]? with
  | none => rw [he] at h; exact h.elim
  | some ds0 =>
    rw [he] at h
    have he := ownL_eq he
    obtain ⟨l, h1, ⟨xs0, h2, _⟩, _⟩ := I.ow i _ he
    refine ⟨_, h1, .inl ⟨rfl, _, SqL.of h2⟩, tG.bind (tG.of I h) fun P B H0 d e1 v H1 I1 r1 l1 h => ?_⟩
    cases he1 : ownL e1[i]? with
    | none => rw [he1] at h; exact h.elim
    | some ds =>
      rw [he1] at h
      have he1 := ownL_eq he1
      dsimp only at h
      by_cases hz : ds.length < sizeLine
      · rw [if_pos hz] at h
        obtain ⟨l', h3, ⟨xs, h4, h5⟩, _⟩ := I1.ow i _ he1
        rw [h1] at h3; cases h3
        have lw : HLe H1 (upd H1 l (.lst (xs ++ [v]))) := .write h4 (fun _ z => nomatch z) (fun _ _ z => nomatch z)
        exact ⟨l, xs, v, rfl, rfl, h4, by rw [h5.length]; exact hz, h .non _ (I1.write he1 h1 ⟨_, upd_same, FzA.le lw (FzA.append h5 (.cons r1 .nil))⟩) .non lw⟩
      · rw [if_neg hz] at h; exact h.elim
/-- x[j] = e -/
def sSetIx (i : Nat) (mv mj : Mo PV) : MS := mS mv fun d e => match ownL e[i]? with
  | some _ => mS mj (fun j e => match j, ownL e[i]? with
    | .int k, some ds => match ixN ds.length k with
      | some n => .nx (e.set i (.own (.lst (ds.set n d))))
      | none => .stuck
    | _, _ => .stuck) e
  | none => .stuck
theorem jst_setIx (i : Nat) {x : Str} {p tp : Pos} {mv mj : Mo PV} (hx : PE X (.Name x p) (tVar i)) (hj : JE X np W b mj) (hv : JE X np W a mv) (hs : swapsWithSole [.Subscript (.Name x p) b tp] a pos.line X.env = pure false := by rfl) (hw : swappedStores [.Subscript (.Name x p) b tp] a X.env = pure none := by rfl)
    (h1 : (assignEach [.Subscript (.Name x p) b tp] X.env).map (·.2) = [assign (.Subscript (.Name x p) b tp) X.env] := by rfl)
    (ha : ∀ v, assign (.Subscript (.Name x p) b tp) X.env v = (do
      let ov ← holding [v] (eval (.Name x p) X.env)
      let iv ← holding [v, ov] (eval b X.env)
      standAt tp
      holding [v, ov, iv] (setItem ov iv v)
      release [v, ov, iv] []) := by intro _; rfl) : JSt X np W (.Assign [.Subscript (.Name x p) b tp] a pos) (sSetIx i mv mj) := by
  refine PSi (ps_asg hv (pg_sub hx hj set_list ha) hs hw h1) fun D σ H h => tS.bind h fun P B H0 d e1 v H1 I1 r1 l1 h => ?_
  cases he : ownL e1[i]? with
  | none => rw [he] at h; exact h.elim
  | some ds0 =>
    rw [he] at h
    have he := ownL_eq he
    obtain ⟨l, h3, _, _⟩ := I1.ow i _ he
    refine ⟨_, h3, tS.bind (tS.of I1 h) fun P B H0 j e2 u H2 I2 r2 l2 h => ?_⟩
    cases j with
    | int k =>
      cases r2
      cases he2 : ownL e2[i]? with
      | none => rw [he2] at h; exact h.elim
      | some ds =>
        rw [he2] at h
        have he2 := ownL_eq he2
        dsimp only at h
        obtain ⟨l', h3', ⟨xs, h4, h5⟩, _⟩ := I2.ow i _ he2
        rw [h3] at h3'; cases h3'
        cases hn : ixN ds.length k with
        | none => rw [hn] at h; exact h.elim
        | some n =>
          rw [hn] at h
          have lw : HLe H2 (upd H2 l (.lst (xs.set n v))) := .write h4 (fun _ z => nomatch z) (fun _ _ z => nomatch z)
          exact ⟨l, xs, k, n, rfl, rfl, h4, by rw [h5.length]; exact hn, h σ _ (I2.write he2 h3 ⟨_, upd_same, FzA.le lw (FzA.set (Fz.le l2 r1) n h5)⟩) lw⟩
    | _ => exact h.elim
end
end VS

set_option Elab.async false
set_option linter.all false
set_option maxRecDepth 100000
set_option maxHeartbeats 1000000
/-! VS10: attributes, new instances, isinstance with built-in classes. -/
namespace VS
open PySem L2 PyProof.Rows

/-! ### attributes -/
theorem ins_getR {P : Program} {w : World} {H : Hp} {h : Heap} {a C dx : Addr} {fs : List (Str × V)} (hok : HOk P w H h) (e : Rd H a (.ins C dx fs)) : ∃ mA, ObjM h a dx C mA ∧ (∀ f, RelO (fs.lookup f) (mA f)) ∧ PySem.Within mA (fs.map (·.1)) := by
  obtain ⟨d, z, ne, ob, mA, n, r, q⟩ := (show ObjOk P w H h a (.ins C dx fs) from e.ok hok)
  exact ⟨mA, ⟨ob, n, ne⟩, r, q⟩
section
variable {X : Cx} {np : Nat} {W : WX} {a b c : Expr} {pos : Pos}
theorem getattr_okR {pins : List (Addr × Obj)} {σ : L2.St} {H : Hp} {s : Shared} {p C dx : Addr} {fs : List (Str × V)} {f : Str} {v : V} {A : Around} {E : Value → Shared → Prop} {b : Bool} {Q : Value → Shared → Prop} (I : Inv X pins σ H s) (e : Rd H p (.ins C dx fs)) (c : Cls X.K C) (n : NoAttr X.K C f) (l : fs.lookup f = some v)
    (h : ∀ u s', Inv X pins σ H s' → RelV v u → Q u s') : wpAny (model X.prog X.w) A (getAttr (.ref p) f b) Q E s := by
  obtain ⟨mA, O, r, _⟩ := ins_getR I.hok e
  obtain ⟨u, hu, ru⟩ := RelO.some_of (v := v) (o := mA f) (by rw [← l]; exact r f)
  exact get_map I.kIn O (c.get f) c.hd n hu (handed_of ru) (h u _ (I.tok _) ru)
def tFldR (K : PySem.W.Frag) (ta : TE) (f : Str) : TE := fun σ H Q => ta σ H fun x H1 => ∃ a C dx fs v, x = .ref a ∧ Rd H1 a (.ins C dx fs) ∧ Cls K C ∧ NoAttr K C f ∧ fs.lookup f = some v ∧ Q v H1
theorem pe_fldR {e : Expr} {f : Str} {ta : TE} (he : PE X e ta) (hb : attributeBase e f X.env (eval e X.env) = eval e X.env) : PE X (.Attribute e f pos) (tFldR X.K ta f) := by
  refine ⟨fun pins s σ H Q I h => ?_⟩
  refine attr_of hb (thn (he.run pins s σ H _ I h) fun u s1 ⟨x, H1, I1, rx, a, C, dx, fs, v, ex, ea, c, n, l, q⟩ => ?_)
  subst ex
  obtain rfl : u = Value.ref a := rx
  exact getattr_okR I1 ea c n l fun u' s2 I2 ru => ⟨v, H1, I2, ru, q⟩
theorem Rr.obj {K : PySem.W.Frag} {H : Hp} {v : V} {C : Addr} {ds : List (Str × PV)} (h : Rr K H v (.obj C ds)) : ∃ a dx fs, v = .ref a ∧ Rd H a (.ins C dx fs) ∧ FzF K H fs ds := by
  rcases h with h | ⟨a, rfl, h⟩
  · cases h with | obj h1 h2 => exact ⟨_, _, _, rfl, .inr ⟨_, h1⟩, h2⟩
  · obtain ⟨dx, fs, h1, h2⟩ := h
    exact ⟨a, dx, fs, rfl, .inl h1, h2⟩
def fFld (C : Addr) (f : Str) : PV → Option Sl
  | .obj D fs => if D = C then (fs.lookup f).map .fz else none
  | _ => none
theorem js_fld {C : Addr} {f : Str} {mo : Mo Opd} (hc : Cls X.K C) (hn : NoAttr X.K C f) (ha : JO X np W a mo) (hb : attributeBase a f X.env (eval a X.env) = eval a X.env := by rfl) : JS X np W (.Attribute a f pos) (mOp1 (fFld C f) mo) := by
  refine PEi (pe_fldR ha hb) fun σ H Q h => ?_
  have hf : F1 X.K (fun xs H1 Q => ∃ v, xs = [v] ∧ ∃ a C dx fs u, v = .ref a ∧ Rd H1 a (.ins C dx fs) ∧ Cls X.K C ∧ NoAttr X.K C f ∧ fs.lookup f = some u ∧ Q u H1) (fFld C f) := by
    intro H x d1 s Q r1 h7 _ q
    unfold fFld at h7
    split at h7
    · rename_i D ds
      split at h7
      · rename_i hD
        subst hD
        cases e : ds.lookup f with
        | none => rw [e] at h7; cases h7
        | some d =>
          rw [e] at h7; cases h7
          obtain ⟨p, dx, fs, e1, e2, e3⟩ := r1.obj
          obtain ⟨u, e4, e5⟩ := e3.lookup e
          exact ⟨x, rfl, p, D, dx, fs, u, e1, e2, hc, hn, e4, q u H (fun _ _ z => z) e5⟩
      · cases h7
    · cases h7
  obtain ⟨P, B, H0, e, I, z⟩ := op1_of hf h
  refine ⟨P, B, H0, e, I, ?_⟩
  generalize mo e = o at z ⊢
  cases o with
  | ok o e1 =>
    intro v H1 I1 r1 l1
    obtain ⟨v', e1, e2⟩ := z v H1 I1 r1 l1
    cases e1
    exact e2
  | exc C ds e1 => exact z
  | stuck => exact z
/-- o.f = e, o a thing that the slot i holds alone (self in __init__) -/
def ownO : Option Sl → Option (Addr × List (Str × PV))
  | some (.own (.obj C fs)) => some (C, fs)
  | _ => none
theorem ownO_eq {s : Option Sl} {C : Addr} {fs : List (Str × PV)} (h : ownO s = some (C, fs)) : s = some (.own (.obj C fs)) := by
  unfold ownO at h
  split at h
  · cases h; rfl
  · cases h
def sFldP (C : Addr) (i : Nat) (f : Str) (m : Mo PV) : MS := mS m fun d e => match ownO e[i]? with
  | some (D, fs) => if D = C ∧ fs.length < 1000 then .nx (e.set i (.own (.obj C (putP f d fs)))) else .stuck
  | none => .stuck
theorem jst_fld {C : Addr} {f : Str} (i : Nat) {x : Str} {p pos' : Pos} {m : Mo PV} (hc : Cls X.K C) (hn : NoAttr X.K C f) (hx : PE X (.Name x p) (tVar i)) (h : JE X np W a m) (hs : swapsWith a (some (.Attribute (.Name x p) f pos')) pos.line X.env = pure false := by rfl) :
    JSt X np W (.Assign [.Attribute (.Name x p) f pos'] a pos) (sFldP C i f m) := by
  refine PSi (ps_fld hx h hs) fun D σ H h => tS.bind h fun P B H0 d e1 v H1 I1 r1 l1 h => ?_
  cases he : ownO e1[i]? with
  | none => rw [he] at h; exact h.elim
  | some q =>
    obtain ⟨D', fs⟩ := q
    rw [he] at h
    have he := ownO_eq he
    dsimp only at h
    by_cases hq : D' = C ∧ fs.length < 1000
    · rw [if_pos hq] at h
      obtain ⟨rfl, hl⟩ := hq
      obtain ⟨l, h1, ⟨dx, vs, h2, h3⟩, _⟩ := I1.ow i _ he
      have lw : HLe H1 (upd H1 l (.ins D' dx (putF f v vs))) := .write h2 (fun _ z => nomatch z) (fun _ _ z => nomatch z)
      refine ⟨_, h1, l, D', dx, vs, rfl, h2, hc, hn, by rw [h3.length]; exact hl, ?_⟩
      exact h σ _ (I1.write he h1 ⟨dx, _, upd_same, FzF.le lw (FzF.put r1 h3)⟩) lw
    · rw [if_neg hq] at h; exact h.elim

/-! ### new instances -/
theorem ai_cons {K : PySem.W.Frag} {H : Hp} {vs : List V} {as : List Sl} {x : Addr} {d : PV} (I : AI K H vs as as H) (hx : Ow K H x d) (hn : ¬ Owned as (vs.map some) x) : AI K H (.ref x :: vs) (.own d :: as) (.own d :: as) H := by
  refine ⟨by simpa using I.len, fun i d' q => ?_, fun i d' q => ?_, fun i j d1 d2 a q1 q2 s1 s2 => ?_, fun i a q => (by cases q), fun b o q _ => q, fun b o q => ⟨o, q⟩⟩
  · cases i with
    | zero => simp at q
    | succ i => simpa using I.fz i d' (by simpa using q)
  · cases i with
    | zero => simp at q; subst q; exact ⟨x, rfl, hx, .inl ⟨0, d, rfl, rfl⟩⟩
    | succ i =>
      obtain ⟨a, h1, h2, _⟩ := I.ow i d' (by simpa using q)
      exact ⟨a, by simpa using h1, h2, .inl ⟨i + 1, d', q, by simpa using h1⟩⟩
  · cases i with
    | zero =>
      cases j with
      | zero => rfl
      | succ j => simp at s1; subst s1; exact absurd ⟨j, d2, by simpa using q2, by simpa using s2⟩ hn
    | succ i =>
      cases j with
      | zero => simp at s2; subst s2; exact absurd ⟨i, d1, by simpa using q1, by simpa using s1⟩ hn
      | succ j => rw [I.dj i j d1 d2 a (by simpa using q1) (by simpa using q2) (by simpa using s1) (by simpa using s2)]
theorem owned_cons {vs : List V} {as : List Sl} {x b : Addr} {d : PV} (h : Owned (.own d :: as) ((V.ref x :: vs).map some) b) : b = x ∨ Owned as (vs.map some) b := by
  obtain ⟨i, d', q, z⟩ := h
  cases i with
  | zero => simp at z; exact .inl z.symm
  | succ i => exact .inr ⟨i, d', by simpa using q, by simpa using z⟩
theorem ai_tail {K : PySem.W.Frag} {H H1 H2 : Hp} {vs : List V} {as as' : List Sl} {x : Addr} {d : PV} {s : Sl} (J : AI K H1 (.ref x :: vs) (.own d :: as) (s :: as') H2) (h : ∀ b o, H b = some o → H1 b = some o) (hx : H x = none) : AI K H vs as as' H2 := by
  refine ⟨by simpa using J.len, fun i d' q => by simpa using J.fz (i + 1) d' (by simpa using q), fun i d' q => ?_, fun i j d1 d2 a q1 q2 s1 s2 => ?_, fun i a q => (by cases q), fun b o q n => ?_, fun b o q => J.al b o (h b o q)⟩
  · obtain ⟨a, h1, h2, h3⟩ := J.ow (i + 1) d' (by simpa using q)
    refine ⟨a, by simpa using h1, h2, ?_⟩
    rcases h3 with h3 | h3
    · rcases owned_cons h3 with rfl | h3
      · exact .inr hx
      · exact .inl h3
    · refine .inr ?_
      cases z : H a with
      | none => rfl
      | some o => rw [h a o z] at h3; cases h3
  · have := J.dj (i + 1) (j + 1) d1 d2 a (by simpa using q1) (by simpa using q2) (by simpa using s1) (by simpa using s2)
    omega
  · refine J.keep b o (h b o q) fun w => ?_
    rcases owned_cons w with rfl | w
    · rw [hx] at q; cases q
    · exact n w
/-- C(e, ..): mf is __init__ -/
def mMake (C : Addr) (mf : MF) (mos : Mo (List Opd)) : Mo Sl := mB mos fun os e => match getA os e with
  | none => .stuck
  | some as => if (ownIx os e).Nodup then match mf (.own (.obj C []) :: as) with
      | .ret (.fz .non) (.own (.obj D fs) :: as') => match putA os as' e e with
        | some e2 => .ok (.own (.obj D fs)) e2
        | none => .stuck
      | .exc D ds (_ :: as') => match putA os as' e e with
        | some e2 => .exc D ds e2
        | none => .stuck
      | _ => .stuck
    else .stuck
theorem js_make {mf : MF} {mos : Mo (List Opd)} {n k : Nat} {C f : Addr} {fd : FuncData} {ps : List Str} {x : Str} {p : Pos} {es : List Expr} {e : Expr} {E : XK} (hW : Takes X W) (hE : W = fun c d _ H => E c d H) (M : Mk X.K C f) (F : FnOk X.prog X.w X.K X.mg X.base (L2.CX X.prog X.w) k f fd ps (spF X.K (n + 1) mf)) (hr : Room (k + 1) X.A)
    (hm : X.mg x = some (.ref C)) (hb : Binds X.K fd ps []) (ha : JAO X np W (e :: es) mos) (hlen : ∀ e e' os, mos e = .ok os e' → os.length = n) (hg : Gl X x := by rfl)
    (hdb : (x == ("__debug__" : Str)) = false := by decide) (he : starEach (e :: es) X.env = (false, eval e X.env) :: starEach es X.env := by rfl) (hpl : (backTo pos (starEach es X.env)).any (·.1) = false := by rfl) :
    JS X np W (.Call (.Name x p) (e :: es) [] pos) (mMake C mf mos) := by
  refine PEi (pe_make (dvs := []) (E := E) M F hr hg hm hb .nil (passes_call hW fun c d σ H h => by rw [hE]; exact h) ha hdb he hpl) fun σ H Q h => ?_
  obtain ⟨P, B, H0, e0, I0, h⟩ := h
  refine ⟨P, B, H0, e0, I0, ?_⟩
  unfold mMake mB at h
  generalize hos : mos e0 = o at h ⊢
  cases o with
  | stuck => exact h
  | exc C ds e1 => exact h
  | ok os e1 =>
    intro vs H1 I1 r1 l1 x dx hx hdx hne
    rw [List.append_nil]
    dsimp only at h
    generalize hg : getA os e1 = ga at h
    cases ga with
    | none => exact h.elim
    | some as =>
      dsimp only at h
      by_cases hnd : (ownIx os e1).Nodup
      case neg => rw [if_neg hnd] at h; exact h.elim
      rw [if_pos hnd] at h
      have hx1 : (upd H1 dx (.own x)) x = none := by rw [upd_ne (Ne.symm hne)]; exact hx
      generalize hH : upd (upd H1 dx (.own x)) x (.ins C dx []) = H1'
      have k1 : ∀ b o, H1 b = some o → H1' b = some o := fun b o q => by
        rw [← hH, upd_ne (ne_of_none q hx), upd_ne (ne_of_none q hdx)]; exact q
      have I1' := I1.same k1
      have r1' : rOs X.K (fun a => P a ∨ H0 a = none) os e1 σ H1' vs := Paired.mapP r1 fun o v q => q.ne (.same k1) fun i s h n => ⟨s, h, n⟩
      have A1 := ai_of I1' r1' hg hnd
      have hxO : ¬ Owned as (vs.map some) x := fun w => by
        obtain ⟨i, d', q, z⟩ := w
        obtain ⟨a, z', ow, _⟩ := (ai_of I1 r1 hg hnd).ow i d' q
        rw [z] at z'; cases z'
        obtain ⟨u, hu, _⟩ := ow.at
        rw [hx] at hu; cases hu
      have A2 := ai_cons (d := .obj C []) A1 ⟨dx, [], by rw [← hH]; exact upd_same, .nil⟩ hxO
      refine ⟨.own (.obj C []) :: as, by rw [List.length_cons, (getA_len hg).trans (hlen _ _ _ hos)], A2, ?_⟩
      generalize hmf : mf (.own (.obj C []) :: as) = om at h ⊢
      cases om with
      | stuck => exact h.elim
      | ret s as'' =>
        intro v H2 J rf l2
        match s, as'', h with
        | .fz .non, .own (.obj D fs) :: as', h =>
          have rf' : Fz X.K H2 v .non := rf
          cases rf'
          refine ⟨rfl, ?_⟩
          dsimp only at h
          generalize hp : putA os as' e1 e1 = op at h
          cases op with
          | none => exact h.elim
          | some e2 =>
            have J' := ai_tail J k1 hx
            have l' : HLe H1 H2 := (HLe.same k1).trans l2
            have I2 := ai_back I1 r1 hg hnd J' l' hp
            obtain ⟨xa, h3, h4, _⟩ := J.ow 0 _ rfl
            have h3' : some (some (V.ref x)) = some (some (V.ref xa)) := h3
            cases h3'
            refine h _ H2 I2 ⟨x, rfl, h4, .inr (I1.fresh hx), fun j d' q z => ?_⟩ (l1.trans l')
            have hl1 : os.length = as'.length := (os_len r1).trans (by simpa using J'.len.symm)
            obtain ⟨d0, q0⟩ := putA_own hp hl1 q
            obtain ⟨b', x', y', _⟩ := I1.ow j d0 q0
            rw [z] at x'; cases x'
            obtain ⟨u, hu, _⟩ := y'.at
            rw [hx] at hu; cases hu
      | exc D ds as'' =>
        intro xd H2 J rf l2
        match as'', h with
        | _ :: as', h =>
          dsimp only at h
          generalize hp : putA os as' e1 e1 = op at h
          cases op with
          | none => exact h.elim
          | some e2 =>
            have J' := ai_tail J k1 hx
            have l' : HLe H1 H2 := (HLe.same k1).trans l2
            have z := h xd H2 (ai_back I1 r1 hg hnd J' l' hp) rf (l1.trans l')
            rw [hE] at z
            exact z

/-! ### isinstance -/
inductive BT where
  | int | bool | str | list | tuple | nont
  deriving DecidableEq
def BT.nm : BT → String
  | .int => "int" | .bool => "bool" | .str => "str" | .list => "list" | .tuple => "tuple" | .nont => "NoneType"
def BT.sub (a b : BT) : Bool := decide (a = b) || (decide (a = .bool) && decide (b = .int))
theorem kit_bt (a b : BT) : kitB a.nm b.nm = some (a.sub b) := by cases a <;> cases b <;> decide +kernel
def PV.bt : PV → Option BT
  | .non => some .nont
  | .bl _ => some .bool
  | .int _ => some .int
  | .str _ => some .str
  | .tup _ => some .tuple
  | .lst _ => some .list
  | _ => none
theorem Rr.tyx {K : PySem.W.Frag} {H : Hp} {v : V} {d : PV} {t : BT} (h : Rr K H v d) (e : d.bt = some t) : TyX K H v (.type t.nm) := by
  cases d with
  | non => cases e; rw [h.non]; exact .base .non
  | bl b => cases e; rw [h.bl]; exact .base (.bl b)
  | int b => cases e; rw [h.int]; exact .base (.int b)
  | str b => cases e; rw [h.str]; exact .base (.str b)
  | tup ds =>
    cases e
    obtain ⟨a, xs, rfl, h1, _⟩ := h.tup
    rcases h1 with (h1 | ⟨o, h1⟩) | ⟨o, _, _, h1, h2, _⟩
    · exact .base (.tup h1)
    · exact .fTuple h1
    · exact .kTuple h1 h2
  | lst ds =>
    cases e
    obtain ⟨a, xs, rfl, h1, _⟩ := h.lstR
    rcases h1 with h1 | ⟨o, h1⟩
    · exact .base (.lst h1)
    · exact .base (.frz h1)
  | _ => cases e
def fIsi (Ts : List BT) : PV → Option Sl := fun d => d.bt.map fun t => .fz (.bl (Ts.any t.sub))
theorem kitAny_bt {K : PySem.W.Frag} (t : BT) : ∀ Ts : List BT, PySem.W.kitAny K (.type t.nm) (Ts.map fun T => Value.type T.nm) = some (Ts.any t.sub)
  | [] => kitAny_nil
  | T :: Ts => by
    refine kitAny_cons (b := t.sub T) (kit_ty (kit_bt t T)) (fun e => ?_) (fun e => ?_)
    · rw [kitAny_bt t Ts, List.any_cons, e]; rfl
    · rw [List.any_cons, e]; rfl
def BTname (X : Cx) (e : Expr) (T : BT) : Prop := PE X e (tC (.ty T.nm))
theorem bt_name {x : Str} (T : BT) (hm : X.mg x = none) (hv : bootBuiltins x = some (.type T.nm)) (hg : Gl X x := by rfl) (hn : x ≠ "__name__" := by decide) (hdb : (x == ("__debug__" : Str)) = false := by decide) : BTname X (.Name x pos) T := pe_bltn hg hm hv rfl hn hdb
/-- isinstance(x, T) -/
theorem js_isi {T : BT} {p : Pos} {mo : Mo Opd} (ha : JO X np W a mo) (hT : BTname X b T) (hm : X.mg "isinstance" = none) (hg : Gl X "isinstance" := by rfl)
    (he : starEach (a :: [b]) X.env = (false, eval a X.env) :: starEach [b] X.env := by rfl) (he2 : starEach (b :: []) X.env = (false, eval b X.env) :: starEach [] X.env := by rfl) (hpl : (backTo pos (starEach [b] X.env)).any (·.1) = false := by rfl) :
    JS X np W (.Call (.Name "isinstance" p) [a, b] [] pos) (mOp1 (fIsi [T]) mo) := by
  refine PEi (pe_callB call_isi hg hm (by decide +kernel) (pa_cons ha (pa_cons hT pa_nil he2) he) (by decide) (by decide) he hpl) fun σ H Q h => ?_
  have z := op1_of (r := fun xs H1 Q => ∃ v t, xs = [v] ∧ TyX X.K H1 v (.type t) ∧ kitB t T.nm = some (BT.sub (match t with | "int" => .int | "bool" => .bool | "str" => .str | "list" => .list | "tuple" => .tuple | _ => .nont) T) ∧ Q (.bl (BT.sub (match t with | "int" => .int | "bool" => .bool | "str" => .str | "list" => .list | "tuple" => .tuple | _ => .nont) T)) H1) ?_ h
  · obtain ⟨P, B, H0, e, I, z⟩ := z
    refine ⟨P, B, H0, e, I, ?_⟩
    generalize mo e = o at z ⊢
    cases o with
    | ok o e1 =>
      intro v H1 I1 r1 l1
      obtain ⟨v', t, e1, e2, e3, e4⟩ := z v H1 I1 r1 l1
      cases e1
      exact ⟨v, .ty T.nm, .type t, .type T.nm, _, rfl, .ty _, e2, kit_ty e3, e4⟩
    | exc C ds e1 => exact z
    | stuck => exact z
  · intro H x d1 s Q r1 h _ q
    unfold fIsi at h
    cases e : d1.bt with
    | none => rw [e] at h; cases h
    | some t =>
      rw [e] at h; cases h
      refine ⟨x, t.nm, rfl, r1.tyx e, ?_⟩
      have q' := q.bl
      simp only [List.any_cons, List.any_nil, Bool.or_false] at q'
      cases t <;> exact ⟨kit_bt _ T, q'⟩
end
end VS

set_option Elab.async false
set_option linter.all false
set_option maxRecDepth 100000
set_option maxHeartbeats 1000000
/-! VS11: enumerate; defaults and keywords at calls; chains of comparisons. -/
namespace VS
open PySem L2 PyProof.Rows

def enumL : Nat → List PV → List PV
  | _, [] => []
  | k, d :: r => .tup [.int (k : Nat), d] :: enumL (k + 1) r
theorem enumL_len : ∀ (ds : List PV) (k : Nat), (enumL k ds).length = ds.length
  | [], _ => rfl
  | d :: r, k => by rw [enumL, List.length_cons, enumL_len r, List.length_cons]
theorem enumL_get : ∀ {ds : List PV} {k i : Nat} {d : PV}, (enumL k ds)[i]? = some d → ∃ x, ds[i]? = some x ∧ d = .tup [.int ((k + i : Nat) : Int), x]
  | [], _, _, _, h => by simp [enumL] at h
  | d :: r, k, 0, x, h => by simp [enumL] at h; exact ⟨d, rfl, by rw [← h]; rfl⟩
  | d :: r, k, i + 1, x, h => by
    obtain ⟨y, h1, h2⟩ := enumL_get (ds := r) (k := k + 1) (i := i) (by simpa [enumL] using h)
    exact ⟨y, by simpa using h1, by rw [h2]; congr 3; omega⟩
section
variable {X : Cx} {np : Nat} {W : WX} {a b c : Expr} {pos : Pos} {tg : Expr}
def iE (m : Mo PV) : Mo (List PV) := mB m fun d => match d with
  | .lst ds => mR (enumL 0 ds)
  | .scr ds => mR (enumL 0 ds)
  | _ => fun _ => .stuck
theorem enum_ok {K : PySem.W.Frag} {H1 : Hp} {l : Addr} {xs : List V} {ds : List PV} (h1 : ∀ H', HLe H1 H' → SqL K H' l xs) (h2 : FzA K H1 xs ds) : ItOk K (Ite K l) (enumL 0 ds) H1 := by
  intro i H' l'
  refine ⟨fun d e => ?_, fun e => ⟨xs, h1 H' l', by rw [h2.length]; rw [enumL_len] at e; exact e⟩⟩
  obtain ⟨x, e1, rfl⟩ := enumL_get e
  obtain ⟨y, e2, e3⟩ := h2.get e1
  refine ⟨⟨xs, y, h1 H' l', e2⟩, fun v H'' ⟨T, z, e4, e5, e6, e7⟩ => ?_⟩
  have e8 := e7 xs (h1 H' l')
  rw [e2] at e8; cases e8
  subst e4 e6
  refine ⟨.tup (SqT.of upd_same) (.cons ?_ (.cons (e3.le (l'.trans (.alloc e5))) .nil)), fun b o q => by rw [upd_ne (ne_of_none q e5)]; exact q⟩
  rw [Nat.zero_add]; exact .int _
theorem ji_enum {p tpos : Pos} {elts : List Expr} {kk : Nat} {m : Mo PV} (hm : X.mg "enumerate" = none) (h : JE X np W a m) (hg : Gl X "enumerate" := by rfl) (hs : starEach [a] X.env = [(false, eval a X.env)] := by rfl) : JI X np W (.Tuple elts kk tpos) (.Call (.Name "enumerate" p) [a] [] pos) (iE m) := by
  refine PIi (pi_enum hg hm (pa_cons h pa_nil hs) hs) fun σ H R h => tG.bind h fun P B H0 d e1 v H1 I r l h => ?_
  cases d with
  | lst ds =>
    cases r with
    | @lst a xs _ h1 h2 => exact ⟨a, xs, rfl, h1.sq, h _ H1 I (enum_ok (fun H' l' => (h1.le l').sq) h2) (.refl _)⟩
  | scr ds =>
    cases r with
    | @scr a xs _ h1 h2 => exact ⟨a, xs, rfl, h1.sq, h _ H1 I (enum_ok (fun H' l' => (h1.le l').sq) h2) (.refl _)⟩
  | _ => exact h.elim

/-! ### calls with defaults, with keywords -/
theorem call_reading {mf : MF} {mos : Mo (List Opd)} {n : Nat} (hlen : ∀ e e' os, mos e = .ok os e' → os.length = n) {σ : L2.St} {H : Hp} {Q : VK} (h : tG X.K np W (rS X.K) (mCall mf mos) σ H Q) :
    tG X.K np W (rOs X.K) mos σ H fun vs H1 => spF X.K n mf vs H1 Q (WE W σ) := by
  obtain ⟨P, B, H0, e0, I0, h⟩ := h
  refine ⟨P, B, H0, e0, I0, ?_⟩
  unfold mCall mB at h
  generalize hos : mos e0 = o at h ⊢
  cases o with
  | stuck => exact h
  | exc C ds e1 => exact h
  | ok os e1 =>
    intro vs H1 I1 r1 l1
    dsimp only at h
    generalize hg : getA os e1 = ga at h
    cases ga with
    | none => exact h.elim
    | some as =>
      dsimp only at h
      by_cases hnd : (ownIx os e1).Nodup
      case neg => rw [if_neg hnd] at h; exact h.elim
      rw [if_pos hnd] at h
      refine ⟨as, (getA_len hg).trans (hlen _ _ _ hos), ai_of I1 r1 hg hnd, ?_⟩
      generalize hmf : mf as = om at h ⊢
      cases om with
      | stuck => exact h.elim
      | ret s as' =>
        intro v H2 J rf l2
        dsimp only at h
        generalize hp : putA os as' e1 e1 = op at h
        cases op with
        | none => exact h.elim
        | some e2 =>
          have I2 := ai_back I1 r1 hg hnd J l2 hp
          refine h v H2 I2 ?_ (l1.trans l2)
          cases s with
          | un => exact rf.elim
          | fz d => exact rf
          | own d =>
            obtain ⟨b, rfl, ow, hn0⟩ := rf
            refine ⟨b, rfl, ow, .inr (I1.fresh hn0), fun j d' q z => ?_⟩
            have hl1 : os.length = as'.length := (os_len r1).trans (by simpa using J.len.symm)
            obtain ⟨d0, q0⟩ := putA_own hp hl1 q
            obtain ⟨b', x', y', z'⟩ := I1.ow j d0 q0
            rw [z] at x'; cases x'
            obtain ⟨u, hu, _⟩ := y'.at
            rw [hn0] at hu; cases hu
      | exc C ds as' =>
        intro xd H2 J rf l2
        dsimp only at h
        generalize hp : putA os as' e1 e1 = op at h
        cases op with
        | none => exact h.elim
        | some e2 => exact h xd H2 (ai_back I1 r1 hg hnd J l2 hp) rf (l1.trans l2)
/-- the arguments that are left out -/
def mfD (mf : MF) (dds : List PV) : MF := fun as => match mf (as ++ dds.map .fz) with
  | .ret s as' => .ret s (as'.take as.length)
  | .exc C ds as' => .exc C ds (as'.take as.length)
  | .stuck => .stuck
theorem owned_app {as : List Sl} {vs dvs : List V} {dds : List PV} {a : Addr} (hl : as.length = vs.length) : Owned (as ++ dds.map .fz) ((vs ++ dvs).map some) a ↔ Owned as (vs.map some) a := by
  constructor
  · rintro ⟨i, d, q, z⟩
    by_cases hi : i < as.length
    · rw [List.getElem?_append_left hi] at q
      rw [List.map_append, List.getElem?_append_left (by simp; omega)] at z
      exact ⟨i, d, q, z⟩
    · rw [List.getElem?_append_right (by omega), List.getElem?_map] at q
      cases e : dds[i - as.length]? with
      | none => rw [e] at q; cases q
      | some x => rw [e] at q; cases q
  · rintro ⟨i, d, q, z⟩
    have hi := (List.getElem?_eq_some_iff.mp q).1
    exact ⟨i, d, by rw [List.getElem?_append_left hi]; exact q, by rw [List.map_append, List.getElem?_append_left (by simp; omega)]; exact z⟩
theorem spF_dflt {K : PySem.W.Frag} {n : Nat} {mf : MF} {vs dvs : List V} {dds : List PV} {H : Hp} {Q : VK} {E : XK} (hd : ∀ H, FzA K H dvs dds) (h : spF K n (mfD mf dds) vs H Q E) : spF K (n + dds.length) mf (vs ++ dvs) H Q E := by
  obtain ⟨as, h1, I, h⟩ := h
  have hl : as.length = vs.length := by simpa using I.len
  have hdl : dvs.length = dds.length := (hd H).length
  have own : ∀ (i : Nat) d, (as ++ dds.map .fz)[i]? = some (.own d) → as[i]? = some (.own d) := fun i d q => by
    by_cases hi : i < as.length
    · rw [List.getElem?_append_left hi] at q; exact q
    · rw [List.getElem?_append_right (by omega), List.getElem?_map] at q
      cases e : dds[i - as.length]? with
      | none => rw [e] at q; cases q
      | some x => rw [e] at q; cases q
  have lift : ∀ (i : Nat) (v : Option V), (vs.map some)[i]? = some v → ((vs ++ dvs).map some)[i]? = some v := fun i v q => by
    rw [List.map_append, List.getElem?_append_left (List.getElem?_eq_some_iff.mp q).1]; exact q
  have low : ∀ (i : Nat) (v : Option V), i < as.length → ((vs ++ dvs).map some)[i]? = some v → (vs.map some)[i]? = some v := fun i v hi q => by
    rw [List.map_append, List.getElem?_append_left (by simp; omega)] at q; exact q
  refine ⟨as ++ dds.map .fz, by simp [h1], ⟨by simp [hl, hdl], fun i d q => ?_, fun i d q => ?_, fun i j d d' a q1 q2 s1 s2 => ?_, fun i a q => (by cases q), fun b o q _ => q, fun b o q => ⟨o, q⟩⟩, ?_⟩
  · by_cases hi : i < as.length
    · rw [List.getElem?_append_left hi] at q
      obtain ⟨v, q1, q2⟩ := I.fz i d q
      exact ⟨v, lift i _ q1, q2⟩
    · rw [List.getElem?_append_right (by omega), List.getElem?_map] at q
      cases e : dds[i - as.length]? with
      | none => rw [e] at q; cases q
      | some x =>
        rw [e] at q; cases q
        obtain ⟨y, q1, q2⟩ := (hd H).get e
        refine ⟨y, ?_, q2⟩
        rw [List.map_append, List.getElem?_append_right (by simp; omega), List.length_map, List.getElem?_map, ← hl, q1]; rfl
  · obtain ⟨a, q1, q2, q3⟩ := I.ow i d (own i d q)
    exact ⟨a, lift i _ q1, q2, .inl ((owned_app hl).mpr ⟨i, d, own i d q, q1⟩)⟩
  · have z1 := own i d q1
    have z2 := own j d' q2
    exact I.dj i j d d' a z1 z2 (low i _ (List.getElem?_eq_some_iff.mp z1).1 s1) (low j _ (List.getElem?_eq_some_iff.mp z2).1 s2)
  · have back : ∀ {as' : List Sl} {H' : Hp}, AI K H (vs ++ dvs) (as ++ dds.map .fz) as' H' → AI K H vs as (as'.take as.length) H' := fun {as' H'} J => by
      have hj : as'.length = vs.length + dvs.length := by simpa using J.len
      have tk : ∀ (i : Nat) s, (as'.take as.length)[i]? = some s → i < as.length ∧ as'[i]? = some s := fun i s q => by
        have hi : i < as.length := by
          have := (List.getElem?_eq_some_iff.mp q).1
          simp at this; omega
        rw [List.getElem?_take_of_lt hi] at q
        exact ⟨hi, q⟩
      refine ⟨by simp; omega, fun i d q => ?_, fun i d q => ?_, fun i j d d' a q1 q2 s1 s2 => ?_, fun i a q => (by cases q), fun b o q n => J.keep b o q fun w => n ((owned_app hl).mp w), J.al⟩
      · obtain ⟨hi, q⟩ := tk i _ q
        obtain ⟨v, q1, q2⟩ := J.fz i d q
        exact ⟨v, low i _ hi q1, q2⟩
      · obtain ⟨hi, q⟩ := tk i _ q
        obtain ⟨a, q1, q2, q3⟩ := J.ow i d q
        exact ⟨a, low i _ hi q1, q2, q3.imp (owned_app hl).mp id⟩
      · obtain ⟨hi, q1⟩ := tk i _ q1
        obtain ⟨hj', q2⟩ := tk j _ q2
        exact J.dj i j d d' a q1 q2 (lift i _ s1) (lift j _ s2)
    unfold mfD at h
    generalize mf (as ++ dds.map .fz) = o at h ⊢
    cases o with
    | ret s as' => exact fun v H' J r l => h v H' (back J) r l
    | exc C ds as' => exact fun x H' J r l => h x H' (back J) r l
    | stuck => exact h
theorem js_callD {mf : MF} {mos : Mo (List Opd)} {n k : Nat} {f : Addr} {fd : FuncData} {ps : List Str} {x : Str} {p : Pos} {es : List Expr} {e : Expr} {dvs : List V} {dus : List Value} {dds : List PV} (hW : Takes X W) (F : FnOk X.prog X.w X.K X.mg X.base (L2.CX X.prog X.w) k f fd ps (spF X.K (n + dds.length) mf)) (hr : Room k X.A)
    (hm : X.mg x = some (.ref f)) (hk : PySem.W.keepIn X.K (.ref f) = true) (hb : Binds X.K fd ps dus) (hd : Vals dvs dus) (hdd : ∀ H, FzA X.K H dvs dds) (ha : JAO X np W (e :: es) mos) (hlen : ∀ e e' os, mos e = .ok os e' → os.length = n) (hg : Gl X x := by rfl)
    (hdb : (x == ("__debug__" : Str)) = false := by decide) (he : starEach (e :: es) X.env = (false, eval e X.env) :: starEach es X.env := by rfl) (hpl : (backTo pos (starEach es X.env)).any (·.1) = false := by rfl) :
    JS X np W (.Call (.Name x p) (e :: es) [] pos) (mCall (mfD mf dds) mos) := by
  refine PEi (pe_callSD (E := WE W) F hr hg hm hk hb hd (fun σ => passAt hW σ) ha hdb he hpl) fun σ H Q h => ?_
  obtain ⟨P, B, H0, e0, I0, z⟩ := call_reading hlen h
  refine ⟨P, B, H0, e0, I0, ?_⟩
  generalize mos e0 = o at z ⊢
  cases o with
  | ok os e1 => exact fun vs H1 I1 r1 l1 => spF_dflt hdd (z vs H1 I1 r1 l1)
  | exc C ds e1 => exact z
  | stuck => exact z
/-- the keywords' values -/
abbrev JKO (X : Cx) (np : Nat) (W : WX) (ks : List Keyword) (m : Mo (List Opd)) : Prop := PK X ks (tG X.K np W (rOs X.K) m)
theorem PKi {ks : List Keyword} {t t' : TA} (p : PK X ks t) (f : ∀ σ H Q, t' σ H Q → t σ H Q) : PK X ks t' := ⟨fun po pins s σ H Q I h => p.run po pins s σ H Q I (f σ H Q h)⟩
theorem jko_nil : JKO X np W [] mNilO := PKi pk_nil fun σ H Q ⟨P, B, H0, e, I, h⟩ => h [] H I .nil (.refl H)
theorem jko_one {nm : Option Str} {kpos : Pos} {m : Mo Opd} (ha : JO X np W a m) : JKO X np W [⟨nm, a, kpos⟩] (mConsO' m mNilO) := by
  refine PKi (pk_cons ha (jko_nil (np := np) (W := W))) fun σ H Q h => tG.bind h fun P B H0 x e1 v H1 I r l h => ?_
  refine tG.bind (tG.of I h) fun P B H0 y e2 u H2 I2 r2 l2 h => ?_
  by_cases hn : neB x e2 = true
  · rw [if_pos hn] at h
    refine h _ H2 I2 (.cons ?_ r2) (.refl _)
    cases x with
    | val d => exact Fz.le l2 r
    | pl i =>
      refine ⟨r.1, ?_⟩
      unfold neB at hn
      dsimp only at hn
      split at hn
      · rename_i d hd; exact ⟨_, hd, by simp⟩
      · rename_i d hd; exact ⟨_, hd, by simp⟩
      · cases hn
  · rw [if_neg hn] at h; exact h.elim
def mAppO (m r : Mo (List Opd)) : Mo (List Opd) := mB m fun os => mB r fun ps e => if os.all (fun o => neB o e) then .ok (os ++ ps) e else .stuck
theorem rOs_ne {K : PySem.W.Frag} {Z Z' : Addr → Prop} {e1 e2 : Fr} {σ : L2.St} {H1 H2 : Hp} (l2 : HLe H1 H2) : ∀ {os : List Opd} {vs : List V}, rOs K Z os e1 σ H1 vs → os.all (fun o => neB o e2) = true → rOs K Z' os e2 σ H2 vs
  | _, _, .nil, _ => .nil
  | o :: os, _, .cons a b, hn => by
    rw [List.all_cons, Bool.and_eq_true] at hn
    refine .cons ?_ (rOs_ne l2 b hn.2)
    cases o with
    | val d => exact Fz.le l2 a
    | pl i =>
      refine ⟨a.1, ?_⟩
      have hn := hn.1
      unfold neB at hn
      dsimp only at hn
      split at hn
      · rename_i d hd; exact ⟨_, hd, by simp⟩
      · rename_i d hd; exact ⟨_, hd, by simp⟩
      · cases hn
theorem js_callK {mf : MF} {m1 m2 : Mo (List Opd)} {n m k : Nat} {f : Addr} {fd : FuncData} {ps ks : List Str} {x : Str} {p : Pos} {es : List Expr} {e : Expr} {kws : List Keyword} {E : XK} {g : List Value → List Value → List Value} (hW : Takes X W) (hE : W = fun c d _ H => E c d H)
    (F : FnOk X.prog X.w X.K X.mg X.base (L2.CX X.prog X.w) k f fd ps (spF X.K (n + m) mf)) (hr : Room k X.A)
    (hm : X.mg x = some (.ref f)) (hk : PySem.W.keepIn X.K (.ref f) = true) (hb : KBn X.K fd ps n ks g (fun vs zs => vs ++ zs)) (hks' : ks.length = m) (ha : JAO X np W (e :: es) m1) (hkw : JKO X np W kws m2) (hl1 : ∀ e e' os, m1 e = .ok os e' → os.length = n) (hl2 : ∀ e e' os, m2 e = .ok os e' → os.length = m)
    (hlen : ∀ e e' os, mAppO m1 m2 e = .ok os e' → os.length = n + m) (hg : Gl X x := by rfl)
    (hall : (backToKw pos (keywordEach kws X.env)).all (·.1.isSome) = true := by rfl) (hks : (backToKw pos (keywordEach kws X.env)).filterMap (·.1) = ks := by rfl)
    (hdb : (x == ("__debug__" : Str)) = false := by decide) (he : starEach (e :: es) X.env = (false, eval e X.env) :: starEach es X.env := by rfl)
    (hpl : ((backTo pos (starEach (e :: es) X.env)).any (·.1) || (backToKw pos (keywordEach kws X.env)).any (·.1.isNone)) = false := by rfl) :
    JS X np W (.Call (.Name x p) (e :: es) kws pos) (mCall mf (mAppO m1 m2)) := by
  refine PEi (pe_callN (E := E) F hr hg hm hk hb (passes_call hW fun c d σ H h => by rw [hE]; exact h) ha hkw hall hks hdb he hpl) fun σ H Q h => ?_
  have z := call_reading hlen h
  obtain ⟨P, B, H0, e0, I0, z⟩ := z
  refine ⟨P, B, H0, e0, I0, ?_⟩
  unfold mAppO mB at z
  generalize hz1 : m1 e0 = o1 at z ⊢
  cases o1 with
  | exc C ds e1 => exact z
  | stuck => exact z
  | ok os e1 =>
    intro vs H1 I1 r1 l1
    refine ⟨P, B, H0, e1, I1, ?_⟩
    dsimp only at z
    generalize hz2 : m2 e1 = o2 at z ⊢
    cases o2 with
    | exc C ds e2 => exact PostG.le l1 z
    | stuck => exact z
    | ok os2 e2 =>
      intro vs2 H2 I2 r2 l2
      refine ⟨(os_len r1).symm.trans (hl1 _ _ _ hz1), (os_len r2).symm.trans ((hl2 _ _ _ hz2).trans hks'.symm), ?_⟩
      dsimp only at z
      by_cases hn : os.all (fun o => neB o e2) = true
      · rw [if_pos hn] at z
        have r1' : rOs X.K (fun a => P a ∨ H0 a = none) os e2 σ H2 vs := rOs_ne l2 r1 hn
        have app : ∀ {A B : List Opd} {vs ws : List V}, rOs X.K (fun a => P a ∨ H0 a = none) A e2 σ H2 vs → rOs X.K (fun a => P a ∨ H0 a = none) B e2 σ H2 ws → rOs X.K (fun a => P a ∨ H0 a = none) (A ++ B) e2 σ H2 (vs ++ ws) := by
          intro A B vs ws x y
          induction x with
          | nil => exact y
          | cons a b ih => exact .cons a (ih)
        have q := z _ H2 I2 (app r1' r2) (l1.trans l2)
        have hWE : WE W σ = E := by rw [hE]
        rw [hWE] at q
        exact q
      · rw [if_neg hn] at z; exact z.elim
end
end VS

set_option Elab.async false
set_option linter.all false
set_option maxRecDepth 100000
set_option maxHeartbeats 1000000
/-! VS12: what the printed texts use. -/
namespace VS
open PySem L2 PyProof.Rows

theorem hu64 {k : Nat} {A : Around} (hr : Room k A) : A.units + 64 < cLine := by have := hr.un; omega
theorem hu65 {k : Nat} {A : Around} (hr : Room k A) : A.units + 65 < cLine := by have := hr.un; omega
theorem hu100 {k : Nat} {A : Around} (hr : Room k A) : A.units + 100 < cLine := by have := hr.un; omega
section
variable {K : PySem.W.Frag} {x qual : Str} {st : Stmt} {f : Addr} {fd : FuncData} {ps : List Str}
theorem funG_mk {dvs : List V} {oc dV kV doc pm cdv ct : Value} {od an : Option Addr} {osl : Array (Option Value)} (l : K.lookup f = some ⟨oc, od, .func (PySem.W.fnOf x qual (defArgs st) (defBody st) (defScope st) dV kV doc pm an cdv ct), osl⟩)
    (c : PySem.W.codeIn K cdv qual = true) (k : PySem.W.keepIn K (.ref f) = true) (hd : DflV K dV dvs) : FunG K x qual st dvs f (PySem.W.fnOf x qual (defArgs st) (defBody st) (defScope st) dV kV doc pm an cdv ct) := ⟨⟨oc, od, dV, kV, doc, pm, an, cdv, ct, osl, rfl, l, c, hd, .inl rfl⟩, k⟩
/-- the keywords bind: all parameters are given -/
theorem funG_kb {dvs : List V} (F : FunG K x qual st dvs f fd) (n : Nat) (ks : List Str) (hd : dvs ≠ [])
    (h : ∀ (T : Addr) (kV doc pm : Value) (an : Option Addr) (cdv ct : Value) (us its ws : List Value), us.length = n → its.length = dvs.length → ws.length = ks.length →
      ∃ k, bindArgs (PySem.W.fnOf x qual (defArgs st) (defBody st) (defScope st) (.ref T) kV doc pm an cdv ct) ⟨us, ks.zip ws⟩ = seqItems? (.ref T) >>= k ∧ k (some its.toArray) = pure (ps.zip (us ++ ws))) : KBn K fd ps n ks (fun us ws => us ++ ws) (fun vs zs => vs ++ zs) := by
  obtain ⟨oc, od, dV, kV, doc, pm, an, cdv, ct, osl, rfl, lk, hcd, hD, hK⟩ := F.ex
  rcases hD with ⟨e, _⟩ | ⟨_, T, o, its, m, rfl, lT, oT, rT⟩
  · exact absurd e hd
  · refine ⟨fun s us ws X l1 l2 => ?_, fun r1 r2 => r1.append r2⟩
    obtain ⟨k, e1, e2⟩ := h T kV doc pm an cdv ct us its ws l1 rT.length.symm l2
    refine BindsTo.of_looks fun M => ?_
    rw [e1]
    exact looks_items X lT oT (.of_pure e2)
end
/-! ### a def of the text that is mf -/
def FX (P : Program) (w : World) (K : PySem.W.Frag) (mg : Str → Option Value) (base : Heap) (k : Nat) (x : Str) (ps : List Str) (mf : MF) : Prop :=
  ∃ (f : Addr) (fd : FuncData), mg x = some (.ref f) ∧ PySem.W.keepIn K (.ref f) = true ∧ Binds K fd ps [] ∧ FnOk P w K mg base (L2.CX P w) k f fd ps (spF K ps.length mf)
section
variable {P : Program} {w : World} {K : PySem.W.Frag} {mg : Str → Option Value} {base : Heap}
theorem FX.mono {j k : Nat} {x : Str} {ps : List Str} {mf : MF} (h : FX P w K mg base j x ps mf) (hk : j ≤ k) : FX P w K mg base k x ps mf :=
  let ⟨f, fd, a, b, c, d⟩ := h; ⟨f, fd, a, b, c, d.mono hk⟩
theorem fx_of {x : Str} {qual : Str} {st : Stmt} {dvs : List V} {f : Addr} {fd : FuncData} (N ps : List Str) {k : Nat} (n : Nat) (m : MS) (hn : N.length = n) (F : FunG K x qual st dvs f fd) (hm : mg x = some (.ref f)) (hb : Binds K fd ps []) (S : FnScope N ps (defScope st))
    (hbody : ∀ (cdv : Value) (A : Around) (outer : List Env) (s : Shared) (H : Hp) (E : XK), Room k (A.deeper (envOfC qual (defScope st) s.heap.objs.size f cdv)) →
      JB (cxOf (L2.CX P w) P w K mg base N qual (defScope st) f cdv A outer s H E) ps.length (fun cls d _ H => E cls d H) (defBody st) m) : FX P w K mg base (k + 1) x ps (bodyRun n m) := by
  subst hn
  exact ⟨f, fd, hm, F.kp, hb, fn_ok F S hbody⟩
theorem fn_of' {x : Str} {qual : Str} {st : Stmt} {dvs : List V} {f : Addr} {fd : FuncData} (N ps : List Str) {k : Nat} (n np : Nat) (m : MS) (hn : N.length = n) (hp : ps.length = np) (F : FunG K x qual st dvs f fd) (S : FnScope N ps (defScope st))
    (hbody : ∀ (cdv : Value) (A : Around) (outer : List Env) (s : Shared) (H : Hp) (E : XK), Room k (A.deeper (envOfC qual (defScope st) s.heap.objs.size f cdv)) →
      JB (cxOf (L2.CX P w) P w K mg base N qual (defScope st) f cdv A outer s H E) np (fun cls d _ H => E cls d H) (defBody st) m) : FnOk P w K mg base (L2.CX P w) (k + 1) f fd ps (spF K np (bodyRun n m)) := by
  subst hn hp
  exact fn_ok F S hbody
theorem fx_stuck {x : Str} {f : Addr} {fd : FuncData} {ps : List Str} {k : Nat} (hm : mg x = some (.ref f)) (hk : PySem.W.keepIn K (.ref f) = true) (hb : Binds K fd ps []) : FX P w K mg base k x ps (fun _ => .stuck) :=
  ⟨f, fd, hm, hk, hb, ⟨fun vs H Q E h => by obtain ⟨_, _, _, h⟩ := h; exact h.elim, fun A outer s H args us vs Q E _ _ _ _ h => by obtain ⟨_, _, _, h⟩ := h; exact h.elim⟩⟩
end
/-- a class of the text that is made by mf as its __init__ -/
def MX (P : Program) (w : World) (K : PySem.W.Frag) (mg : Str → Option Value) (base : Heap) (k : Nat) (x : Str) (C : Addr) (n : Nat) (mf : MF) : Prop :=
  ∃ (f : Addr) (fd : FuncData) (ps : List Str), mg x = some (.ref C) ∧ Mk K C f ∧ Binds K fd ps [] ∧ FnOk P w K mg base (L2.CX P w) k f fd ps (spF K (n + 1) mf)
section
variable {X : Cx} {np : Nat} {W : WX} {a b c : Expr} {pos : Pos} {tg : Expr}
theorem lenO_nil : ∀ e e' os, mNilO e = .ok os e' → os.length = 0 := fun e e' os h => by
  unfold mNilO mR at h; cases h; rfl
theorem lenO_cons {m : Mo Opd} {r : Mo (List Opd)} {n : Nat} (hr : ∀ e e' os, r e = .ok os e' → os.length = n) : ∀ e e' os, mConsO' m r e = .ok os e' → os.length = n + 1 := fun e e' os h => by
  unfold mConsO' mB at h
  generalize m e = o at h
  cases o with
  | stuck => cases h
  | exc _ _ _ => cases h
  | ok d e1 =>
    dsimp only at h
    generalize hq : r e1 = o2 at h
    cases o2 with
    | stuck => cases h
    | exc _ _ _ => cases h
    | ok ds e2 =>
      dsimp only at h
      split at h
      · cases h; rw [List.length_cons, hr _ _ _ hq]
      · cases h
theorem lenO_app {m r : Mo (List Opd)} {k n : Nat} (hm : ∀ e e' os, m e = .ok os e' → os.length = k) (hr : ∀ e e' os, r e = .ok os e' → os.length = n) : ∀ e e' os, mAppO m r e = .ok os e' → os.length = k + n := fun e e' os h => by
  unfold mAppO mB at h
  generalize hz : m e = o at h
  cases o with
  | stuck => cases h
  | exc _ _ _ => cases h
  | ok d e1 =>
    dsimp only at h
    generalize hq : r e1 = o2 at h
    cases o2 with
    | stuck => cases h
    | exc _ _ _ => cases h
    | ok ds e2 =>
      dsimp only at h
      split at h
      · cases h; rw [List.length_append, hm _ _ _ hz, hr _ _ _ hq]
      · cases h
theorem js_callX {mf : MF} {mos : Mo (List Opd)} {k : Nat} {ps : List Str} {x : Str} {p : Pos} {es : List Expr} {e : Expr} (hW : Takes X W) (F : FX X.prog X.w X.K X.mg X.base k x ps mf) (hr : Room k X.A)
    (ha : JAO X np W (e :: es) mos) (hlen : ∀ e e' os, mos e = .ok os e' → os.length = ps.length) (hn : (e :: es).length = ps.length := by rfl) (hg : Gl X x := by rfl)
    (hdb : (x == ("__debug__" : Str)) = false := by decide) (he : starEach (e :: es) X.env = (false, eval e X.env) :: starEach es X.env := by rfl) (hpl : (backTo pos (starEach es X.env)).any (·.1) = false := by rfl) :
    JS X np W (.Call (.Name x p) (e :: es) [] pos) (mCall mf mos) := by
  obtain ⟨f, fd, hm, hk, hb, F⟩ := F
  exact js_call hW F hr hm hk hb ha hn hlen hg hdb he hpl
theorem js_makeX {mf : MF} {mos : Mo (List Opd)} {n k : Nat} {C : Addr} {x : Str} {p : Pos} {es : List Expr} {e : Expr} {E : XK} (hW : Takes X W) (hE : W = fun c d _ H => E c d H) (F : MX X.prog X.w X.K X.mg X.base k x C n mf) (hr : Room (k + 1) X.A)
    (ha : JAO X np W (e :: es) mos) (hlen : ∀ e e' os, mos e = .ok os e' → os.length = n) (hg : Gl X x := by rfl)
    (hdb : (x == ("__debug__" : Str)) = false := by decide) (he : starEach (e :: es) X.env = (false, eval e X.env) :: starEach es X.env := by rfl) (hpl : (backTo pos (starEach es X.env)).any (·.1) = false := by rfl) :
    JS X np W (.Call (.Name x p) (e :: es) [] pos) (mMake C mf mos) := by
  obtain ⟨f, fd, ps, hm, M, hb, F⟩ := F
  exact js_make hW hE M F hr hm hb ha hlen hg hdb he hpl

/-- .. called with its last arguments left out; with keywords -/
def FXD (P : Program) (w : World) (K : PySem.W.Frag) (mg : Str → Option Value) (base : Heap) (k : Nat) (x : Str) (n : Nat) (dds : List PV) (mf : MF) : Prop :=
  ∃ (f : Addr) (fd : FuncData) (ps : List Str) (dvs : List V) (dus : List Value), mg x = some (.ref f) ∧ PySem.W.keepIn K (.ref f) = true ∧ Binds K fd ps dus ∧ Vals dvs dus ∧ (∀ H, FzA K H dvs dds) ∧ FnOk P w K mg base (L2.CX P w) k f fd ps (spF K (n + dds.length) mf)
def FXK (P : Program) (w : World) (K : PySem.W.Frag) (mg : Str → Option Value) (base : Heap) (k : Nat) (x : Str) (n : Nat) (ks : List Str) (mf : MF) : Prop :=
  ∃ (f : Addr) (fd : FuncData) (ps : List Str) (g : List Value → List Value → List Value), mg x = some (.ref f) ∧ PySem.W.keepIn K (.ref f) = true ∧ KBn K fd ps n ks g (fun vs zs => vs ++ zs) ∧ FnOk P w K mg base (L2.CX P w) k f fd ps (spF K (n + ks.length) mf)
theorem js_callDX {mf : MF} {mos : Mo (List Opd)} {n k : Nat} {x : Str} {p : Pos} {es : List Expr} {e : Expr} {dds : List PV} (hW : Takes X W) (F : FXD X.prog X.w X.K X.mg X.base k x n dds mf) (hr : Room k X.A)
    (ha : JAO X np W (e :: es) mos) (hlen : ∀ e e' os, mos e = .ok os e' → os.length = n) (hg : Gl X x := by rfl)
    (hdb : (x == ("__debug__" : Str)) = false := by decide) (he : starEach (e :: es) X.env = (false, eval e X.env) :: starEach es X.env := by rfl) (hpl : (backTo pos (starEach es X.env)).any (·.1) = false := by rfl) :
    JS X np W (.Call (.Name x p) (e :: es) [] pos) (mCall (mfD mf dds) mos) := by
  obtain ⟨f, fd, ps, dvs, dus, hm, hk, hb, hd, hdd, F⟩ := F
  exact js_callD hW F hr hm hk hb hd hdd ha hlen hg hdb he hpl
theorem js_callKX {mf : MF} {m1 m2 : Mo (List Opd)} {n k : Nat} {x : Str} {p : Pos} {es : List Expr} {e : Expr} {kws : List Keyword} {ks : List Str} {E : XK} (hW : Takes X W) (hE : W = fun c d _ H => E c d H)
    (F : FXK X.prog X.w X.K X.mg X.base k x n ks mf) (hr : Room k X.A) (ha : JAO X np W (e :: es) m1) (hkw : JKO X np W kws m2) (hl1 : ∀ e e' os, m1 e = .ok os e' → os.length = n) (hl2 : ∀ e e' os, m2 e = .ok os e' → os.length = ks.length) (hg : Gl X x := by rfl)
    (hall : (backToKw pos (keywordEach kws X.env)).all (·.1.isSome) = true := by rfl) (hks : (backToKw pos (keywordEach kws X.env)).filterMap (·.1) = ks := by rfl)
    (hdb : (x == ("__debug__" : Str)) = false := by decide) (he : starEach (e :: es) X.env = (false, eval e X.env) :: starEach es X.env := by rfl)
    (hpl : ((backTo pos (starEach (e :: es) X.env)).any (·.1) || (backToKw pos (keywordEach kws X.env)).any (·.1.isNone)) = false := by rfl) :
    JS X np W (.Call (.Name x p) (e :: es) kws pos) (mCall mf (mAppO m1 m2)) := by
  obtain ⟨f, fd, ps, g, hm, hk, hb, F⟩ := F
  exact js_callK hW hE F hr hm hk hb rfl ha hkw hl1 hl2 (lenO_app hl1 hl2) hg hall hks hdb he hpl
theorem js_dnew : JS X np W (.Dict [] [] pos) (mC .any) :=
  PEi pe_dnewK fun σ H Q ⟨P, B, H0, e, I, q⟩ => fun d hd => q _ _ (I.alloc hd) (.any _) (.alloc hd)
def fNeg : PV → Option Sl
  | .int i => some (.fz (.int (-i)))
  | _ => none
theorem js_neg {mo : Mo Opd} (h : JO X np W a mo) : JS X np W (.UnaryOp .USub a pos) (mOp1 fNeg mo) := by
  refine PEi (pe_un un_neg h) fun σ H Q h => ?_
  have hf : F1 X.K (fun xs H Q => ∃ i, xs = [.int i] ∧ Q (.int (-i)) H) fNeg := by
    intro H x d1 s Q r1 h7 _ q
    unfold fNeg at h7
    split at h7
    · cases h7; exact ⟨_, by rw [r1.int], q.int⟩
    · cases h7
  obtain ⟨P, B, H0, e, I, z⟩ := op1_of hf h
  refine ⟨P, B, H0, e, I, ?_⟩
  generalize mo e = o at z ⊢
  cases o with
  | ok o e1 =>
    intro v H1 I1 r1 l1
    obtain ⟨i, e1, e2⟩ := z v H1 I1 r1 l1
    cases e1
    exact ⟨i, rfl, e2⟩
  | exc C ds e1 => exact z
  | stuck => exact z

/-! ### a walk over a list or a tuple -/
def seqOf : PV → Option (List PV)
  | .lst ds => some ds
  | .scr ds => some ds
  | .tup ds => some ds
  | _ => none
def iS (m : Mo PV) : Mo (List PV) := mB m fun d => mO (seqOf d)
theorem ji_seq {m : Mo PV} (h : JE X np W a m) : JI X np W tg a (iS m) := by
  have l := ji_list (tg := tg) h
  have t := ji_tup (tg := tg) h
  refine ⟨fun pins s σ H R I ⟨P, B, H0, e, J, q⟩ => ?_⟩
  unfold iS mB at q
  generalize hm : m e = o at q
  cases o with
  | stuck => exact q.elim
  | exc C ds e1 =>
    refine l.run pins s σ H R I ⟨P, B, H0, e, J, ?_⟩
    unfold iL mB
    rw [hm]; exact q
  | ok d e1 =>
    cases d with
    | lst ds =>
      refine l.run pins s σ H R I ⟨P, B, H0, e, J, ?_⟩
      unfold iL mB
      rw [hm]; exact q
    | scr ds =>
      refine l.run pins s σ H R I ⟨P, B, H0, e, J, ?_⟩
      unfold iL mB
      rw [hm]; exact q
    | tup ds =>
      refine t.run pins s σ H R I ⟨P, B, H0, e, J, ?_⟩
      unfold iT mB
      rw [hm]; exact q
    | _ => exact q.elim

/-! ### truth -/
def truth : PV → Option Bool
  | .non => some false
  | .bl b => some b
  | .int i => some (i != 0)
  | .str x => if x.length ≤ sizeLine then some (x.length != 0) else none
  | .lst xs => some (!xs.isEmpty)
  | .tup xs => some (!xs.isEmpty)
  | _ => none
def mTr (m : Mo Opd) : Mo Bool := mB m fun o e => match (o.get e).bind truth with
  | some b => .ok b e
  | none => .stuck
/-! ### chains -/
def mCh (f g : PV → PV → Option Sl) (ma mb mc : Mo Opd) : Mo Sl := mB ma fun a => mB mb fun b e => match (a.get e).bind fun x => (b.get e).bind fun y => f x y with
  | some (.fz (.bl true)) => mB mc (fun c e2 => sl? ((b.get e2).bind fun y => (c.get e2).bind fun z => g y z) e2) e
  | some (.fz (.bl false)) => .ok (.fz (.bl false)) e
  | _ => .stuck
/-- a new dict that no one looks into -/
theorem js_dict0 {h : Expr} {d : TE} (hp : PE X h d) (hd : ∀ σ H Q, (∀ v H', (∀ b o, H b = some o → H' b = some o) → Q v H') → d σ H Q) : JS X np W h (mC .any) :=
  PEi hp fun σ H Q ⟨P, B, H0, e, I, q⟩ => hd σ H Q fun v H' k => q v H' (I.same k) (.any v) (.same k)
end
end VS

set_option Elab.async false
set_option linter.all false
set_option maxRecDepth 100000
set_option maxHeartbeats 1000000
/-! VS13: reckoning with the functions: what simp uses. -/
namespace VS
open PySem L2

section
variable {α β : Type} {e : Fr}
@[simp] theorem mB_ap (m : Mo α) (k : α → Mo β) : mB m k e = match m e with
  | .ok a e' => k a e'
  | .exc C ds e' => .exc C ds e'
  | .stuck => .stuck := rfl
@[simp] theorem mR_ap (a : α) : mR a e = .ok a e := rfl
@[simp] theorem mO_some (a : α) : mO (some a) e = .ok a e := rfl
@[simp] theorem mO_none : (mO (none : Option α)) e = .stuck := rfl
@[simp] theorem mC_ap (d : PV) : mC d e = .ok (.fz d) e := rfl
@[simp] theorem oN_ap (i : Nat) : oN i e = match e[i]? with
  | some (.fz _) => .ok (.pl i) e
  | some (.own _) => .ok (.pl i) e
  | _ => .stuck := rfl
@[simp] theorem mN_ap (np i : Nat) : mN np i e = match e[i]? with
  | some (.fz d) => .ok (.fz d) e
  | some (.own d) => if np ≤ i then .ok (.fz d) (e.set i (.fz d)) else .stuck
  | _ => .stuck := rfl
@[simp] theorem mV_ap (np i : Nat) : mV np i e = match e[i]? with
  | some (.fz d) => .ok (.fz d) e
  | some (.own d) => if np ≤ i then .ok (.own d) (e.set i .un) else .stuck
  | _ => .stuck := rfl
@[simp] theorem pv_fz (d : PV) : Sl.pv (.fz d) = some d := rfl
@[simp] theorem pv_own (d : PV) : Sl.pv (.own d) = some d := rfl
@[simp] theorem mFz_ap (m : Mo Sl) : mFz m e = match m e with
  | .ok s e' => mO s.pv e'
  | .exc C ds e' => .exc C ds e'
  | .stuck => .stuck := by
  unfold mFz
  (try unfold mFz)
  (try unfold mB)
  (try unfold mS)
  cases m e with
  | ok a e' => first | rfl | (dsimp only; (try unfold mB); split <;> simp_all)
  | exc C ds e' => rfl
  | stuck => rfl
@[simp] theorem oV_ap (m : Mo PV) : oV m e = match m e with
  | .ok d e' => .ok (.val d) e'
  | .exc C ds e' => .exc C ds e'
  | .stuck => .stuck := by
  unfold oV
  (try unfold mFz)
  (try unfold mB)
  (try unfold mS)
  cases m e with
  | ok a e' => first | rfl | (dsimp only; (try unfold mB); split <;> simp_all)
  | exc C ds e' => rfl
  | stuck => rfl
@[simp] theorem sl_fz (d : PV) : sl? (some (.fz d)) e = .ok (.fz d) e := rfl
@[simp] theorem sl_own (d : PV) : sl? (some (.own d)) e = .ok (.own d) e := rfl
@[simp] theorem sl_none : sl? none e = .stuck := rfl
@[simp] theorem get_val (d : PV) : (Opd.val d).get e = some d := rfl
@[simp] theorem get_pl (i : Nat) : (Opd.pl i).get e = match e[i]? with
  | some (.fz d) => some d
  | some (.own d) => some d
  | _ => none := rfl
@[simp] theorem mOp2_ap (f : PV → PV → Option Sl) (ma mb : Mo Opd) : mOp2 f ma mb e = match ma e with
  | .ok a e1 => match mb e1 with
    | .ok b e2 => sl? ((a.get e2).bind fun x => (b.get e2).bind fun y => f x y) e2
    | .exc C ds e' => .exc C ds e'
    | .stuck => .stuck
  | .exc C ds e' => .exc C ds e'
  | .stuck => .stuck := by
  unfold mOp2
  (try unfold mB)
  (try unfold mS)
  cases ma e with
  | ok a e' =>
    dsimp only
    (try unfold mB)
    cases mb e' with
    | ok b e2 => first | rfl | (dsimp only; (try unfold mB); (try split <;> simp_all))
    | exc C ds e' => rfl
    | stuck => rfl
  | exc C ds e' => rfl
  | stuck => rfl
@[simp] theorem mOp1_ap (f : PV → Option Sl) (ma : Mo Opd) : mOp1 f ma e = match ma e with
  | .ok a e1 => sl? ((a.get e1).bind f) e1
  | .exc C ds e' => .exc C ds e'
  | .stuck => .stuck := by
  unfold mOp1
  (try unfold mFz)
  (try unfold mB)
  (try unfold mS)
  cases ma e with
  | ok a e' => first | rfl | (dsimp only; (try unfold mB); split <;> simp_all)
  | exc C ds e' => rfl
  | stuck => rfl
@[simp] theorem mT_ap (m : Mo Sl) : mT m e = match m e with
  | .ok (.fz (.bl c)) e' => .ok c e'
  | .ok _ _ => .stuck
  | .exc C ds e' => .exc C ds e'
  | .stuck => .stuck := by
  unfold mT mB
  split
  · rename_i s e' h
    rw [h]
    split <;> simp_all
  · rename_i h; rw [h]
  · rename_i h; rw [h]
@[simp] theorem mAnd_ap (a b : Mo Bool) : mAnd a b e = match a e with
  | .ok true e' => b e'
  | .ok false e' => .ok false e'
  | .exc C ds e' => .exc C ds e'
  | .stuck => .stuck := by
  unfold mAnd mB
  cases a e with
  | ok c e' => cases c <;> rfl
  | exc C ds e' => rfl
  | stuck => rfl
@[simp] theorem mOr_ap (a b : Mo Bool) : mOr a b e = match a e with
  | .ok true e' => .ok true e'
  | .ok false e' => b e'
  | .exc C ds e' => .exc C ds e'
  | .stuck => .stuck := by
  unfold mOr mB
  cases a e with
  | ok c e' => cases c <;> rfl
  | exc C ds e' => rfl
  | stuck => rfl
@[simp] theorem mNot_ap (a : Mo Bool) : mNot a e = match a e with
  | .ok c e' => .ok (!c) e'
  | .exc C ds e' => .exc C ds e'
  | .stuck => .stuck := by
  unfold mNot
  (try unfold mFz)
  (try unfold mB)
  (try unfold mS)
  cases a e with
  | ok a e' => first | rfl | (dsimp only; (try unfold mB); split <;> simp_all)
  | exc C ds e' => rfl
  | stuck => rfl
@[simp] theorem mAndV_ap (a b : Mo Sl) : mAndV a b e = match mT a e with
  | .ok true e' => b e'
  | .ok false e' => .ok (.fz (.bl false)) e'
  | .exc C ds e' => .exc C ds e'
  | .stuck => .stuck := by
  unfold mAndV
  rw [mB_ap]
  cases mT a e with
  | ok c e' => cases c <;> rfl
  | exc C ds e' => rfl
  | stuck => rfl
@[simp] theorem mOrV_ap (a b : Mo Sl) : mOrV a b e = match mT a e with
  | .ok true e' => .ok (.fz (.bl true)) e'
  | .ok false e' => b e'
  | .exc C ds e' => .exc C ds e'
  | .stuck => .stuck := by
  unfold mOrV
  rw [mB_ap]
  cases mT a e with
  | ok c e' => cases c <;> rfl
  | exc C ds e' => rfl
  | stuck => rfl
@[simp] theorem mNotV_ap (a : Mo Sl) : mNotV a e = match mT a e with
  | .ok c e' => .ok (.fz (.bl !c)) e'
  | .exc C ds e' => .exc C ds e'
  | .stuck => .stuck := by
  unfold mNotV
  (try unfold mFz)
  (try unfold mB)
  (try unfold mS)
  cases mT a e with
  | ok a e' => first | rfl | (dsimp only; (try unfold mB); split <;> simp_all)
  | exc C ds e' => rfl
  | stuck => rfl
@[simp] theorem mIf_ap (t : Mo Bool) (a b : Mo Sl) : mIf t a b e = match t e with
  | .ok true e' => a e'
  | .ok false e' => b e'
  | .exc C ds e' => .exc C ds e'
  | .stuck => .stuck := by
  unfold mIf mB
  cases t e with
  | ok c e' => cases c <;> rfl
  | exc C ds e' => rfl
  | stuck => rfl
@[simp] theorem mNil_ap : mNil e = .ok [] e := rfl
@[simp] theorem mCons_ap (m : Mo PV) (r : Mo (List PV)) : mCons m r e = match m e with
  | .ok d e' => match r e' with
    | .ok ds e2 => .ok (d :: ds) e2
    | .exc C ds e' => .exc C ds e'
    | .stuck => .stuck
  | .exc C ds e' => .exc C ds e'
  | .stuck => .stuck := by
  unfold mCons
  (try unfold mB)
  (try unfold mS)
  cases m e with
  | ok a e' =>
    dsimp only
    (try unfold mB)
    cases r e' with
    | ok b e2 => first | rfl | (dsimp only; (try unfold mB); (try split <;> simp_all))
    | exc C ds e' => rfl
    | stuck => rfl
  | exc C ds e' => rfl
  | stuck => rfl
theorem len_line {n : Nat} (h : n ≤ 1000000) : n ≤ sizeLine := by rw [sizeLine_eq]; omega
@[simp] theorem mTup_ap (m : Mo (List PV)) : mTup m e = match m e with
  | .ok ds e' => if ds.length ≤ sizeLine then .ok (.fz (.tup ds)) e' else .stuck
  | .exc C ds e' => .exc C ds e'
  | .stuck => .stuck := by
  unfold mTup mB
  cases m e with
  | ok ds e' => dsimp only; split <;> rfl
  | exc C ds e' => rfl
  | stuck => rfl
@[simp] theorem mLst_ap (m : Mo (List PV)) : mLst m e = match m e with
  | .ok ds e' => if ds.length ≤ sizeLine then .ok (.own (.lst ds)) e' else .stuck
  | .exc C ds e' => .exc C ds e'
  | .stuck => .stuck := by
  unfold mLst mB
  cases m e with
  | ok ds e' => dsimp only; split <;> rfl
  | exc C ds e' => rfl
  | stuck => rfl
@[simp] theorem sz_le {n : Nat} : (n ≤ sizeLine) = (n ≤ 16777216) := by rw [sizeLine_eq]
@[simp] theorem sz_lt {n : Nat} : (n < sizeLine) = (n < 16777216) := by rw [sizeLine_eq]
/-! statements -/
@[simp] theorem sNx_ap : sNx e = .nx e := rfl
@[simp] theorem sSq_ap (a b : MS) : sSq a b e = match a e with
  | .nx e' => b e'
  | .ret s e' => .ret s e'
  | .brk e' => .brk e'
  | .cont e' => .cont e'
  | .exc C ds e' => .exc C ds e'
  | .stuck => .stuck := by
  unfold sSq
  cases a e <;> rfl
@[simp] theorem mS_ap (m : Mo α) (k : α → MS) : mS m k e = match m e with
  | .ok a e' => k a e'
  | .exc C ds e' => .exc C ds e'
  | .stuck => .stuck := rfl
@[simp] theorem sDrop_ap (m : Mo Sl) : sDrop m e = match m e with
  | .ok _ e' => .nx e'
  | .exc C ds e' => .exc C ds e'
  | .stuck => .stuck := by
  unfold sDrop
  (try unfold mFz)
  (try unfold mB)
  (try unfold mS)
  cases m e with
  | ok a e' => first | rfl | (dsimp only; (try unfold mB); split <;> simp_all)
  | exc C ds e' => rfl
  | stuck => rfl
@[simp] theorem sRet_ap (m : Mo Sl) : sRet m e = match m e with
  | .ok s e' => .ret s e'
  | .exc C ds e' => .exc C ds e'
  | .stuck => .stuck := by
  unfold sRet
  (try unfold mFz)
  (try unfold mB)
  (try unfold mS)
  cases m e with
  | ok a e' => first | rfl | (dsimp only; (try unfold mB); split <;> simp_all)
  | exc C ds e' => rfl
  | stuck => rfl
@[simp] theorem sRetN_ap : sRetN e = .ret (.fz .non) e := rfl
@[simp] theorem sBrk_ap : sBrk e = .brk e := rfl
@[simp] theorem sCont_ap : sCont e = .cont e := rfl
@[simp] theorem sIf_ap (t : Mo Bool) (a b : MS) : sIf t a b e = match t e with
  | .ok true e' => a e'
  | .ok false e' => b e'
  | .exc C ds e' => .exc C ds e'
  | .stuck => .stuck := by
  unfold sIf mS
  cases t e with
  | ok c e' => cases c <;> rfl
  | exc C ds e' => rfl
  | stuck => rfl
@[simp] theorem sPut_fz (np i : Nat) (d : PV) : sPut np i (.fz d) e = if np ≤ i then .nx (e.set i (.fz d)) else match e[i]? with
    | some (.fz _) => .nx (e.set i (.fz d))
    | _ => .stuck := rfl
@[simp] theorem sPut_own (np i : Nat) (d : PV) : sPut np i (.own d) e = if np ≤ i then .nx (e.set i (.own d)) else .stuck := rfl
@[simp] theorem sSet_ap (np i : Nat) (m : Mo Sl) : sSet np i m e = match m e with
  | .ok s e' => sPut np i s e'
  | .exc C ds e' => .exc C ds e'
  | .stuck => .stuck := by
  unfold sSet
  (try unfold mFz)
  (try unfold mB)
  (try unfold mS)
  cases m e with
  | ok a e' => first | rfl | (dsimp only; (try unfold mB); split <;> simp_all)
  | exc C ds e' => rfl
  | stuck => rfl
@[simp] theorem ownL_own (ds : List PV) : ownL (some (.own (.lst ds))) = some ds := rfl
@[simp] theorem mApp_ap (i : Nat) (m : Mo PV) : mApp i m e = match ownL e[i]? with
  | some _ => match m e with
    | .ok d e1 => match ownL e1[i]? with
      | some ds => if ds.length < sizeLine then .ok (.fz .non) (e1.set i (.own (.lst (ds ++ [d])))) else .stuck
      | none => .stuck
    | .exc C ds e' => .exc C ds e'
    | .stuck => .stuck
  | none => .stuck := by
  unfold mApp
  cases ownL e[i]? with
  | none => rfl
  | some _ =>
    dsimp only
    unfold mB
    cases m e with
    | ok d e1 => rfl
    | exc C ds e' => rfl
    | stuck => rfl
@[simp] theorem sSetIx_ap (i : Nat) (mv mj : Mo PV) : sSetIx i mv mj e = match mv e with
  | .ok d e1 => match ownL e1[i]? with
    | some _ => match mj e1 with
      | .ok j e2 => match j, ownL e2[i]? with
        | .int k, some ds => match ixN ds.length k with
          | some n => .nx (e2.set i (.own (.lst (ds.set n d))))
          | none => .stuck
        | _, _ => .stuck
      | .exc C ds e' => .exc C ds e'
      | .stuck => .stuck
    | none => .stuck
  | .exc C ds e' => .exc C ds e'
  | .stuck => .stuck := by
  unfold sSetIx mS
  cases mv e with
  | ok d e1 =>
    dsimp only
    cases ownL e1[i]? with
    | none => rfl
    | some _ =>
      dsimp only
      cases mj e1 with
      | ok j e2 => rfl
      | exc C ds e' => rfl
      | stuck => rfl
  | exc C ds e' => rfl
  | stuck => rfl
/-! calls -/
@[simp] theorem mNilO_ap : mNilO e = .ok [] e := rfl
@[simp] theorem neB_val (d : PV) : neB (.val d) e = true := rfl
@[simp] theorem neB_pl (i : Nat) : neB (.pl i) e = match e[i]? with
    | some (.fz _) => true
    | some (.own _) => true
    | _ => false := rfl
@[simp] theorem mConsO'_ap (m : Mo Opd) (r : Mo (List Opd)) : mConsO' m r e = match m e with
  | .ok d e' => match r e' with
    | .ok ds e2 => if neB d e2 then .ok (d :: ds) e2 else .stuck
    | .exc C ds e' => .exc C ds e'
    | .stuck => .stuck
  | .exc C ds e' => .exc C ds e'
  | .stuck => .stuck := by
  unfold mConsO'
  (try unfold mB)
  (try unfold mS)
  cases m e with
  | ok a e' =>
    dsimp only
    (try unfold mB)
    cases r e' with
    | ok b e2 => first | rfl | (dsimp only; (try unfold mB); (try split <;> simp_all))
    | exc C ds e' => rfl
    | stuck => rfl
  | exc C ds e' => rfl
  | stuck => rfl
@[simp] theorem slO_val (d : PV) : slO (.val d) e = some (.fz d) := rfl
@[simp] theorem slO_pl (i : Nat) : slO (.pl i) e = match e[i]? with
    | some (.fz d) => some (.fz d)
    | some (.own d) => some (.own d)
    | _ => none := rfl
@[simp] theorem getA_nil : getA [] e = some [] := rfl
@[simp] theorem getA_cons (o : Opd) (os : List Opd) : getA (o :: os) e = match slO o e, getA os e with
  | some s, some r => some (s :: r)
  | _, _ => none := rfl
@[simp] theorem ownIx_nil : ownIx [] e = [] := rfl
@[simp] theorem ownIx_val (d : PV) (os : List Opd) : ownIx (.val d :: os) e = ownIx os e := rfl
@[simp] theorem ownIx_pl (i : Nat) (os : List Opd) : ownIx (.pl i :: os) e = match e[i]? with
    | some (.own _) => i :: ownIx os e
    | _ => ownIx os e := rfl
@[simp] theorem putA_nil (as : List Sl) (e0 : Fr) : putA [] as e0 e = some e := by cases as <;> rfl
@[simp] theorem putA_val (d : PV) (os : List Opd) (s : Sl) (as : List Sl) (e0 : Fr) : putA (.val d :: os) (s :: as) e0 e = putA os as e0 e := rfl
@[simp] theorem putA_pl (i : Nat) (os : List Opd) (s : Sl) (as : List Sl) (e0 : Fr) : putA (.pl i :: os) (s :: as) e0 e = match e0[i]? with
    | some (.own _) => match s with
      | .own d => putA os as e0 (e.set i (.own d))
      | _ => none
    | _ => putA os as e0 e := rfl
@[simp] theorem mCall_ap (mf : MF) (mos : Mo (List Opd)) : mCall mf mos e = match mos e with
  | .ok os e1 => match getA os e1 with
    | none => .stuck
    | some as => if (ownIx os e1).Nodup then match mf as with
        | .ret s as' => match putA os as' e1 e1 with
          | some e2 => .ok s e2
          | none => .stuck
        | .exc C ds as' => match putA os as' e1 e1 with
          | some e2 => .exc C ds e2
          | none => .stuck
        | .stuck => .stuck
      else .stuck
  | .exc C ds e' => .exc C ds e'
  | .stuck => .stuck := by
  unfold mCall mB
  cases mos e with
  | ok os e1 => rfl
  | exc C ds e' => rfl
  | stuck => rfl
@[simp] theorem outA_nil : outA [] e = [] := rfl
@[simp] theorem outA_own (d : PV) (as : List Sl) (s : Sl) : outA (.own d :: as) (s :: e) = s :: outA as e := rfl
@[simp] theorem outA_fz (d : PV) (as : List Sl) (s : Sl) : outA (.fz d :: as) (s :: e) = .fz d :: outA as e := rfl
/-! operations -/
@[simp] theorem fI_ap (C : Int → Int → Bool) (g : Int → Int → PV) (i j : Int) : fI C g (.int i) (.int j) = if C i j then some (.fz (g i j)) else none := rfl
@[simp] theorem fAdd_ii (i j : Int) : fAdd (.int i) (.int j) = some (.fz (.int (i + j))) := rfl
@[simp] theorem fAdd_ss (i j : Str) : fAdd (.str i) (.str j) = if i.length + j.length ≤ sizeLine then some (.fz (.str (i ++ j))) else none := rfl
@[simp] theorem fAdd_tt (i j : List PV) : fAdd (.tup i) (.tup j) = if i.length + j.length ≤ sizeLine then some (.fz (.tup (i ++ j))) else none := rfl
@[simp] theorem fAdd_ll (i j : List PV) : fAdd (.lst i) (.lst j) = if i.length + j.length ≤ sizeLine then some (.own (.lst (i ++ j))) else none := rfl
@[simp] theorem fSub_ii (i j : Int) : fSub (.int i) (.int j) = some (.fz (.int (i - j))) := rfl
@[simp] theorem fMul_ii (i j : Int) : fMul (.int i) (.int j) = if mulB i j then some (.fz (.int (i * j))) else none := rfl
@[simp] theorem fDiv_ii (i j : Int) : fDiv (.int i) (.int j) = if decide (0 < j) && decide (j < 1073741824) then some (.fz (.int (i / j))) else none := rfl
@[simp] theorem fMod_ii (i j : Int) : fMod (.int i) (.int j) = if decide (0 < j) then some (.fz (.int (i % j))) else none := rfl
@[simp] theorem fAnd_ii (i j : Int) : fAnd (.int i) (.int j) = some (.fz (.int (Builtin.bitAnd i j))) := rfl
@[simp] theorem fShr_ii (i j : Int) : fShr (.int i) (.int j) = if decide (0 ≤ j) then some (.fz (.int (i / 2 ^ j.toNat))) else none := rfl
@[simp] theorem fPow_ii (i j : Int) : fPow (.int i) (.int j) = if decide (0 ≤ j) && decide (j ≤ 1000000) && decide (i.natAbs < 2 ^ 64) then some (.fz (.int (i ^ j.toNat))) else none := rfl
@[simp] theorem fLt_ii (i j : Int) : fLt (.int i) (.int j) = some (.fz (.bl (decide (i < j)))) := rfl
@[simp] theorem fLe_ii (i j : Int) : fLe (.int i) (.int j) = some (.fz (.bl (decide (i ≤ j)))) := rfl
@[simp] theorem fGt_ii (i j : Int) : fGt (.int i) (.int j) = some (.fz (.bl (decide (j < i)))) := rfl
@[simp] theorem fGe_ii (i j : Int) : fGe (.int i) (.int j) = some (.fz (.bl (decide (j ≤ i)))) := rfl
@[simp] theorem okD_int (i : Int) : okD (.int i) = true := rfl
@[simp] theorem okD_bl (i : Bool) : okD (.bl i) = true := rfl
@[simp] theorem okD_non : okD .non = true := rfl
@[simp] theorem eqv_int (i j : Int) : PyData.eqv (PV.toD (.int i)) (PV.toD (.int j)) = decide (i = j) := by
  simp only [PV.toD, PyData.eqv]
  by_cases h : i = j <;> simp [h]
@[simp] theorem fEq_ii (i j : Int) : fEq (.int i) (.int j) = some (.fz (.bl (decide (i = j)))) := by simp [fEq]
@[simp] theorem fNe_ii (i j : Int) : fNe (.int i) (.int j) = some (.fz (.bl (!decide (i = j)))) := by simp [fNe]
@[simp] theorem fIs_n (d : PV) (h : d ≠ .any) : fIs d .non = some (.fz (.bl d.isN)) := by unfold fIs; split <;> simp_all
@[simp] theorem fIsNot_n (d : PV) (h : d ≠ .any) : fIsNot d .non = some (.fz (.bl (!d.isN))) := by unfold fIsNot; split <;> simp_all
@[simp] theorem fIs_bb (a b : Bool) : fIs (.bl a) (.bl b) = some (.fz (.bl (decide (a = b)))) := rfl
@[simp] theorem fIx_li (xs : List PV) (i : Int) : fIx (.lst xs) (.int i) = (atI xs i).map .fz := rfl
@[simp] theorem fIx_ti (xs : List PV) (i : Int) : fIx (.tup xs) (.int i) = (atI xs i).map .fz := rfl
@[simp] theorem fIx_si (z : Str) (i : Int) : fIx (.str z) (.int i) = if z.length ≤ sizeLine then (atI z.cps.toList i).map fun c => .fz (.str ⟨#[c]⟩) else none := rfl
@[simp] theorem fLen_l (xs : List PV) : fLen (.lst xs) = some (.fz (.int xs.length)) := rfl
@[simp] theorem fLen_t (xs : List PV) : fLen (.tup xs) = some (.fz (.int xs.length)) := rfl
@[simp] theorem fLen_s (z : Str) : fLen (.str z) = if z.length ≤ sizeLine then some (.fz (.int z.length)) else none := rfl
@[simp] theorem fInt_i (i : Int) : fInt (.int i) = some (.fz (.int i)) := rfl
@[simp] theorem fAbs_i (i : Int) : fAbs (.int i) = some (.fz (.int (if i < 0 then -i else i))) := rfl
@[simp] theorem fTuple_l (xs : List PV) : fTuple (.lst xs) = some (.fz (.tup xs)) := rfl
@[simp] theorem fTuple_t (xs : List PV) : fTuple (.tup xs) = some (.fz (.tup xs)) := rfl
@[simp] theorem fList_l (xs : List PV) : fList (.lst xs) = some (.own (.lst xs)) := rfl
@[simp] theorem fList_t (xs : List PV) : fList (.tup xs) = some (.own (.lst xs)) := rfl
@[simp] theorem fNeg_i (i : Int) : fNeg (.int i) = some (.fz (.int (-i))) := rfl
@[simp] theorem gN_ap (np i : Nat) (d : PV) : gN np i d e = if np ≤ i then some (e.set i (.fz d)) else none := rfl
@[simp] theorem gNl_ap : gNl [] e = some e := rfl
@[simp] theorem gCn_ap (g : MG) (r : MGs) (d : PV) (ds : List PV) : gCn g r (d :: ds) e = match g d e with
    | some e' => r ds e'
    | none => none := rfl
@[simp] theorem gTp_ap (n : Nat) (r : MGs) (ds : List PV) : gTp n r (.tup ds) e = if ds.length = n then r ds e else none := rfl
@[simp] theorem seqOf_l (ds : List PV) : seqOf (.lst ds) = some ds := rfl
@[simp] theorem seqOf_s (ds : List PV) : seqOf (.scr ds) = some ds := rfl
@[simp] theorem seqOf_t (ds : List PV) : seqOf (.tup ds) = some ds := rfl
@[simp] theorem iS_ap (m : Mo PV) : iS m e = match m e with
  | .ok d e' => mO (seqOf d) e'
  | .exc C ds e' => .exc C ds e'
  | .stuck => .stuck := by
  unfold iS
  (try unfold mFz)
  (try unfold mB)
  (try unfold mS)
  cases m e with
  | ok a e' => first | rfl | (dsimp only; (try unfold mB); split <;> simp_all)
  | exc C ds e' => rfl
  | stuck => rfl
@[simp] theorem iE_ap (m : Mo PV) : iE m e = match m e with
  | .ok (.lst ds) e' => .ok (enumL 0 ds) e'
  | .ok (.scr ds) e' => .ok (enumL 0 ds) e'
  | .ok _ _ => .stuck
  | .exc C ds e' => .exc C ds e'
  | .stuck => .stuck := by
  unfold iE mB
  split
  · rename_i s e' h
    rw [h]
    cases s <;> rfl
  · rename_i h; rw [h]
  · rename_i h; rw [h]
@[simp] theorem iR1_ap (m : Mo PV) : iR1 m e = match m e with
  | .ok (.int j) e' => if inR j then .ok (rangeL 0 j) e' else .stuck
  | .ok _ _ => .stuck
  | .exc C ds e' => .exc C ds e'
  | .stuck => .stuck := by
  unfold iR1 mB
  split
  · rename_i s e' h
    rw [h]
    cases s <;> simp
    split <;> rfl
  · rename_i h; rw [h]
  · rename_i h; rw [h]
@[simp] theorem atI0 {α : Type} (x : α) (xs : List α) : atI (x :: xs) 0 = some x := by simp [atI, ixN]
@[simp] theorem atI1 {α : Type} (x y : α) (xs : List α) : atI (x :: y :: xs) 1 = some y := by
  have : ((1 : Nat) : Int) = 1 := rfl
  rw [← this]; exact atI_nat rfl
@[simp] theorem atI2 {α : Type} (x y z : α) (xs : List α) : atI (x :: y :: z :: xs) 2 = some z := by
  have : ((2 : Nat) : Int) = 2 := rfl
  rw [← this]; exact atI_nat rfl
@[simp] theorem atI3 {α : Type} (x y z w : α) (xs : List α) : atI (x :: y :: z :: w :: xs) 3 = some w := by
  have : ((3 : Nat) : Int) = 3 := rfl
  rw [← this]; exact atI_nat rfl
@[simp] theorem ixN_0 (n : Nat) : ixN (n + 1) 0 = some 0 := by simp [ixN]
@[simp] theorem ixN_1 (n : Nat) : ixN (n + 1 + 1) 1 = some 1 := by simp [ixN]; omega
@[simp] theorem ixN_2 (n : Nat) : ixN (n + 1 + 1 + 1) 2 = some 2 := by simp [ixN]; omega
@[simp] theorem ixN_3 (n : Nat) : ixN (n + 1 + 1 + 1 + 1) 3 = some 3 := by simp [ixN]; omega
end
theorem mulB_l {i j : Int} (h1 : -(2 ^ 64) < i) (h2 : i < 2 ^ 64) : mulB i j = true := by
  unfold mulB; simp only [Bool.or_eq_true, Bool.and_eq_true, decide_eq_true_eq]; exact .inl ⟨h1, h2⟩
theorem mulB_r {i j : Int} (h1 : -(2 ^ 64) < j) (h2 : j < 2 ^ 64) : mulB i j = true := by
  unfold mulB; simp only [Bool.or_eq_true, Bool.and_eq_true, decide_eq_true_eq]; exact .inr ⟨h1, h2⟩

/-! ### loops -/
theorem forRun_inv {g : MG} {mb : MS} {ds : List PV} (Inv : Nat → Fr → Prop) {e : Fr} (h0 : Inv 0 e)
    (hs : ∀ i d e, ds[i]? = some d → Inv i e → ∃ e1 e2, g d e = some e1 ∧ (mb e1 = .nx e2 ∨ mb e1 = .cont e2) ∧ Inv (i + 1) e2) : ∃ e', forRun g mb ds e = .nx e' ∧ Inv ds.length e' := by
  suffices z : ∀ (l : List PV) (k : Nat) (e : Fr), (∀ i, l[i]? = ds[k + i]?) → Inv k e → ∃ e', forRun g mb l e = .nx e' ∧ Inv (k + l.length) e' by
    obtain ⟨e', h1, h2⟩ := z ds 0 e (fun i => by rw [Nat.zero_add]) h0
    rw [Nat.zero_add] at h2
    exact ⟨e', h1, h2⟩
  intro l
  induction l with
  | nil => intro k e _ h; exact ⟨e, rfl, h⟩
  | cons d l ih =>
    intro k e hl h
    have hd : ds[k]? = some d := by have := hl 0; simpa using this.symm
    obtain ⟨e1, e2, h1, h2, h3⟩ := hs k d e hd h
    obtain ⟨e', h4, h5⟩ := ih (k + 1) e2 (fun i => by have := hl (i + 1); simp only [List.getElem?_cons_succ] at this; rw [this]; congr 1; omega) h3
    refine ⟨e', ?_, by rw [List.length_cons]; rw [show k + (l.length + 1) = k + 1 + l.length by omega]; exact h5⟩
    unfold forRun
    rw [h1]
    rcases h2 with h2 | h2 <;> simp only [h2, h4]
/-- a comprehension whose turns leave the slots as they are -/
theorem compRun_pure {vs : List Nat} {g : MG} {mt : Mo Bool} {me : Mo PV} {e : Fr} (p : PV → Bool) (f : PV → PV) : ∀ (ds acc : List PV),
    (∀ d ∈ ds, ∃ e1 e2, g d e = some e1 ∧ mt e1 = .ok (p d) e2 ∧ (p d = false → wipeE e2 vs = e) ∧ (p d = true → ∃ e3, me e2 = .ok (f d) e3 ∧ wipeE e3 vs = e)) → acc.length + ds.length ≤ 16777216 →
    compRun vs g mt me ds acc e = .ok (.own (.lst (acc ++ (ds.filter p).map f))) e
  | [], acc, _, _ => by simp [compRun]
  | d :: ds, acc, h, hl => by
    obtain ⟨e1, e2, h1, h2, h3, h4⟩ := h d List.mem_cons_self
    unfold compRun
    rw [h1]
    dsimp only
    rw [h2]
    cases hp : p d with
    | false =>
      dsimp only
      rw [h3 hp, compRun_pure p f ds acc (fun d hd => h d (List.mem_cons_of_mem _ hd)) (by simp at hl; omega)]
      simp [hp]
    | true =>
      obtain ⟨e3, h5, h6⟩ := h4 hp
      dsimp only
      rw [h5]
      dsimp only
      rw [if_pos (by simp at hl ⊢; omega), h6, compRun_pure p f ds (acc ++ [f d]) (fun d hd => h d (List.mem_cons_of_mem _ hd)) (by simp at hl ⊢; omega)]
      simp [hp]
end VS

set_option Elab.async false
set_option linter.all false
set_option maxRecDepth 100000
set_option maxHeartbeats 4000000
/-! printed by gen.py: each def as a plain function on rows of slots, and that it is so -/
namespace K18
open PySem L2 VS

def top (i : Nat) : Stmt := PySem.Challenge.pw_unmetcells_k18_whole_meetings_of_marks.main.body.getD i (.Pass ⟨0, 0, 0, 0⟩)
structure Cs where
  z : Unit := ()
  Run : Addr
structure Txt (K : PySem.W.Frag) (mg : Str → Option Value) (cs : Cs) : Prop where
  z : True
  abs : mg "abs" = none
  bool : mg "bool" = none
  enumerate : mg "enumerate" = none
  int : mg "int" = none
  isinstance : mg "isinstance" = none
  len : mg "len" = none
  min : mg "min" = none
  range : mg "range" = none
  sorted : mg "sorted" = none
  str : mg "str" = none
  tuple : mg "tuple" = none
  c_Run : Cls K cs.Run
  n_Run_cells : NoAttr K cs.Run "cells"
  n_Run_entries : NoAttr K cs.Run "entries"
  n_Run_marks : NoAttr K cs.Run "marks"
abbrev s_Run___init__ : Stmt := inClass (top 2) 0
abbrev N_Run___init__ : List Str := ["self", "entries", "marks", "cells"]
theorem sc_Run___init__ : FnScope N_Run___init__ ["self", "entries", "marks", "cells"] (defScope s_Run___init__) := ⟨rfl, rfl, rfl, by decide +kernel, rfl, by decide +kernel, by decide +kernel⟩
def m_Run___init__ (cs : Cs) : MS :=
  sSq (sFldP cs.Run 0 "entries" (mFz (mN 4 1))) (sSq (sFldP cs.Run 0 "marks" (mFz (mN 4 2))) (sFldP cs.Run 0 "cells" (mFz (mN 4 3))))
def mf_Run___init__ (cs : Cs) : MF := bodyRun 4 (m_Run___init__ cs)
abbrev s_meeting_of : Stmt := top 3
abbrev N_meeting_of : List Str := ["one", "other", "names", "name"]
theorem sc_meeting_of : FnScope N_meeting_of ["one", "other"] (defScope s_meeting_of) := ⟨rfl, rfl, rfl, by decide +kernel, rfl, by decide +kernel, by decide +kernel⟩
def m_meeting_of (cs : Cs) : MS :=
  sSq (sSet 2 2 (mComp [3] (iS (mFz (mOp2 fIx (oN 0) (oV (mFz (mC (.int 1))))))) (gN 2 3) (mOr (mT (mOp2 fIn (oN 3) (oV (mFz (mOp2 fIx (oN 1) (oV (mFz (mC (.int 0))))))))) (mT (mOp2 fIn (oN 3) (oV (mFz (mOp2 fIx (oN 1) (oV (mFz (mC (.int 1)))))))))) (mFz (mN 2 3)))) (sSq (sSet 2 2 (mOp2 fAdd (oN 2) (oV (mFz (mComp [3] (iS (mFz (mOp2 fIx (oN 1) (oV (mFz (mC (.int 1))))))) (gN 2 3) (mT (mOp2 fIn (oN 3) (oV (mFz (mOp2 fIx (oN 0) (oV (mFz (mC (.int 0))))))))) (mFz (mN 2 3))))))) (sRet (mIf (mT (mOp2 fNe (oN 2) (oV (mFz (mLst (mNil)))))) (mOp1 fMin (oN 2)) (mC .non))))
def mf_meeting_of (cs : Cs) : MF := bodyRun 4 (m_meeting_of cs)
abbrev s_meetings_in : Stmt := top 4
abbrev N_meetings_in : List Str := ["run", "begin", "found", "i", "j", "cell"]
theorem sc_meetings_in : FnScope N_meetings_in ["run", "begin"] (defScope s_meetings_in) := ⟨rfl, rfl, rfl, by decide +kernel, rfl, by decide +kernel, by decide +kernel⟩
def m_meetings_in (cs : Cs) : MS :=
  sSq (sSet 2 2 (mLst (mNil))) (sSq (sFor (iR2 (mFz (mN 2 1)) (mFz (mOp1 fLen (oV (mFz (mOp1 (fFld cs.Run "entries") (oN 0))))))) (gN 2 3) (sFor (iR2 (mFz (mOp2 fAdd (oN 3) (oV (mFz (mC (.int 1)))))) (mFz (mOp1 fLen (oV (mFz (mOp1 (fFld cs.Run "entries") (oN 0))))))) (gN 2 4) (sSq (sSet 2 5 (mCall (mf_meeting_of cs) (mConsO' (oV (mFz (mOp2 fIx (oV (mFz (mOp1 (fFld cs.Run "marks") (oN 0)))) (oN 3)))) (mConsO' (oV (mFz (mOp2 fIx (oV (mFz (mOp1 (fFld cs.Run "marks") (oN 0)))) (oN 4)))) (mNilO))))) (sIf (mAnd (mT (mOp2 fIsNot (oN 5) (oV (mFz (mC .non))))) (mT (mOp2 fNe (oV (mFz (mOp2 fIx (oV (mFz (mOp2 fIx (oV (mFz (mOp1 (fFld cs.Run "entries") (oN 0)))) (oN 3)))) (oV (mFz (mC (.int 0))))))) (oV (mFz (mOp2 fIx (oV (mFz (mOp2 fIx (oV (mFz (mOp1 (fFld cs.Run "entries") (oN 0)))) (oN 4)))) (oV (mFz (mC (.int 0)))))))))) (sDrop (mApp 2 (mFz (mTup (mCons (mFz (mN 2 3)) (mCons (mFz (mN 2 4)) (mCons (mFz (mN 2 5)) (mNil)))))))) (sNx))))) (sRet (mOp1 fTuple (oN 2))))
def mf_meetings_in (cs : Cs) : MF := bodyRun 6 (m_meetings_in cs)
abbrev s_law_mix : Stmt := top 6
abbrev N_law_mix : List Str := ["_law_number", "_law_turn", "_law_once", "_law_twice"]
theorem sc_law_mix : FnScope N_law_mix ["_law_number", "_law_turn"] (defScope s_law_mix) := ⟨rfl, rfl, rfl, by decide +kernel, rfl, by decide +kernel, by decide +kernel⟩
def m_law_mix (cs : Cs) : MS :=
  sSq (sSet 2 2 (mOp2 fMod (oV (mFz (mOp1 fInt (oV (mFz (mOp2 fAdd (oV (mFz (mOp2 fAdd (oV (mFz (mOp2 fMul (oN 0) (oV (mFz (mC (.int 39373))))))) (oV (mFz (mOp2 fMul (oN 1) (oV (mFz (mC (.int 30323)))))))))) (oV (mFz (mC (.int 61)))))))))) (oV (mFz (mC (.int 2147483647)))))) (sSq (sSet 2 3 (mOp2 fMod (oV (mFz (mOp1 fInt (oV (mFz (mOp2 fAdd (oV (mFz (mOp2 fAdd (oV (mFz (mOp2 fMul (oN 2) (oN 2)))) (oV (mFz (mOp2 fMul (oV (mFz (mOp2 fDiv (oN 2) (oV (mFz (mC (.int 127))))))) (oV (mFz (mC (.int 45989)))))))))) (oV (mFz (mOp2 fMul (oN 1) (oV (mFz (mC (.int 52709))))))))))))) (oV (mFz (mC (.int 2147483399)))))) (sRet (mOp2 fDiv (oV (mFz (mOp2 fMod (oV (mFz (mOp1 fInt (oV (mFz (mOp2 fAdd (oV (mFz (mOp2 fDiv (oV (mFz (mOp2 fMul (oN 3) (oN 3)))) (oV (mFz (mC (.int 1009))))))) (oN 2))))))) (oV (mFz (mC (.int 2147483563))))))) (oV (mFz (mC (.int 16)))))))
def mf_law_mix (cs : Cs) : MF := bodyRun 4 (m_law_mix cs)
abbrev s_law_hand : Stmt := top 7
abbrev N_law_hand : List Str := ["_law_script", "_law_total", "_law_k", "_law_cell"]
theorem sc_law_hand : FnScope N_law_hand ["_law_script"] (defScope s_law_hand) := ⟨rfl, rfl, rfl, by decide +kernel, rfl, by decide +kernel, by decide +kernel⟩
def m_law_hand (cs : Cs) : MS :=
  sSq (sSet 1 1 (mC (.int 7))) (sSq (sFor (iE (mFz (mN 1 0))) (gTp 2 (gCn (gN 1 2) (gCn (gN 1 3) (gNl)))) (sSet 1 1 (mOp2 fMod (oV (mFz (mOp1 fInt (oV (mFz (mOp2 fAdd (oV (mFz (mOp2 fMul (oN 1) (oV (mFz (mC (.int 41))))))) (oV (mFz (mOp2 fMul (oV (mFz (mOp1 fInt (oN 3)))) (oV (mFz (mOp2 fAdd (oN 2) (oV (mFz (mC (.int 3)))))))))))))))) (oV (mFz (mC (.int 2147483629))))))) (sRet (mLst (mCons (mFz (mComp [3] (iS (mFz (mN 1 0))) (gN 1 3) (mR true) (mFz (mOp1 fAbs (oV (mFz (mOp1 fInt (oN 3)))))))) (mCons (mFz (mC (.int 0))) (mCons (mFz (mC (.int 0))) (mCons (mFz (mN 1 1)) (mNil))))))))
def mf_law_hand (cs : Cs) : MF := bodyRun 4 (m_law_hand cs)
abbrev s_law_draw : Stmt := top 8
abbrev N_law_draw : List Str := ["_law_hand_here", "_law_many", "_law_cell", "_law_rest"]
theorem sc_law_draw : FnScope N_law_draw ["_law_hand_here", "_law_many"] (defScope s_law_draw) := ⟨rfl, rfl, rfl, by decide +kernel, rfl, by decide +kernel, by decide +kernel⟩
def m_law_draw (cs : Cs) : MS :=
  sSq (sIf (mAnd (mT (mOp2 fEq (oV (mFz (mOp2 fIx (oN 0) (oV (mFz (mC (.int 2))))))) (oV (mFz (mC (.int 0)))))) (mT (mOp2 fLt (oV (mFz (mOp2 fIx (oN 0) (oV (mFz (mC (.int 1))))))) (oV (mFz (mOp1 fLen (oV (mFz (mOp2 fIx (oN 0) (oV (mFz (mC (.int 0))))))))))))) (sSq (sSet 2 2 (mOp2 fIx (oV (mFz (mOp2 fIx (oN 0) (oV (mFz (mC (.int 0))))))) (oV (mFz (mOp2 fIx (oN 0) (oV (mFz (mC (.int 1))))))))) (sSq (sSetIx 0 (mFz (mOp2 fAdd (oV (mFz (mOp2 fIx (oN 0) (oV (mFz (mC (.int 1))))))) (oV (mFz (mC (.int 1)))))) (mFz (mC (.int 1)))) (sSq (sIf (mT (mOp2 fLt (oN 2) (oV (mFz (mOp2 fPow (oV (mFz (mC (.int 10)))) (oV (mFz (mC (.int 18))))))))) (sRet (mOp2 fMod (oV (mFz (mOp1 fInt (oV (mFz (mCall (mf_law_mix cs) (mConsO' (oV (mFz (mOp2 fMod (oV (mFz (mOp1 fInt (oN 2)))) (oV (mFz (mC (.int 2147483647))))))) (mConsO' (oV (mFz (mOp2 fIx (oN 0) (oV (mFz (mC (.int 1))))))) (mNilO))))))))) (oN 1))) (sNx)) (sSetIx 0 (mFz (mN 2 2)) (mFz (mC (.int 2))))))) (sNx)) (sSq (sIf (mT (mOp2 fGt (oV (mFz (mOp2 fIx (oN 0) (oV (mFz (mC (.int 2))))))) (oV (mFz (mC (.int 0)))))) (sSq (sSet 2 3 (mOp2 fIx (oN 0) (oV (mFz (mC (.int 2)))))) (sSq (sSetIx 0 (mFz (mOp2 fDiv (oN 3) (oN 1))) (mFz (mC (.int 2)))) (sRet (mOp2 fMod (oV (mFz (mOp1 fInt (oN 3)))) (oN 1))))) (sNx)) (sSq (sSetIx 0 (mFz (mOp2 fMod (oV (mFz (mOp1 fInt (oV (mFz (mOp2 fAdd (oV (mFz (mOp2 fIx (oN 0) (oV (mFz (mC (.int 3))))))) (oV (mFz (mC (.int 1)))))))))) (oV (mFz (mC (.int 2147483629)))))) (mFz (mC (.int 3)))) (sRet (mOp2 fMod (oV (mFz (mOp1 fInt (oV (mFz (mCall (mf_law_mix cs) (mConsO' (oV (mFz (mOp2 fIx (oN 0) (oV (mFz (mC (.int 3))))))) (mConsO' (oV (mFz (mOp2 fIx (oN 0) (oV (mFz (mC (.int 1))))))) (mNilO))))))))) (oN 1)))))
def mf_law_draw (cs : Cs) : MF := bodyRun 4 (m_law_draw cs)
abbrev s_law_exact : Stmt := top 9
abbrev N_law_exact : List Str := ["_law_told", "_law_due", "_law_k"]
theorem sc_law_exact : FnScope N_law_exact ["_law_told", "_law_due"] (defScope s_law_exact) := ⟨rfl, rfl, rfl, by decide +kernel, rfl, by decide +kernel, by decide +kernel⟩
def m_law_exact (cs : Cs) (rec : MF) : MS :=
  sSq (sIf (mT (mOp1 (fIsi [.tuple]) (oN 1))) (sSq (sIf (mOr (mNot (mT (mOp1 (fIsi [.tuple]) (oN 0)))) (mT (mOp2 fNe (oV (mFz (mOp1 fLen (oN 0)))) (oV (mFz (mOp1 fLen (oN 1))))))) (sRet (mC (.bl false))) (sNx)) (sRet (mOp2 fEq (oV (mFz (mComp [2] (iR1 (mFz (mOp1 fLen (oN 1)))) (gN 2 2) (mNot (mT (mCall (rec) (mConsO' (oV (mFz (mOp2 fIx (oN 0) (oN 2)))) (mConsO' (oV (mFz (mOp2 fIx (oN 1) (oN 2)))) (mNilO)))))) (mFz (mN 2 2))))) (oV (mFz (mLst (mNil))))))) (sNx)) (sSq (sIf (mT (mOp2 fIs (oN 1) (oV (mFz (mC .non))))) (sRet (mOp2 fIs (oN 0) (oV (mFz (mC .non))))) (sNx)) (sSq (sIf (mT (mOp1 (fIsi [.bool]) (oN 1))) (sRet (mIf (mT (mN 2 1)) (mOp2 fIs (oN 0) (oV (mFz (mC (.bl true))))) (mOp2 fIs (oN 0) (oV (mFz (mC (.bl false))))))) (sNx)) (sSq (sIf (mT (mOp1 (fIsi [.str]) (oN 1))) (sRet (mAndV (mOp1 (fIsi [.str]) (oN 0)) (mOp2 fEq (oN 0) (oN 1)))) (sNx)) (sRet (mAndV (mOp1 (fIsi [.int]) (oN 0)) (mAndV (mNotV (mOp1 (fIsi [.bool]) (oN 0))) (mOp2 fEq (oN 0) (oN 1))))))))
def mf_law_exact (cs : Cs) : Nat → MF
  | 0 => fun _ => .stuck
  | k + 1 => bodyRun 3 (m_law_exact cs (mf_law_exact cs k))
abbrev s_law_meets : Stmt := top 10
abbrev N_law_meets : List Str := ["_law_reads", "_law_writes", "_law_others", "_law_written", "_law_both", "_law_name"]
theorem sc_law_meets : FnScope N_law_meets ["_law_reads", "_law_writes", "_law_others", "_law_written"] (defScope s_law_meets) := ⟨rfl, rfl, rfl, by decide +kernel, rfl, by decide +kernel, by decide +kernel⟩
def m_law_meets (cs : Cs) : MS :=
  sSq (sSet 4 4 (mComp [5] (iS (mFz (mN 4 1))) (gN 4 5) (mOr (mT (mOp2 fIn (oN 5) (oN 2))) (mT (mOp2 fIn (oN 5) (oN 3)))) (mFz (mN 4 5)))) (sRet (mOp2 fAdd (oN 4) (oV (mFz (mComp [5] (iS (mFz (mN 4 3))) (gN 4 5) (mOr (mT (mOp2 fIn (oN 5) (oN 0))) (mT (mOp2 fIn (oN 5) (oN 1)))) (mFz (mN 4 5)))))))
def mf_law_meets (cs : Cs) : MF := bodyRun 6 (m_law_meets cs)
abbrev s_law_drawn_names : Stmt := top 11
abbrev N_law_drawn_names : List Str := ["_law_hand_here", "_law_letters", "_law_found", "_law_k", "_law_name", "_law_step"]
theorem sc_law_drawn_names : FnScope N_law_drawn_names ["_law_hand_here"] (defScope s_law_drawn_names) := ⟨rfl, rfl, rfl, by decide +kernel, rfl, by decide +kernel, by decide +kernel⟩
def m_law_drawn_names (cs : Cs) : MS :=
  sSq (sSet 1 1 (mC (.str "abcdefghijklmnopqrstuvwxyz0123456789 "))) (sSq (sSet 1 2 (mLst (mNil))) (sSq (sFor (iR1 (mFz (mC (.int 5)))) (gN 1 3) (sSq (sSet 1 4 (mC (.str ""))) (sSq (sFor (iR1 (mFz (mOp2 fAdd (oV (mFz (mC (.int 1)))) (oV (mFz (mCall (mf_law_draw cs) (mConsO' (oN 0) (mConsO' (oV (mFz (mC (.int 4)))) (mNilO))))))))) (gN 1 5) (sSet 1 4 (mOp2 fAdd (oN 4) (oV (mFz (mOp2 fIx (oN 1) (oV (mFz (mCall (mf_law_draw cs) (mConsO' (oN 0) (mConsO' (oV (mFz (mC (.int 37)))) (mNilO)))))))))))) (sSq (sWhile (fun _ => 1000) (mT (mOp2 fIn (oN 4) (oN 2))) (sSet 1 4 (mOp2 fAdd (oN 4) (oV (mFz (mOp2 fIx (oN 1) (oN 3))))))) (sDrop (mApp 2 (mFz (mN 1 4)))))))) (sRet (mOp1 fSorted (oN 2)))))
def mf_law_drawn_names (cs : Cs) : MF := bodyRun 6 (m_law_drawn_names cs)
abbrev s_law_some : Stmt := top 12
abbrev N_law_some : List Str := ["_law_hand_here", "_law_names", "_law_bits", "_law_k"]
theorem sc_law_some : FnScope N_law_some ["_law_hand_here", "_law_names"] (defScope s_law_some) := ⟨rfl, rfl, rfl, by decide +kernel, rfl, by decide +kernel, by decide +kernel⟩
def m_law_some (cs : Cs) : MS :=
  sSq (sSet 2 2 (mCall (mf_law_draw cs) (mConsO' (oN 0) (mConsO' (oV (mFz (mC (.int 32)))) (mNilO))))) (sSq (sIf (mT (mOp2 fGt (oV (mFz (mCall (mf_law_draw cs) (mConsO' (oN 0) (mConsO' (oV (mFz (mC (.int 3)))) (mNilO)))))) (oV (mFz (mC (.int 0)))))) (sSet 2 2 (mOp2 fAnd (oN 2) (oV (mFz (mCall (mf_law_draw cs) (mConsO' (oN 0) (mConsO' (oV (mFz (mC (.int 32)))) (mNilO)))))))) (sNx)) (sRet (mOp1 fTuple (oV (mFz (mComp [3] (iR1 (mFz (mC (.int 5)))) (gN 2 3) (mT (mOp2 fEq (oV (mFz (mOp2 fAnd (oV (mFz (mOp2 fShr (oN 2) (oN 3)))) (oV (mFz (mC (.int 1))))))) (oV (mFz (mC (.int 1)))))) (mFz (mOp2 fIx (oN 1) (oN 3)))))))))
def mf_law_some (cs : Cs) : MF := bodyRun 4 (m_law_some cs)
abbrev s_law_least_met : Stmt := top 13
abbrev N_law_least_met : List Str := ["_law_one", "_law_other", "_law_both"]
theorem sc_law_least_met : FnScope N_law_least_met ["_law_one", "_law_other"] (defScope s_law_least_met) := ⟨rfl, rfl, rfl, by decide +kernel, rfl, by decide +kernel, by decide +kernel⟩
def m_law_least_met (cs : Cs) : MS :=
  sSq (sSet 2 2 (mOp1 fSorted (oV (mFz (mCall (mf_law_meets cs) (mConsO' (oV (mFz (mOp2 fIx (oN 0) (oV (mFz (mC (.int 0))))))) (mConsO' (oV (mFz (mOp2 fIx (oN 0) (oV (mFz (mC (.int 1))))))) (mConsO' (oV (mFz (mOp2 fIx (oN 1) (oV (mFz (mC (.int 0))))))) (mConsO' (oV (mFz (mOp2 fIx (oN 1) (oV (mFz (mC (.int 1))))))) (mNilO)))))))))) (sRet (mIf (mT (mOp2 fNe (oN 2) (oV (mFz (mLst (mNil)))))) (mOp2 fIx (oN 2) (oV (mFz (mC (.int 0))))) (mC .non)))
def mf_law_least_met (cs : Cs) : MF := bodyRun 3 (m_law_least_met cs)
abbrev s_law : Stmt := top 14
abbrev N_law : List Str := ["_law_script", "_law_hand_here", "_law_names", "_law_few", "_law_entries", "_law_marks", "_law_k", "_law_who", "_law_run", "_law_due", "_law_i", "_law_j", "_law_cell", "_law_begin", "_law_row"]
theorem sc_law : FnScope N_law ["_law_script"] (defScope s_law) := ⟨rfl, rfl, rfl, by decide +kernel, rfl, by decide +kernel, by decide +kernel⟩
def m_law (cs : Cs) : MS :=
  sSq (sSet 1 1 (mCall (mf_law_hand cs) (mConsO' (oV (mFz (mN 1 0))) (mNilO)))) (sSq (sSet 1 2 (mCall (mf_law_drawn_names cs) (mConsO' (oN 1) (mNilO)))) (sSq (sSet 1 3 (mOp2 fAdd (oV (mFz (mC (.int 2)))) (oV (mFz (mCall (mf_law_draw cs) (mConsO' (oN 1) (mConsO' (oV (mFz (mC (.int 2)))) (mNilO)))))))) (sSq (sSet 1 4 (mLst (mNil))) (sSq (sSet 1 5 (mLst (mNil))) (sSq (sFor (iR1 (mFz (mCall (mf_law_draw cs) (mConsO' (oN 1) (mConsO' (oV (mFz (mC (.int 13)))) (mNilO)))))) (gN 1 6) (sSq (sSet 1 7 (mIf (mT (mOp2 fEq (oV (mFz (mCall (mf_law_draw cs) (mConsO' (oN 1) (mConsO' (oV (mFz (mC (.int 4)))) (mNilO)))))) (oV (mFz (mC (.int 0)))))) (mCall (mf_law_draw cs) (mConsO' (oN 1) (mConsO' (oV (mFz (mC (.int 10)))) (mNilO)))) (mCall (mf_law_draw cs) (mConsO' (oN 1) (mConsO' (oV (mFz (mN 1 3))) (mNilO)))))) (sSq (sDrop (mApp 4 (mFz (mTup (mCons (mFz (mN 1 7)) (mCons (mFz (mCall (mf_law_draw cs) (mConsO' (oN 1) (mConsO' (oV (mFz (mC (.int 4)))) (mNilO))))) (mCons (mFz (mCall (mf_law_draw cs) (mConsO' (oN 1) (mConsO' (oV (mFz (mC (.int 3)))) (mNilO))))) (mNil)))))))) (sDrop (mApp 5 (mFz (mTup (mCons (mFz (mCall (mf_law_some cs) (mConsO' (oN 1) (mConsO' (oV (mFz (mN 1 2))) (mNilO))))) (mCons (mFz (mCall (mf_law_some cs) (mConsO' (oN 1) (mConsO' (oV (mFz (mN 1 2))) (mNilO))))) (mNil)))))))))) (sSq (sSet 1 8 (mMake cs.Run (mf_Run___init__ cs) (mConsO' (oV (mFz (mOp1 fTuple (oN 4)))) (mConsO' (oV (mFz (mOp1 fTuple (oN 5)))) (mConsO' (oV (mFz (mC .any))) (mNilO)))))) (sSq (sSet 1 9 (mLst (mNil))) (sSq (sFor (iR1 (mFz (mOp1 fLen (oN 4)))) (gN 1 10) (sFor (iR1 (mFz (mOp1 fLen (oN 4)))) (gN 1 11) (sSq (sSet 1 12 (mCall (mf_law_least_met cs) (mConsO' (oV (mFz (mOp2 fIx (oN 5) (oN 10)))) (mConsO' (oV (mFz (mOp2 fIx (oN 5) (oN 11)))) (mNilO))))) (sSq (sIf (mNot (mT (mCall (mf_law_exact cs 6) (mConsO' (oV (mFz (mCall (mf_meeting_of cs) (mConsO' (oV (mFz (mOp2 fIx (oN 5) (oN 10)))) (mConsO' (oV (mFz (mOp2 fIx (oN 5) (oN 11)))) (mNilO)))))) (mConsO' (oV (mFz (mN 1 12))) (mNilO)))))) (sRet (mC (.bl false))) (sNx)) (sIf (mAnd (mT (mOp2 fLt (oN 10) (oN 11))) (mAnd (mT (mOp2 fIsNot (oN 12) (oV (mFz (mC .non))))) (mT (mOp2 fNe (oV (mFz (mOp2 fIx (oV (mFz (mOp2 fIx (oN 4) (oN 10)))) (oV (mFz (mC (.int 0))))))) (oV (mFz (mOp2 fIx (oV (mFz (mOp2 fIx (oN 4) (oN 11)))) (oV (mFz (mC (.int 0))))))))))) (sDrop (mApp 9 (mFz (mTup (mCons (mFz (mN 1 10)) (mCons (mFz (mN 1 11)) (mCons (mFz (mN 1 12)) (mNil)))))))) (sNx)))))) (sSq (sIf (mNot (mT (mCall (mf_law_exact cs 6) (mConsO' (oV (mFz (mCall (mfD (mf_meetings_in cs) [.int 0]) (mConsO' (oV (mFz (mN 1 8))) (mNilO))))) (mConsO' (oV (mFz (mOp1 fTuple (oN 9)))) (mNilO)))))) (sRet (mC (.bl false))) (sNx)) (sSq (sFor (iR1 (mFz (mOp2 fAdd (oV (mFz (mOp1 fLen (oN 4)))) (oV (mFz (mC (.int 3))))))) (gN 1 13) (sIf (mNot (mT (mCall (mf_law_exact cs 6) (mConsO' (oV (mFz (mCall (mf_meetings_in cs) (mConsO' (oV (mFz (mN 1 8))) (mConsO' (oV (mFz (mN 1 13))) (mNilO)))))) (mConsO' (oV (mFz (mOp1 fTuple (oV (mFz (mComp [14] (iS (mFz (mN 1 9))) (gN 1 14) (mT (mOp2 fGe (oV (mFz (mOp2 fIx (oN 14) (oV (mFz (mC (.int 0))))))) (oN 13))) (mFz (mN 1 14)))))))) (mNilO)))))) (sRet (mC (.bl false))) (sNx))) (sRet (mAndV (mCall (mf_law_exact cs 6) (mConsO' (oV (mFz (mCall (mf_meetings_in cs) (mAppO (mConsO' (oV (mFz (mN 1 8))) (mNilO)) (mConsO' (oV (mFz (mC (.int 0)))) mNilO))))) (mConsO' (oV (mFz (mOp1 fTuple (oN 9)))) (mNilO)))) (mAndV (mOp2 fEq (oV (mFz (mOp1 (fFld cs.Run "entries") (oN 8)))) (oV (mFz (mOp1 fTuple (oN 4))))) (mOp2 fEq (oV (mFz (mOp1 (fFld cs.Run "marks") (oN 8)))) (oV (mFz (mOp1 fTuple (oN 5))))))))))))))))))
def mf_law (cs : Cs) : MF := bodyRun 15 (m_law cs)
section
variable {P : Program} {w : World} {K : PySem.W.Frag} {mg : Str → Option Value} {base : Heap} {cs : Cs}
theorem fn_Run___init__ {f : Addr} {fd : FuncData} {dvs : List V} (Fn : FunG K "__init__" "Run.__init__" s_Run___init__ dvs f fd) (T : Txt K mg cs) : FnOk P w K mg base (L2.CX P w) 1 f fd ["self", "entries", "marks", "cells"] (spF K 4 (mf_Run___init__ cs)) :=
  fn_of' N_Run___init__ ["self", "entries", "marks", "cells"] 4 4 (m_Run___init__ cs) rfl rfl Fn sc_Run___init__ fun cdv A outer s H E hr => by
  have h : JB (cxOf (L2.CX P w) P w K mg base N_Run___init__ "Run.__init__" (defScope s_Run___init__) f cdv A outer s H E) 4 (fun cls d _ H => E cls d H) (defBody s_Run___init__) _ := jb_cons (jst_fld 0 T.c_Run T.n_Run_entries (pv 0) (je_s (js_n 1 (pv 1)))) (jb_cons (jst_fld 0 T.c_Run T.n_Run_marks (pv 0) (je_s (js_n 2 (pv 2)))) (jb_one (jst_fld 0 T.c_Run T.n_Run_cells (pv 0) (je_s (js_n 3 (pv 3))))))
  exact h
theorem fn_meeting_of {f : Addr} {fd : FuncData} {dvs : List V} (Fn : FunG K "meeting_of" "meeting_of" s_meeting_of dvs f fd) (T : Txt K mg cs) : FnOk P w K mg base (L2.CX P w) 1 f fd ["one", "other"] (spF K 2 (mf_meeting_of cs)) :=
  fn_of' N_meeting_of ["one", "other"] 4 2 (m_meeting_of cs) rfl rfl Fn sc_meeting_of fun cdv A outer s H E hr => by
  have h : JB (cxOf (L2.CX P w) P w K mg base N_meeting_of "meeting_of" (defScope s_meeting_of) f cdv A outer s H E) 2 (fun cls d _ H => E cls d H) (defBody s_meeting_of) _ := jb_cons (jst_comp (i := 2) (own := [("name", 3)]) rfl sc_meeting_of.nd (sw_true rfl rfl rfl (by decide +kernel)) (ji_seq (je_s (js_ix ix_seq f2_ix (jo_n 0 (pv 0)) (jo_s (js_int))))) (blkOk_by (own := [("name", 3)]) (N := N_meeting_of) (sc := defScope s_meeting_of) (by decide +kernel)) (fun _ _ _ _ _ => jg_n (i := 3) sc_meeting_of.nd) (fun _ _ _ _ _ => jts_one (jt_w (jw_or (jt_cmp (op_inV (hu65 hr)) f2_in (jo_n 3 (pv 3)) (jo_s (js_ix ix_seq f2_ix (jo_n 1 (pv 1)) (jo_s (js_int)))) rfl) (jw_or1 (jt_cmp (op_inV (hu65 hr)) f2_in (jo_n 3 (pv 3)) (jo_s (js_ix ix_seq f2_ix (jo_n 1 (pv 1)) (jo_s (js_int)))) rfl))))) (fun _ _ _ _ _ => je_s (js_n 3 (pv 3)))) (jb_cons (jst_set (i := 2) sc_meeting_of.nd (js_op op_addV f2_add (jo_n 2 (pv 2)) (jo_s (js_comp (own := [("name", 3)]) rfl sc_meeting_of.nd (ji_seq (je_s (js_ix ix_seq f2_ix (jo_n 1 (pv 1)) (jo_s (js_int))))) (blkOk_by (own := [("name", 3)]) (N := N_meeting_of) (sc := defScope s_meeting_of) (by decide +kernel)) (fun _ _ _ _ _ => jg_n (i := 3) sc_meeting_of.nd) (fun _ _ _ _ _ => jts_one (jt_cmp (op_inV (hu65 hr)) f2_in (jo_n 3 (pv 3)) (jo_s (js_ix ix_seq f2_ix (jo_n 0 (pv 0)) (jo_s (js_int)))) rfl)) (fun _ _ _ _ _ => je_s (js_n 3 (pv 3))))))) (jb_one (jst_ret (js_if (jt_cmp (op_neD (hu64 hr)) f2_ne (jo_n 2 (pv 2)) (jo_s (js_lst (ja_nil))) (nomark _)) (js_b1 (cr_minS rfl (hu100 hr)) f1_min (jo_n 2 (pv 2)) T.min (by decide +kernel)) (js_non)))))
  exact h
theorem fn_meetings_in {f : Addr} {fd : FuncData} {dvs : List V} (Fn : FunG K "meetings_in" "meetings_in" s_meetings_in dvs f fd) (T : Txt K mg cs) (X_meeting_of : FX P w K mg base 1 "meeting_of" ["one", "other"] (mf_meeting_of cs)) : FnOk P w K mg base (L2.CX P w) 2 f fd ["run", "begin"] (spF K 2 (mf_meetings_in cs)) :=
  fn_of' N_meetings_in ["run", "begin"] 6 2 (m_meetings_in cs) rfl rfl Fn sc_meetings_in fun cdv A outer s H E hr => by
  have h : JB (cxOf (L2.CX P w) P w K mg base N_meetings_in "meetings_in" (defScope s_meetings_in) f cdv A outer s H E) 2 (fun cls d _ H => E cls d H) (defBody s_meetings_in) _ := jb_cons (jst_set (i := 2) sc_meetings_in.nd (js_lst (ja_nil))) (jb_cons (jst_for (passes_of rfl) rfl (ji_range2 T.range (je_s (js_n 1 (pv 1))) (je_s (js_b1 cr_len f1_len (jo_s (js_fld T.c_Run T.n_Run_entries (jo_n 0 (pv 0)))) T.len (by decide +kernel)))) (jg_n (i := 3) sc_meetings_in.nd) (jb_one (jst_for (passes_of rfl) rfl (ji_range2 T.range (je_s (js_op op_addV f2_add (jo_n 3 (pv 3)) (jo_s (js_int)))) (je_s (js_b1 cr_len f1_len (jo_s (js_fld T.c_Run T.n_Run_entries (jo_n 0 (pv 0)))) T.len (by decide +kernel)))) (jg_n (i := 4) sc_meetings_in.nd) (jb_cons (jst_set (i := 5) sc_meetings_in.nd (js_callX (takes_of rfl rfl rfl rfl) X_meeting_of (hr.mono (by decide)) (jao_cons (jo_s (js_ix ix_seq f2_ix (jo_s (js_fld T.c_Run T.n_Run_marks (jo_n 0 (pv 0)))) (jo_n 3 (pv 3)))) (jao_cons (jo_s (js_ix ix_seq f2_ix (jo_s (js_fld T.c_Run T.n_Run_marks (jo_n 0 (pv 0)))) (jo_n 4 (pv 4)))) (jao_nil))) (lenO_cons (lenO_cons lenO_nil)))) (jb_one (jst_if (jt_w (jw_and (jt_cmp op_isNotV f2_isNot (jo_n 5 (pv 5)) (jo_s (js_non)) (nomark _)) (jw_and1 (jt_cmp (op_neD (hu64 hr)) f2_ne (jo_s (js_ix ix_seq f2_ix (jo_s (js_ix ix_seq f2_ix (jo_s (js_fld T.c_Run T.n_Run_entries (jo_n 0 (pv 0)))) (jo_n 3 (pv 3)))) (jo_s (js_int)))) (jo_s (js_ix ix_seq f2_ix (jo_s (js_ix ix_seq f2_ix (jo_s (js_fld T.c_Run T.n_Run_entries (jo_n 0 (pv 0)))) (jo_n 4 (pv 4)))) (jo_s (js_int)))) (nomark _))))) (jb_one (jst_expr (js_app 2 (pv 2) (je_s (js_tup (ja_cons (je_s (js_n 3 (pv 3))) (ja_cons (je_s (js_n 4 (pv 4))) (ja_cons (je_s (js_n 5 (pv 5))) (ja_nil))))))))) (jb_nil))))))) (jb_one (jst_ret (js_t1 call_tuple_of f1_tuple (jo_n 2 (pv 2)) T.tuple (by decide +kernel)))))
  exact h
theorem fn_law_mix {f : Addr} {fd : FuncData} {dvs : List V} (Fn : FunG K "_law_mix" "_law_mix" s_law_mix dvs f fd) (T : Txt K mg cs) : FnOk P w K mg base (L2.CX P w) 1 f fd ["_law_number", "_law_turn"] (spF K 2 (mf_law_mix cs)) :=
  fn_of' N_law_mix ["_law_number", "_law_turn"] 4 2 (m_law_mix cs) rfl rfl Fn sc_law_mix fun cdv A outer s H E hr => by
  have h : JB (cxOf (L2.CX P w) P w K mg base N_law_mix "_law_mix" (defScope s_law_mix) f cdv A outer s H E) 2 (fun cls d _ H => E cls d H) (defBody s_law_mix) _ := jb_cons (jst_set (i := 2) sc_law_mix.nd (js_op op_mod f2_mod (jo_s (js_t1 call_int1 f1_int (jo_s (js_op op_addV f2_add (jo_s (js_op op_addV f2_add (jo_s (js_op op_mul f2_mul (jo_n 0 (pv 0)) (jo_s (js_int)))) (jo_s (js_op op_mul f2_mul (jo_n 1 (pv 1)) (jo_s (js_int)))))) (jo_s (js_int)))) T.int (by decide +kernel))) (jo_s (js_int)))) (jb_cons (jst_set (i := 3) sc_law_mix.nd (js_op op_mod f2_mod (jo_s (js_t1 call_int1 f1_int (jo_s (js_op op_addV f2_add (jo_s (js_op op_addV f2_add (jo_s (js_op op_mul f2_mul (jo_n 2 (pv 2)) (jo_n 2 (pv 2)))) (jo_s (js_op op_mul f2_mul (jo_s (js_op op_fdiv f2_div (jo_n 2 (pv 2)) (jo_s (js_int)))) (jo_s (js_int)))))) (jo_s (js_op op_mul f2_mul (jo_n 1 (pv 1)) (jo_s (js_int)))))) T.int (by decide +kernel))) (jo_s (js_int)))) (jb_one (jst_ret (js_op op_fdiv f2_div (jo_s (js_op op_mod f2_mod (jo_s (js_t1 call_int1 f1_int (jo_s (js_op op_addV f2_add (jo_s (js_op op_fdiv f2_div (jo_s (js_op op_mul f2_mul (jo_n 3 (pv 3)) (jo_n 3 (pv 3)))) (jo_s (js_int)))) (jo_n 2 (pv 2)))) T.int (by decide +kernel))) (jo_s (js_int)))) (jo_s (js_int))))))
  exact h
theorem fn_law_hand {f : Addr} {fd : FuncData} {dvs : List V} (Fn : FunG K "_law_hand" "_law_hand" s_law_hand dvs f fd) (T : Txt K mg cs) : FnOk P w K mg base (L2.CX P w) 1 f fd ["_law_script"] (spF K 1 (mf_law_hand cs)) :=
  fn_of' N_law_hand ["_law_script"] 4 1 (m_law_hand cs) rfl rfl Fn sc_law_hand fun cdv A outer s H E hr => by
  have h : JB (cxOf (L2.CX P w) P w K mg base N_law_hand "_law_hand" (defScope s_law_hand) f cdv A outer s H E) 1 (fun cls d _ H => E cls d H) (defBody s_law_hand) _ := jb_cons (jst_set (i := 1) sc_law_hand.nd (js_int)) (jb_cons (jst_for (passes_of rfl) rfl (ji_enum T.enumerate (je_s (js_n 0 (pv 0)))) (jg_tup rfl (jgs_cons (jg_n (i := 2) sc_law_hand.nd) (jgs_cons (jg_n (i := 3) sc_law_hand.nd) (jgs_nil)))) (jb_one (jst_set (i := 1) sc_law_hand.nd (js_op op_mod f2_mod (jo_s (js_t1 call_int1 f1_int (jo_s (js_op op_addV f2_add (jo_s (js_op op_mul f2_mul (jo_n 1 (pv 1)) (jo_s (js_int)))) (jo_s (js_op op_mul f2_mul (jo_s (js_t1 call_int1 f1_int (jo_n 3 (pv 3)) T.int (by decide +kernel))) (jo_s (js_op op_addV f2_add (jo_n 2 (pv 2)) (jo_s (js_int)))))))) T.int (by decide +kernel))) (jo_s (js_int)))))) (jb_one (jst_ret (js_lst (ja_cons (je_s (js_comp (own := [("_law_cell", 3)]) rfl sc_law_hand.nd (ji_seq (je_s (js_n 0 (pv 0)))) (blkOk_by (own := [("_law_cell", 3)]) (N := N_law_hand) (sc := defScope s_law_hand) (by decide +kernel)) (fun _ _ _ _ _ => jg_n (i := 3) sc_law_hand.nd) (fun _ _ _ _ _ => jts_nil) (fun _ _ _ _ _ => je_s (js_b1 call_abs f1_abs (jo_s (js_t1 call_int1 f1_int (jo_n 3 (pv 3)) T.int (by decide +kernel))) T.abs (by decide +kernel))))) (ja_cons (je_s (js_int)) (ja_cons (je_s (js_int)) (ja_cons (je_s (js_n 1 (pv 1))) (ja_nil)))))))))
  exact h
theorem fn_law_draw {f : Addr} {fd : FuncData} {dvs : List V} (Fn : FunG K "_law_draw" "_law_draw" s_law_draw dvs f fd) (T : Txt K mg cs) (X_law_mix : FX P w K mg base 1 "_law_mix" ["_law_number", "_law_turn"] (mf_law_mix cs)) : FnOk P w K mg base (L2.CX P w) 2 f fd ["_law_hand_here", "_law_many"] (spF K 2 (mf_law_draw cs)) :=
  fn_of' N_law_draw ["_law_hand_here", "_law_many"] 4 2 (m_law_draw cs) rfl rfl Fn sc_law_draw fun cdv A outer s H E hr => by
  have h : JB (cxOf (L2.CX P w) P w K mg base N_law_draw "_law_draw" (defScope s_law_draw) f cdv A outer s H E) 2 (fun cls d _ H => E cls d H) (defBody s_law_draw) _ := jb_cons (jst_if (jt_w (jw_and (jt_cmp (op_eqD (hu64 hr)) f2_eq (jo_s (js_ix ix_seq f2_ix (jo_n 0 (pv 0)) (jo_s (js_int)))) (jo_s (js_int)) (nomark _)) (jw_and1 (jt_cmp op_lt f2_lt (jo_s (js_ix ix_seq f2_ix (jo_n 0 (pv 0)) (jo_s (js_int)))) (jo_s (js_b1 cr_len f1_len (jo_s (js_ix ix_seq f2_ix (jo_n 0 (pv 0)) (jo_s (js_int)))) T.len (by decide +kernel))) (nomark _))))) (jb_cons (jst_set (i := 2) sc_law_draw.nd (js_ix ix_seq f2_ix (jo_s (js_ix ix_seq f2_ix (jo_n 0 (pv 0)) (jo_s (js_int)))) (jo_s (js_ix ix_seq f2_ix (jo_n 0 (pv 0)) (jo_s (js_int)))))) (jb_cons (jst_setIx 0 (pv 0) (je_s (js_int)) (je_s (js_op op_addV f2_add (jo_s (js_ix ix_seq f2_ix (jo_n 0 (pv 0)) (jo_s (js_int)))) (jo_s (js_int))))) (jb_cons (jst_if (jt_cmp op_lt f2_lt (jo_n 2 (pv 2)) (jo_s (js_op op_pow f2_pow (jo_s (js_int)) (jo_s (js_int)))) (nomark _)) (jb_one (jst_ret (js_op op_mod f2_mod (jo_s (js_t1 call_int1 f1_int (jo_s (js_callX (takes_of rfl rfl rfl rfl) X_law_mix (hr.mono (by decide)) (jao_cons (jo_s (js_op op_mod f2_mod (jo_s (js_t1 call_int1 f1_int (jo_n 2 (pv 2)) T.int (by decide +kernel))) (jo_s (js_int)))) (jao_cons (jo_s (js_ix ix_seq f2_ix (jo_n 0 (pv 0)) (jo_s (js_int)))) (jao_nil))) (lenO_cons (lenO_cons lenO_nil)))) T.int (by decide +kernel))) (jo_n 1 (pv 1))))) (jb_nil)) (jb_one (jst_setIx 0 (pv 0) (je_s (js_int)) (je_s (js_n 2 (pv 2)))))))) (jb_nil)) (jb_cons (jst_if (jt_cmp op_gt f2_gt (jo_s (js_ix ix_seq f2_ix (jo_n 0 (pv 0)) (jo_s (js_int)))) (jo_s (js_int)) (nomark _)) (jb_cons (jst_set (i := 3) sc_law_draw.nd (js_ix ix_seq f2_ix (jo_n 0 (pv 0)) (jo_s (js_int)))) (jb_cons (jst_setIx 0 (pv 0) (je_s (js_int)) (je_s (js_op op_fdiv f2_div (jo_n 3 (pv 3)) (jo_n 1 (pv 1))))) (jb_one (jst_ret (js_op op_mod f2_mod (jo_s (js_t1 call_int1 f1_int (jo_n 3 (pv 3)) T.int (by decide +kernel))) (jo_n 1 (pv 1))))))) (jb_nil)) (jb_cons (jst_setIx 0 (pv 0) (je_s (js_int)) (je_s (js_op op_mod f2_mod (jo_s (js_t1 call_int1 f1_int (jo_s (js_op op_addV f2_add (jo_s (js_ix ix_seq f2_ix (jo_n 0 (pv 0)) (jo_s (js_int)))) (jo_s (js_int)))) T.int (by decide +kernel))) (jo_s (js_int))))) (jb_one (jst_ret (js_op op_mod f2_mod (jo_s (js_t1 call_int1 f1_int (jo_s (js_callX (takes_of rfl rfl rfl rfl) X_law_mix (hr.mono (by decide)) (jao_cons (jo_s (js_ix ix_seq f2_ix (jo_n 0 (pv 0)) (jo_s (js_int)))) (jao_cons (jo_s (js_ix ix_seq f2_ix (jo_n 0 (pv 0)) (jo_s (js_int)))) (jao_nil))) (lenO_cons (lenO_cons lenO_nil)))) T.int (by decide +kernel))) (jo_n 1 (pv 1)))))))
  exact h
theorem fx_law_exact {f : Addr} {fd : FuncData} {dvs : List V} (Fn : FunG K "_law_exact" "_law_exact" s_law_exact dvs f fd) (hm : mg "_law_exact" = some (.ref f)) (bd : Binds K fd ["_law_told", "_law_due"] []) (T : Txt K mg cs) : ∀ d : Nat, FX P w K mg base (d + 1) "_law_exact" ["_law_told", "_law_due"] (mf_law_exact cs d)
  | 0 => fx_stuck hm Fn.kp bd
  | d + 1 => by
    have X_law_exact := fx_law_exact Fn hm bd T  d
    refine fx_of (k := d + 1) N_law_exact ["_law_told", "_law_due"] 3 (m_law_exact cs (mf_law_exact cs d)) rfl Fn hm bd sc_law_exact fun cdv A outer s H E hr => ?_
    have h : JB (cxOf (L2.CX P w) P w K mg base N_law_exact "_law_exact" (defScope s_law_exact) f cdv A outer s H E) 2 (fun cls d _ H => E cls d H) (defBody s_law_exact) _ := jb_cons (jst_if (jt_val (js_isi (jo_n 1 (pv 1)) (bt_name .tuple T.tuple (by decide +kernel)) T.isinstance)) (jb_cons (jst_if (jt_w (jw_or (jt_not (jt_val (js_isi (jo_n 0 (pv 0)) (bt_name .tuple T.tuple (by decide +kernel)) T.isinstance))) (jw_or1 (jt_cmp (op_neD (hu64 hr)) f2_ne (jo_s (js_b1 cr_len f1_len (jo_n 0 (pv 0)) T.len (by decide +kernel))) (jo_s (js_b1 cr_len f1_len (jo_n 1 (pv 1)) T.len (by decide +kernel))) (nomark _))))) (jb_one (jst_ret (js_bl))) (jb_nil)) (jb_one (jst_ret (js_cmp (op_eqD (hu64 hr)) f2_eq (jo_s (js_comp (own := [("_law_k", 2)]) rfl sc_law_exact.nd (ji_range1 T.range (je_s (js_b1 cr_len f1_len (jo_n 1 (pv 1)) T.len (by decide +kernel)))) (blkOk_by (own := [("_law_k", 2)]) (N := N_law_exact) (sc := defScope s_law_exact) (by decide +kernel)) (fun _ _ _ _ _ => jg_n (i := 2) sc_law_exact.nd) (fun _ _ _ _ _ => jts_one (jt_not (jt_val (js_callX takes0 X_law_exact hr (jao_cons (jo_s (js_ix ix_seq f2_ix (jo_n 0 (pv 0)) (jo_n 2 (pv 2)))) (jao_cons (jo_s (js_ix ix_seq f2_ix (jo_n 1 (pv 1)) (jo_n 2 (pv 2)))) (jao_nil))) (lenO_cons (lenO_cons lenO_nil)))))) (fun _ _ _ _ _ => je_s (js_n 2 (pv 2))))) (jo_s (js_lst (ja_nil))) (nomark _))))) (jb_nil)) (jb_cons (jst_if (jt_cmp op_isV f2_is (jo_n 1 (pv 1)) (jo_s (js_non)) (nomark _)) (jb_one (jst_ret (js_cmp op_isV f2_is (jo_n 0 (pv 0)) (jo_s (js_non)) (nomark _)))) (jb_nil)) (jb_cons (jst_if (jt_val (js_isi (jo_n 1 (pv 1)) (bt_name .bool T.bool (by decide +kernel)) T.isinstance)) (jb_one (jst_ret (js_if (jt_val (js_n 1 (pv 1))) (js_cmp op_isV f2_is (jo_n 0 (pv 0)) (jo_s (js_bl)) (nomark _)) (js_cmp op_isV f2_is (jo_n 0 (pv 0)) (jo_s (js_bl)) (nomark _))))) (jb_nil)) (jb_cons (jst_if (jt_val (js_isi (jo_n 1 (pv 1)) (bt_name .str T.str (by decide +kernel)) T.isinstance)) (jb_one (jst_ret (js_and (js_isi (jo_n 0 (pv 0)) (bt_name .str T.str (by decide +kernel)) T.isinstance) (js_one (js_cmp (op_eqD (hu64 hr)) f2_eq (jo_n 0 (pv 0)) (jo_n 1 (pv 1)) (nomark _)))))) (jb_nil)) (jb_one (jst_ret (js_and (js_isi (jo_n 0 (pv 0)) (bt_name .int T.int (by decide +kernel)) T.isinstance) (js_and (js_not (js_isi (jo_n 0 (pv 0)) (bt_name .bool T.bool (by decide +kernel)) T.isinstance)) (js_one (js_cmp (op_eqD (hu64 hr)) f2_eq (jo_n 0 (pv 0)) (jo_n 1 (pv 1)) (nomark _))))))))))
    exact h
theorem fn_law_meets {f : Addr} {fd : FuncData} {dvs : List V} (Fn : FunG K "_law_meets" "_law_meets" s_law_meets dvs f fd) (T : Txt K mg cs) : FnOk P w K mg base (L2.CX P w) 1 f fd ["_law_reads", "_law_writes", "_law_others", "_law_written"] (spF K 4 (mf_law_meets cs)) :=
  fn_of' N_law_meets ["_law_reads", "_law_writes", "_law_others", "_law_written"] 6 4 (m_law_meets cs) rfl rfl Fn sc_law_meets fun cdv A outer s H E hr => by
  have h : JB (cxOf (L2.CX P w) P w K mg base N_law_meets "_law_meets" (defScope s_law_meets) f cdv A outer s H E) 4 (fun cls d _ H => E cls d H) (defBody s_law_meets) _ := jb_cons (jst_comp (i := 4) (own := [("_law_name", 5)]) rfl sc_law_meets.nd (sw_true rfl rfl rfl (by decide +kernel)) (ji_seq (je_s (js_n 1 (pv 1)))) (blkOk_by (own := [("_law_name", 5)]) (N := N_law_meets) (sc := defScope s_law_meets) (by decide +kernel)) (fun _ _ _ _ _ => jg_n (i := 5) sc_law_meets.nd) (fun _ _ _ _ _ => jts_one (jt_w (jw_or (jt_cmp (op_inV (hu65 hr)) f2_in (jo_n 5 (pv 5)) (jo_n 2 (pv 2)) rfl) (jw_or1 (jt_cmp (op_inV (hu65 hr)) f2_in (jo_n 5 (pv 5)) (jo_n 3 (pv 3)) rfl))))) (fun _ _ _ _ _ => je_s (js_n 5 (pv 5)))) (jb_one (jst_ret (js_op op_addV f2_add (jo_n 4 (pv 4)) (jo_s (js_comp (own := [("_law_name", 5)]) rfl sc_law_meets.nd (ji_seq (je_s (js_n 3 (pv 3)))) (blkOk_by (own := [("_law_name", 5)]) (N := N_law_meets) (sc := defScope s_law_meets) (by decide +kernel)) (fun _ _ _ _ _ => jg_n (i := 5) sc_law_meets.nd) (fun _ _ _ _ _ => jts_one (jt_w (jw_or (jt_cmp (op_inV (hu65 hr)) f2_in (jo_n 5 (pv 5)) (jo_n 0 (pv 0)) rfl) (jw_or1 (jt_cmp (op_inV (hu65 hr)) f2_in (jo_n 5 (pv 5)) (jo_n 1 (pv 1)) rfl))))) (fun _ _ _ _ _ => je_s (js_n 5 (pv 5))))))))
  exact h
theorem fn_law_drawn_names {f : Addr} {fd : FuncData} {dvs : List V} (Fn : FunG K "_law_drawn_names" "_law_drawn_names" s_law_drawn_names dvs f fd) (T : Txt K mg cs) (X_law_draw : FX P w K mg base 2 "_law_draw" ["_law_hand_here", "_law_many"] (mf_law_draw cs)) : FnOk P w K mg base (L2.CX P w) 3 f fd ["_law_hand_here"] (spF K 1 (mf_law_drawn_names cs)) :=
  fn_of' N_law_drawn_names ["_law_hand_here"] 6 1 (m_law_drawn_names cs) rfl rfl Fn sc_law_drawn_names fun cdv A outer s H E hr => by
  have h : JB (cxOf (L2.CX P w) P w K mg base N_law_drawn_names "_law_drawn_names" (defScope s_law_drawn_names) f cdv A outer s H E) 1 (fun cls d _ H => E cls d H) (defBody s_law_drawn_names) _ := jb_cons (jst_set (i := 1) sc_law_drawn_names.nd (js_str)) (jb_cons (jst_set (i := 2) sc_law_drawn_names.nd (js_lst (ja_nil))) (jb_cons (jst_for (passes_of rfl) rfl (ji_range1 T.range (je_s (js_int))) (jg_n (i := 3) sc_law_drawn_names.nd) (jb_cons (jst_set (i := 4) sc_law_drawn_names.nd (js_str)) (jb_cons (jst_for (passes_of rfl) rfl (ji_range1 T.range (je_s (js_op op_addV f2_add (jo_s (js_int)) (jo_s (js_callX (takes_of rfl rfl rfl rfl) X_law_draw (hr.mono (by decide)) (jao_cons (jo_n 0 (pv 0)) (jao_cons (jo_s (js_int)) (jao_nil))) (lenO_cons (lenO_cons lenO_nil))))))) (jg_n (i := 5) sc_law_drawn_names.nd) (jb_one (jst_set (i := 4) sc_law_drawn_names.nd (js_op op_addV f2_add (jo_n 4 (pv 4)) (jo_s (js_ix ix_seq f2_ix (jo_n 1 (pv 1)) (jo_s (js_callX (takes_of rfl rfl rfl rfl) X_law_draw (hr.mono (by decide)) (jao_cons (jo_n 0 (pv 0)) (jao_cons (jo_s (js_int)) (jao_nil))) (lenO_cons (lenO_cons lenO_nil)))))))))) (jb_cons (jst_while (fun _ => 1000) (passes_of rfl) (jt_cmp (op_inV (hu65 hr)) f2_in (jo_n 4 (pv 4)) (jo_n 2 (pv 2)) rfl) (jb_one (jst_set (i := 4) sc_law_drawn_names.nd (js_op op_addV f2_add (jo_n 4 (pv 4)) (jo_s (js_ix ix_seq f2_ix (jo_n 1 (pv 1)) (jo_n 3 (pv 3)))))))) (jb_one (jst_expr (js_app 2 (pv 2) (je_s (js_n 4 (pv 4)))))))))) (jb_one (jst_ret (js_b1 (cr_sortedV (hu100 hr)) f1_sorted (jo_n 2 (pv 2)) T.sorted (by decide +kernel))))))
  exact h
theorem fn_law_some {f : Addr} {fd : FuncData} {dvs : List V} (Fn : FunG K "_law_some" "_law_some" s_law_some dvs f fd) (T : Txt K mg cs) (X_law_draw : FX P w K mg base 2 "_law_draw" ["_law_hand_here", "_law_many"] (mf_law_draw cs)) : FnOk P w K mg base (L2.CX P w) 3 f fd ["_law_hand_here", "_law_names"] (spF K 2 (mf_law_some cs)) :=
  fn_of' N_law_some ["_law_hand_here", "_law_names"] 4 2 (m_law_some cs) rfl rfl Fn sc_law_some fun cdv A outer s H E hr => by
  have h : JB (cxOf (L2.CX P w) P w K mg base N_law_some "_law_some" (defScope s_law_some) f cdv A outer s H E) 2 (fun cls d _ H => E cls d H) (defBody s_law_some) _ := jb_cons (jst_set (i := 2) sc_law_some.nd (js_callX (takes_of rfl rfl rfl rfl) X_law_draw (hr.mono (by decide)) (jao_cons (jo_n 0 (pv 0)) (jao_cons (jo_s (js_int)) (jao_nil))) (lenO_cons (lenO_cons lenO_nil)))) (jb_cons (jst_if (jt_cmp op_gt f2_gt (jo_s (js_callX (takes_of rfl rfl rfl rfl) X_law_draw (hr.mono (by decide)) (jao_cons (jo_n 0 (pv 0)) (jao_cons (jo_s (js_int)) (jao_nil))) (lenO_cons (lenO_cons lenO_nil)))) (jo_s (js_int)) (nomark _)) (jb_one (jst_set (i := 2) sc_law_some.nd (js_op op_and f2_and (jo_n 2 (pv 2)) (jo_s (js_callX (takes_of rfl rfl rfl rfl) X_law_draw (hr.mono (by decide)) (jao_cons (jo_n 0 (pv 0)) (jao_cons (jo_s (js_int)) (jao_nil))) (lenO_cons (lenO_cons lenO_nil))))))) (jb_nil)) (jb_one (jst_ret (js_t1 call_tuple_of f1_tuple (jo_s (js_comp (own := [("_law_k", 3)]) rfl sc_law_some.nd (ji_range1 T.range (je_s (js_int))) (blkOk_by (own := [("_law_k", 3)]) (N := N_law_some) (sc := defScope s_law_some) (by decide +kernel)) (fun _ _ _ _ _ => jg_n (i := 3) sc_law_some.nd) (fun _ _ _ _ _ => jts_one (jt_cmp (op_eqD (hu64 hr)) f2_eq (jo_s (js_op op_and f2_and (jo_s (js_op op_shr f2_shr (jo_n 2 (pv 2)) (jo_n 3 (pv 3)))) (jo_s (js_int)))) (jo_s (js_int)) (nomark _))) (fun _ _ _ _ _ => je_s (js_ix ix_seq f2_ix (jo_n 1 (pv 1)) (jo_n 3 (pv 3)))))) T.tuple (by decide +kernel)))))
  exact h
theorem fn_law_least_met {f : Addr} {fd : FuncData} {dvs : List V} (Fn : FunG K "_law_least_met" "_law_least_met" s_law_least_met dvs f fd) (T : Txt K mg cs) (X_law_meets : FX P w K mg base 1 "_law_meets" ["_law_reads", "_law_writes", "_law_others", "_law_written"] (mf_law_meets cs)) : FnOk P w K mg base (L2.CX P w) 2 f fd ["_law_one", "_law_other"] (spF K 2 (mf_law_least_met cs)) :=
  fn_of' N_law_least_met ["_law_one", "_law_other"] 3 2 (m_law_least_met cs) rfl rfl Fn sc_law_least_met fun cdv A outer s H E hr => by
  have h : JB (cxOf (L2.CX P w) P w K mg base N_law_least_met "_law_least_met" (defScope s_law_least_met) f cdv A outer s H E) 2 (fun cls d _ H => E cls d H) (defBody s_law_least_met) _ := jb_cons (jst_set (i := 2) sc_law_least_met.nd (js_b1 (cr_sortedV (hu100 hr)) f1_sorted (jo_s (js_callX (takes_of rfl rfl rfl rfl) X_law_meets (hr.mono (by decide)) (jao_cons (jo_s (js_ix ix_seq f2_ix (jo_n 0 (pv 0)) (jo_s (js_int)))) (jao_cons (jo_s (js_ix ix_seq f2_ix (jo_n 0 (pv 0)) (jo_s (js_int)))) (jao_cons (jo_s (js_ix ix_seq f2_ix (jo_n 1 (pv 1)) (jo_s (js_int)))) (jao_cons (jo_s (js_ix ix_seq f2_ix (jo_n 1 (pv 1)) (jo_s (js_int)))) (jao_nil))))) (lenO_cons (lenO_cons (lenO_cons (lenO_cons lenO_nil)))))) T.sorted (by decide +kernel))) (jb_one (jst_ret (js_if (jt_cmp (op_neD (hu64 hr)) f2_ne (jo_n 2 (pv 2)) (jo_s (js_lst (ja_nil))) (nomark _)) (js_ix ix_seq f2_ix (jo_n 2 (pv 2)) (jo_s (js_int))) (js_non))))
  exact h
theorem fn_law {f : Addr} {fd : FuncData} {dvs : List V} (Fn : FunG K "law" "law" s_law dvs f fd) (T : Txt K mg cs) (X_law_hand : FX P w K mg base 1 "_law_hand" ["_law_script"] (mf_law_hand cs)) (X_law_drawn_names : FX P w K mg base 3 "_law_drawn_names" ["_law_hand_here"] (mf_law_drawn_names cs)) (X_law_draw : FX P w K mg base 2 "_law_draw" ["_law_hand_here", "_law_many"] (mf_law_draw cs)) (X_law_some : FX P w K mg base 3 "_law_some" ["_law_hand_here", "_law_names"] (mf_law_some cs)) (X_Run : MX P w K mg base 1 "Run" cs.Run 3 (mf_Run___init__ cs)) (X_law_least_met : FX P w K mg base 2 "_law_least_met" ["_law_one", "_law_other"] (mf_law_least_met cs)) (X_law_exact : FX P w K mg base 7 "_law_exact" ["_law_told", "_law_due"] (mf_law_exact cs 6)) (X_meeting_of : FX P w K mg base 1 "meeting_of" ["one", "other"] (mf_meeting_of cs)) (X_meetings_in : FX P w K mg base 2 "meetings_in" ["run", "begin"] (mf_meetings_in cs)) (XD_meetings_in : FXD P w K mg base 2 "meetings_in" 1 [.int 0] (mf_meetings_in cs)) (XK_meetings_in : FXK P w K mg base 2 "meetings_in" 1 ["begin"] (mf_meetings_in cs)) : FnOk P w K mg base (L2.CX P w) 8 f fd ["_law_script"] (spF K 1 (mf_law cs)) :=
  fn_of' N_law ["_law_script"] 15 1 (m_law cs) rfl rfl Fn sc_law fun cdv A outer s H E hr => by
  have h : JB (cxOf (L2.CX P w) P w K mg base N_law "law" (defScope s_law) f cdv A outer s H E) 1 (fun cls d _ H => E cls d H) (defBody s_law) _ := jb_cons (jst_set (i := 1) sc_law.nd (js_callX (takes_of rfl rfl rfl rfl) X_law_hand (hr.mono (by decide)) (jao_cons (jo_s (js_n 0 (pv 0))) (jao_nil)) (lenO_cons lenO_nil))) (jb_cons (jst_set (i := 2) sc_law.nd (js_callX (takes_of rfl rfl rfl rfl) X_law_drawn_names (hr.mono (by decide)) (jao_cons (jo_n 1 (pv 1)) (jao_nil)) (lenO_cons lenO_nil))) (jb_cons (jst_set (i := 3) sc_law.nd (js_op op_addV f2_add (jo_s (js_int)) (jo_s (js_callX (takes_of rfl rfl rfl rfl) X_law_draw (hr.mono (by decide)) (jao_cons (jo_n 1 (pv 1)) (jao_cons (jo_s (js_int)) (jao_nil))) (lenO_cons (lenO_cons lenO_nil)))))) (jb_cons (jst_set (i := 4) sc_law.nd (js_lst (ja_nil))) (jb_cons (jst_set (i := 5) sc_law.nd (js_lst (ja_nil))) (jb_cons (jst_for (passes_of rfl) rfl (ji_range1 T.range (je_s (js_callX (takes_of rfl rfl rfl rfl) X_law_draw (hr.mono (by decide)) (jao_cons (jo_n 1 (pv 1)) (jao_cons (jo_s (js_int)) (jao_nil))) (lenO_cons (lenO_cons lenO_nil))))) (jg_n (i := 6) sc_law.nd) (jb_cons (jst_set (i := 7) sc_law.nd (js_if (jt_cmp (op_eqD (hu64 hr)) f2_eq (jo_s (js_callX (takes_of rfl rfl rfl rfl) X_law_draw (hr.mono (by decide)) (jao_cons (jo_n 1 (pv 1)) (jao_cons (jo_s (js_int)) (jao_nil))) (lenO_cons (lenO_cons lenO_nil)))) (jo_s (js_int)) (nomark _)) (js_callX (takes_of rfl rfl rfl rfl) X_law_draw (hr.mono (by decide)) (jao_cons (jo_n 1 (pv 1)) (jao_cons (jo_s (js_int)) (jao_nil))) (lenO_cons (lenO_cons lenO_nil))) (js_callX (takes_of rfl rfl rfl rfl) X_law_draw (hr.mono (by decide)) (jao_cons (jo_n 1 (pv 1)) (jao_cons (jo_s (js_n 3 (pv 3))) (jao_nil))) (lenO_cons (lenO_cons lenO_nil))))) (jb_cons (jst_expr (js_app 4 (pv 4) (je_s (js_tup (ja_cons (je_s (js_n 7 (pv 7))) (ja_cons (je_s (js_callX (takes_of rfl rfl rfl rfl) X_law_draw (hr.mono (by decide)) (jao_cons (jo_n 1 (pv 1)) (jao_cons (jo_s (js_int)) (jao_nil))) (lenO_cons (lenO_cons lenO_nil)))) (ja_cons (je_s (js_callX (takes_of rfl rfl rfl rfl) X_law_draw (hr.mono (by decide)) (jao_cons (jo_n 1 (pv 1)) (jao_cons (jo_s (js_int)) (jao_nil))) (lenO_cons (lenO_cons lenO_nil)))) (ja_nil)))))))) (jb_one (jst_expr (js_app 5 (pv 5) (je_s (js_tup (ja_cons (je_s (js_callX (takes_of rfl rfl rfl rfl) X_law_some (hr.mono (by decide)) (jao_cons (jo_n 1 (pv 1)) (jao_cons (jo_s (js_n 2 (pv 2))) (jao_nil))) (lenO_cons (lenO_cons lenO_nil)))) (ja_cons (je_s (js_callX (takes_of rfl rfl rfl rfl) X_law_some (hr.mono (by decide)) (jao_cons (jo_n 1 (pv 1)) (jao_cons (jo_s (js_n 2 (pv 2))) (jao_nil))) (lenO_cons (lenO_cons lenO_nil)))) (ja_nil))))))))))) (jb_cons (jst_set (i := 8) sc_law.nd (js_makeX (takes_of rfl rfl rfl rfl) rfl X_Run (hr.mono (by decide)) (jao_cons (jo_s (js_t1 call_tuple_of f1_tuple (jo_n 4 (pv 4)) T.tuple (by decide +kernel))) (jao_cons (jo_s (js_t1 call_tuple_of f1_tuple (jo_n 5 (pv 5)) T.tuple (by decide +kernel))) (jao_cons (jo_s (js_dnew)) (jao_nil)))) (lenO_cons (lenO_cons (lenO_cons lenO_nil))))) (jb_cons (jst_set (i := 9) sc_law.nd (js_lst (ja_nil))) (jb_cons (jst_for (passes_of rfl) rfl (ji_range1 T.range (je_s (js_b1 cr_len f1_len (jo_n 4 (pv 4)) T.len (by decide +kernel)))) (jg_n (i := 10) sc_law.nd) (jb_one (jst_for (passes_of rfl) rfl (ji_range1 T.range (je_s (js_b1 cr_len f1_len (jo_n 4 (pv 4)) T.len (by decide +kernel)))) (jg_n (i := 11) sc_law.nd) (jb_cons (jst_set (i := 12) sc_law.nd (js_callX (takes_of rfl rfl rfl rfl) X_law_least_met (hr.mono (by decide)) (jao_cons (jo_s (js_ix ix_seq f2_ix (jo_n 5 (pv 5)) (jo_n 10 (pv 10)))) (jao_cons (jo_s (js_ix ix_seq f2_ix (jo_n 5 (pv 5)) (jo_n 11 (pv 11)))) (jao_nil))) (lenO_cons (lenO_cons lenO_nil)))) (jb_cons (jst_if (jt_not (jt_val (js_callX (takes_of rfl rfl rfl rfl) X_law_exact (hr.mono (by decide)) (jao_cons (jo_s (js_callX (takes_of rfl rfl rfl rfl) X_meeting_of (hr.mono (by decide)) (jao_cons (jo_s (js_ix ix_seq f2_ix (jo_n 5 (pv 5)) (jo_n 10 (pv 10)))) (jao_cons (jo_s (js_ix ix_seq f2_ix (jo_n 5 (pv 5)) (jo_n 11 (pv 11)))) (jao_nil))) (lenO_cons (lenO_cons lenO_nil)))) (jao_cons (jo_s (js_n 12 (pv 12))) (jao_nil))) (lenO_cons (lenO_cons lenO_nil))))) (jb_one (jst_ret (js_bl))) (jb_nil)) (jb_one (jst_if (jt_w (jw_and (jt_cmp op_lt f2_lt (jo_n 10 (pv 10)) (jo_n 11 (pv 11)) (nomark _)) (jw_and (jt_cmp op_isNotV f2_isNot (jo_n 12 (pv 12)) (jo_s (js_non)) (nomark _)) (jw_and1 (jt_cmp (op_neD (hu64 hr)) f2_ne (jo_s (js_ix ix_seq f2_ix (jo_s (js_ix ix_seq f2_ix (jo_n 4 (pv 4)) (jo_n 10 (pv 10)))) (jo_s (js_int)))) (jo_s (js_ix ix_seq f2_ix (jo_s (js_ix ix_seq f2_ix (jo_n 4 (pv 4)) (jo_n 11 (pv 11)))) (jo_s (js_int)))) (nomark _)))))) (jb_one (jst_expr (js_app 9 (pv 9) (je_s (js_tup (ja_cons (je_s (js_n 10 (pv 10))) (ja_cons (je_s (js_n 11 (pv 11))) (ja_cons (je_s (js_n 12 (pv 12))) (ja_nil))))))))) (jb_nil)))))))) (jb_cons (jst_if (jt_not (jt_val (js_callX (takes_of rfl rfl rfl rfl) X_law_exact (hr.mono (by decide)) (jao_cons (jo_s (js_callDX (takes_of rfl rfl rfl rfl) XD_meetings_in (hr.mono (by decide)) (jao_cons (jo_s (js_n 8 (pv 8))) (jao_nil)) (lenO_cons lenO_nil))) (jao_cons (jo_s (js_t1 call_tuple_of f1_tuple (jo_n 9 (pv 9)) T.tuple (by decide +kernel))) (jao_nil))) (lenO_cons (lenO_cons lenO_nil))))) (jb_one (jst_ret (js_bl))) (jb_nil)) (jb_cons (jst_for (passes_of rfl) rfl (ji_range1 T.range (je_s (js_op op_addV f2_add (jo_s (js_b1 cr_len f1_len (jo_n 4 (pv 4)) T.len (by decide +kernel))) (jo_s (js_int))))) (jg_n (i := 13) sc_law.nd) (jb_one (jst_if (jt_not (jt_val (js_callX (takes_of rfl rfl rfl rfl) X_law_exact (hr.mono (by decide)) (jao_cons (jo_s (js_callX (takes_of rfl rfl rfl rfl) X_meetings_in (hr.mono (by decide)) (jao_cons (jo_s (js_n 8 (pv 8))) (jao_cons (jo_s (js_n 13 (pv 13))) (jao_nil))) (lenO_cons (lenO_cons lenO_nil)))) (jao_cons (jo_s (js_t1 call_tuple_of f1_tuple (jo_s (js_comp (own := [("_law_row", 14)]) rfl sc_law.nd (ji_seq (je_s (js_n 9 (pv 9)))) (blkOk_by (own := [("_law_row", 14)]) (N := N_law) (sc := defScope s_law) (by decide +kernel)) (fun _ _ _ _ _ => jg_n (i := 14) sc_law.nd) (fun _ _ _ _ _ => jts_one (jt_cmp op_ge f2_ge (jo_s (js_ix ix_seq f2_ix (jo_n 14 (pv 14)) (jo_s (js_int)))) (jo_n 13 (pv 13)) (nomark _))) (fun _ _ _ _ _ => je_s (js_n 14 (pv 14))))) T.tuple (by decide +kernel))) (jao_nil))) (lenO_cons (lenO_cons lenO_nil))))) (jb_one (jst_ret (js_bl))) (jb_nil)))) (jb_one (jst_ret (js_and (js_callX (takes_of rfl rfl rfl rfl) X_law_exact (hr.mono (by decide)) (jao_cons (jo_s (js_callKX (takes_of rfl rfl rfl rfl) rfl XK_meetings_in (hr.mono (by decide)) (jao_cons (jo_s (js_n 8 (pv 8))) (jao_nil)) (jko_one (jo_s (js_int))) (lenO_cons lenO_nil) (lenO_cons lenO_nil))) (jao_cons (jo_s (js_t1 call_tuple_of f1_tuple (jo_n 9 (pv 9)) T.tuple (by decide +kernel))) (jao_nil))) (lenO_cons (lenO_cons lenO_nil))) (js_and (js_cmp (op_eqD (hu64 hr)) f2_eq (jo_s (js_fld T.c_Run T.n_Run_entries (jo_n 8 (pv 8)))) (jo_s (js_t1 call_tuple_of f1_tuple (jo_n 4 (pv 4)) T.tuple (by decide +kernel))) (nomark _)) (js_one (js_cmp (op_eqD (hu64 hr)) f2_eq (jo_s (js_fld T.c_Run T.n_Run_marks (jo_n 8 (pv 8)))) (jo_s (js_t1 call_tuple_of f1_tuple (jo_n 5 (pv 5)) T.tuple (by decide +kernel))) (nomark _)))))))))))))))))
  exact h
end
end K18

set_option linter.all false
set_option maxRecDepth 100000
set_option maxHeartbeats 4000000
set_option pp.maxSteps 600
namespace VS
@[simp] theorem iR2_ap {e : Fr} (m m2 : Mo PV) : iR2 m m2 e = match m e with
  | .ok d e1 => match m2 e1 with
    | .ok d2 e2 => (match d, d2 with
      | .int i, .int j => if inR i && inR j then .ok (rangeL i j) e2 else .stuck
      | _, _ => .stuck)
    | .exc C ds e' => .exc C ds e'
    | .stuck => .stuck
  | .exc C ds e' => .exc C ds e'
  | .stuck => .stuck := by
  unfold iR2 mB
  cases m e with
  | ok d e1 =>
    dsimp only
    cases m2 e1 with
    | ok d2 e2 =>
      cases d <;> cases d2 <;> first | rfl | (dsimp only; split <;> rfl)
    | exc C ds e' => rfl
    | stuck => rfl
  | exc C ds e' => rfl
  | stuck => rfl
@[simp] theorem fDiv_pos {i j : Int} (h1 : 0 < j) (h2 : j < 1073741824) : fDiv (.int i) (.int j) = some (.fz (.int (i / j))) := by simp [h1, h2]
@[simp] theorem fMod_pos {i j : Int} (h1 : 0 < j) : fMod (.int i) (.int j) = some (.fz (.int (i % j))) := by simp [h1]
@[simp] theorem sFor_ap {e : Fr} (mi : Mo (List PV)) (g : MG) (mb : MS) : sFor mi g mb e = match mi e with
  | .ok ds e' => forRun g mb ds e'
  | .exc C ds e' => .exc C ds e'
  | .stuck => .stuck := by
  unfold sFor
  unfold mS
  cases mi e <;> rfl
@[simp] theorem sWhile_ap {e : Fr} (n : Fr → Nat) (t : Mo Bool) (mb : MS) : sWhile n t mb e = whileRun t mb (n e) e := rfl
@[simp] theorem mComp_ap {e : Fr} (vs : List Nat) (mi : Mo (List PV)) (g : MG) (mt : Mo Bool) (me : Mo PV) : mComp vs mi g mt me e = match mi e with
  | .ok ds e' => compRun vs g mt me ds [] (wipeE e' vs)
  | .exc C ds e' => .exc C ds e'
  | .stuck => .stuck := by
  unfold mComp
  unfold mB
  cases mi e <;> rfl
end VS
namespace K18
open PySem L2 VS
theorem mulB_of {i j : Int} (h : (-(2 ^ 64) < i ∧ i < 2 ^ 64) ∨ (-(2 ^ 64) < j ∧ j < 2 ^ 64)) : mulB i j = true := by
  rcases h with ⟨a, b⟩ | ⟨a, b⟩
  · exact mulB_l a b
  · exact mulB_r a b
theorem mix_ok (cs : Cs) {n t : Int} (hn : 0 ≤ n) (hn2 : n < 4294967296) (ht : 0 ≤ t) (ht2 : t < 4294967296) :
    ∃ v : Int, 0 ≤ v ∧ mf_law_mix cs [.fz (.int n), .fz (.int t)] = .ret (.fz (.int v)) [.fz (.int n), .fz (.int t)] := by
  have m1 : mulB n 39373 = true := mulB_r (by decide) (by decide)
  have m2 : mulB t 30323 = true := mulB_r (by decide) (by decide)
  generalize ho : (n * 39373 + t * 30323 + 61) % 2147483647 = o
  have o1 : 0 ≤ o ∧ o < 2147483647 := by omega
  have m3 : mulB o o = true := mulB_l (by omega) (by omega)
  have m4 : mulB (o / 127) 45989 = true := mulB_r (by decide) (by decide)
  have m5 : mulB t 52709 = true := mulB_r (by decide) (by decide)
  generalize hp : (o * o + o / 127 * 45989 + t * 52709) % 2147483399 = p
  have p1 : 0 ≤ p ∧ p < 2147483399 := by omega
  have m6 : mulB p p = true := mulB_l (by omega) (by omega)
  refine ⟨(p * p / 1009 + o) % 2147483563 / 16, by omega, ?_⟩
  simp [mf_law_mix, bodyRun, m_law_mix, m1, m2, m3, m4, m5, m6, ho, hp]
end K18

set_option linter.all false
set_option maxRecDepth 100000
set_option maxHeartbeats 4000000
set_option pp.maxSteps 600
namespace VS
open PySem L2
theorem atI_map {α β : Type} (f : α → β) (xs : List α) (i : Int) : atI (xs.map f) i = (atI xs i).map f := by
  unfold atI ixN
  simp only [List.length_map]
  split <;> simp <;> rfl
theorem atI_some {α : Type} {xs : List α} {i : Int} (h0 : 0 ≤ i) (h1 : i < xs.length) : ∃ x, atI xs i = some x ∧ x ∈ xs := by
  obtain ⟨n, rfl⟩ : ∃ n : Nat, i = n := ⟨i.toNat, by omega⟩
  have hn : n < xs.length := by omega
  exact ⟨xs[n], atI_nat (by simp [hn]), List.getElem_mem hn⟩
end VS
namespace K18
open PySem L2 VS
def Hand (d : PV) : Prop := ∃ (ns : List Int) (i r t : Int), d = .lst [.lst (ns.map .int), .int i, .int r, .int t] ∧ (∀ c ∈ ns, 0 ≤ c) ∧ ns.length ≤ 63 ∧ 0 ≤ i ∧ i ≤ 63 ∧ 0 ≤ r ∧ 0 ≤ t ∧ t < 2147483629
theorem draw_ok (cs : Cs) {h : PV} (hh : Hand h) {many : Int} (h1 : 0 < many) (h2 : many < 1073741824) :
    ∃ (v : Int) (h' : PV), 0 ≤ v ∧ v < many ∧ Hand h' ∧ mf_law_draw cs [.own h, .fz (.int many)] = .ret (.fz (.int v)) [.own h', .fz (.int many)] := by
  obtain ⟨ns, i, r, t, rfl, hn, hl, hi, hi2, hr, ht, ht2⟩ := hh
  by_cases c1 : r = 0 ∧ i < ns.length
  · obtain ⟨rfl, c1⟩ := c1
    obtain ⟨c, hc, hcm⟩ := atI_some (xs := ns) hi c1
    have hc' : atI (ns.map PV.int) i = some (.int c) := by rw [atI_map, hc]; rfl
    have hc0 := hn c hcm
    by_cases c2 : c < 1000000000000000000
    · obtain ⟨v, hv, hm⟩ := mix_ok cs (n := c % 2147483647) (t := i + 1) (by omega) (by omega) (by omega) (by omega)
      refine ⟨v % many, .lst [.lst (ns.map .int), .int (i + 1), .int 0, .int t], Int.emod_nonneg _ (by omega), Int.emod_lt_of_pos _ h1, ⟨ns, i + 1, 0, t, rfl, hn, hl, by omega, by omega, by omega, ht, ht2⟩, ?_⟩
      simp [mf_law_draw, bodyRun, m_law_draw, c1, c2, hc', hm, h1]
    · refine ⟨c % many, .lst [.lst (ns.map .int), .int (i + 1), .int (c / many), .int t], Int.emod_nonneg _ (by omega), Int.emod_lt_of_pos _ h1, ⟨ns, i + 1, c / many, t, rfl, hn, hl, by omega, by omega, Int.ediv_nonneg (by omega) (by omega), ht, ht2⟩, ?_⟩
      simp [mf_law_draw, bodyRun, m_law_draw, c1, c2, hc', h1, h2, show 0 < c by omega]
  · by_cases c3 : 0 < r
    · refine ⟨r % many, .lst [.lst (ns.map .int), .int i, .int (r / many), .int t], Int.emod_nonneg _ (by omega), Int.emod_lt_of_pos _ h1, ⟨ns, i, r / many, t, rfl, hn, hl, by omega, by omega, Int.ediv_nonneg (by omega) (by omega), ht, ht2⟩, ?_⟩
      simp [mf_law_draw, bodyRun, m_law_draw, h1, h2, c3, show r ≠ 0 by omega]
    · have hr0 : r = 0 := by omega
      subst hr0
      have c1' : ¬ i < ns.length := fun z => c1 ⟨rfl, z⟩
      obtain ⟨v, hv, hm⟩ := mix_ok cs (n := (t + 1) % 2147483629) (t := i) (by omega) (by omega) (by omega) (by omega)
      refine ⟨v % many, .lst [.lst (ns.map .int), .int i, .int 0, .int ((t + 1) % 2147483629)], Int.emod_nonneg _ (by omega), Int.emod_lt_of_pos _ h1, ⟨ns, i, 0, (t + 1) % 2147483629, rfl, hn, hl, by omega, by omega, by omega, by omega, by omega⟩, ?_⟩
      simp [mf_law_draw, bodyRun, m_law_draw, h1, h2, c1', hm]
end K18

set_option linter.all false
set_option maxRecDepth 100000
set_option maxHeartbeats 4000000
set_option pp.maxSteps 600
namespace VS
open PySem L2
theorem rangeL_0 (n : Nat) : rangeL 0 (n : Int) = (List.range n).map fun (k : Nat) => .int (k : Int) := by
  unfold rangeL; simp
theorem compRun_map {vs : List Nat} {g : MG} {mt : Mo Bool} {me : Mo PV} {e : Fr} (f : PV → PV) (ds : List PV)
    (h : ∀ d ∈ ds, ∃ e1 e2 e3, g d e = some e1 ∧ mt e1 = .ok true e2 ∧ me e2 = .ok (f d) e3 ∧ wipeE e3 vs = e) (hl : ds.length ≤ 16777216) :
    compRun vs g mt me ds [] e = .ok (.own (.lst (ds.map f))) e := by
  have z := compRun_pure (vs := vs) (g := g) (mt := mt) (me := me) (e := e) (fun _ => true) f ds [] (fun d hd => by
    obtain ⟨e1, e2, e3, h1, h2, h3, h4⟩ := h d hd
    exact ⟨e1, e2, h1, h2, nofun, fun _ => ⟨e3, h3, h4⟩⟩) (by simpa using hl)
  rw [z, List.nil_append, List.filter_eq_self.2 (fun _ _ => rfl)]
theorem inR_of' {j : Int} (h0 : -4611686018427387904 ≤ j) (h1 : j < 4611686018427387904) : inR j = true := by
  unfold inR; simp; omega
end VS
namespace K18
open PySem L2 VS
theorem hand_ok (cs : Cs) (ns : List Int) (hl : ns.length ≤ 63) : ∃ h, Hand h ∧ mf_law_hand cs [.fz (.scr (ns.map .int))] = .ret (.own h) [.fz (.scr (ns.map .int))] := by
  have hfor : ∃ e', forRun (gTp 2 (gCn (gN 1 2) (gCn (gN 1 3) (gNl)))) (sSet 1 1 (mOp2 fMod (oV (mFz (mOp1 fInt (oV (mFz (mOp2 fAdd (oV (mFz (mOp2 fMul (oN 1) (oV (mFz (mC (.int 41))))))) (oV (mFz (mOp2 fMul (oV (mFz (mOp1 fInt (oN 3)))) (oV (mFz (mOp2 fAdd (oN 2) (oV (mFz (mC (.int 3)))))))))))))))) (oV (mFz (mC (.int 2147483629)))))) (enumL 0 (ns.map PV.int)) [.fz (.scr (ns.map .int)), .fz (.int 7), .un, .un] = .nx e' ∧ ∃ t a b, 0 ≤ t ∧ t < 2147483629 ∧ e' = [.fz (.scr (ns.map .int)), .fz (.int t), a, b] := by
    refine forRun_inv (fun _ e => ∃ t a b, 0 ≤ t ∧ t < 2147483629 ∧ e = [.fz (.scr (ns.map .int)), .fz (.int t), a, b]) ⟨7, _, _, by omega, by omega, rfl⟩ ?_
    rintro i d e hd ⟨t, a, b, h0, h1, rfl⟩
    obtain ⟨x, hx, rfl⟩ := enumL_get hd
    rw [List.getElem?_map] at hx
    obtain ⟨c, hc, rfl⟩ := Option.map_eq_some_iff.1 hx
    have hi : i < ns.length := (List.getElem?_eq_some_iff.1 hc).1
    have m1 : mulB t 41 = true := mulB_r (by decide) (by decide)
    have m2 : mulB c (i + 3) = true := mulB_r (by omega) (by omega)
    have m2' : mulB c (((0 + i : Nat) : Int) + 3) = true := mulB_r (by omega) (by omega)
    refine ⟨_, [.fz (.scr (ns.map .int)), .fz (.int ((t * 41 + c * (i + 3)) % 2147483629)), .fz (.int i), .fz (.int c)], rfl, .inl ?_, _, _, _, Int.emod_nonneg _ (by decide), Int.emod_lt_of_pos _ (by decide), rfl⟩
    simp [m1, m2, m2']
  obtain ⟨e', he, t, a, b, t0, t1, rfl⟩ := hfor
  have hc := compRun_map (vs := [3]) (g := gN 1 3) (mt := mR true) (me := mFz (mOp1 fAbs (oV (mFz (mOp1 fInt (oN 3)))))) (e := [.fz (.scr (ns.map .int)), .fz (.int t), a, .un]) (fun d => match d with | .int c => .int (if c < 0 then -c else c) | d => d) (ns.map .int) (by
    intro d hd
    obtain ⟨c, hc, rfl⟩ := List.mem_map.1 hd
    refine ⟨_, _, [.fz (.scr (ns.map .int)), .fz (.int t), a, .fz (.int c)], rfl, rfl, ?_, ?_⟩
    · simp
    · simp [wipeE]) (by simp; omega)
  refine ⟨.lst [.lst ((ns.map fun c => if c < 0 then -c else c).map .int), .int 0, .int 0, .int t], ⟨_, 0, 0, t, rfl, ?_, by simpa using hl, by omega, by omega, by omega, t0, t1⟩, ?_⟩
  · intro c hc
    obtain ⟨x, hx, rfl⟩ := List.mem_map.1 hc
    split <;> omega
  · simp [mf_law_hand, bodyRun, m_law_hand, he, wipeE]
    simp [hc]
end K18

set_option linter.all false
set_option maxRecDepth 100000
set_option maxHeartbeats 4000000
set_option pp.maxSteps 600
namespace VS
open PySem L2
open PySem.PyData (strOk)
/-- plain data of depth at most n -/
def OkN (n : Nat) (d : PV) : Prop := d.toD.canLay0 = true ∧ d.toD.depth ≤ n
theorem OkN.mono {n m : Nat} {d : PV} (h : OkN n d) (l : n ≤ m) : OkN m d := ⟨h.1, Nat.le_trans h.2 l⟩
theorem OkN.okD {n : Nat} {d : PV} (h : OkN n d) (l : n ≤ 64) : VS.okD d = true := by
  unfold VS.okD SeqAt.shaped
  rw [h.1, decide_eq_true (Nat.le_trans h.2 l)]; rfl
theorem OkN.int {n : Nat} (i : Int) : OkN n (.int i) := ⟨rfl, by simp [PV.toD, PyData.depth]⟩
theorem OkN.bl {n : Nat} (i : Bool) : OkN n (.bl i) := ⟨rfl, by simp [PV.toD, PyData.depth]⟩
theorem OkN.non {n : Nat} : OkN n .non := ⟨rfl, by simp [PV.toD, PyData.depth]⟩
theorem OkN.str {n : Nat} {x : Str} (h : strOk x = true) : OkN n (.str x) := ⟨by simpa [PV.toD, PyData.canLay0] using h, by simp [PV.toD, PyData.depth]⟩
theorem OkN.all {n : Nat} : ∀ {ds : List PV}, (∀ d ∈ ds, OkN n d) → PyData.canLayAll0 (toDs ds) = true ∧ PyData.depthAll (toDs ds) ≤ n
  | [], _ => ⟨rfl, by simp [toDs, PyData.depthAll]⟩
  | d :: ds, h => by
    have h1 := h d List.mem_cons_self
    have h2 := OkN.all (n := n) (ds := ds) fun d hd => h d (List.mem_cons_of_mem _ hd)
    refine ⟨by rw [toDs, PyData.canLayAll0, h1.1, h2.1]; rfl, ?_⟩
    rw [toDs, PyData.depthAll]
    have := h1.2
    have := h2.2
    omega
theorem OkN.tup {n : Nat} {ds : List PV} (h : ∀ d ∈ ds, OkN n d) : OkN (n + 1) (.tup ds) := by
  have := OkN.all h
  exact ⟨by simpa [PV.toD, PyData.canLay0] using this.1, by simp [PV.toD, PyData.depth]; omega⟩
theorem OkN.lst {n : Nat} {ds : List PV} (h : ∀ d ∈ ds, OkN n d) : OkN (n + 1) (.lst ds) := by
  have := OkN.all h
  exact ⟨by simpa [PV.toD, PyData.canLay0] using this.1, by simp [PV.toD, PyData.depth]; omega⟩
theorem OkN.strs {n : Nat} {xs : List Str} (h : ∀ x ∈ xs, strOk x = true) : ∀ d ∈ xs.map PV.str, OkN n d := by
  intro d hd
  obtain ⟨x, hx, rfl⟩ := List.mem_map.1 hd
  exact .str (h x hx)
theorem eqv_same {d : PV} (h : okD d = true) : PyData.eqv d.toD d.toD = true := SeqAt.eqv_refl _ (okD.lay h)
theorem fEq_same {d : PV} (h : okD d = true) : fEq d d = some (.fz (.bl true)) := by
  unfold fEq
  rw [h, eqv_same h]; rfl
theorem inD_strs (x : Str) (xs : List Str) : inD (.str x) (xs.map .str) = decide (x ∈ xs) := by
  unfold inD
  rw [List.any_map, Bool.eq_iff_iff, List.any_eq_true, decide_eq_true_eq]
  constructor
  · rintro ⟨y, hy, h⟩
    simp only [Function.comp, PV.toD, PyData.eqv, beq_iff_eq] at h
    rw [← h]; exact hy
  · intro h
    exact ⟨x, h, by simp [PV.toD, PyData.eqv]⟩
theorem okD_str {x : Str} (h : strOk x = true) : okD (.str x) = true := (OkN.str (n := 0) h).okD (by decide)
theorem okD_tstrs {xs : List Str} (h : ∀ x ∈ xs, strOk x = true) : okD (.tup (xs.map .str)) = true := (OkN.tup (OkN.strs (n := 0) h)).okD (by decide)
theorem okD_lstrs {xs : List Str} (h : ∀ x ∈ xs, strOk x = true) : okD (.lst (xs.map .str)) = true := (OkN.lst (OkN.strs (n := 0) h)).okD (by decide)
theorem fIn_tstrs {x : Str} {xs : List Str} (hx : strOk x = true) (h : ∀ x ∈ xs, strOk x = true) : fIn (.str x) (.tup (xs.map .str)) = some (.fz (.bl (decide (x ∈ xs)))) := by
  simp [fIn, okD_str hx, okD_tstrs h, inD_strs]
theorem fIn_lstrs {x : Str} {xs : List Str} (hx : strOk x = true) (h : ∀ x ∈ xs, strOk x = true) : fIn (.str x) (.lst (xs.map .str)) = some (.fz (.bl (decide (x ∈ xs)))) := by
  simp [fIn, okD_str hx, okD_lstrs h, inD_strs]
theorem strOk_app {x y : Str} (hx : strOk x = true) (hy : strOk y = true) : strOk (x ++ y) = true := by
  show (x.cps ++ y.cps).all _ = true
  rw [Array.all_append]
  unfold strOk at hx hy
  rw [hx, hy]; rfl
theorem len_app (x y : Str) : (x ++ y).length = x.length + y.length := by
  show (x.cps ++ y.cps).size = _
  rw [Array.size_append]; rfl
theorem alikeB_strs (xs : List Str) : alikeB (toDs (xs.map .str)) = true := by
  unfold alikeB
  rw [toDs_map, List.map_map]
  simp [Function.comp_def, PV.toD, PySem.W.alike]
theorem notTup_strs (xs : List Str) : (toDs (xs.map .str)).all notTup = true := by
  rw [toDs_map, List.map_map]
  simp [Function.comp_def, PV.toD, notTup]
theorem sortB_strs {xs : List Str} (h : ∀ x ∈ xs, strOk x = true) (hl : xs.length ≤ 16777216) : sortB (xs.map .str) = true := by
  unfold sortB
  rw [okD_lstrs h, alikeB_strs, notTup_strs]
  simp [hl]
def leS (x y : Str) : Bool := decide (x.cps.toList ≤ y.cps.toList)
theorem leD_str (x y : Str) : leD (.str x) (.str y) = leS x y := by
  have e := congrFun (congrFun (PySem.W.dataLe_str (fun z : Str => z)) x) y
  exact e
theorem leS_trans (a b c : Str) (h1 : leS a b = true) (h2 : leS b c = true) : leS a c = true := by
  unfold leS at *
  simp only [decide_eq_true_eq] at *
  exact List.le_trans h1 h2
theorem leS_total (a b : Str) : (leS a b || leS b a) = true := by
  unfold leS
  rw [Bool.or_eq_true, decide_eq_true_eq, decide_eq_true_eq]
  exact List.le_total ..
theorem leS_anti {a b : Str} (h1 : leS a b = true) (h2 : leS b a = true) : a = b := by
  unfold leS at *
  simp only [decide_eq_true_eq] at *
  have := List.le_antisymm h1 h2
  exact PySem.W.str_of_cps this
theorem mergeSort_strs (xs : List Str) : (xs.map PV.str).mergeSort leD = (xs.mergeSort leS).map .str := by
  rw [List.map_mergeSort]
  intro a _ b _
  exact (leD_str a b).symm
theorem fSorted_strs {xs : List Str} (h : ∀ x ∈ xs, strOk x = true) (hl : xs.length ≤ 16777216) : fSorted (.lst (xs.map .str)) = some (.own (.lst ((xs.mergeSort leS).map .str))) := by
  show (if sortB (xs.map PV.str) then some (Sl.own (PV.lst ((xs.map PV.str).mergeSort leD))) else none) = _
  rw [if_pos (sortB_strs h hl), mergeSort_strs]
end VS

set_option linter.all false
set_option maxRecDepth 100000
set_option maxHeartbeats 4000000
set_option pp.maxSteps 900
namespace VS
open PySem L2
/-- a while loop that ends: a measure falls, an invariant stays -/
theorem whileRun_inv {t : Mo Bool} {mb : MS} (Inv Post : Fr → Prop) (mu : Fr → Nat)
    (hs : ∀ e, Inv e → (∃ e', t e = .ok false e' ∧ Post e') ∨ ∃ e1 e2, t e = .ok true e1 ∧ mb e1 = .nx e2 ∧ Inv e2 ∧ mu e2 < mu e) :
    ∀ (n : Nat) (e : Fr), Inv e → mu e < n → ∃ e', whileRun t mb n e = .nx e' ∧ Post e'
  | 0, _, _, h => absurd h (Nat.not_lt_zero _)
  | n + 1, e, I, h => by
    rcases hs e I with ⟨e', h1, h2⟩ | ⟨e1, e2, h1, h2, h3, h4⟩
    · refine ⟨e', ?_, h2⟩
      unfold whileRun
      simp only [h1]
    · obtain ⟨e', h5, h6⟩ := whileRun_inv Inv Post mu hs n e2 h3 (by omega)
      refine ⟨e', ?_, h6⟩
      unfold whileRun
      simp only [h1, h2, h5]
end VS
namespace K18
open PySem L2 VS
open PySem.PyData (strOk)
theorem letters_at {v : Int} (h0 : 0 ≤ v) (h1 : v < 37) : ∃ y : Str, fIx (.str "abcdefghijklmnopqrstuvwxyz0123456789 ") (.int v) = some (.fz (.str y)) ∧ strOk y = true ∧ y.length = 1 := by
  have hl : (("abcdefghijklmnopqrstuvwxyz0123456789 " : String) : Str).cps.toList.length = 37 := by decide +kernel
  have hl2 : (("abcdefghijklmnopqrstuvwxyz0123456789 " : String) : Str).length = 37 := by decide +kernel
  have ha : ∀ c ∈ (("abcdefghijklmnopqrstuvwxyz0123456789 " : String) : Str).cps.toList, c < 0x110000 := by decide +kernel
  obtain ⟨c, hc, hm⟩ := atI_some (xs := (("abcdefghijklmnopqrstuvwxyz0123456789 " : String) : Str).cps.toList) h0 (by rw [hl]; exact h1)
  refine ⟨⟨#[c]⟩, ?_, ?_, rfl⟩
  · rw [fIx_si, if_pos (by rw [hl2]; decide), hc]; rfl
  · have := ha c hm
    unfold strOk
    simpa using this
/-- texts such as the law draws -/
def Names (n L : Nat) (xs : List Str) : Prop := xs.length = n ∧ ∀ x ∈ xs, strOk x = true ∧ x.length ≤ L
theorem drawn_names_ok (cs : Cs) {h : PV} (hh : Hand h) : ∃ (xs : List Str) (h' : PV), Names 5 16 xs ∧ Hand h' ∧ mf_law_drawn_names cs [.own h] = .ret (.own (.lst (xs.map .str))) [.own h'] := by
  have inner : ∀ (n : Nat) (a b : Sl) (h : PV) (L : PV), Hand h → n ≤ 4 → ∃ (x : Str) (h' : PV) (c : Sl), strOk x = true ∧ x.length ≤ 4 ∧ Hand h' ∧
      forRun (gN 1 5) (sSet 1 4 (mOp2 fAdd (oN 4) (oV (mFz (mOp2 fIx (oN 1) (oV (mFz (mCall (mf_law_draw cs) (mConsO' (oN 0) (mConsO' (oV (mFz (mC (.int 37)))) (mNilO)))))))))))
        (rangeL 0 (n : Int)) [.own h, .fz (.str "abcdefghijklmnopqrstuvwxyz0123456789 "), .own L, a, .fz (.str ""), b] = .nx [.own h', .fz (.str "abcdefghijklmnopqrstuvwxyz0123456789 "), .own L, a, .fz (.str x), c] := by
    intro n a b h L hh hn
    obtain ⟨e', h1, x, h', c, h2, h3, h4, rfl⟩ := forRun_inv (ds := rangeL 0 (n : Int)) (g := gN 1 5) (mb := sSet 1 4 (mOp2 fAdd (oN 4) (oV (mFz (mOp2 fIx (oN 1) (oV (mFz (mCall (mf_law_draw cs) (mConsO' (oN 0) (mConsO' (oV (mFz (mC (.int 37)))) (mNilO))))))))))) 
      (fun i e => ∃ (x : Str) (h' : PV) (c : Sl), strOk x = true ∧ x.length ≤ i ∧ Hand h' ∧ e = [.own h', .fz (.str "abcdefghijklmnopqrstuvwxyz0123456789 "), .own L, a, .fz (.str x), c])
      (e := [.own h, .fz (.str "abcdefghijklmnopqrstuvwxyz0123456789 "), .own L, a, .fz (.str ""), b]) ⟨"", h, b, by decide +kernel, by decide +kernel, hh, rfl⟩ (by
        rintro i d e hd ⟨x, h', c, hx, hl, hh', rfl⟩
        obtain ⟨hi, rfl⟩ := rangeL_get hd
        obtain ⟨v, h2, v0, v1, hh2, hv⟩ := draw_ok cs hh' (many := 37) (by decide) (by decide)
        obtain ⟨y, hy, hy1, hy2⟩ := letters_at v0 v1
        refine ⟨_, [.own h2, .fz (.str "abcdefghijklmnopqrstuvwxyz0123456789 "), .own L, a, .fz (.str (x ++ y)), .fz (.int (0 + i))], rfl, .inl ?_, x ++ y, h2, _, strOk_app hx hy1, by rw [len_app, hy2]; omega, hh2, rfl⟩
        have hlen : x.length + y.length ≤ 16777216 := by have : i < n := by simpa using hi
                                                         omega
        simp only [sSet_ap, mOp2_ap, oN_ap, oV_ap, mFz_ap, mCall_ap, mConsO'_ap, mNilO_ap, mC_ap]
        simp [hv, -fIx_si, hy, hlen])
    rw [rangeL_len] at h3
    exact ⟨x, h', c, h2, by omega, h4, h1⟩
  have turn : ∀ (i : Nat) (a b : Sl) (x : Str) (xs : List Str) (h : PV), i < 5 → Names i (4 + i) xs → strOk x = true → x.length ≤ 4 →
      ∃ y : Str, strOk y = true ∧ y.length ≤ 4 + (i + 1) ∧ whileRun (mT (mOp2 fIn (oN 4) (oN 2))) (sSet 1 4 (mOp2 fAdd (oN 4) (oV (mFz (mOp2 fIx (oN 1) (oN 3)))))) 1000
        [a, .fz (.str "abcdefghijklmnopqrstuvwxyz0123456789 "), .own (.lst (xs.map .str)), .fz (.int (0 + i)), .fz (.str x), b] = .nx
        [a, .fz (.str "abcdefghijklmnopqrstuvwxyz0123456789 "), .own (.lst (xs.map .str)), .fz (.int (0 + i)), .fz (.str y), b] := by
    intro i a b x xs h hi hn hx hl
    obtain ⟨e', h1, y, h2, h3, rfl⟩ := whileRun_inv (t := mT (mOp2 fIn (oN 4) (oN 2))) (mb := sSet 1 4 (mOp2 fAdd (oN 4) (oV (mFz (mOp2 fIx (oN 1) (oN 3))))))
      (fun e => ∃ y : Str, strOk y = true ∧ y.length ≤ 4 + (i + 1) ∧ e = [a, .fz (.str "abcdefghijklmnopqrstuvwxyz0123456789 "), .own (.lst (xs.map .str)), .fz (.int (0 + i)), .fz (.str y), b])
      (fun e => ∃ y : Str, strOk y = true ∧ y.length ≤ 4 + (i + 1) ∧ e = [a, .fz (.str "abcdefghijklmnopqrstuvwxyz0123456789 "), .own (.lst (xs.map .str)), .fz (.int (0 + i)), .fz (.str y), b])
      (fun (e : Fr) => match (e[4]? : Option Sl) with | some (Sl.fz (PV.str y)) => 64 - y.length | _ => 0) (by
        rintro e ⟨y, hy, hyl, rfl⟩
        have hin := fIn_lstrs hy fun z hz => (hn.2 z hz).1
        by_cases hm : y ∈ xs
        · right
          obtain ⟨z, hz, hz1, hz2⟩ := letters_at (v := 0 + (i : Int)) (by omega) (by omega)
          have hyl2 := (hn.2 y hm).2
          refine ⟨[a, .fz (.str "abcdefghijklmnopqrstuvwxyz0123456789 "), .own (.lst (xs.map .str)), .fz (.int (0 + i)), .fz (.str y), b], [a, .fz (.str "abcdefghijklmnopqrstuvwxyz0123456789 "), .own (.lst (xs.map .str)), .fz (.int (0 + i)), .fz (.str (y ++ z)), b], ?_, ?_, ⟨y ++ z, strOk_app hy hz1, by rw [len_app, hz2]; omega, rfl⟩, ?_⟩
          · simp [hin, hm]
          · have hlen : y.length + z.length ≤ 16777216 := by omega
            simp only [Int.zero_add] at hz
            simp [-fIx_si, hz, hlen]
          · simp [len_app, hz2]; omega
        · left
          exact ⟨[a, .fz (.str "abcdefghijklmnopqrstuvwxyz0123456789 "), .own (.lst (xs.map .str)), .fz (.int (0 + i)), .fz (.str y), b], by simp [hin, hm], y, hy, hyl, rfl⟩)
      1000 [a, .fz (.str "abcdefghijklmnopqrstuvwxyz0123456789 "), .own (.lst (xs.map .str)), .fz (.int (0 + i)), .fz (.str x), b] ⟨x, hx, by omega, rfl⟩ (by simp; omega)
    exact ⟨y, h2, h3, h1⟩
  obtain ⟨e', he, xs, h', b1, b2, b3, hn, hh', rfl⟩ := forRun_inv (ds := rangeL 0 5) (g := gN 1 3) (mb := sSq (sSet 1 4 (mC (.str ""))) (sSq (sFor (iR1 (mFz (mOp2 fAdd (oV (mFz (mC (.int 1)))) (oV (mFz (mCall (mf_law_draw cs) (mConsO' (oN 0) (mConsO' (oV (mFz (mC (.int 4)))) (mNilO))))))))) (gN 1 5) (sSet 1 4 (mOp2 fAdd (oN 4) (oV (mFz (mOp2 fIx (oN 1) (oV (mFz (mCall (mf_law_draw cs) (mConsO' (oN 0) (mConsO' (oV (mFz (mC (.int 37)))) (mNilO)))))))))))) (sSq (sWhile (fun _ => 1000) (mT (mOp2 fIn (oN 4) (oN 2))) (sSet 1 4 (mOp2 fAdd (oN 4) (oV (mFz (mOp2 fIx (oN 1) (oN 3))))))) (sDrop (mApp 2 (mFz (mN 1 4)))))))
    (fun i e => ∃ (xs : List Str) (h' : PV) (b1 b2 b3 : Sl), Names i (4 + i) xs ∧ Hand h' ∧ e = [.own h', .fz (.str "abcdefghijklmnopqrstuvwxyz0123456789 "), .own (.lst (xs.map .str)), b1, b2, b3])
    (e := [.own h, .fz (.str "abcdefghijklmnopqrstuvwxyz0123456789 "), .own (.lst []), .un, .un, .un]) ⟨[], h, _, _, _, ⟨rfl, nofun⟩, hh, rfl⟩ (by
      rintro i d e hd ⟨xs, h', b1, b2, b3, hn, hh', rfl⟩
      obtain ⟨hi, rfl⟩ := rangeL_get hd
      have hi5 : i < 5 := by simpa using hi
      obtain ⟨v, h2, v0, v1, hh2, hv⟩ := draw_ok cs hh' (many := 4) (by decide) (by decide)
      obtain ⟨x, h3, c, hx, hxl, hh3, hr⟩ := inner (1 + v).toNat (.fz (.int (0 + i))) b3 h2 (.lst (xs.map .str)) hh2 (by omega)
      rw [Int.toNat_of_nonneg (by omega)] at hr
      obtain ⟨y, hy, hyl, hw⟩ := turn i (.own h3) c x xs h3 hi5 hn hx hxl
      have hxs : xs.length < 16777216 := by rw [hn.1]; omega
      refine ⟨_, [.own h3, .fz (.str "abcdefghijklmnopqrstuvwxyz0123456789 "), .own (.lst ((xs ++ [y]).map .str)), .fz (.int (0 + i)), .fz (.str y), c], rfl, .inl ?_, xs ++ [y], h3, _, _, _, ⟨by simp [hn.1], ?_⟩, hh3, rfl⟩
      · have hin := inR_of' (j := 1 + v) (by omega) (by omega)
        simp only [Int.zero_add] at hw hr
        simp [hv, hin, hr, hw, hxs]
      · intro z hz
        rcases List.mem_append.1 hz with hz | hz
        · have := hn.2 z hz
          exact ⟨this.1, by omega⟩
        · cases List.mem_singleton.1 hz
          exact ⟨hy, hyl⟩)
  rw [rangeL_len] at hn
  have h5 : xs.length ≤ 16777216 := by have := hn.1; simp at this; omega
  refine ⟨xs.mergeSort leS, h', ⟨by rw [List.length_mergeSort]; exact hn.1, fun x hx => ?_⟩, hh', ?_⟩
  · have := hn.2 x (List.mem_mergeSort.1 hx)
    refine ⟨this.1, Nat.le_trans this.2 (by decide)⟩
  · have hs := fSorted_strs (fun x hx => (hn.2 x hx).1) h5
    clear inner turn
    have hin : inR 5 = true := by decide
    simp [mf_law_drawn_names, bodyRun, m_law_drawn_names, hin, he, hs]
end K18

set_option linter.all false
set_option maxRecDepth 100000
set_option maxHeartbeats 4000000
set_option pp.maxSteps 900
namespace VS
open PySem L2
open PySem.PyData (strOk)
theorem minS_spec : ∀ (xs : List Str) (x : Str), minS x xs ∈ x :: xs ∧ ∀ y ∈ x :: xs, leS (minS x xs) y = true := by
  intro xs
  have hlt : ∀ a y : Str, ltS y a = !leS a y := fun a y => by
    unfold ltS leS
    by_cases z : y.cps.toList < a.cps.toList
    · rw [decide_eq_true z, decide_eq_false (List.not_le.mpr z)]; rfl
    · rw [decide_eq_false z, decide_eq_true (List.not_lt.mp z)]; rfl
  have hrefl : ∀ a : Str, leS a a = true := fun a => by have := leS_total a a; simpa using this
  induction xs with
  | nil => intro x; exact ⟨by simp [minS], fun y hy => by rw [List.mem_singleton.1 hy]; exact hrefl x⟩
  | cons a r ih =>
    intro x
    have e : minS x (a :: r) = minS (if ltS a x then a else x) r := rfl
    rw [e]
    obtain ⟨h1, h2⟩ := ih (if ltS a x then a else x)
    have hx : leS (if ltS a x then a else x) x = true := by
      cases hc : ltS a x with
      | false => simp [hrefl]
      | true =>
        simp
        rw [hlt, Bool.not_eq_true'] at hc
        have := leS_total x a
        rw [hc] at this
        simpa using this
    have ha : leS (if ltS a x then a else x) a = true := by
      cases hc : ltS a x with
      | true => simp [hrefl]
      | false =>
        simp
        rw [hlt, Bool.not_eq_false'] at hc
        exact hc
    refine ⟨?_, fun y hy => ?_⟩
    · rcases List.mem_cons.1 h1 with h | h
      · rw [h]; split <;> simp
      · exact List.mem_cons_of_mem _ (List.mem_cons_of_mem _ h)
    · rcases List.mem_cons.1 hy with rfl | hy
      · exact leS_trans _ _ _ (h2 _ List.mem_cons_self) hx
      · rcases List.mem_cons.1 hy with rfl | hy
        · exact leS_trans _ _ _ (h2 _ List.mem_cons_self) ha
        · exact h2 _ (List.mem_cons_of_mem _ hy)
theorem allS_strs : ∀ xs : List Str, allS (xs.map .str) = some xs
  | [] => rfl
  | x :: xs => by rw [List.map_cons, allS, allS_strs xs]; rfl
theorem fMin_strs {x : Str} {xs : List Str} (h : ∀ y ∈ x :: xs, strOk y = true) : fMin (.lst ((x :: xs).map .str)) = some (.fz (.str (minS x xs))) := by
  show (if okD (.lst ((x :: xs).map PV.str)) then (allS (xs.map PV.str)).map fun xs => Sl.fz (.str (minS x xs)) else none) = _
  rw [if_pos (okD_lstrs h), allS_strs]; rfl
/-- the least of some texts, or None -/
def leastS : List Str → PV
  | [] => .non
  | x :: xs => .str (minS x xs)
theorem leastS_eq {xs ys : List Str} (h : ∀ z, z ∈ xs ↔ z ∈ ys) : leastS xs = leastS ys := by
  cases xs with
  | nil =>
    cases ys with
    | nil => rfl
    | cons y ys => exact absurd ((h y).2 List.mem_cons_self) (by simp)
  | cons x xs =>
    cases ys with
    | nil => exact absurd ((h x).1 List.mem_cons_self) (by simp)
    | cons y ys =>
      obtain ⟨a1, a2⟩ := minS_spec xs x
      obtain ⟨b1, b2⟩ := minS_spec ys y
      show PV.str _ = PV.str _
      rw [leS_anti (a2 _ ((h _).2 b1)) (b2 _ ((h _).1 a1))]
theorem leastS_sorted (xs : List Str) : leastS xs = match xs.mergeSort leS with | [] => .non | x :: _ => .str x := by
  rw [leastS_eq (ys := xs.mergeSort leS) fun z => List.mem_mergeSort.symm]
  have hs := List.pairwise_mergeSort (le := leS) leS_trans leS_total xs
  cases h : xs.mergeSort leS with
  | nil => rfl
  | cons a r =>
    rw [h] at hs
    obtain ⟨a1, a2⟩ := minS_spec r a
    show PV.str _ = PV.str _
    congr 1
    refine leS_anti (a2 _ List.mem_cons_self) ?_
    rcases List.mem_cons.1 a1 with z | z
    · rw [z]; have := leS_total a a; simpa using this
    · exact (List.pairwise_cons.1 hs).1 _ z
theorem fAnd_lst {xs ys : List Str} (h : xs.length + ys.length ≤ 16777216) : fAdd (.lst (xs.map .str)) (.lst (ys.map .str)) = some (.own (.lst ((xs ++ ys).map .str))) := by
  rw [fAdd_ll, if_pos (by simpa [sizeLine_eq] using h), List.map_append]
theorem compRun_strs {vs : List Nat} {g : MG} {mt : Mo Bool} {me : Mo PV} {e : Fr} (xs : List Str) (p : Str → Bool)
    (h : ∀ x ∈ xs, ∃ e1 e2, g (.str x) e = some e1 ∧ mt e1 = .ok (p x) e2 ∧ wipeE e2 vs = e ∧ (∃ e3, me e2 = .ok (.str x) e3 ∧ wipeE e3 vs = e)) (hl : xs.length ≤ 16777216) :
    compRun vs g mt me (xs.map .str) [] e = .ok (.own (.lst ((xs.filter p).map .str))) e := by
  have z := compRun_pure (vs := vs) (g := g) (mt := mt) (me := me) (e := e) (fun d => match d with | .str x => p x | _ => false) (fun d => d) (xs.map .str) [] (fun d hd => by
    obtain ⟨x, hx, rfl⟩ := List.mem_map.1 hd
    obtain ⟨e1, e2, h1, h2, h3, h4⟩ := h x hx
    exact ⟨e1, e2, h1, h2, fun _ => h3, fun _ => h4⟩) (by simpa using hl)
  rw [z, List.nil_append, List.map_id', List.filter_map]
  rfl
end VS
namespace K18
open PySem L2 VS
open PySem.PyData (strOk)
/-- names read or written -/
def Few (xs : List Str) : Prop := xs.length ≤ 5 ∧ ∀ x ∈ xs, strOk x = true
def mark (a b : List Str) : PV := .tup [.tup (a.map .str), .tup (b.map .str)]
def inB (x : Str) (xs : List Str) : Bool := decide (x ∈ xs)
theorem okD_mark {a b : List Str} (ha : Few a) (hb : Few b) : okD (mark a b) = true := by
  refine (OkN.tup (n := 1) ?_).okD (by decide)
  intro d hd
  simp only [List.mem_cons, List.not_mem_nil, or_false] at hd
  rcases hd with rfl | rfl
  · exact .tup (.strs ha.2)
  · exact .tup (.strs hb.2)
def met1 (a b c d : List Str) : List Str := (b.filter fun x => inB x c || inB x d) ++ d.filter fun x => inB x a
def met2 (a b c d : List Str) : List Str := (b.filter fun x => inB x c || inB x d) ++ d.filter fun x => inB x a || inB x b
theorem met_mem (a b c d : List Str) (z : Str) : z ∈ met1 a b c d ↔ z ∈ met2 a b c d := by
  simp only [met1, met2, inB, List.mem_append, List.mem_filter, Bool.or_eq_true, decide_eq_true_eq]
  constructor
  · rintro (h | h)
    · exact .inl h
    · exact .inr ⟨h.1, .inl h.2⟩
  · rintro (h | ⟨h1, h2 | h2⟩)
    · exact .inl h
    · exact .inr ⟨h1, h2⟩
    · exact .inl ⟨h2, .inr h1⟩
def metOf (a b c d : List Str) : PV := leastS (met2 a b c d)
theorem meeting_of_ok (cs : Cs) {a b c d : List Str} (ha : Few a) (hb : Few b) (hc : Few c) (hd : Few d) :
    mf_meeting_of cs [.fz (mark a b), .fz (mark c d)] = .ret (.fz (metOf a b c d)) [.fz (mark a b), .fz (mark c d)] := by
  have c1 := compRun_strs (vs := [3]) (g := gN 2 3) (mt := mOr (mT (mOp2 fIn (oN 3) (oV (mFz (mOp2 fIx (oN 1) (oV (mFz (mC (.int 0))))))))) (mT (mOp2 fIn (oN 3) (oV (mFz (mOp2 fIx (oN 1) (oV (mFz (mC (.int 1)))))))))) (me := mFz (mN 2 3))
    (e := [.fz (mark a b), .fz (mark c d), .un, .un]) b (fun x => inB x c || inB x d) (fun x hx => by
      have h1 := fIn_tstrs (hb.2 x hx) hc.2
      have h2 := fIn_tstrs (hb.2 x hx) hd.2
      refine ⟨[.fz (mark a b), .fz (mark c d), .un, .fz (.str x)], [.fz (mark a b), .fz (mark c d), .un, .fz (.str x)], rfl, ?_, rfl, [.fz (mark a b), .fz (mark c d), .un, .fz (.str x)], rfl, rfl⟩
      by_cases hm : x ∈ c <;> simp [mark, h1, h2, inB, hm]) (by have := hb.1; omega)
  have c2 := compRun_strs (vs := [3]) (g := gN 2 3) (mt := mT (mOp2 fIn (oN 3) (oV (mFz (mOp2 fIx (oN 0) (oV (mFz (mC (.int 0))))))))) (me := mFz (mN 2 3))
    (e := [.fz (mark a b), .fz (mark c d), .own (.lst ((b.filter fun x => inB x c || inB x d).map .str)), .un]) d (fun x => inB x a) (fun x hx => by
      have h1 := fIn_tstrs (hd.2 x hx) ha.2
      refine ⟨[.fz (mark a b), .fz (mark c d), .own (.lst ((b.filter fun x => inB x c || inB x d).map .str)), .fz (.str x)], [.fz (mark a b), .fz (mark c d), .own (.lst ((b.filter fun x => inB x c || inB x d).map .str)), .fz (.str x)], rfl, ?_, rfl, [.fz (mark a b), .fz (mark c d), .own (.lst ((b.filter fun x => inB x c || inB x d).map .str)), .fz (.str x)], rfl, rfl⟩
      simp [mark, h1, inB]) (by have := hd.1; omega)
  have hadd : fAdd (.lst ((b.filter fun x => inB x c || inB x d).map .str)) (.lst ((d.filter fun x => inB x a).map .str)) = some (.own (.lst ((met1 a b c d).map .str))) := fAnd_lst (by
    have := List.length_filter_le (fun x => inB x c || inB x d) b
    have := List.length_filter_le (fun x => inB x a) d
    have := hb.1; have := hd.1; omega)
  have hok : ∀ x ∈ met1 a b c d, strOk x = true := fun x hx => by
    rcases List.mem_append.1 hx with h | h
    · exact hb.2 x (List.mem_filter.1 h).1
    · exact hd.2 x (List.mem_filter.1 h).1
  have hle : leastS (met1 a b c d) = metOf a b c d := leastS_eq (met_mem a b c d)
  rw [← hle]
  have hne : fNe (.lst ((met1 a b c d).map .str)) (.lst []) = some (.fz (.bl (!(met1 a b c d).isEmpty))) := by
    have o2 : okD (.lst []) = true := rfl
    unfold fNe
    rw [okD_lstrs hok, o2]
    cases met1 a b c d <;> simp [PV.toD, toDs, PyData.eqv, PyData.eqvAll]
  simp only [mark] at c1 c2
  simp [mf_meeting_of, bodyRun, m_meeting_of, mark, wipeE, c1, c2, -fAdd_ll, hadd, hne]
  cases hm : met1 a b c d with
  | nil => simp [leastS]
  | cons y ys =>
    have := fMin_strs (x := y) (xs := ys) (by rw [← hm]; exact hok)
    rw [List.map_cons] at this
    simp [leastS, this]
end K18

set_option linter.all false
set_option maxRecDepth 100000
set_option maxHeartbeats 4000000
set_option pp.maxSteps 900
namespace K18
open PySem L2 VS
open PySem.PyData (strOk)
theorem meets_ok (cs : Cs) {a b c d : List Str} (ha : Few a) (hb : Few b) (hc : Few c) (hd : Few d) :
    mf_law_meets cs [.fz (.tup (a.map .str)), .fz (.tup (b.map .str)), .fz (.tup (c.map .str)), .fz (.tup (d.map .str))] = .ret (.own (.lst ((met2 a b c d).map .str))) [.fz (.tup (a.map .str)), .fz (.tup (b.map .str)), .fz (.tup (c.map .str)), .fz (.tup (d.map .str))] := by
  have c1 := compRun_strs (vs := [5]) (g := gN 4 5) (mt := mOr (mT (mOp2 fIn (oN 5) (oN 2))) (mT (mOp2 fIn (oN 5) (oN 3)))) (me := mFz (mN 4 5))
    (e := [.fz (.tup (a.map .str)), .fz (.tup (b.map .str)), .fz (.tup (c.map .str)), .fz (.tup (d.map .str)), .un, .un]) b (fun x => inB x c || inB x d) (fun x hx => by
      have h1 := fIn_tstrs (hb.2 x hx) hc.2
      have h2 := fIn_tstrs (hb.2 x hx) hd.2
      refine ⟨_, [.fz (.tup (a.map .str)), .fz (.tup (b.map .str)), .fz (.tup (c.map .str)), .fz (.tup (d.map .str)), .un, .fz (.str x)], rfl, ?_, rfl, [.fz (.tup (a.map .str)), .fz (.tup (b.map .str)), .fz (.tup (c.map .str)), .fz (.tup (d.map .str)), .un, .fz (.str x)], rfl, rfl⟩
      by_cases hm : x ∈ c <;> simp [h1, h2, inB, hm]) (by have := hb.1; omega)
  have c2 := compRun_strs (vs := [5]) (g := gN 4 5) (mt := mOr (mT (mOp2 fIn (oN 5) (oN 0))) (mT (mOp2 fIn (oN 5) (oN 1)))) (me := mFz (mN 4 5))
    (e := [.fz (.tup (a.map .str)), .fz (.tup (b.map .str)), .fz (.tup (c.map .str)), .fz (.tup (d.map .str)), .own (.lst ((b.filter fun x => inB x c || inB x d).map .str)), .un]) d (fun x => inB x a || inB x b) (fun x hx => by
      have h1 := fIn_tstrs (hd.2 x hx) ha.2
      have h2 := fIn_tstrs (hd.2 x hx) hb.2
      refine ⟨_, [.fz (.tup (a.map .str)), .fz (.tup (b.map .str)), .fz (.tup (c.map .str)), .fz (.tup (d.map .str)), .own (.lst ((b.filter fun x => inB x c || inB x d).map .str)), .fz (.str x)], rfl, ?_, rfl, [.fz (.tup (a.map .str)), .fz (.tup (b.map .str)), .fz (.tup (c.map .str)), .fz (.tup (d.map .str)), .own (.lst ((b.filter fun x => inB x c || inB x d).map .str)), .fz (.str x)], rfl, rfl⟩
      by_cases hm : x ∈ a <;> simp [h1, h2, inB, hm]) (by have := hd.1; omega)
  have hadd : fAdd (.lst ((b.filter fun x => inB x c || inB x d).map .str)) (.lst ((d.filter fun x => inB x a || inB x b).map .str)) = some (.own (.lst ((met2 a b c d).map .str))) := fAnd_lst (by
    have := List.length_filter_le (fun x => inB x c || inB x d) b
    have := List.length_filter_le (fun x => inB x a || inB x b) d
    have := hb.1; have := hd.1; omega)
  simp [mf_law_meets, bodyRun, m_law_meets, wipeE, c1, c2, -fAdd_ll, hadd]
theorem met2_ok {a b c d : List Str} (hb : Few b) (hd : Few d) : (met2 a b c d).length ≤ 10 ∧ ∀ x ∈ met2 a b c d, strOk x = true := by
  constructor
  · have := List.length_filter_le (fun x => inB x c || inB x d) b
    have := List.length_filter_le (fun x => inB x a || inB x b) d
    have := hb.1; have := hd.1
    unfold met2
    rw [List.length_append]; omega
  · intro x hx
    rcases List.mem_append.1 hx with h | h
    · exact hb.2 x (List.mem_filter.1 h).1
    · exact hd.2 x (List.mem_filter.1 h).1
theorem least_met_ok (cs : Cs) {a b c d : List Str} (ha : Few a) (hb : Few b) (hc : Few c) (hd : Few d) :
    mf_law_least_met cs [.fz (mark a b), .fz (mark c d)] = .ret (.fz (metOf a b c d)) [.fz (mark a b), .fz (mark c d)] := by
  obtain ⟨hl, hok⟩ := met2_ok (a := a) (c := c) hb hd
  have h1 := meets_ok cs ha hb hc hd
  have h2 := fSorted_strs hok (by omega)
  have hok2 : ∀ x ∈ (met2 a b c d).mergeSort leS, strOk x = true := fun x hx => hok x (List.mem_mergeSort.1 hx)
  have hne : fNe (.lst (((met2 a b c d).mergeSort leS).map .str)) (.lst []) = some (.fz (.bl (!((met2 a b c d).mergeSort leS).isEmpty))) := by
    have o2 : okD (.lst []) = true := rfl
    unfold fNe
    rw [okD_lstrs hok2, o2]
    cases (met2 a b c d).mergeSort leS <;> simp [PV.toD, toDs, PyData.eqv, PyData.eqvAll]
  simp only [mark, metOf, leastS_sorted]
  simp [mf_law_least_met, bodyRun, m_law_least_met, h1, h2, hne]
  cases (met2 a b c d).mergeSort leS with
  | nil => simp
  | cons y ys => simp
theorem some_ok (cs : Cs) {h : PV} (hh : Hand h) {xs : List Str} (hx : Names 5 16 xs) : ∃ (a : List Str) (h' : PV), Few a ∧ Hand h' ∧
    mf_law_some cs [.own h, .fz (.lst (xs.map .str))] = .ret (.fz (.tup (a.map .str))) [.own h', .fz (.lst (xs.map .str))] := by
  have last : ∀ (h : PV) (w : Int), ∃ a : List Str, Few a ∧ compRun [3] (gN 2 3) (mT (mOp2 fEq (oV (mFz (mOp2 fAnd (oV (mFz (mOp2 fShr (oN 2) (oN 3)))) (oV (mFz (mC (.int 1))))))) (oV (mFz (mC (.int 1)))))) (mFz (mOp2 fIx (oN 1) (oN 3)))
      (rangeL 0 5) [] [.own h, .fz (.lst (xs.map .str)), .fz (.int w), .un] = .ok (.own (.lst (a.map .str))) [.own h, .fz (.lst (xs.map .str)), .fz (.int w), .un] := by
    intro h w
    have z := compRun_pure (vs := [3]) (g := gN 2 3) (mt := mT (mOp2 fEq (oV (mFz (mOp2 fAnd (oV (mFz (mOp2 fShr (oN 2) (oN 3)))) (oV (mFz (mC (.int 1))))))) (oV (mFz (mC (.int 1)))))) (me := mFz (mOp2 fIx (oN 1) (oN 3)))
      (e := [.own h, .fz (.lst (xs.map .str)), .fz (.int w), .un]) (fun d => match d with | .int k => decide (Builtin.bitAnd (w / 2 ^ k.toNat) 1 = 1) | _ => false) (fun d => match d with | .int k => .str (xs.getD k.toNat "") | d => d) (rangeL 0 5) [] (fun d hd => by
        obtain ⟨i, hi⟩ := List.mem_iff_getElem?.1 hd
        obtain ⟨hi5, rfl⟩ := rangeL_get hi
        have hi5 : i < 5 := by simpa using hi5
        have hlt : i < xs.length := by rw [hx.1]; exact hi5
        refine ⟨[.own h, .fz (.lst (xs.map .str)), .fz (.int w), .fz (.int (0 + i))], [.own h, .fz (.lst (xs.map .str)), .fz (.int w), .fz (.int (0 + i))], rfl, ?_, fun _ => rfl, fun _ => ⟨[.own h, .fz (.lst (xs.map .str)), .fz (.int w), .fz (.int (0 + i))], ?_, rfl⟩⟩
        · simp
        · have : atI (xs.map PV.str) (i : Int) = some (.str xs[i]) := atI_nat (by simp [hlt])
          simp [this, hlt]) (by rw [rangeL_len]; decide)
    refine ⟨((((rangeL 0 5).filter fun d => match d with | .int k => decide (Builtin.bitAnd (w / 2 ^ k.toNat) 1 = 1) | _ => false)).map fun d => match d with | .int k => xs.getD k.toNat "" | _ => ""), ⟨?_, ?_⟩, ?_⟩
    · rw [List.length_map]
      exact Nat.le_trans (List.length_filter_le _ _) (by rw [rangeL_len]; decide)
    · intro x hxm
      obtain ⟨d, hd, rfl⟩ := List.mem_map.1 hxm
      obtain ⟨i, hi⟩ := List.mem_iff_getElem?.1 (List.mem_filter.1 hd).1
      obtain ⟨hi5, rfl⟩ := rangeL_get hi
      have hi5 : i < 5 := by simpa using hi5
      have hlt : i < xs.length := by rw [hx.1]; exact hi5
      simp [hlt]
      exact (hx.2 _ (List.getElem_mem hlt)).1
    · rw [z, List.nil_append, List.map_map]
      congr 3
      refine List.map_congr_left fun d hd => ?_
      obtain ⟨i, hi⟩ := List.mem_iff_getElem?.1 (List.mem_filter.1 hd).1
      obtain ⟨_, rfl⟩ := rangeL_get hi
      rfl
  obtain ⟨v, h1, v0, v1, hh1, hv⟩ := draw_ok cs hh (many := 32) (by decide) (by decide)
  obtain ⟨v', h2, v0', v1', hh2, hv'⟩ := draw_ok cs hh1 (many := 3) (by decide) (by decide)
  have hin : inR 5 = true := by decide
  by_cases hc : 0 < v'
  · obtain ⟨v'', h3, v0'', v1'', hh3, hv''⟩ := draw_ok cs hh2 (many := 32) (by decide) (by decide)
    obtain ⟨a, ha, hr⟩ := last h3 (Builtin.bitAnd v v'')
    refine ⟨a, h3, ha, hh3, ?_⟩
    simp [mf_law_some, bodyRun, m_law_some, hv, hv', hv'', hc, hin, hr, wipeE]
  · obtain ⟨a, ha, hr⟩ := last h2 v
    refine ⟨a, h2, ha, hh2, ?_⟩
    simp [mf_law_some, bodyRun, m_law_some, hv, hv', hc, hin, hr, wipeE]
end K18

set_option linter.all false
set_option maxRecDepth 100000
set_option maxHeartbeats 4000000
set_option pp.maxSteps 900
namespace VS
open PySem L2
section
variable {e : Fr}
@[simp] theorem ownO_own (C : Addr) (fs : List (Str × PV)) : ownO (some (.own (.obj C fs))) = some (C, fs) := rfl
@[simp] theorem sFldP_ap (C : Addr) (i : Nat) (f : Str) (m : Mo PV) : sFldP C i f m e = match m e with
  | .ok d e1 => (match ownO e1[i]? with
    | some (D, fs) => if D = C ∧ fs.length < 1000 then .nx (e1.set i (.own (.obj C (putP f d fs)))) else .stuck
    | none => .stuck)
  | .exc D ds e' => .exc D ds e'
  | .stuck => .stuck := by
  unfold sFldP mS
  cases m e with
  | ok d e1 => rfl
  | exc C ds e' => rfl
  | stuck => rfl
@[simp] theorem mMake_ap (C : Addr) (mf : MF) (mos : Mo (List Opd)) : mMake C mf mos e = match mos e with
  | .ok os e1 => (match getA os e1 with
    | none => .stuck
    | some as => if (ownIx os e1).Nodup then match mf (.own (.obj C []) :: as) with
        | .ret (.fz .non) (.own (.obj D fs) :: as') => (match putA os as' e1 e1 with
          | some e2 => .ok (.own (.obj D fs)) e2
          | none => .stuck)
        | .exc D ds (_ :: as') => (match putA os as' e1 e1 with
          | some e2 => .exc D ds e2
          | none => .stuck)
        | _ => .stuck
      else .stuck)
  | .exc D ds e' => .exc D ds e'
  | .stuck => .stuck := by
  unfold mMake mB
  cases mos e with
  | ok os e1 => rfl
  | exc C ds e' => rfl
  | stuck => rfl
@[simp] theorem mAppO_ap (m r : Mo (List Opd)) : mAppO m r e = match m e with
  | .ok os e1 => (match r e1 with
    | .ok ps e2 => if os.all (fun o => neB o e2) then .ok (os ++ ps) e2 else .stuck
    | .exc D ds e' => .exc D ds e'
    | .stuck => .stuck)
  | .exc D ds e' => .exc D ds e'
  | .stuck => .stuck := by
  unfold mAppO mB
  cases m e with
  | ok os e1 =>
    dsimp only
    cases r e1 with
    | ok ps e2 => rfl
    | exc C ds e' => rfl
    | stuck => rfl
  | exc C ds e' => rfl
  | stuck => rfl
end
theorem flatMap_len {α β : Type} {f : α → List β} {c : Nat} (h : ∀ a, (f a).length ≤ c) : ∀ xs : List α, (xs.flatMap f).length ≤ xs.length * c
  | [] => by simp
  | x :: xs => by
    rw [List.flatMap_cons, List.length_append, List.length_cons, Nat.succ_mul]
    have := flatMap_len h xs
    have := h x
    omega
theorem range_shift {β : Type} (m n : Nat) (G : Nat → List β) : ((List.range n).flatMap fun j => if m ≤ j then G j else []) = (List.range (n - m)).flatMap fun k => G (m + k) := by
  by_cases h : m ≤ n
  · obtain ⟨d, rfl⟩ := Nat.exists_eq_add_of_le h
    rw [Nat.add_sub_cancel_left, List.range_add, List.flatMap_append]
    have h1 : ((List.range m).flatMap fun j => if m ≤ j then G j else []) = [] := by
      rw [List.flatMap_eq_nil_iff]
      intro j hj
      rw [if_neg (by have := List.mem_range.1 hj; omega)]
    rw [h1, List.nil_append, List.flatMap_map]
    congr 1
    funext k
    rw [if_pos (by omega)]
  · rw [Nat.sub_eq_zero_of_le (by omega)]
    show _ = []
    rw [List.flatMap_eq_nil_iff]
    intro j hj
    rw [if_neg (by have := List.mem_range.1 hj; omega)]
theorem range_succ_flatMap {β : Type} (n : Nat) (G : Nat → List β) : (List.range (n + 1)).flatMap G = (List.range n).flatMap G ++ G n := by
  rw [List.range_succ, List.flatMap_append]; simp
end VS
namespace K18
open PySem L2 VS
open PySem.PyData (strOk)
def DX : Nat → PV → Prop
  | 0, _ => False
  | k + 1, .tup ds => ds.length ≤ 1000000 ∧ ∀ d ∈ ds, DX k d
  | _ + 1, .int _ => True
  | _ + 1, .bl _ => True
  | _ + 1, .non => True
  | _ + 1, .str x => strOk x = true
  | _ + 1, _ => False
theorem exact_ok (cs : Cs) : ∀ (k : Nat) (d : PV), DX k d → mf_law_exact cs k [.fz d, .fz d] = .ret (.fz (.bl true)) [.fz d, .fz d]
  | 0, _, h => h.elim
  | k + 1, d, h => by
    have ne : fEq (.lst []) (.lst []) = some (.fz (.bl true)) := fEq_same rfl
    cases d with
    | tup ds =>
      obtain ⟨hl, h⟩ := h
      have hin : inR (ds.length : Int) = true := inR_of' (by omega) (by omega)
      have z := compRun_pure (vs := [2]) (g := gN 2 2) (mt := mNot (mT (mCall (mf_law_exact cs k) (mConsO' (oV (mFz (mOp2 fIx (oN 0) (oN 2)))) (mConsO' (oV (mFz (mOp2 fIx (oN 1) (oN 2)))) (mNilO)))))) (me := mFz (mN 2 2))
        (e := [.fz (.tup ds), .fz (.tup ds), .un]) (fun _ => false) (fun d => d) (rangeL 0 (ds.length : Int)) [] (fun d hd => by
          obtain ⟨i, hi⟩ := List.mem_iff_getElem?.1 hd
          obtain ⟨hi5, rfl⟩ := rangeL_get hi
          have hlt : i < ds.length := by simpa using hi5
          have ha : atI ds (i : Int) = some ds[i] := atI_nat (by simp [hlt])
          have hr := exact_ok cs k ds[i] (h _ (List.getElem_mem hlt))
          refine ⟨_, [.fz (.tup ds), .fz (.tup ds), .fz (.int (0 + i))], rfl, ?_, fun _ => rfl, nofun⟩
          simp [ha, hr]) (by rw [rangeL_len]; simp; omega)
      have hf : (rangeL 0 (ds.length : Int)).filter (fun _ => false) = [] := by simp
      rw [hf] at z
      simp [mf_law_exact, bodyRun, m_law_exact, fIsi, PV.bt, BT.sub, hin, wipeE, z, ne]
    | int i => simp [mf_law_exact, bodyRun, m_law_exact, fIsi, PV.bt, BT.sub, PV.isN]
    | bl b => cases b <;> simp [mf_law_exact, bodyRun, m_law_exact, fIsi, PV.bt, BT.sub, PV.isN]
    | non => simp [mf_law_exact, bodyRun, m_law_exact, fIsi, PV.bt, BT.sub, PV.isN]
    | str x => simp [mf_law_exact, bodyRun, m_law_exact, fIsi, PV.bt, BT.sub, PV.isN, fEq_same (okD_str h)]
    | _ => exact h.elim
end K18

set_option linter.all false
set_option maxRecDepth 100000
set_option maxHeartbeats 4000000
set_option pp.maxSteps 1200
namespace K18
open PySem L2 VS
open PySem.PyData (strOk)
def runV (C : Addr) (E M : List PV) : PV := .obj C [("entries", .tup E), ("marks", .tup M), ("cells", .any)]
theorem ne1 : (("entries" : String) : Str) ≠ (("marks" : String) : Str) := by decide +kernel
theorem ne2 : (("entries" : String) : Str) ≠ (("cells" : String) : Str) := by decide +kernel
theorem ne3 : (("marks" : String) : Str) ≠ (("cells" : String) : Str) := by decide +kernel
theorem init_ok (cs : Cs) (E M : List PV) : mf_Run___init__ cs [.own (.obj cs.Run []), .fz (.tup E), .fz (.tup M), .fz .any] = .ret (.fz .non) [.own (runV cs.Run E M), .fz (.tup E), .fz (.tup M), .fz .any] := by
  simp [mf_Run___init__, bodyRun, m_Run___init__, putP, ne1, ne2, ne3, runV]
theorem fld_entries (C : Addr) (E M : List PV) : fFld C "entries" (runV C E M) = some (.fz (.tup E)) := by
  simp [fFld, runV, List.lookup]
theorem fld_marks (C : Addr) (E M : List PV) : fFld C "marks" (runV C E M) = some (.fz (.tup M)) := by
  have h : (((("marks" : String) : Str)) == (("entries" : String) : Str)) = false := by decide +kernel
  simp [fFld, runV, List.lookup, h]
def ent (t : Int × Int × Int) : PV := .tup [.int t.1, .int t.2.1, .int t.2.2]
def mk (t : List Str × List Str) : PV := mark t.1 t.2
section
variable (es : List (Int × Int × Int)) (ms : List (List Str × List Str))
def ee (i : Nat) : Int × Int × Int := es.getD i (0, 0, 0)
def who (i : Nat) : Int := (ee es i).1
def mm (i : Nat) : List Str × List Str := ms.getD i ([], [])
def cellAt (i j : Nat) : PV := metOf (mm ms i).1 (mm ms i).2 (mm ms j).1 (mm ms j).2
def row (i j : Nat) : List PV := if (cellAt ms i j).isN = false ∧ who es i ≠ who es j then [.tup [.int i, .int j, cellAt ms i j]] else []
def resB (n b : Nat) : List PV := (List.range (n - b)).flatMap fun k => (List.range (n - (b + k + 1))).flatMap fun l => row es ms (b + k) (b + k + 1 + l)
theorem row_len (i j : Nat) : (row es ms i j).length ≤ 1 := by unfold row; split <;> simp
end
theorem metOf_any (a b c d : List Str) : metOf a b c d ≠ .any := by
  unfold metOf
  cases met2 a b c d <;> simp [leastS]
variable {es : List (Int × Int × Int)} {ms : List (List Str × List Str)}
theorem getE {i : Nat} (h : i < es.length) : atI (es.map ent) (i : Int) = some (ent (ee es i)) := atI_nat (by simp [h, ee])
theorem getM {i : Nat} (h : i < ms.length) : atI (ms.map mk) (i : Int) = some (mk (mm ms i)) := atI_nat (by simp [h, mm])
def AllFew (ms : List (List Str × List Str)) : Prop := ∀ t ∈ ms, Few t.1 ∧ Few t.2
theorem few_at (h : AllFew ms) (i : Nat) : Few (mm ms i).1 ∧ Few (mm ms i).2 := by
  unfold mm
  by_cases hi : i < ms.length
  · have e : ms.getD i ([], []) = ms[i] := by simp [hi]
    rw [e]
    exact h _ (List.getElem_mem hi)
  · have e : ms.getD i ([], []) = ([], []) := by simp [List.getElem?_eq_none (by omega : ms.length ≤ i)]
    rw [e]
    exact ⟨⟨by simp, nofun⟩, ⟨by simp, nofun⟩⟩
theorem meet_at (cs : Cs) (h : AllFew ms) (i j : Nat) : mf_meeting_of cs [.fz (mk (mm ms i)), .fz (mk (mm ms j))] = .ret (.fz (cellAt ms i j)) [.fz (mk (mm ms i)), .fz (mk (mm ms j))] :=
  meeting_of_ok cs (few_at h i).1 (few_at h i).2 (few_at h j).1 (few_at h j).2
theorem least_at (cs : Cs) (h : AllFew ms) (i j : Nat) : mf_law_least_met cs [.fz (mk (mm ms i)), .fz (mk (mm ms j))] = .ret (.fz (cellAt ms i j)) [.fz (mk (mm ms i)), .fz (mk (mm ms j))] :=
  least_met_ok cs (few_at h i).1 (few_at h i).2 (few_at h j).1 (few_at h j).2
theorem ent_get (t : Int × Int × Int) : fIx (ent t) (.int 0) = some (.fz (.int t.1)) := by simp [ent]
theorem meetings_in_ok (cs : Cs) (h : AllFew ms) (hl : ms.length = es.length) (hn : es.length ≤ 12) (b : Nat) (hb : b ≤ 100) :
    mf_meetings_in cs [.fz (runV cs.Run (es.map ent) (ms.map mk)), .fz (.int b)] = .ret (.fz (.tup (resB es ms es.length b))) [.fz (runV cs.Run (es.map ent) (ms.map mk)), .fz (.int b)] := by
  generalize hR : runV cs.Run (es.map ent) (ms.map mk) = R
  have f1 : fFld cs.Run "entries" R = some (.fz (.tup (es.map ent))) := by rw [← hR]; exact fld_entries ..
  have f2 : fFld cs.Run "marks" R = some (.fz (.tup (ms.map mk))) := by rw [← hR]; exact fld_marks ..
  have inner : ∀ (i : Nat) (acc : List PV) (x y : Sl), i < es.length → acc.length ≤ 1000 → ∃ x' y' : Sl, forRun (gN 2 4) (sSq (sSet 2 5 (mCall (mf_meeting_of cs) (mConsO' (oV (mFz (mOp2 fIx (oV (mFz (mOp1 (fFld cs.Run "marks") (oN 0)))) (oN 3)))) (mConsO' (oV (mFz (mOp2 fIx (oV (mFz (mOp1 (fFld cs.Run "marks") (oN 0)))) (oN 4)))) (mNilO))))) (sIf (mAnd (mT (mOp2 fIsNot (oN 5) (oV (mFz (mC .non))))) (mT (mOp2 fNe (oV (mFz (mOp2 fIx (oV (mFz (mOp2 fIx (oV (mFz (mOp1 (fFld cs.Run "entries") (oN 0)))) (oN 3)))) (oV (mFz (mC (.int 0))))))) (oV (mFz (mOp2 fIx (oV (mFz (mOp2 fIx (oV (mFz (mOp1 (fFld cs.Run "entries") (oN 0)))) (oN 4)))) (oV (mFz (mC (.int 0)))))))))) (sDrop (mApp 2 (mFz (mTup (mCons (mFz (mN 2 3)) (mCons (mFz (mN 2 4)) (mCons (mFz (mN 2 5)) (mNil)))))))) (sNx)))
      (rangeL ((i : Int) + 1) (es.length : Int)) [.fz R, .fz (.int b), .own (.lst acc), .fz (.int i), x, y] = .nx [.fz R, .fz (.int b), .own (.lst (acc ++ (List.range (es.length - (i + 1))).flatMap fun l => row es ms i (i + 1 + l))), .fz (.int i), x', y'] := by
    intro i acc x y hi hacc
    obtain ⟨e', h1, x', y', rfl⟩ := forRun_inv (ds := rangeL ((i : Int) + 1) (es.length : Int)) (fun k e => ∃ x' y' : Sl, e = [.fz R, .fz (.int b), .own (.lst (acc ++ (List.range k).flatMap fun l => row es ms i (i + 1 + l))), .fz (.int i), x', y'])
      (g := gN 2 4) (mb := (sSq (sSet 2 5 (mCall (mf_meeting_of cs) (mConsO' (oV (mFz (mOp2 fIx (oV (mFz (mOp1 (fFld cs.Run "marks") (oN 0)))) (oN 3)))) (mConsO' (oV (mFz (mOp2 fIx (oV (mFz (mOp1 (fFld cs.Run "marks") (oN 0)))) (oN 4)))) (mNilO))))) (sIf (mAnd (mT (mOp2 fIsNot (oN 5) (oV (mFz (mC .non))))) (mT (mOp2 fNe (oV (mFz (mOp2 fIx (oV (mFz (mOp2 fIx (oV (mFz (mOp1 (fFld cs.Run "entries") (oN 0)))) (oN 3)))) (oV (mFz (mC (.int 0))))))) (oV (mFz (mOp2 fIx (oV (mFz (mOp2 fIx (oV (mFz (mOp1 (fFld cs.Run "entries") (oN 0)))) (oN 4)))) (oV (mFz (mC (.int 0)))))))))) (sDrop (mApp 2 (mFz (mTup (mCons (mFz (mN 2 3)) (mCons (mFz (mN 2 4)) (mCons (mFz (mN 2 5)) (mNil)))))))) (sNx))))
      (e := [.fz R, .fz (.int b), .own (.lst acc), .fz (.int i), x, y]) ⟨x, y, by simp⟩ (by
        rintro k d e hd ⟨x', y', rfl⟩
        obtain ⟨hk, rfl⟩ := rangeL_get hd
        have hj : i + 1 + k < es.length := by omega
        have e1 : (i : Int) + 1 + (k : Int) = ((i + 1 + k : Nat) : Int) := by omega
        rw [e1]
        have g1 := getE (es := es) hi
        have g2 := getE (es := es) hj
        have m1 := getM (ms := ms) (i := i) (by omega)
        have m2 := getM (ms := ms) (i := i + 1 + k) (by omega)
        have mt := meet_at cs h i (i + 1 + k)
        have hlen : acc.length + ((List.range k).flatMap fun l => row es ms i (i + 1 + l)).length < 16777216 := by
          have := flatMap_len (f := fun l => row es ms i (i + 1 + l)) (c := 1) (fun l => row_len ..) (List.range k)
          simp at this ⊢; omega
        refine ⟨_, [.fz R, .fz (.int b), .own (.lst (acc ++ (List.range (k + 1)).flatMap fun l => row es ms i (i + 1 + l))), .fz (.int i), .fz (.int ((i + 1 + k : Nat) : Int)), .fz (cellAt ms i (i + 1 + k))], rfl, .inl ?_, _, _, rfl⟩
        have hany : cellAt ms i (i + 1 + k) ≠ .any := metOf_any _ _ _ _
        rw [range_succ_flatMap]
        generalize hr : (List.range k).flatMap (fun l => row es ms i (i + 1 + l)) = r at hlen
        generalize hj' : i + 1 + k = j at *
        cases hcn : (cellAt ms i j).isN with
        | true =>
          simp [f1, f2, g1, g2, m1, m2, mt, fIsNot_n _ hany, hcn, row]
        | false =>
          by_cases hw : who es i = who es j
          · have hw' : (ee es i).1 = (ee es j).1 := hw
            simp [f1, f2, g1, g2, m1, m2, mt, fIsNot_n _ hany, hcn, row, ent_get, hw, hw', hlen]
          · have hw' : ¬ (ee es i).1 = (ee es j).1 := hw
            simp [f1, f2, g1, g2, m1, m2, mt, fIsNot_n _ hany, hcn, row, ent_get, hw, hw', hlen])
    rw [rangeL_len] at h1
    refine ⟨x', y', ?_⟩
    have hk : ((es.length : Int) - ((i : Int) + 1)).toNat = es.length - (i + 1) := by omega
    rw [h1, hk]
  obtain ⟨e', h1, x3, x4, x5, rfl⟩ := forRun_inv (ds := rangeL (b : Int) (es.length : Int)) (fun k e => ∃ x3 x4 x5 : Sl, e = [.fz R, .fz (.int b), .own (.lst ((List.range k).flatMap fun k => (List.range (es.length - (b + k + 1))).flatMap fun l => row es ms (b + k) (b + k + 1 + l))), x3, x4, x5])
    (g := gN 2 3) (mb := (sFor (iR2 (mFz (mOp2 fAdd (oN 3) (oV (mFz (mC (.int 1)))))) (mFz (mOp1 fLen (oV (mFz (mOp1 (fFld cs.Run "entries") (oN 0))))))) (gN 2 4) (sSq (sSet 2 5 (mCall (mf_meeting_of cs) (mConsO' (oV (mFz (mOp2 fIx (oV (mFz (mOp1 (fFld cs.Run "marks") (oN 0)))) (oN 3)))) (mConsO' (oV (mFz (mOp2 fIx (oV (mFz (mOp1 (fFld cs.Run "marks") (oN 0)))) (oN 4)))) (mNilO))))) (sIf (mAnd (mT (mOp2 fIsNot (oN 5) (oV (mFz (mC .non))))) (mT (mOp2 fNe (oV (mFz (mOp2 fIx (oV (mFz (mOp2 fIx (oV (mFz (mOp1 (fFld cs.Run "entries") (oN 0)))) (oN 3)))) (oV (mFz (mC (.int 0))))))) (oV (mFz (mOp2 fIx (oV (mFz (mOp2 fIx (oV (mFz (mOp1 (fFld cs.Run "entries") (oN 0)))) (oN 4)))) (oV (mFz (mC (.int 0)))))))))) (sDrop (mApp 2 (mFz (mTup (mCons (mFz (mN 2 3)) (mCons (mFz (mN 2 4)) (mCons (mFz (mN 2 5)) (mNil)))))))) (sNx)))))
    (e := [.fz R, .fz (.int b), .own (.lst []), .un, .un, .un]) ⟨.un, .un, .un, rfl⟩ (by
      rintro k d e hd ⟨x3, x4, x5, rfl⟩
      obtain ⟨hk, rfl⟩ := rangeL_get hd
      have hi : b + k < es.length := by omega
      have e1 : (b : Int) + (k : Int) = ((b + k : Nat) : Int) := by omega
      rw [e1]
      have hacc : ((List.range k).flatMap fun k => (List.range (es.length - (b + k + 1))).flatMap fun l => row es ms (b + k) (b + k + 1 + l)).length ≤ 1000 := by
        refine Nat.le_trans (flatMap_len (c := 12) (fun k => ?_) _) (by rw [List.length_range]; omega)
        refine Nat.le_trans (flatMap_len (c := 1) (fun l => row_len ..) _) (by rw [List.length_range]; omega)
      obtain ⟨x', y', hr⟩ := inner (b + k) _ x4 x5 hi hacc
      refine ⟨_, _, rfl, .inl ?_, .fz (.int ((b + k : Nat) : Int)), x', y', by rw [range_succ_flatMap]⟩
      have i1 : inR (((b + k : Nat) : Int) + 1) = true := inR_of' (by omega) (by omega)
      have i2 : inR (es.length : Int) = true := inR_of' (by omega) (by omega)
      generalize b + k = i at *
      simp [f1, i1, i2]
      exact hr)
  rw [rangeL_len] at h1
  have hk : ((es.length : Int) - (b : Int)).toNat = es.length - b := by omega
  rw [hk] at h1
  have i1 : inR (b : Int) = true := inR_of' (by omega) (by omega)
  have i2 : inR (es.length : Int) = true := inR_of' (by omega) (by omega)
  clear inner
  simp [mf_meetings_in, bodyRun, m_meetings_in, f1, i1, i2, h1, resB]
end K18

set_option linter.all false
set_option maxRecDepth 100000
set_option maxHeartbeats 4000000
set_option pp.maxSteps 1200
namespace K18
open PySem L2 VS
open PySem.PyData (strOk)
variable {es : List (Int × Int × Int)} {ms : List (List Str × List Str)}
theorem dx_cell (h : AllFew ms) (i j : Nat) : DX 1 (cellAt ms i j) := by
  have hok := (met2_ok (a := (mm ms i).1) (c := (mm ms j).1) (few_at h i).2 (few_at h j).2).2
  unfold cellAt metOf
  cases hm : met2 (mm ms i).1 (mm ms i).2 (mm ms j).1 (mm ms j).2 with
  | nil => trivial
  | cons y ys =>
    rw [hm] at hok
    exact hok _ (minS_spec ys y).1
theorem DX.mono : ∀ {k : Nat} {d : PV}, DX k d → DX (k + 1) d
  | 0, _, h => h.elim
  | k + 1, .tup ds, h => ⟨h.1, fun d hd => DX.mono (h.2 d hd)⟩
  | _ + 1, .int _, _ => trivial
  | _ + 1, .bl _, _ => trivial
  | _ + 1, .non, _ => trivial
  | _ + 1, .str _, h => h
  | _ + 1, .lst _, h | _ + 1, .scr _, h | _ + 1, .obj _ _, h | _ + 1, .ad _, h | _ + 1, .any, h => h.elim
theorem DX.le {k l : Nat} {d : PV} (h : DX k d) (hl : k ≤ l) : DX l d := by
  induction hl with
  | refl => exact h
  | step _ ih => exact ih.mono
theorem dx_row (h : AllFew ms) (i j : Nat) : ∀ d ∈ row es ms i j, DX 2 d := by
  intro d hd
  unfold row at hd
  split at hd
  · cases List.mem_singleton.1 hd
    refine ⟨by simp, fun x hx => ?_⟩
    simp only [List.mem_cons, List.not_mem_nil, or_false] at hx
    rcases hx with rfl | rfl | rfl
    · trivial
    · trivial
    · exact dx_cell h i j
  · cases hd
theorem resB_len (n b : Nat) (hn : n ≤ 12) : (resB es ms n b).length ≤ 144 := by
  refine Nat.le_trans (flatMap_len (c := 12) (fun k => ?_) _) (by rw [List.length_range]; omega)
  refine Nat.le_trans (flatMap_len (c := 1) (fun l => row_len ..) _) (by rw [List.length_range]; omega)
theorem dx_resB (h : AllFew ms) (n b : Nat) (hn : n ≤ 12) : DX 6 (.tup (resB es ms n b)) := by
  refine DX.le (k := 3) ⟨by have := resB_len (es := es) (ms := ms) n b hn; omega, fun d hd => ?_⟩ (by decide)
  obtain ⟨k, _, hd⟩ := List.mem_flatMap.1 hd
  obtain ⟨l, _, hd⟩ := List.mem_flatMap.1 hd
  exact dx_row h _ _ d hd
def dueL (es : List (Int × Int × Int)) (ms : List (List Str × List Str)) (n : Nat) : List PV := (List.range n).flatMap fun i => (List.range n).flatMap fun j => if i < j then row es ms i j else []
theorem due_in (n i : Nat) : ((List.range n).flatMap fun j => if i < j then row es ms i j else []) = (List.range (n - (i + 1))).flatMap fun l => row es ms i (i + 1 + l) :=
  range_shift (i + 1) n fun j => row es ms i j
def atB (b : Nat) : PV → Bool
  | .tup (.int i :: _) => decide ((b : Int) ≤ i)
  | _ => false
theorem filter_row (b i j : Nat) : (row es ms i j).filter (atB b) = if b ≤ i then row es ms i j else [] := by
  unfold row
  split
  · by_cases hb : b ≤ i <;> simp [atB, hb]
  · simp
theorem due_filter (n b : Nat) : (dueL es ms n).filter (atB b) = resB es ms n b := by
  unfold dueL resB
  rw [List.filter_flatMap, ← range_shift b n fun i => (List.range (n - (i + 1))).flatMap fun l => row es ms i (i + 1 + l)]
  congr 1
  funext i
  rw [due_in, List.filter_flatMap]
  by_cases hb : b ≤ i
  · rw [if_pos hb]
    congr 1
    funext l
    rw [filter_row, if_pos hb]
  · rw [if_neg hb, List.flatMap_eq_nil_iff]
    intro l _
    rw [filter_row, if_neg hb]
theorem due_0 (n : Nat) : dueL es ms n = resB es ms n 0 := by
  rw [← due_filter]
  refine (List.filter_eq_self.2 fun d hd => ?_).symm
  obtain ⟨k, _, hd⟩ := List.mem_flatMap.1 hd
  obtain ⟨l, _, hd⟩ := List.mem_flatMap.1 hd
  split at hd
  · unfold row at hd
    split at hd
    · cases List.mem_singleton.1 hd
      simp [atB]
    · cases hd
  · cases hd

theorem stA (cs : Cs) (S x8 x9 x10 x11 x12 x13 x14 : Sl) {xs : List Str} (hx : Names 5 16 xs) (few : Int) (f0 : 2 ≤ few) (f1 : few ≤ 3) (h : PV) (hh : Hand h) (n : Nat) (hn : n ≤ 12) :
    ∃ (h' : PV) (s2 x6 x7 : Sl) (es : List (Int × Int × Int)) (ms : List (List Str × List Str)), AllFew ms ∧ es.length = n ∧ ms.length = n ∧
      forRun (gN 1 6) (sSq (sSet 1 7 (mIf (mT (mOp2 fEq (oV (mFz (mCall (mf_law_draw cs) (mConsO' (oN 1) (mConsO' (oV (mFz (mC (.int 4)))) (mNilO)))))) (oV (mFz (mC (.int 0)))))) (mCall (mf_law_draw cs) (mConsO' (oN 1) (mConsO' (oV (mFz (mC (.int 10)))) (mNilO)))) (mCall (mf_law_draw cs) (mConsO' (oN 1) (mConsO' (oV (mFz (mN 1 3))) (mNilO)))))) (sSq (sDrop (mApp 4 (mFz (mTup (mCons (mFz (mN 1 7)) (mCons (mFz (mCall (mf_law_draw cs) (mConsO' (oN 1) (mConsO' (oV (mFz (mC (.int 4)))) (mNilO))))) (mCons (mFz (mCall (mf_law_draw cs) (mConsO' (oN 1) (mConsO' (oV (mFz (mC (.int 3)))) (mNilO))))) (mNil)))))))) (sDrop (mApp 5 (mFz (mTup (mCons (mFz (mCall (mf_law_some cs) (mConsO' (oN 1) (mConsO' (oV (mFz (mN 1 2))) (mNilO))))) (mCons (mFz (mCall (mf_law_some cs) (mConsO' (oN 1) (mConsO' (oV (mFz (mN 1 2))) (mNilO))))) (mNil))))))))) (rangeL 0 (n : Int)) [S, .own h, .own (.lst (xs.map .str)), .fz (.int few), .own (.lst []), .own (.lst []), .un, .un, x8, x9, x10, x11, x12, x13, x14] =
        .nx [S, .own h', s2, .fz (.int few), .own (.lst (es.map ent)), .own (.lst (ms.map mk)), x6, x7, x8, x9, x10, x11, x12, x13, x14] := by
  obtain ⟨e', h1, h', s2, x6, x7, es, ms, hh', hs2, hf, l1, l2, rfl⟩ := forRun_inv (ds := rangeL 0 (n : Int)) (g := gN 1 6) (mb := (sSq (sSet 1 7 (mIf (mT (mOp2 fEq (oV (mFz (mCall (mf_law_draw cs) (mConsO' (oN 1) (mConsO' (oV (mFz (mC (.int 4)))) (mNilO)))))) (oV (mFz (mC (.int 0)))))) (mCall (mf_law_draw cs) (mConsO' (oN 1) (mConsO' (oV (mFz (mC (.int 10)))) (mNilO)))) (mCall (mf_law_draw cs) (mConsO' (oN 1) (mConsO' (oV (mFz (mN 1 3))) (mNilO)))))) (sSq (sDrop (mApp 4 (mFz (mTup (mCons (mFz (mN 1 7)) (mCons (mFz (mCall (mf_law_draw cs) (mConsO' (oN 1) (mConsO' (oV (mFz (mC (.int 4)))) (mNilO))))) (mCons (mFz (mCall (mf_law_draw cs) (mConsO' (oN 1) (mConsO' (oV (mFz (mC (.int 3)))) (mNilO))))) (mNil)))))))) (sDrop (mApp 5 (mFz (mTup (mCons (mFz (mCall (mf_law_some cs) (mConsO' (oN 1) (mConsO' (oV (mFz (mN 1 2))) (mNilO))))) (mCons (mFz (mCall (mf_law_some cs) (mConsO' (oN 1) (mConsO' (oV (mFz (mN 1 2))) (mNilO))))) (mNil))))))))))
    (fun k e => ∃ (h' : PV) (s2 x6 x7 : Sl) (es : List (Int × Int × Int)) (ms : List (List Str × List Str)), Hand h' ∧ (s2 = .own (.lst (xs.map .str)) ∨ s2 = .fz (.lst (xs.map .str))) ∧ AllFew ms ∧ es.length = k ∧ ms.length = k ∧ e = [S, .own h', s2, .fz (.int few), .own (.lst (es.map ent)), .own (.lst (ms.map mk)), x6, x7, x8, x9, x10, x11, x12, x13, x14])
    (e := [S, .own h, .own (.lst (xs.map .str)), .fz (.int few), .own (.lst []), .own (.lst []), .un, .un, x8, x9, x10, x11, x12, x13, x14]) ⟨h, _, .un, .un, [], [], hh, .inl rfl, nofun, rfl, rfl, rfl⟩ (by
      rintro k d e hd ⟨h', s2, x6, x7, es, ms, hh', hs2, hf, l1, l2, rfl⟩
      obtain ⟨hk, rfl⟩ := rangeL_get hd
      have hk : k < n := by simpa using hk
      obtain ⟨v, h2, v0, v1, hh2, hv⟩ := draw_ok cs hh' (many := 4) (by decide) (by decide)
      have whoD : ∃ (w : Int) (h3 : PV), Hand h3 ∧ (if v = 0 then mf_law_draw cs [.own h2, .fz (.int 10)] = .ret (.fz (.int w)) [.own h3, .fz (.int 10)] else mf_law_draw cs [.own h2, .fz (.int few)] = .ret (.fz (.int w)) [.own h3, .fz (.int few)]) := by
        by_cases hz : v = 0
        · obtain ⟨w, h3, _, _, hh3, hw⟩ := draw_ok cs hh2 (many := 10) (by decide) (by decide)
          exact ⟨w, h3, hh3, by rw [if_pos hz]; exact hw⟩
        · obtain ⟨w, h3, _, _, hh3, hw⟩ := draw_ok cs hh2 (many := few) (by omega) (by omega)
          exact ⟨w, h3, hh3, by rw [if_neg hz]; exact hw⟩
      obtain ⟨w, h3, hh3, hw⟩ := whoD
      obtain ⟨v4, h4, _, _, hh4, hv4⟩ := draw_ok cs hh3 (many := 4) (by decide) (by decide)
      obtain ⟨v5, h5, _, _, hh5, hv5⟩ := draw_ok cs hh4 (many := 3) (by decide) (by decide)
      obtain ⟨a, h6, ha, hh6, hv6⟩ := some_ok cs hh5 hx
      obtain ⟨b, h7, hb, hh7, hv7⟩ := some_ok cs hh6 hx
      have b1 : es.length < 16777216 := by omega
      have b2 : ms.length < 16777216 := by omega
      refine ⟨_, [S, .own h7, .fz (.lst (xs.map .str)), .fz (.int few), .own (.lst ((es ++ [(w, v4, v5)]).map ent)), .own (.lst ((ms ++ [(a, b)]).map mk)), .fz (.int (0 + k)), .fz (.int w), x8, x9, x10, x11, x12, x13, x14], rfl, .inl ?_, h7, _, _, _, _, _, hh7, .inr rfl, ?_, by simp [l1], by simp [l2], rfl⟩
      · by_cases hz : v = 0
        · rw [if_pos hz] at hw
          rcases hs2 with rfl | rfl <;> simp [hv, hz, hw, hv4, hv5, hv6, hv7, b1, b2, ent, mk, mark]
        · rw [if_neg hz] at hw
          rcases hs2 with rfl | rfl <;> simp [hv, hz, hw, hv4, hv5, hv6, hv7, b1, b2, ent, mk, mark]
      · intro t ht
        rcases List.mem_append.1 ht with z | z
        · exact hf t z
        · cases List.mem_singleton.1 z
          exact ⟨ha, hb⟩)
  rw [rangeL_len] at l1 l2
  exact ⟨h', s2, x6, x7, es, ms, hf, by omega, by omega, h1⟩

theorem stB1 (cs : Cs) (a0 a1 a2 a3 a6 a7 a8 a13 a14 x11 x12 : Sl) (h : AllFew ms) (hl : ms.length = es.length) (hn : es.length ≤ 12) (i : Nat) (hi : i < es.length) (acc : List PV) (hacc : acc.length ≤ 1000) :
    ∃ y11 y12 : Sl, forRun (gN 1 11) (sSq (sSet 1 12 (mCall (mf_law_least_met cs) (mConsO' (oV (mFz (mOp2 fIx (oN 5) (oN 10)))) (mConsO' (oV (mFz (mOp2 fIx (oN 5) (oN 11)))) (mNilO))))) (sSq (sIf (mNot (mT (mCall (mf_law_exact cs 6) (mConsO' (oV (mFz (mCall (mf_meeting_of cs) (mConsO' (oV (mFz (mOp2 fIx (oN 5) (oN 10)))) (mConsO' (oV (mFz (mOp2 fIx (oN 5) (oN 11)))) (mNilO)))))) (mConsO' (oV (mFz (mN 1 12))) (mNilO)))))) (sRet (mC (.bl false))) (sNx)) (sIf (mAnd (mT (mOp2 fLt (oN 10) (oN 11))) (mAnd (mT (mOp2 fIsNot (oN 12) (oV (mFz (mC .non))))) (mT (mOp2 fNe (oV (mFz (mOp2 fIx (oV (mFz (mOp2 fIx (oN 4) (oN 10)))) (oV (mFz (mC (.int 0))))))) (oV (mFz (mOp2 fIx (oV (mFz (mOp2 fIx (oN 4) (oN 11)))) (oV (mFz (mC (.int 0))))))))))) (sDrop (mApp 9 (mFz (mTup (mCons (mFz (mN 1 10)) (mCons (mFz (mN 1 11)) (mCons (mFz (mN 1 12)) (mNil)))))))) (sNx)))) (rangeL 0 (es.length : Int)) [a0, a1, a2, a3, .own (.lst (es.map ent)), .own (.lst (ms.map mk)), a6, a7, a8, .own (.lst acc), .fz (.int i), x11, x12, a13, a14] = .nx [a0, a1, a2, a3, .own (.lst (es.map ent)), .own (.lst (ms.map mk)), a6, a7, a8, .own (.lst (acc ++ (List.range es.length).flatMap fun j => if i < j then row es ms i j else [])), .fz (.int i), y11, y12, a13, a14] := by
  obtain ⟨e', h1, y11, y12, rfl⟩ := forRun_inv (ds := rangeL 0 (es.length : Int)) (g := gN 1 11) (mb := (sSq (sSet 1 12 (mCall (mf_law_least_met cs) (mConsO' (oV (mFz (mOp2 fIx (oN 5) (oN 10)))) (mConsO' (oV (mFz (mOp2 fIx (oN 5) (oN 11)))) (mNilO))))) (sSq (sIf (mNot (mT (mCall (mf_law_exact cs 6) (mConsO' (oV (mFz (mCall (mf_meeting_of cs) (mConsO' (oV (mFz (mOp2 fIx (oN 5) (oN 10)))) (mConsO' (oV (mFz (mOp2 fIx (oN 5) (oN 11)))) (mNilO)))))) (mConsO' (oV (mFz (mN 1 12))) (mNilO)))))) (sRet (mC (.bl false))) (sNx)) (sIf (mAnd (mT (mOp2 fLt (oN 10) (oN 11))) (mAnd (mT (mOp2 fIsNot (oN 12) (oV (mFz (mC .non))))) (mT (mOp2 fNe (oV (mFz (mOp2 fIx (oV (mFz (mOp2 fIx (oN 4) (oN 10)))) (oV (mFz (mC (.int 0))))))) (oV (mFz (mOp2 fIx (oV (mFz (mOp2 fIx (oN 4) (oN 11)))) (oV (mFz (mC (.int 0))))))))))) (sDrop (mApp 9 (mFz (mTup (mCons (mFz (mN 1 10)) (mCons (mFz (mN 1 11)) (mCons (mFz (mN 1 12)) (mNil)))))))) (sNx)))))
    (fun k e => ∃ y11 y12 : Sl, e = [a0, a1, a2, a3, .own (.lst (es.map ent)), .own (.lst (ms.map mk)), a6, a7, a8, .own (.lst (acc ++ (List.range k).flatMap fun j => if i < j then row es ms i j else [])), .fz (.int i), y11, y12, a13, a14])
    (e := [a0, a1, a2, a3, .own (.lst (es.map ent)), .own (.lst (ms.map mk)), a6, a7, a8, .own (.lst acc), .fz (.int i), x11, x12, a13, a14]) ⟨x11, x12, by simp⟩ (by
      rintro j d e hd ⟨y11, y12, rfl⟩
      obtain ⟨hj, rfl⟩ := rangeL_get hd
      have hj : j < es.length := by simpa using hj
      rw [Int.zero_add]
      have g1 := getE (es := es) hi
      have g2 := getE (es := es) hj
      have m1 := getM (ms := ms) (i := i) (by omega)
      have m2 := getM (ms := ms) (i := j) (by omega)
      have mt := meet_at cs h i j
      have lt := least_at cs h i j
      have ex := exact_ok cs 6 (cellAt ms i j) (DX.le (dx_cell h i j) (by decide))
      have hlen : acc.length + ((List.range j).flatMap fun j => if i < j then row es ms i j else []).length < 16777216 := by
        have := flatMap_len (f := fun j => if i < j then row es ms i j else []) (c := 1) (fun l => by split; exact row_len ..; simp) (List.range j)
        simp only [List.length_range] at this; omega
      have hany : cellAt ms i j ≠ .any := metOf_any _ _ _ _
      refine ⟨_, [a0, a1, a2, a3, .own (.lst (es.map ent)), .own (.lst (ms.map mk)), a6, a7, a8, .own (.lst (acc ++ (List.range (j + 1)).flatMap fun j => if i < j then row es ms i j else [])), .fz (.int i), .fz (.int j), .fz (cellAt ms i j), a13, a14], rfl, .inl ?_, _, _, rfl⟩
      rw [range_succ_flatMap]
      generalize hr : (List.range j).flatMap (fun j => if i < j then row es ms i j else []) = r at hlen
      by_cases hij : i < j
      · cases hcn : (cellAt ms i j).isN with
        | true => simp [g1, g2, m1, m2, mt, lt, ex, fIsNot_n _ hany, hcn, row, hij]
        | false =>
          by_cases hw : who es i = who es j
          · have hw' : (ee es i).1 = (ee es j).1 := hw
            simp [g1, g2, m1, m2, mt, lt, ex, fIsNot_n _ hany, hcn, row, hij, ent_get, hw, hw']
          · have hw' : ¬ (ee es i).1 = (ee es j).1 := hw
            simp [g1, g2, m1, m2, mt, lt, ex, fIsNot_n _ hany, hcn, row, hij, ent_get, hw, hw', hlen]
      · simp [g1, g2, m1, m2, mt, lt, ex, fIsNot_n _ hany, row, hij])
  rw [rangeL_len] at h1
  exact ⟨y11, y12, by rw [h1]; simp⟩
theorem stB (cs : Cs) (a0 a1 a2 a3 a6 a7 a8 a13 a14 x10 x11 x12 : Sl) (h : AllFew ms) (hl : ms.length = es.length) (hn : es.length ≤ 12) :
    ∃ y10 y11 y12 : Sl, forRun (gN 1 10) (sFor (iR1 (mFz (mOp1 fLen (oN 4)))) (gN 1 11) (sSq (sSet 1 12 (mCall (mf_law_least_met cs) (mConsO' (oV (mFz (mOp2 fIx (oN 5) (oN 10)))) (mConsO' (oV (mFz (mOp2 fIx (oN 5) (oN 11)))) (mNilO))))) (sSq (sIf (mNot (mT (mCall (mf_law_exact cs 6) (mConsO' (oV (mFz (mCall (mf_meeting_of cs) (mConsO' (oV (mFz (mOp2 fIx (oN 5) (oN 10)))) (mConsO' (oV (mFz (mOp2 fIx (oN 5) (oN 11)))) (mNilO)))))) (mConsO' (oV (mFz (mN 1 12))) (mNilO)))))) (sRet (mC (.bl false))) (sNx)) (sIf (mAnd (mT (mOp2 fLt (oN 10) (oN 11))) (mAnd (mT (mOp2 fIsNot (oN 12) (oV (mFz (mC .non))))) (mT (mOp2 fNe (oV (mFz (mOp2 fIx (oV (mFz (mOp2 fIx (oN 4) (oN 10)))) (oV (mFz (mC (.int 0))))))) (oV (mFz (mOp2 fIx (oV (mFz (mOp2 fIx (oN 4) (oN 11)))) (oV (mFz (mC (.int 0))))))))))) (sDrop (mApp 9 (mFz (mTup (mCons (mFz (mN 1 10)) (mCons (mFz (mN 1 11)) (mCons (mFz (mN 1 12)) (mNil)))))))) (sNx))))) (rangeL 0 (es.length : Int)) [a0, a1, a2, a3, .own (.lst (es.map ent)), .own (.lst (ms.map mk)), a6, a7, a8, .own (.lst []), x10, x11, x12, a13, a14] = .nx [a0, a1, a2, a3, .own (.lst (es.map ent)), .own (.lst (ms.map mk)), a6, a7, a8, .own (.lst (dueL es ms es.length)), y10, y11, y12, a13, a14] := by
  obtain ⟨e', h1, y10, y11, y12, rfl⟩ := forRun_inv (ds := rangeL 0 (es.length : Int)) (g := gN 1 10) (mb := (sFor (iR1 (mFz (mOp1 fLen (oN 4)))) (gN 1 11) (sSq (sSet 1 12 (mCall (mf_law_least_met cs) (mConsO' (oV (mFz (mOp2 fIx (oN 5) (oN 10)))) (mConsO' (oV (mFz (mOp2 fIx (oN 5) (oN 11)))) (mNilO))))) (sSq (sIf (mNot (mT (mCall (mf_law_exact cs 6) (mConsO' (oV (mFz (mCall (mf_meeting_of cs) (mConsO' (oV (mFz (mOp2 fIx (oN 5) (oN 10)))) (mConsO' (oV (mFz (mOp2 fIx (oN 5) (oN 11)))) (mNilO)))))) (mConsO' (oV (mFz (mN 1 12))) (mNilO)))))) (sRet (mC (.bl false))) (sNx)) (sIf (mAnd (mT (mOp2 fLt (oN 10) (oN 11))) (mAnd (mT (mOp2 fIsNot (oN 12) (oV (mFz (mC .non))))) (mT (mOp2 fNe (oV (mFz (mOp2 fIx (oV (mFz (mOp2 fIx (oN 4) (oN 10)))) (oV (mFz (mC (.int 0))))))) (oV (mFz (mOp2 fIx (oV (mFz (mOp2 fIx (oN 4) (oN 11)))) (oV (mFz (mC (.int 0))))))))))) (sDrop (mApp 9 (mFz (mTup (mCons (mFz (mN 1 10)) (mCons (mFz (mN 1 11)) (mCons (mFz (mN 1 12)) (mNil)))))))) (sNx))))))
    (fun k e => ∃ y10 y11 y12 : Sl, e = [a0, a1, a2, a3, .own (.lst (es.map ent)), .own (.lst (ms.map mk)), a6, a7, a8, .own (.lst ((List.range k).flatMap fun i => (List.range es.length).flatMap fun j => if i < j then row es ms i j else [])), y10, y11, y12, a13, a14])
    (e := [a0, a1, a2, a3, .own (.lst (es.map ent)), .own (.lst (ms.map mk)), a6, a7, a8, .own (.lst []), x10, x11, x12, a13, a14]) ⟨x10, x11, x12, rfl⟩ (by
      rintro i d e hd ⟨y10, y11, y12, rfl⟩
      obtain ⟨hi, rfl⟩ := rangeL_get hd
      have hi : i < es.length := by simpa using hi
      rw [Int.zero_add]
      have hacc : ((List.range i).flatMap fun i => (List.range es.length).flatMap fun j => if i < j then row es ms i j else []).length ≤ 1000 := by
        refine Nat.le_trans (flatMap_len (c := 12) (fun k => ?_) _) (by rw [List.length_range]; omega)
        refine Nat.le_trans (flatMap_len (c := 1) (fun l => by split; exact row_len ..; simp) _) (by rw [List.length_range]; omega)
      obtain ⟨z11, z12, hr⟩ := stB1 (es := es) (ms := ms) cs a0 a1 a2 a3 a6 a7 a8 a13 a14 y11 y12 h hl hn i hi _ hacc
      have i2 : inR (es.length : Int) = true := inR_of' (by omega) (by omega)
      refine ⟨_, _, rfl, .inl ?_, .fz (.int i), z11, z12, by rw [range_succ_flatMap]⟩
      simp [i2]
      exact hr)
  rw [rangeL_len] at h1
  exact ⟨y10, y11, y12, by rw [h1]; simp [dueL]⟩
end K18

set_option linter.all false
set_option maxRecDepth 100000
set_option maxHeartbeats 4000000
set_option pp.maxSteps 1200
namespace K18
open PySem L2 VS
open PySem.PyData (strOk)
variable {es : List (Int × Int × Int)} {ms : List (List Str × List Str)}
theorem stC (cs : Cs) (a0 a1 a2 a3 a6 a7 a10 a11 a12 : Sl) (h : AllFew ms) (hl : ms.length = es.length) (hn : es.length ≤ 12) (R : PV) (hR : runV cs.Run (es.map ent) (ms.map mk) = R) :
    ∃ y9 y13 y14 : Sl, (y9 = .own (.lst (dueL es ms es.length)) ∨ y9 = .fz (.lst (dueL es ms es.length))) ∧ forRun (gN 1 13) (sIf (mNot (mT (mCall (mf_law_exact cs 6) (mConsO' (oV (mFz (mCall (mf_meetings_in cs) (mConsO' (oV (mFz (mN 1 8))) (mConsO' (oV (mFz (mN 1 13))) (mNilO)))))) (mConsO' (oV (mFz (mOp1 fTuple (oV (mFz (mComp [14] (iS (mFz (mN 1 9))) (gN 1 14) (mT (mOp2 fGe (oV (mFz (mOp2 fIx (oN 14) (oV (mFz (mC (.int 0))))))) (oN 13))) (mFz (mN 1 14)))))))) (mNilO)))))) (sRet (mC (.bl false))) (sNx)) (rangeL 0 ((es.length : Int) + 3)) [a0, a1, a2, a3, .own (.lst (es.map ent)), .own (.lst (ms.map mk)), a6, a7, .fz R, .own (.lst (dueL es ms es.length)), a10, a11, a12, .un, .un] = .nx [a0, a1, a2, a3, .own (.lst (es.map ent)), .own (.lst (ms.map mk)), a6, a7, .fz R, y9, a10, a11, a12, y13, y14] := by
  obtain ⟨e', h1, y9, y13, y14, hy, rfl⟩ := forRun_inv (ds := rangeL 0 ((es.length : Int) + 3)) (g := gN 1 13) (mb := (sIf (mNot (mT (mCall (mf_law_exact cs 6) (mConsO' (oV (mFz (mCall (mf_meetings_in cs) (mConsO' (oV (mFz (mN 1 8))) (mConsO' (oV (mFz (mN 1 13))) (mNilO)))))) (mConsO' (oV (mFz (mOp1 fTuple (oV (mFz (mComp [14] (iS (mFz (mN 1 9))) (gN 1 14) (mT (mOp2 fGe (oV (mFz (mOp2 fIx (oN 14) (oV (mFz (mC (.int 0))))))) (oN 13))) (mFz (mN 1 14)))))))) (mNilO)))))) (sRet (mC (.bl false))) (sNx)))
    (fun k e => ∃ y9 y13 y14 : Sl, (y9 = .own (.lst (dueL es ms es.length)) ∨ y9 = .fz (.lst (dueL es ms es.length))) ∧ e = [a0, a1, a2, a3, .own (.lst (es.map ent)), .own (.lst (ms.map mk)), a6, a7, .fz R, y9, a10, a11, a12, y13, y14])
    (e := [a0, a1, a2, a3, .own (.lst (es.map ent)), .own (.lst (ms.map mk)), a6, a7, .fz R, .own (.lst (dueL es ms es.length)), a10, a11, a12, .un, .un]) ⟨_, .un, .un, .inl rfl, rfl⟩ (by
      rintro b d e hd ⟨y9, y13, y14, hy, rfl⟩
      obtain ⟨hb, rfl⟩ := rangeL_get hd
      have hb : b ≤ 100 := by omega
      rw [Int.zero_add]
      have mi := meetings_in_ok cs h hl hn b hb
      rw [hR] at mi
      have ex := exact_ok cs 6 _ (dx_resB (es := es) h es.length b hn)
      have hdl : (dueL es ms es.length).length ≤ 144 := by rw [due_0]; exact resB_len _ _ hn
      have c := compRun_pure (vs := [14]) (g := gN 1 14) (mt := mT (mOp2 fGe (oV (mFz (mOp2 fIx (oN 14) (oV (mFz (mC (.int 0))))))) (oN 13))) (me := mFz (mN 1 14))
        (e := [a0, a1, a2, a3, .own (.lst (es.map ent)), .own (.lst (ms.map mk)), a6, a7, .fz R, .fz (.lst (dueL es ms es.length)), a10, a11, a12, .fz (.int b), .un]) (atB b) (fun d => d) (dueL es ms es.length) [] (fun d hd => by
          have hrow : ∃ (i : Nat) (r : List PV), d = .tup (.int i :: r) := by
            obtain ⟨k, _, hd⟩ := List.mem_flatMap.1 hd
            obtain ⟨l, _, hd⟩ := List.mem_flatMap.1 hd
            split at hd
            · unfold row at hd
              split at hd
              · cases List.mem_singleton.1 hd
                exact ⟨_, _, rfl⟩
              · cases hd
            · cases hd
          obtain ⟨i, r, rfl⟩ := hrow
          refine ⟨_, [a0, a1, a2, a3, .own (.lst (es.map ent)), .own (.lst (ms.map mk)), a6, a7, .fz R, .fz (.lst (dueL es ms es.length)), a10, a11, a12, .fz (.int b), .fz (.tup (.int i :: r))], rfl, ?_, fun _ => rfl, fun _ => ⟨[a0, a1, a2, a3, .own (.lst (es.map ent)), .own (.lst (ms.map mk)), a6, a7, .fz R, .fz (.lst (dueL es ms es.length)), a10, a11, a12, .fz (.int b), .fz (.tup (.int i :: r))], rfl, rfl⟩⟩
          simp [atB]) (by simp; omega)
      rw [due_filter, List.nil_append, List.map_id'] at c
      refine ⟨_, [a0, a1, a2, a3, .own (.lst (es.map ent)), .own (.lst (ms.map mk)), a6, a7, .fz R, .fz (.lst (dueL es ms es.length)), a10, a11, a12, .fz (.int b), .un], rfl, .inl ?_, _, _, _, .inr rfl, rfl⟩
      rcases hy with rfl | rfl <;> simp [mi, ex, c, wipeE])
  exact ⟨y9, y13, y14, hy, h1⟩
theorem ok_es (es : List (Int × Int × Int)) : okD (.tup (es.map ent)) = true := by
  refine (OkN.tup (n := 1) ?_).okD (by decide)
  intro d hd
  obtain ⟨t, _, rfl⟩ := List.mem_map.1 hd
  refine .tup (n := 0) fun x hx => ?_
  simp only [List.mem_cons, List.not_mem_nil, or_false] at hx
  rcases hx with rfl | rfl | rfl <;> exact .int _
theorem ok_ms (h : AllFew ms) : okD (.tup (ms.map mk)) = true := by
  refine (OkN.tup (n := 2) ?_).okD (by decide)
  intro d hd
  obtain ⟨t, ht, rfl⟩ := List.mem_map.1 hd
  obtain ⟨ha, hb⟩ := h t ht
  refine .tup (n := 1) fun d hd => ?_
  simp only [List.mem_cons, List.not_mem_nil, or_false] at hd
  rcases hd with rfl | rfl
  · exact .tup (.strs ha.2)
  · exact .tup (.strs hb.2)
theorem ret_of {o : OutF} (h : match o with | .ret s _ => s = .fz (.bl true) | _ => False) : ∃ as', o = .ret (.fz (.bl true)) as' := by
  cases o with
  | ret s as' => exact ⟨as', by rw [show s = _ from h]⟩
  | exc C ds as' => exact h.elim
  | stuck => exact h.elim
theorem law_true (cs : Cs) : ∀ ns : List Int, ns.length ≤ 63 → ∃ as', mf_law cs [.fz (.scr (ns.map .int))] = .ret (.fz (.bl true)) as' := by
  intro ns hns
  obtain ⟨h0, hh0, e0⟩ := hand_ok cs ns hns
  obtain ⟨xs, h1, hx, hh1, e1⟩ := drawn_names_ok cs hh0
  obtain ⟨v2, h2, v20, v21, hh2, e2⟩ := draw_ok cs hh1 (many := 2) (by decide) (by decide)
  obtain ⟨v3, h3, v30, v31, hh3, e3⟩ := draw_ok cs hh2 (many := 13) (by decide) (by decide)
  obtain ⟨n, rfl⟩ : ∃ n : Nat, v3 = n := ⟨v3.toNat, by omega⟩
  obtain ⟨h4, s2, x6, x7, es, ms, hf, l1, l2, eA⟩ := stA cs (.fz (.scr (ns.map .int))) .un .un .un .un .un .un .un hx (2 + v2) (by omega) (by omega) h3 hh3 n (by omega)
  subst l1
  have hl : ms.length = es.length := l2
  have hn : es.length ≤ 12 := by omega
  have i0 : inR (es.length : Int) = true := inR_of' (by omega) (by omega)
  have i3 : inR ((es.length : Int) + 3) = true := inR_of' (by omega) (by omega)
  have ini := init_ok cs (es.map ent) (ms.map mk)
  have fe := fld_entries cs.Run (es.map ent) (ms.map mk)
  have fm := fld_marks cs.Run (es.map ent) (ms.map mk)
  obtain ⟨fs, hR⟩ : ∃ fs, runV cs.Run (es.map ent) (ms.map mk) = .obj cs.Run fs := ⟨_, rfl⟩
  rw [hR] at ini fe fm
  obtain ⟨y10, y11, y12, eB⟩ := stB cs (.fz (.scr (ns.map .int))) (.own h4) s2 (.fz (.int (2 + v2))) x6 x7 (.own (.obj cs.Run fs)) .un .un .un .un .un hf hl hn
  have mi := meetings_in_ok cs hf hl hn 0 (by decide)
  rw [hR, ← due_0] at mi
  have ex := exact_ok cs 6 _ (dx_resB (es := es) hf es.length 0 hn)
  rw [← due_0] at ex
  have mi' : mf_meetings_in cs [.fz (.obj cs.Run fs), .fz (.int 0)] = .ret (.fz (.tup (dueL es ms es.length))) [.fz (.obj cs.Run fs), .fz (.int 0)] := mi
  obtain ⟨y9, y13, y14, hy, eC⟩ := stC cs (.fz (.scr (ns.map .int))) (.own h4) s2 (.fz (.int (2 + v2))) x6 x7 y10 y11 y12 hf hl hn _ hR
  have q1 := fEq_same (ok_es es)
  have q2 := fEq_same (ok_ms hf)
  apply ret_of
  rcases hy with rfl | rfl <;>
    simp [mf_law, bodyRun, m_law, e0, e1, e2, e3, eA, eB, eC, ini, fe, fm, i0, i3, mi', ex, mfD, q1, q2]
end K18

set_option Elab.async false
set_option linter.all false
set_option pp.maxSteps 400
set_option maxRecDepth 100000
set_option maxHeartbeats 4000000
namespace K18
open PySem L2 VS

def spLaw (K : PySem.W.Frag) : Sp := fun vs H Q _ => ∃ (a : Addr) (ns : List Int), vs = [.ref a] ∧ FrzS K H a (ns.map V.int) ∧ ns.length ≤ 63 ∧ ∀ H', Q (.bl true) H'
theorem fza_ints {K : PySem.W.Frag} {H : Hp} : ∀ ns : List Int, FzA K H (ns.map V.int) (ns.map PV.int)
  | [] => .nil
  | n :: ns => .cons (.int n) (fza_ints ns)
theorem sp_of {K : PySem.W.Frag} {mf : MF} (hp : ∀ ns : List Int, ns.length ≤ 63 → ∃ as', mf [.fz (.scr (ns.map .int))] = .ret (.fz (.bl true)) as') (vs : List V) (H : Hp) (Q : VK) (E : XK) (h : spLaw K vs H Q E) : spF K 1 mf vs H Q E := by
  obtain ⟨a, ns, rfl, hS, hl, k⟩ := h
  refine ⟨[.fz (.scr (ns.map .int))], rfl, ⟨rfl, fun i d q => ?_, fun i d q => ?_, fun i j d d' a q1 q2 s1 s2 => ?_, fun i a q => (by cases q), fun b o q _ => q, fun b o q => ⟨o, q⟩⟩, ?_⟩
  · cases i with
    | zero => simp at q; subst q; exact ⟨_, rfl, .scr hS (fza_ints ns)⟩
    | succ i => simp at q
  · cases i with
    | zero => simp at q
    | succ i => simp at q
  · cases i with
    | zero => simp at q1
    | succ i => simp at q1
  · obtain ⟨as', e⟩ := hp ns hl
    rw [e]
    intro v H' J r l
    have r' : Fz K H' v (.bl true) := r
    cases r'
    exact k H'
theorem frz_of {K : PySem.W.Frag} {H : Hp} {a : Addr} {xs : List V} (hO : Only H) (h : SqL K H a xs) : FrzS K H a xs := by
  rcases h with (h | h) | h
  · rcases hO a with z | ⟨o, ys, z⟩
    · rw [z] at h; cases h
    · rw [z] at h; cases h
  · exact .inl h
  · exact .inr h
theorem all_mk {l : PySem.W.OpenLaw} {w : World} {K : PySem.W.Frag} {h : Heap} {mg : Str → Option Value} {fa : Addr} (X : K.In h) (G : h.Ns mainGlobals mg) (hfa : mg "law" = some (.ref fa))
    {C_Run : Addr}
    (aC_Run : PySem.W.nsIn K mainGlobals "Run" = some (some (.ref C_Run)))
    {f1 : Addr} {od1 an1 : Option Addr} {sl1 : Array (Option Value)} {oc1 kV1 dc1 pm1 cd1 ct1 : Value}
    (a1 : PySem.W.findIn K (.ref C_Run) "__init__" = some (some (.ref f1)))
    (l1 : K.lookup f1 = some ⟨oc1, od1, .func (PySem.W.fnOf "__init__" "Run.__init__" (defArgs s_Run___init__) (defBody s_Run___init__) (defScope s_Run___init__) .none kV1 dc1 pm1 an1 cd1 ct1), sl1⟩)
    (c1 : PySem.W.codeIn K cd1 "Run.__init__" = true)
    (k1 : PySem.W.keepIn K (.ref f1) = true)
    {f2 : Addr} {od2 an2 : Option Addr} {sl2 : Array (Option Value)} {oc2 kV2 dc2 pm2 cd2 ct2 : Value}
    (a2 : PySem.W.nsIn K mainGlobals "meeting_of" = some (some (.ref f2)))
    (l2 : K.lookup f2 = some ⟨oc2, od2, .func (PySem.W.fnOf "meeting_of" "meeting_of" (defArgs s_meeting_of) (defBody s_meeting_of) (defScope s_meeting_of) .none kV2 dc2 pm2 an2 cd2 ct2), sl2⟩)
    (c2 : PySem.W.codeIn K cd2 "meeting_of" = true)
    (k2 : PySem.W.keepIn K (.ref f2) = true)
    {f3 T3 : Addr} {od3 an3 : Option Addr} {sl3 : Array (Option Value)} {oc3 kV3 dc3 pm3 cd3 ct3 : Value}
    (a3 : PySem.W.nsIn K mainGlobals "meetings_in" = some (some (.ref f3)))
    (l3 : K.lookup f3 = some ⟨oc3, od3, .func (PySem.W.fnOf "meetings_in" "meetings_in" (defArgs s_meetings_in) (defBody s_meetings_in) (defScope s_meetings_in) (.ref T3) kV3 dc3 pm3 an3 cd3 ct3), sl3⟩)
    (c3 : PySem.W.codeIn K cd3 "meetings_in" = true)
    (k3 : PySem.W.keepIn K (.ref f3) = true)
    {ocT3 : Value} {odT3 : Option Addr} {n3 : Nat} {slT3 : Array (Option Value)} {t3_0 : Tok}
    (T_3 : K.lookup T3 = some ⟨ocT3, odT3, .seq #[.int 0 t3_0] n3, slT3⟩)
    {f4 : Addr} {od4 an4 : Option Addr} {sl4 : Array (Option Value)} {oc4 kV4 dc4 pm4 cd4 ct4 : Value}
    (a4 : PySem.W.nsIn K mainGlobals "_law_mix" = some (some (.ref f4)))
    (l4 : K.lookup f4 = some ⟨oc4, od4, .func (PySem.W.fnOf "_law_mix" "_law_mix" (defArgs s_law_mix) (defBody s_law_mix) (defScope s_law_mix) .none kV4 dc4 pm4 an4 cd4 ct4), sl4⟩)
    (c4 : PySem.W.codeIn K cd4 "_law_mix" = true)
    (k4 : PySem.W.keepIn K (.ref f4) = true)
    {f5 : Addr} {od5 an5 : Option Addr} {sl5 : Array (Option Value)} {oc5 kV5 dc5 pm5 cd5 ct5 : Value}
    (a5 : PySem.W.nsIn K mainGlobals "_law_hand" = some (some (.ref f5)))
    (l5 : K.lookup f5 = some ⟨oc5, od5, .func (PySem.W.fnOf "_law_hand" "_law_hand" (defArgs s_law_hand) (defBody s_law_hand) (defScope s_law_hand) .none kV5 dc5 pm5 an5 cd5 ct5), sl5⟩)
    (c5 : PySem.W.codeIn K cd5 "_law_hand" = true)
    (k5 : PySem.W.keepIn K (.ref f5) = true)
    {f6 : Addr} {od6 an6 : Option Addr} {sl6 : Array (Option Value)} {oc6 kV6 dc6 pm6 cd6 ct6 : Value}
    (a6 : PySem.W.nsIn K mainGlobals "_law_draw" = some (some (.ref f6)))
    (l6 : K.lookup f6 = some ⟨oc6, od6, .func (PySem.W.fnOf "_law_draw" "_law_draw" (defArgs s_law_draw) (defBody s_law_draw) (defScope s_law_draw) .none kV6 dc6 pm6 an6 cd6 ct6), sl6⟩)
    (c6 : PySem.W.codeIn K cd6 "_law_draw" = true)
    (k6 : PySem.W.keepIn K (.ref f6) = true)
    {f7 : Addr} {od7 an7 : Option Addr} {sl7 : Array (Option Value)} {oc7 kV7 dc7 pm7 cd7 ct7 : Value}
    (a7 : PySem.W.nsIn K mainGlobals "_law_exact" = some (some (.ref f7)))
    (l7 : K.lookup f7 = some ⟨oc7, od7, .func (PySem.W.fnOf "_law_exact" "_law_exact" (defArgs s_law_exact) (defBody s_law_exact) (defScope s_law_exact) .none kV7 dc7 pm7 an7 cd7 ct7), sl7⟩)
    (c7 : PySem.W.codeIn K cd7 "_law_exact" = true)
    (k7 : PySem.W.keepIn K (.ref f7) = true)
    {f8 : Addr} {od8 an8 : Option Addr} {sl8 : Array (Option Value)} {oc8 kV8 dc8 pm8 cd8 ct8 : Value}
    (a8 : PySem.W.nsIn K mainGlobals "_law_meets" = some (some (.ref f8)))
    (l8 : K.lookup f8 = some ⟨oc8, od8, .func (PySem.W.fnOf "_law_meets" "_law_meets" (defArgs s_law_meets) (defBody s_law_meets) (defScope s_law_meets) .none kV8 dc8 pm8 an8 cd8 ct8), sl8⟩)
    (c8 : PySem.W.codeIn K cd8 "_law_meets" = true)
    (k8 : PySem.W.keepIn K (.ref f8) = true)
    {f9 : Addr} {od9 an9 : Option Addr} {sl9 : Array (Option Value)} {oc9 kV9 dc9 pm9 cd9 ct9 : Value}
    (a9 : PySem.W.nsIn K mainGlobals "_law_drawn_names" = some (some (.ref f9)))
    (l9 : K.lookup f9 = some ⟨oc9, od9, .func (PySem.W.fnOf "_law_drawn_names" "_law_drawn_names" (defArgs s_law_drawn_names) (defBody s_law_drawn_names) (defScope s_law_drawn_names) .none kV9 dc9 pm9 an9 cd9 ct9), sl9⟩)
    (c9 : PySem.W.codeIn K cd9 "_law_drawn_names" = true)
    (k9 : PySem.W.keepIn K (.ref f9) = true)
    {f10 : Addr} {od10 an10 : Option Addr} {sl10 : Array (Option Value)} {oc10 kV10 dc10 pm10 cd10 ct10 : Value}
    (a10 : PySem.W.nsIn K mainGlobals "_law_some" = some (some (.ref f10)))
    (l10 : K.lookup f10 = some ⟨oc10, od10, .func (PySem.W.fnOf "_law_some" "_law_some" (defArgs s_law_some) (defBody s_law_some) (defScope s_law_some) .none kV10 dc10 pm10 an10 cd10 ct10), sl10⟩)
    (c10 : PySem.W.codeIn K cd10 "_law_some" = true)
    (k10 : PySem.W.keepIn K (.ref f10) = true)
    {f11 : Addr} {od11 an11 : Option Addr} {sl11 : Array (Option Value)} {oc11 kV11 dc11 pm11 cd11 ct11 : Value}
    (a11 : PySem.W.nsIn K mainGlobals "_law_least_met" = some (some (.ref f11)))
    (l11 : K.lookup f11 = some ⟨oc11, od11, .func (PySem.W.fnOf "_law_least_met" "_law_least_met" (defArgs s_law_least_met) (defBody s_law_least_met) (defScope s_law_least_met) .none kV11 dc11 pm11 an11 cd11 ct11), sl11⟩)
    (c11 : PySem.W.codeIn K cd11 "_law_least_met" = true)
    (k11 : PySem.W.keepIn K (.ref f11) = true)
    {f12 : Addr} {od12 an12 : Option Addr} {sl12 : Array (Option Value)} {oc12 kV12 dc12 pm12 cd12 ct12 : Value}
    (a12 : PySem.W.nsIn K mainGlobals "law" = some (some (.ref f12)))
    (l12 : K.lookup f12 = some ⟨oc12, od12, .func (PySem.W.fnOf "law" "law" (defArgs s_law) (defBody s_law) (defScope s_law) .none kV12 dc12 pm12 an12 cd12 ct12), sl12⟩)
    (c12 : PySem.W.codeIn K cd12 "law" = true)
    (k12 : PySem.W.keepIn K (.ref f12) = true)
    (pg_Run : PySem.W.plainGet K C_Run Str.empty = true)
    (hd_Run : PySem.W.hasDictIn K C_Run = true)
    (po_Run : PySem.W.plainOver K C_Run = true)
    (sa_Run : PySem.W.findIn K (.ref C_Run) "__setattr__" = some (some (.builtin "object.__setattr__")))
    (mk_Run : PySem.W.makesIn K C_Run = true)
    (kc_Run : PySem.W.keepIn K (.ref C_Run) = true)
    (nf_Run_cells : PySem.W.findIn K (.ref C_Run) "cells" = some none)
    (nf_Run_entries : PySem.W.findIn K (.ref C_Run) "entries" = some none)
    (nf_Run_marks : PySem.W.findIn K (.ref C_Run) "marks" = some none)
    (z_abs : PySem.W.nsIn K mainGlobals "abs" = some none)
    (z_bool : PySem.W.nsIn K mainGlobals "bool" = some none)
    (z_enumerate : PySem.W.nsIn K mainGlobals "enumerate" = some none)
    (z_int : PySem.W.nsIn K mainGlobals "int" = some none)
    (z_isinstance : PySem.W.nsIn K mainGlobals "isinstance" = some none)
    (z_len : PySem.W.nsIn K mainGlobals "len" = some none)
    (z_min : PySem.W.nsIn K mainGlobals "min" = some none)
    (z_range : PySem.W.nsIn K mainGlobals "range" = some none)
    (z_sorted : PySem.W.nsIn K mainGlobals "sorted" = some none)
    (z_str : PySem.W.nsIn K mainGlobals "str" = some none)
    (z_tuple : PySem.W.nsIn K mainGlobals "tuple" = some none)
    (k1_isFn : PySem.W.isFn K (.ref f1) = true) :
    ∃ fd : FuncData, (∀ (s : Shared) (v : Value), BindsTo s fd ⟨[v], []⟩ [("_law_script", v)]) ∧ ∀ base : Heap, K.In base → base.Ns mainGlobals mg → FnOk l.prog w K mg base (L2.CX l.prog w) 8 fa fd ["_law_script"] (spLaw K) := by
  have e := hfa.symm.trans (PySem.W.mg_of X G a12)
  cases e
  have Fn1 := funG_mk (st := s_Run___init__) (dvs := []) l1 c1 k1 (.inl ⟨rfl, rfl⟩)
  have b1 := FunD.bindsN (ps := ["self", "entries", "marks", "cells"]) Fn1 fun _ _ _ _ _ _ us hl => match us, hl with | [_, _, _, _], _ => rfl
  have Fn2 := funG_mk (st := s_meeting_of) (dvs := []) l2 c2 k2 (.inl ⟨rfl, rfl⟩)
  have b2 := FunD.bindsN (ps := ["one", "other"]) Fn2 fun _ _ _ _ _ _ us hl => match us, hl with | [_, _], _ => rfl
  have m2 := PySem.W.mg_of X G a2
  have Fn3 := funG_mk (st := s_meetings_in) (dvs := [.int 0]) l3 c3 k3 (.inr ⟨by simp, T3, _, [.int 0 t3_0], n3, rfl, T_3, rfl, (.cons ⟨_, rfl⟩ .nil)⟩)
  have bb3 := FunD.binds1 (ps := ["run", "begin"]) Fn3 2 1 (by simp) rfl fun _ _ _ _ _ _ _ us its hl hi => match us, its, hl, hi with | [_, _], [_], _, _ => ⟨_, rfl, rfl⟩
  obtain ⟨ds_3, h1_3, b3⟩ := bb3
  have h1_3 : Vals [] ds_3 := h1_3
  cases h1_3
  have bd3 := FunD.binds1 (ps := ["run", "begin"]) Fn3 1 0 (by simp) rfl fun _ _ _ _ _ _ _ us its hl hi => match us, its, hl, hi with | [_], [_], _, _ => ⟨_, rfl, rfl⟩
  have bk3 := funG_kb (ps := ["run", "begin"]) Fn3 1 ["begin"] (by simp) fun _ _ _ _ _ _ _ us its ws hl hi hw => match us, its, ws, hl, hi, hw with | [_], [_], [_], _, _, _ => ⟨_, rfl, rfl⟩
  have m3 := PySem.W.mg_of X G a3
  have Fn4 := funG_mk (st := s_law_mix) (dvs := []) l4 c4 k4 (.inl ⟨rfl, rfl⟩)
  have b4 := FunD.bindsN (ps := ["_law_number", "_law_turn"]) Fn4 fun _ _ _ _ _ _ us hl => match us, hl with | [_, _], _ => rfl
  have m4 := PySem.W.mg_of X G a4
  have Fn5 := funG_mk (st := s_law_hand) (dvs := []) l5 c5 k5 (.inl ⟨rfl, rfl⟩)
  have b5 := FunD.bindsN (ps := ["_law_script"]) Fn5 fun _ _ _ _ _ _ us hl => match us, hl with | [_], _ => rfl
  have m5 := PySem.W.mg_of X G a5
  have Fn6 := funG_mk (st := s_law_draw) (dvs := []) l6 c6 k6 (.inl ⟨rfl, rfl⟩)
  have b6 := FunD.bindsN (ps := ["_law_hand_here", "_law_many"]) Fn6 fun _ _ _ _ _ _ us hl => match us, hl with | [_, _], _ => rfl
  have m6 := PySem.W.mg_of X G a6
  have Fn7 := funG_mk (st := s_law_exact) (dvs := []) l7 c7 k7 (.inl ⟨rfl, rfl⟩)
  have b7 := FunD.bindsN (ps := ["_law_told", "_law_due"]) Fn7 fun _ _ _ _ _ _ us hl => match us, hl with | [_, _], _ => rfl
  have m7 := PySem.W.mg_of X G a7
  have Fn8 := funG_mk (st := s_law_meets) (dvs := []) l8 c8 k8 (.inl ⟨rfl, rfl⟩)
  have b8 := FunD.bindsN (ps := ["_law_reads", "_law_writes", "_law_others", "_law_written"]) Fn8 fun _ _ _ _ _ _ us hl => match us, hl with | [_, _, _, _], _ => rfl
  have m8 := PySem.W.mg_of X G a8
  have Fn9 := funG_mk (st := s_law_drawn_names) (dvs := []) l9 c9 k9 (.inl ⟨rfl, rfl⟩)
  have b9 := FunD.bindsN (ps := ["_law_hand_here"]) Fn9 fun _ _ _ _ _ _ us hl => match us, hl with | [_], _ => rfl
  have m9 := PySem.W.mg_of X G a9
  have Fn10 := funG_mk (st := s_law_some) (dvs := []) l10 c10 k10 (.inl ⟨rfl, rfl⟩)
  have b10 := FunD.bindsN (ps := ["_law_hand_here", "_law_names"]) Fn10 fun _ _ _ _ _ _ us hl => match us, hl with | [_, _], _ => rfl
  have m10 := PySem.W.mg_of X G a10
  have Fn11 := funG_mk (st := s_law_least_met) (dvs := []) l11 c11 k11 (.inl ⟨rfl, rfl⟩)
  have b11 := FunD.bindsN (ps := ["_law_one", "_law_other"]) Fn11 fun _ _ _ _ _ _ us hl => match us, hl with | [_, _], _ => rfl
  have m11 := PySem.W.mg_of X G a11
  have Fn12 := funG_mk (st := s_law) (dvs := []) l12 c12 k12 (.inl ⟨rfl, rfl⟩)
  have b12 := FunD.bindsN (ps := ["_law_script"]) Fn12 fun _ _ _ _ _ _ us hl => match us, hl with | [_], _ => rfl
  have T : Txt K mg ⟨(), C_Run⟩ := ⟨trivial, PySem.W.mg_none_of X G z_abs, PySem.W.mg_none_of X G z_bool, PySem.W.mg_none_of X G z_enumerate, PySem.W.mg_none_of X G z_int, PySem.W.mg_none_of X G z_isinstance, PySem.W.mg_none_of X G z_len, PySem.W.mg_none_of X G z_min, PySem.W.mg_none_of X G z_range, PySem.W.mg_none_of X G z_sorted, PySem.W.mg_none_of X G z_str, PySem.W.mg_none_of X G z_tuple, ⟨pg_Run, hd_Run, po_Run, sa_Run⟩, nf_Run_cells, nf_Run_entries, nf_Run_marks⟩
  refine ⟨_, fun s v => FunD.bindsA (ps := ["_law_script"]) Fn12 (fun _ _ _ _ _ _ us hl => match us, hl with | [_], _ => rfl) s [v] rfl, fun base _ _ => ?_⟩
  have F_Run___init__ := fn_Run___init__ (P := l.prog) (w := w) (base := base) Fn1 T
  have X_Run : MX l.prog w K mg base 1 "Run" C_Run 3 (mf_Run___init__ ⟨(), C_Run⟩) := ⟨_, _, _, PySem.W.mg_of X G aC_Run, ⟨mk_Run, a1, k1_isFn, kc_Run⟩, b1, F_Run___init__⟩
  have F_meeting_of := fn_meeting_of (P := l.prog) (w := w) (base := base) Fn2 T
  have X_meeting_of : FX l.prog w K mg base 1 "meeting_of" _ (mf_meeting_of ⟨(), C_Run⟩) := ⟨_, _, m2, Fn2.kp, b2, F_meeting_of⟩
  have F_meetings_in := fn_meetings_in (P := l.prog) (w := w) (base := base) Fn3 T X_meeting_of
  have X_meetings_in : FX l.prog w K mg base 2 "meetings_in" _ (mf_meetings_in ⟨(), C_Run⟩) := ⟨_, _, m3, Fn3.kp, b3, F_meetings_in⟩
  have XD_meetings_in : FXD l.prog w K mg base 2 "meetings_in" 1 [.int 0] (mf_meetings_in ⟨(), C_Run⟩) := by
    obtain ⟨ds, h1, h2⟩ := bd3
    exact ⟨_, _, _, _, ds, m3, Fn3.kp, h2, h1, fun H => (.cons (.int _) .nil), F_meetings_in⟩
  have XK_meetings_in : FXK l.prog w K mg base 2 "meetings_in" 1 ["begin"] (mf_meetings_in ⟨(), C_Run⟩) := ⟨_, _, _, _, m3, Fn3.kp, bk3, F_meetings_in⟩
  have F_law_mix := fn_law_mix (P := l.prog) (w := w) (base := base) Fn4 T
  have X_law_mix : FX l.prog w K mg base 1 "_law_mix" _ (mf_law_mix ⟨(), C_Run⟩) := ⟨_, _, m4, Fn4.kp, b4, F_law_mix⟩
  have F_law_hand := fn_law_hand (P := l.prog) (w := w) (base := base) Fn5 T
  have X_law_hand : FX l.prog w K mg base 1 "_law_hand" _ (mf_law_hand ⟨(), C_Run⟩) := ⟨_, _, m5, Fn5.kp, b5, F_law_hand⟩
  have F_law_draw := fn_law_draw (P := l.prog) (w := w) (base := base) Fn6 T X_law_mix
  have X_law_draw : FX l.prog w K mg base 2 "_law_draw" _ (mf_law_draw ⟨(), C_Run⟩) := ⟨_, _, m6, Fn6.kp, b6, F_law_draw⟩
  have X_law_exact := fx_law_exact (P := l.prog) (w := w) (base := base) Fn7 m7 b7 T 6
  have F_law_meets := fn_law_meets (P := l.prog) (w := w) (base := base) Fn8 T
  have X_law_meets : FX l.prog w K mg base 1 "_law_meets" _ (mf_law_meets ⟨(), C_Run⟩) := ⟨_, _, m8, Fn8.kp, b8, F_law_meets⟩
  have F_law_drawn_names := fn_law_drawn_names (P := l.prog) (w := w) (base := base) Fn9 T X_law_draw
  have X_law_drawn_names : FX l.prog w K mg base 3 "_law_drawn_names" _ (mf_law_drawn_names ⟨(), C_Run⟩) := ⟨_, _, m9, Fn9.kp, b9, F_law_drawn_names⟩
  have F_law_some := fn_law_some (P := l.prog) (w := w) (base := base) Fn10 T X_law_draw
  have X_law_some : FX l.prog w K mg base 3 "_law_some" _ (mf_law_some ⟨(), C_Run⟩) := ⟨_, _, m10, Fn10.kp, b10, F_law_some⟩
  have F_law_least_met := fn_law_least_met (P := l.prog) (w := w) (base := base) Fn11 T X_law_meets
  have X_law_least_met : FX l.prog w K mg base 2 "_law_least_met" _ (mf_law_least_met ⟨(), C_Run⟩) := ⟨_, _, m11, Fn11.kp, b11, F_law_least_met⟩
  have F_law := fn_law (P := l.prog) (w := w) (base := base) Fn12 T X_law_hand X_law_drawn_names X_law_draw X_law_some X_Run X_law_least_met X_law_exact X_meeting_of X_meetings_in XD_meetings_in XK_meetings_in
  exact F_law.imp (sp_of (law_true ⟨(), C_Run⟩))
theorem walk {l : PySem.W.OpenLaw} {q : Program} {loose : List Str} {XP : (Str → Option Value) → Heap → Prop} {YP : World → Heap → Prop} {d : DefRec} {K : Params → PySem.W.Frag} (hn : l.most = some 63) (hdf : d.params.defaults = [])
    (hY : ∀ (w : World) (h : Heap), YP w h → (K w.params).In h)
    (F : ∀ (w : World) (mg : Str → Option Value) (fa : Addr) (h : Heap), (K w.params).In h → h.Ns mainGlobals mg → mg d.name = some (.ref fa) →
      ∃ fd : FuncData, (∀ (s : Shared) (u : Value), BindsTo s fd ⟨[u], []⟩ [("_law_script", u)]) ∧ ∀ base : Heap, (K w.params).In base → base.Ns mainGlobals mg → FnOk l.prog w (K w.params) mg base (L2.CX l.prog w) 8 fa fd ["_law_script"] (spLaw (K w.params))) :
    PySem.W.WalkO q loose XP YP l.row.toRowW d [] (fun f vs => PySem.call f vs) :=
  L2.walk_of (n := 63) (k := 8) (x := "_law_script") (CX := fun w => L2.CX l.prog w) (sp := fun w => spLaw (K w.params)) hn (by decide) hdf ⟨rfl, by decide, by decide⟩ hY F (fun _ _ a ns hl hO hS => ⟨a, ns, rfl, frz_of hO hS, hl, fun _ => rfl⟩) fun _ _ _ _ _ z => by
    obtain ⟨_, _, _, _, _, _, _, _, _, _, _, _, z⟩ := z
    exact z
end K18
open PySem PySem.W PyProof.Rows
set_option maxRecDepth 100000 in
set_option maxHeartbeats 0 in
theorem PySem.Challenge.cw_unmetcells_k18_whole_meetings_of_marks_holds : PySem.Challenge.rw_unmetcells_k18_whole_meetings_of_marks.Holds := by
  w_on; o_law; k_head; (case hw => w_witness2)
  k_fill
  refine K18.walk (l := PySem.Challenge.rw_unmetcells_k18_whole_meetings_of_marks) rfl rfl (fun w h Y => PySem.W.kIn_of Y) ?F
  case F =>
    intro w mg fa h KX G hmg
    refine' K18.all_mk KX G hmg ?aC_Run ?a1 ?l1 ?c1 ?k1 ?a2 ?l2 ?c2 ?k2 ?a3 ?l3 ?c3 ?k3 ?T_3 ?a4 ?l4 ?c4 ?k4 ?a5 ?l5 ?c5 ?k5 ?a6 ?l6 ?c6 ?k6 ?a7 ?l7 ?c7 ?k7 ?a8 ?l8 ?c8 ?k8 ?a9 ?l9 ?c9 ?k9 ?a10 ?l10 ?c10 ?k10 ?a11 ?l11 ?c11 ?k11 ?a12 ?l12 ?c12 ?k12 ?pg_Run ?hd_Run ?po_Run ?sa_Run ?mk_Run ?kc_Run ?nf_Run_cells ?nf_Run_entries ?nf_Run_marks ?z_abs ?z_bool ?z_enumerate ?z_int ?z_isinstance ?z_len ?z_min ?z_range ?z_sorted ?z_str ?z_tuple ?k1_isFn
    (case aC_Run => k_is)
    (case a1 => k_is)
    (case l1 => k_is)
    (case c1 => k_is)
    (case k1 => k_is)
    (case a2 => k_is)
    (case l2 => k_is)
    (case c2 => k_is)
    (case k2 => k_is)
    (case a3 => k_is)
    (case l3 => k_is)
    (case c3 => k_is)
    (case k3 => k_is)
    (case T_3 => k_is)
    (case a4 => k_is)
    (case l4 => k_is)
    (case c4 => k_is)
    (case k4 => k_is)
    (case a5 => k_is)
    (case l5 => k_is)
    (case c5 => k_is)
    (case k5 => k_is)
    (case a6 => k_is)
    (case l6 => k_is)
    (case c6 => k_is)
    (case k6 => k_is)
    (case a7 => k_is)
    (case l7 => k_is)
    (case c7 => k_is)
    (case k7 => k_is)
    (case a8 => k_is)
    (case l8 => k_is)
    (case c8 => k_is)
    (case k8 => k_is)
    (case a9 => k_is)
    (case l9 => k_is)
    (case c9 => k_is)
    (case k9 => k_is)
    (case a10 => k_is)
    (case l10 => k_is)
    (case c10 => k_is)
    (case k10 => k_is)
    (case a11 => k_is)
    (case l11 => k_is)
    (case c11 => k_is)
    (case k11 => k_is)
    (case a12 => k_is)
    (case l12 => k_is)
    (case c12 => k_is)
    (case k12 => k_is)
    (case pg_Run => k_is)
    (case hd_Run => k_is)
    (case po_Run => k_is)
    (case sa_Run => k_is)
    (case mk_Run => k_is)
    (case kc_Run => k_is)
    (case nf_Run_cells => k_is)
    (case nf_Run_entries => k_is)
    (case nf_Run_marks => k_is)
    (case z_abs => k_is)
    (case z_bool => k_is)
    (case z_enumerate => k_is)
    (case z_int => k_is)
    (case z_isinstance => k_is)
    (case z_len => k_is)
    (case z_min => k_is)
    (case z_range => k_is)
    (case z_sorted => k_is)
    (case z_str => k_is)
    (case z_tuple => k_is)
    (case k1_isFn => k_is)
