import PyProof.Rows.All
import Wide.All
import OpenK.AllK
import Wide.FinOn
import HandS.ForExc
import HandS.Comp
import HandS.Text
import HandS.Deep
import HandS.Lambda
import HandS.Star
import HandS.Defaults
import HandS.HeadHook1
import HandS.HeadHook2
import HandS.HeadHook3
import HandS.HeadHook4
import HandS.TupAny
import HandS.TupMul
import HandS.StrMore
import HandS.IsInst
import HandS.RaiseMore
import HandS.Replace
import HandS.Iter
import HandS.NoneIn
import HandS.WordsExc
import HandS.Small
import KE.GoesMore
import HandS.ExcInit
import HandS.Nested
import HandS.ClsMeth
import KE.KExcSuper
import HandS.Dict
import KE.KExcIs
import HandS.ExcField
import HandS.ExcIs
import HandS.HeadWalk
import HandS.EndTab
import PySem.Challenge.RW_shieldforms_k16_texts_refused
import HandS.Head0
import HandS.Head1
import HandS.Head2
import HandS.HeadEnd
set_option Elab.async false
set_option linter.all false
set_option maxRecDepth 100000
set_option maxHeartbeats 0
/-! DI0: data trees, the store, what they stand for, readings by an interpreter -/
namespace DI
open PySem PySem.Spec PyProof.Rows L2

/-- data trees -/
inductive D where
  | non | bl (b : Bool) | int (i : Int) | str (s : List Nat)
  | lst (xs : List D) | tup (xs : List D) | fls (xs : List D)
  | dic (ks vs : List D)
  | obj (i : Nat) | fn (x : Str)
  | clo (k : Nat) (cap : List D)

/-- objects that are shared and changed -/
inductive DObj where
  | lst (xs : List D) | ins (C : Str) (fs : List (Str × D))
abbrev Store := List DObj
/-- what a slot holds: shared data, or a list | dict that this def alone holds -/
inductive Slot where
  | sh (d : D) | ow (d : D) | exc (c : Str) (fs : List (Str × D))
abbrev DEnv := List (Option Slot)
inductive Res (α : Type) where
  | ok (a : α) (st : Store) | ex (c : Str) (fs : List (Str × D)) (st : Store) | stuck

mutual
inductive Rep (K : PySem.W.Frag) (G : Hp) (m : List Addr) : V → D → Prop
  | non : Rep K G m .non .non
  | bl (b : Bool) : Rep K G m (.bl b) (.bl b)
  | int (i : Int) : Rep K G m (.int i) (.int i)
  | str (s : List Nat) : s.all (· < 0x110000) = true → Rep K G m (.str ⟨s.toArray⟩) (.str s)
  | lst {a : Addr} {vs : List V} {ds : List D} : G a = some (.lst vs) → RepAll K G m vs ds → Rep K G m (.ref a) (.lst ds)
  | fls {a : Addr} {vs : List V} {ds : List D} : SqL K G a vs → RepAll K G m vs ds → Rep K G m (.ref a) (.fls ds)
  | tup {a : Addr} {vs : List V} {ds : List D} : SqT K G a vs → RepAll K G m vs ds → Rep K G m (.ref a) (.tup ds)
  | obj {a : Addr} {i : Nat} : m[i]? = some a → Rep K G m (.ref a) (.obj i)
  | fn (x : Str) : Rep K G m (.ref (He.ga K x)) (.fn x)
inductive RepAll (K : PySem.W.Frag) (G : Hp) (m : List Addr) : List V → List D → Prop
  | nil : RepAll K G m [] []
  | cons {v : V} {vs : List V} {d : D} {ds : List D} : Rep K G m v d → RepAll K G m vs ds → RepAll K G m (v :: vs) (d :: ds)
end

/-- a proper object: no table -/
def Pr (H : Hp) (a : Addr) : Prop := ∃ o, H a = some o ∧ ∀ ps, o ≠ .tbl ps
theorem npr {H : Hp} {a : Addr} (h : H a = none) : ¬ Pr H a := fun ⟨o, e, _⟩ => by rw [h] at e; cases e
theorem pr_lst {H : Hp} {a : Addr} {vs : List V} (h : H a = some (.lst vs)) : Pr H a := ⟨_, h, fun _ z => by cases z⟩
structure Ext (G : Hp) (m : List Addr) (H : Hp) (G' : Hp) (m' : List Addr) (H' : Hp) : Prop where
  gg : Same G G'
  hh : ∀ a o, H a = some o → a ∉ m → (∀ ps, o ≠ .tbl ps) → H' a = some o
  th : ∀ a, Pr H a → Pr H' a
  new : ∀ a, Pr H a → G' a = G a
  mm : ∃ t, m' = m ++ t
  mn : ∀ a, a ∈ m' → a ∈ m ∨ ¬ Pr H a

section
variable {K : PySem.W.Frag} {G G' G'' H H' H'' : Hp} {m m' m'' : List Addr}
theorem SqLm {a : Addr} {xs : List V} (e : Same G G') (h : SqL K G a xs) : SqL K G' a xs := e.seq h
theorem SqTm {a : Addr} {xs : List V} (e : Same G G') (h : SqT K G a xs) : SqT K G' a xs := by
  rcases h with (h | ⟨o, h⟩) | h
  · exact .inl (.inl (e _ _ h))
  · exact .inl (.inr ⟨o, e _ _ h⟩)
  · exact .inr h
theorem getm {i : Nat} {a : Addr} (h : m[i]? = some a) (e : ∃ t, m' = m ++ t) : m'[i]? = some a := by
  obtain ⟨t, rfl⟩ := e
  have hl := (List.getElem?_eq_some_iff.mp h).1
  rw [List.getElem?_append_left hl]; exact h
mutual
theorem Rep.mono (e : Same G G') (em : ∃ t, m' = m ++ t) : ∀ {v : V} {d : D}, Rep K G m v d → Rep K G' m' v d
  | _, _, .non => .non
  | _, _, .bl b => .bl b
  | _, _, .int b => .int b
  | _, _, .str b h => .str b h
  | _, _, .lst h1 h2 => .lst (e _ _ h1) (RepAll.mono e em h2)
  | _, _, .fls h1 h2 => .fls (SqLm e h1) (RepAll.mono e em h2)
  | _, _, .tup h1 h2 => .tup (SqTm e h1) (RepAll.mono e em h2)
  | _, _, .obj h => .obj (getm h em)
  | _, _, .fn x => .fn x
theorem RepAll.mono (e : Same G G') (em : ∃ t, m' = m ++ t) : ∀ {vs : List V} {ds : List D}, RepAll K G m vs ds → RepAll K G' m' vs ds
  | _, _, .nil => .nil
  | _, _, .cons h1 h2 => .cons (Rep.mono e em h1) (RepAll.mono e em h2)
end
theorem Rep.ext {v : V} {d : D} (r : Rep K G m v d) (e : Ext G m H G' m' H') : Rep K G' m' v d := r.mono e.gg e.mm
theorem RepAll.ext {v : List V} {d : List D} (r : RepAll K G m v d) (e : Ext G m H G' m' H') : RepAll K G' m' v d := r.mono e.gg e.mm
theorem RepAll.length : ∀ {vs : List V} {ds : List D}, RepAll K G m vs ds → vs.length = ds.length
  | _, _, .nil => rfl
  | _, _, .cons _ t => by simp [RepAll.length t]
theorem RepAll.append : ∀ {vs ws : List V} {ds es : List D}, RepAll K G m vs ds → RepAll K G m ws es → RepAll K G m (vs ++ ws) (ds ++ es)
  | _, _, _, _, .nil, s => s
  | _, _, _, _, .cons r t, s => .cons r (RepAll.append t s)
theorem RepAll.get : ∀ {vs : List V} {ds : List D} {i : Nat} {d : D}, RepAll K G m vs ds → ds[i]? = some d → ∃ v, vs[i]? = some v ∧ Rep K G m v d
  | _, _, _, _, .nil, h => by simp at h
  | _, _, 0, _, .cons r _, h => by simp at h; subst h; exact ⟨_, rfl, r⟩
  | _, _, i + 1, _, .cons _ t, h => by
    obtain ⟨v, e, r⟩ := RepAll.get (i := i) t (by simpa using h)
    exact ⟨v, by simpa using e, r⟩
theorem RepAll.take (n : Nat) : ∀ {vs : List V} {ds : List D}, RepAll K G m vs ds → RepAll K G m (vs.take n) (ds.take n) := by
  induction n with
  | zero => intro vs ds _; simp; exact .nil
  | succ n ih =>
    intro vs ds h
    cases h with
    | nil => simp; exact .nil
    | cons r t => simp; exact .cons r (ih t)
theorem RepAll.drop (n : Nat) : ∀ {vs : List V} {ds : List D}, RepAll K G m vs ds → RepAll K G m (vs.drop n) (ds.drop n) := by
  induction n with
  | zero => intro vs ds h; simpa using h
  | succ n ih =>
    intro vs ds h
    cases h with
    | nil => simp; exact .nil
    | cons r t => simp; exact ih t
theorem RepAll.set {v : V} {d : D} (r : Rep K G m v d) (n : Nat) : ∀ {vs : List V} {ds : List D}, RepAll K G m vs ds → RepAll K G m (vs.set n v) (ds.set n d) := by
  induction n with
  | zero =>
    intro vs ds h
    cases h with
    | nil => exact .nil
    | cons r' t => exact .cons r t
  | succ n ih =>
    intro vs ds h
    cases h with
    | nil => exact .nil
    | cons r' t => exact .cons r' (ih t)
theorem RepAll.eraseIdx (n : Nat) : ∀ {vs : List V} {ds : List D}, RepAll K G m vs ds → RepAll K G m (vs.eraseIdx n) (ds.eraseIdx n) := by
  induction n with
  | zero =>
    intro vs ds h
    cases h with
    | nil => exact .nil
    | cons r' t => exact t
  | succ n ih =>
    intro vs ds h
    cases h with
    | nil => exact .nil
    | cons r' t => exact .cons r' (ih t)

theorem same_upd' {H : Hp} {p : Addr} {o : HO} (h : H p = none) : Same H (upd H p o) := fun b x e => by
  rw [upd_ne (ne_of_none e h)]
  exact e
theorem Ext.refl (g : Same G H) : Ext G m H G m H := ⟨Same.refl G, fun _ _ h _ _ => h, fun _ h => h, fun _ _ => rfl, ⟨[], by simp⟩, fun _ h => .inl h⟩
theorem Ext.trans (a : Ext G m H G' m' H') (b : Ext G' m' H' G'' m'' H'') : Ext G m H G'' m'' H'' where
  gg := a.gg.trans b.gg
  hh := fun x o h n t => by
    have hm : x ∉ m' := fun z => by
      rcases a.mn x z with q | q
      · exact n q
      · exact q ⟨o, h, t⟩
    exact b.hh x o (a.hh x o h n t) hm t
  th := fun x h => b.th x (a.th x h)
  new := fun x h => (b.new x (a.th x h)).trans (a.new x h)
  mm := by
    obtain ⟨t, rfl⟩ := a.mm
    obtain ⟨u, rfl⟩ := b.mm
    exact ⟨t ++ u, by simp⟩
  mn := fun x h => by
    rcases b.mn x h with q | q
    · exact a.mn x q
    · exact .inr fun z => q (a.th x z)
end

/-- the exception that a suite holds: where it is, its dict, its class -/
structure Xe where
  a : Addr := 0
  d : Option Addr := none
  c : Value := .none
/-! ### own lists, objects, slots -/
section
variable (K : PySem.W.Frag) (G : Hp) (m : List Addr) (H : Hp)
def OwnAt (a : Addr) : D → Prop
  | .lst ds => G a = none ∧ a ∉ m ∧ ∃ vs, H a = some (.lst vs) ∧ RepAll K G m vs ds
  | _ => False
def ObjAt (a : Addr) : DObj → Prop
  | .lst ds => G a = none ∧ ∃ vs, H a = some (.lst vs) ∧ RepAll K G m vs ds
  | .ins C fs => G a = none ∧ ∃ dx fvs, H a = some (.ins (He.ga K C) dx fvs) ∧ G dx = none ∧ dx ∉ m ∧ H dx = some (.own a) ∧ fvs.map (·.1) = fs.map (·.1) ∧ RepAll K G m (fvs.map (·.2)) (fs.map (·.2))
/-- an exception's fields, dd its dict -/
def XcAt (fs : List (Str × D)) (dd : Option Addr) : Prop := (fs = [] ∧ dd = none) ∨ ∃ dx fvs, dd = some dx ∧ dx ∉ m ∧ H dx = some (.xd fvs) ∧ fvs.map (·.1) = fs.map (·.1) ∧ RepAll K G m (fvs.map (·.2)) (fs.map (·.2))
def SlotAt (x : Xe) (v : Option V) : Slot → Prop
  | .sh d => ∃ x, v = some x ∧ Rep K G m x d
  | .ow d => ∃ a, v = some (.ref a) ∧ OwnAt K G m H a d
  | .exc c fs => v = some (.ref x.a) ∧ x.c = .ref (He.ga K c) ∧ XcAt K G m H fs x.d
end
/-- the world: what is frozen (G), the store's objects (m), the abstract heap (H) -/
structure W0 (T : List (Addr × Str)) (K : PySem.W.Frag) (st : Store) (G : Hp) (m : List Addr) (H : Hp) : Prop where
  gh : Same G H
  nt : ∀ a ps, G a ≠ some (.tbl ps)
  len : m.length = st.length
  nd : m.Nodup
  store : ∀ (i : Nat) (o : DObj) (a : Addr), st[i]? = some o → m[i]? = some a → ObjAt K G m H a o
  tabs : LamX.Tabs T H
/-- the world at a def's entry -/
structure Bs where
  G : Hp
  m : List Addr
  H : Hp
  x : Xe := {}
structure Rel (B : Bs) (T : List (Addr × Str)) (K : PySem.W.Frag) (env : DEnv) (st : Store) (G : Hp) (m : List Addr) (σ : L2.St) (H : Hp) : Prop where
  w : W0 T K st G m H
  base : Ext B.G B.m B.H G m H
  slot : ∀ (i : Nat) (s : Slot), env[i]? = some (some s) → ∃ v : Option V, (σ : List (Option V))[i]? = some v ∧ SlotAt K G m H B.x v s
  sep : ∀ (i j : Nat) (d e : D) (a : Addr), env[i]? = some (some (.ow d)) → env[j]? = some (some (.ow e)) → (σ : List (Option V))[i]? = some (some (.ref a)) → (σ : List (Option V))[j]? = some (some (.ref a)) → i = j
  own : ∀ (i : Nat) (d : D) (a : Addr), env[i]? = some (some (.ow d)) → (σ : List (Option V))[i]? = some (some (.ref a)) → ¬ Pr B.H a
  len : env.length = (σ : List (Option V)).length

section
variable {B : Bs} {T : List (Addr × Str)} {K : PySem.W.Frag} {env : DEnv} {st st' : Store} {G G' H H' : Hp} {m m' : List Addr} {σ : L2.St}
theorem OwnAt.ext {a : Addr} {d : D} (o : OwnAt K G m H a d) (e : Ext G m H G' m' H') : OwnAt K G' m' H' a d := by
  cases d with
  | lst ds =>
    obtain ⟨g, n, vs, h, r⟩ := o
    refine ⟨(e.new a (pr_lst h)).trans g, fun z => ?_, vs, e.hh a _ h n (by intro ps q; cases q), r.ext e⟩
    rcases e.mn a z with q | q
    · exact n q
    · exact q (pr_lst h)
  | _ => exact False.elim o
theorem XcAt.ext {fs : List (Str × D)} {dd : Option Addr} (o : XcAt K G m H fs dd) (e : Ext G m H G' m' H') : XcAt K G' m' H' fs dd := by
  rcases o with o | ⟨dx, fvs, h1, h2, h3, h4, h5⟩
  · exact .inl o
  · refine .inr ⟨dx, fvs, h1, fun z => ?_, e.hh dx _ h3 h2 (fun ps q => by cases q), h4, h5.ext e⟩
    rcases e.mn dx z with q | q
    · exact h2 q
    · exact q ⟨_, h3, fun ps q => by cases q⟩
theorem SlotAt.ext {x : Xe} {v : Option V} {s : Slot} (o : SlotAt K G m H x v s) (e : Ext G m H G' m' H') : SlotAt K G' m' H' x v s := by
  cases s with
  | exc c fs => obtain ⟨h, h2, x⟩ := o; exact ⟨h, h2, x.ext e⟩
  | sh d => obtain ⟨x, h, r⟩ := o; exact ⟨x, h, r.ext e⟩
  | ow d => obtain ⟨a, h, r⟩ := o; exact ⟨a, h, r.ext e⟩
/-- the slots stay -/
theorem Rel.ext (R : Rel B T K env st G m σ H) (e : Ext G m H G' m' H') (w : W0 T K st' G' m' H') : Rel B T K env st' G' m' σ H' :=
  ⟨w, R.base.trans e, fun i s h => by
    obtain ⟨v, h1, h2⟩ := R.slot i s h
    exact ⟨v, h1, h2.ext e⟩, R.sep, R.own, R.len⟩
/-- nothing changed but what is new -/
structure PExt (G H G' H' : Hp) : Prop where
  gg : Same G G'
  hh : Same H H'
  gh : Same G' H'
  new : ∀ a, H a ≠ none → G' a = G a
  nt : ∀ a ps, G' a = some (.tbl ps) → G a = some (.tbl ps)
theorem PExt.refl (g : Same G H) : PExt G H G H := ⟨Same.refl _, Same.refl _, g, fun _ _ => rfl, fun _ _ h => h⟩
theorem PExt.trans {G'' H'' : Hp} (a : PExt G H G' H') (b : PExt G' H' G'' H'') : PExt G H G'' H'' :=
  ⟨a.gg.trans b.gg, a.hh.trans b.hh, b.gh, fun x h => by
    have h' : H' x ≠ none := by
      cases e : H x with
      | none => exact absurd e h
      | some o => rw [a.hh x o e]; simp
    exact (b.new x h').trans (a.new x h), fun x ps h => a.nt x ps (b.nt x ps h)⟩
theorem PExt.ext (e : PExt G H G' H') : Ext G m H G' m H' :=
  ⟨e.gg, fun a o h _ _ => e.hh a o h, fun a ⟨o, h, t⟩ => ⟨o, e.hh a o h, t⟩, fun a ⟨o, h, _⟩ => e.new a (by rw [h]; simp), ⟨[], by simp⟩, fun _ h => .inl h⟩
theorem ObjAt.pext {a : Addr} {o : DObj} (x : ObjAt K G m H a o) (e : PExt G H G' H') : ObjAt K G' m H' a o := by
  cases o with
  | lst ds =>
    obtain ⟨g, vs, h, r⟩ := x
    exact ⟨(e.new a (by rw [h]; simp)).trans g, vs, e.hh a _ h, r.ext (e.ext (m := m))⟩
  | ins C fs =>
    obtain ⟨g, dx, fvs, h, g2, n2, h2, h3, r⟩ := x
    exact ⟨(e.new a (by rw [h]; simp)).trans g, dx, fvs, e.hh a _ h, (e.new dx (by rw [h2]; simp)).trans g2, n2, e.hh _ _ h2, h3, r.ext (e.ext (m := m))⟩
theorem W0.pext (w : W0 T K st G m H) (e : PExt G H G' H') : W0 T K st G' m H' :=
  ⟨e.gh, fun a ps h => w.nt a ps (e.nt a ps h), w.len, w.nd, fun i o a h1 h2 => (w.store i o a h1 h2).pext e, w.tabs.ext e.hh⟩
theorem Rel.pext (R : Rel B T K env st G m σ H) (e : PExt G H G' H') : Rel B T K env st G' m σ H' := R.ext (e.ext) (R.w.pext e)
/-- a new object, frozen -/
theorem PExt.fresh {p : Addr} {o : HO} (g : Same G H) (hp : H p = none) (nt : ∀ ps, o ≠ .tbl ps) : PExt G H (upd G p o) (upd H p o) := by
  have gp : G p = none := g.free hp
  refine ⟨same_upd' gp, same_upd' hp, fun a u h => ?_, fun a h => ?_, fun a ps h => ?_⟩
  · by_cases e : a = p
    · subst e; rw [upd_same] at h ⊢; exact h
    · rw [upd_ne e] at h ⊢; exact g a u h
  · rw [upd_ne (fun z => h (by rw [z]; exact hp))]
  · by_cases e : a = p
    · subst e; rw [upd_same] at h; exact absurd (Option.some.inj h) (nt ps)
    · rw [upd_ne e] at h; exact h
/-- a new object, not frozen -/
theorem PExt.own {p : Addr} {o : HO} (g : Same G H) (hp : H p = none) : PExt G H G (upd H p o) :=
  ⟨Same.refl _, same_upd' hp, g.trans (same_upd' hp), fun _ _ => rfl, fun _ _ h => h⟩
end
end DI


/-! DI1: what is behind an evaluation; the readings; data as the library's data -/
namespace DI
open PySem PySem.Spec PyProof.Rows L2

structure Ct where
  B : Bs
  T : List (Addr × Str)
  K : PySem.W.Frag
  W : XK
/-- an exception, by its class and fields -/
def ExAt (K : PySem.W.Frag) (G : Hp) (m : List Addr) (H : Hp) (c : Str) (fs : List (Str × D)) (cls : Value) (dd : Option Addr) : Prop :=
  cls = .ref (He.ga K c) ∧ XcAt K G m H fs dd

def Res.bind {α β : Type} (r : Res α) (k : α → Store → Res β) : Res β := match r with
  | .ok a st => k a st
  | .ex c fs st => .ex c fs st
  | .stuck => .stuck
/-- an answer that may not be there -/
def Res.opt {α : Type} (o : Option α) (st : Store) : Res α := match o with
  | some a => .ok a st
  | none => .stuck

abbrev Aq (α : Type) := α → Store → Hp → List Addr → Hp → Prop
def Aft {α : Type} (C : Ct) (env : DEnv) (σ : L2.St) (G : Hp) (m : List Addr) (H : Hp) (r : Res α) (Q : Aq α) : Prop := match r with
  | .ok d st' => ∀ G' m' H', Ext G m H G' m' H' → Rel C.B C.T C.K env st' G' m' σ H' → Q d st' G' m' H'
  | .ex c fs st' => ∀ G' m' H' cls dd, Ext G m H G' m' H' → Rel C.B C.T C.K env st' G' m' σ H' → ExAt C.K G' m' H' c fs cls dd → C.W cls dd H'
  | .stuck => False
section
variable {α β : Type} {C : Ct} {env : DEnv} {σ : L2.St} {G G' H H' : Hp} {m m' : List Addr} {r : Res α} {Q Q' : Aq α}
theorem Aft.frm (h : Aft C env σ G m H r Q) (e : Ext G m H G' m' H') : Aft C env σ G' m' H' r Q := by
  cases r with
  | ok d st => exact fun G2 m2 H2 e2 R => h G2 m2 H2 (e.trans e2) R
  | ex c fs st => exact fun G2 m2 H2 cls dd e2 R => h G2 m2 H2 cls dd (e.trans e2) R
  | stuck => exact h
theorem Aft.imp (h : Aft C env σ G m H r Q) (i : ∀ d st' G' m' H', Ext G m H G' m' H' → Rel C.B C.T C.K env st' G' m' σ H' → Q d st' G' m' H' → Q' d st' G' m' H') : Aft C env σ G m H r Q' := by
  cases r with
  | ok d st => exact fun G2 m2 H2 e2 R => i _ _ _ _ _ e2 R (h G2 m2 H2 e2 R)
  | ex c fs st => exact h
  | stuck => exact h
theorem Aft.bind {k : α → Store → Res β} {Q : Aq β} (h : Aft C env σ G m H (r.bind k) Q) : Aft C env σ G m H r fun d st' G' m' H' => Aft C env σ G' m' H' (k d st') Q := by
  cases r with
  | ok d st => exact fun G2 m2 H2 e2 R => Aft.frm (show Aft C env σ G m H (k d st) Q from h) e2
  | ex c fs st => exact h
  | stuck => exact h
theorem Aft.pure {d : α} {st : Store} (h : Aft C env σ G m H (.ok d st) Q) (R : Rel C.B C.T C.K env st G m σ H) (e : PExt G H G' H') : Q d st G' m H' :=
  h G' m H' e.ext (R.pext e)
theorem Aft.here {d : α} {st : Store} (h : Aft C env σ G m H (.ok d st) Q) (R : Rel C.B C.T C.K env st G m σ H) : Q d st G m H := h.pure R (PExt.refl R.w.gh)
theorem Aft.opt {o : Option α} {st : Store} (h : Aft C env σ G m H (Res.opt o st) Q) : ∃ d, o = some d ∧ Aft C env σ G m H (.ok d st) Q := by
  cases o with
  | none => exact h.elim
  | some d => exact ⟨d, rfl, h⟩
end

abbrev DF := DEnv → Store → Res D
/-- frozen, or this def's own -/
def RepB (K : PySem.W.Frag) (G : Hp) (m : List Addr) (H : Hp) (v : V) (d : D) : Prop := Rep K G m v d ∨ ∃ a, v = .ref a ∧ OwnAt K G m H a d
theorem RepB.ext {K : PySem.W.Frag} {G G' H H' : Hp} {m m' : List Addr} {v : V} {d : D} (r : RepB K G m H v d) (e : Ext G m H G' m' H') : RepB K G' m' H' v d := by
  rcases r with r | ⟨a, h, o⟩
  · exact .inl (r.ext e)
  · exact .inr ⟨a, h, o.ext e⟩

section
variable (C : Ct)
def tD (f : DF) : TE := fun σ H Q => ∃ G m env st, Rel C.B C.T C.K env st G m σ H ∧ Aft C env σ G m H (f env st) fun d _ G' m' H' => ∀ v, Rep C.K G' m' v d → Q v H'
def tB (f : DF) : TE := fun σ H Q => ∃ G m env st, Rel C.B C.T C.K env st G m σ H ∧ Aft C env σ G m H (f env st) fun d _ G' m' H' => ∀ v, RepB C.K G' m' H' v d → Q v H'
def tF (f : DF) : TE := fun σ H Q => ∃ G m env st, Rel C.B C.T C.K env st G m σ H ∧ Aft C env σ G m H (f env st) fun d _ G' m' H' => ∀ a, ¬ Pr H a → OwnAt C.K G' m' H' a d → Q (.ref a) H'
def tT (f : DEnv → Store → Res Bool) : TT := fun σ H Q => ∃ G m env st, Rel C.B C.T C.K env st G m σ H ∧ Aft C env σ G m H (f env st) fun b _ G' m' H' => Q b H'
def tL (f : DEnv → Store → Res (List D)) : TA := fun σ H Q => ∃ G m env st, Rel C.B C.T C.K env st G m σ H ∧ Aft C env σ G m H (f env st) fun ds _ G' m' H' => ∀ vs, RepAll C.K G' m' vs ds → Q vs H'
end

section
variable {X : Cx} {e : Expr} {t t' : TE} {C : Ct}
theorem _root_.L2.PE.imp (h : PE X e t) (i : ∀ σ H Q, t' σ H Q → t σ H Q) : PE X e t' := ⟨fun pins s σ H Q I q => h.run pins s σ H Q I (i σ H Q q)⟩
theorem _root_.L2.PT.imp {t t' : TT} (h : PT X e t) (i : ∀ σ H Q, t' σ H Q → t σ H Q) : PT X e t' := ⟨fun pins s σ H Q I q => h.run pins s σ H Q I (i σ H Q q)⟩
theorem _root_.L2.PA.imp {es : List Expr} {t t' : TA} (h : PA X es t) (i : ∀ σ H Q, t' σ H Q → t σ H Q) : PA X es t' := ⟨fun pos pins s σ H Q I q => h.run pos pins s σ H Q I (i σ H Q q)⟩
theorem bOfD {f : DF} (h : PE X e (tD C f)) : PE X e (tB C f) := h.imp fun σ H Q ⟨G, m, env, st, R, a⟩ =>
  ⟨G, m, env, st, R, a.imp fun d st' G' m' H' _ _ q v r => q v (.inl r)⟩

/-- what is not yet frozen and nobody's own becomes frozen -/
theorem Rel.freeze {B : Bs} {T : List (Addr × Str)} {K : PySem.W.Frag} {env : DEnv} {st : Store} {G H : Hp} {m : List Addr} {σ : L2.St} {a : Addr} {o : HO} (R : Rel B T K env st G m σ H) (ha : H a = some o) (hl : ∃ vs, o = .lst vs) (hg : G a = none) (hm : a ∉ m) (hB : ¬ Pr B.H a)
    (hs : ∀ (i : Nat) (d : D), env[i]? = some (some (.ow d)) → (σ : List (Option V))[i]? ≠ some (some (.ref a))) : Rel B T K env st (upd G a o) m σ H := by
  have gg : Same G (upd G a o) := same_upd' hg
  obtain ⟨xs, rfl⟩ := hl
  have ne : ∀ {b : Addr} {x : Option HO}, (upd G a (.lst xs)) b = x → b ≠ a → G b = x := fun h n => by rw [upd_ne n] at h; exact h
  have keepN : ∀ b, G b = none → b ≠ a → (upd G a (.lst xs)) b = none := fun b h n => by rw [upd_ne n]; exact h
  refine ⟨⟨fun b u h => ?_, fun b ps h => ?_, R.w.len, R.w.nd, fun i o' b h1 h2 => ?_, R.w.tabs⟩, ⟨R.base.gg.trans gg, R.base.hh, R.base.th, fun b h => ?_, R.base.mm, R.base.mn⟩, fun i s h => ?_, R.sep, R.own, R.len⟩
  · by_cases e : b = a
    · subst e; rw [upd_same] at h; rw [ha]; exact h
    · exact R.w.gh b u (ne h e)
  · by_cases e : b = a
    · subst e; rw [upd_same] at h; cases h
    · exact R.w.nt b ps (ne h e)
  · have hb : b ∈ m := List.mem_of_getElem? h2
    have nb : b ≠ a := fun z => hm (z ▸ hb)
    have x := R.w.store i o' b h1 h2
    cases o' with
    | lst ds =>
      obtain ⟨g, vs, h, r⟩ := x
      exact ⟨keepN b g nb, vs, h, r.mono gg ⟨[], by simp⟩⟩
    | ins Cn fs =>
      obtain ⟨g, dx, fvs, h, g2, n2, h2, h3, r⟩ := x
      have nd : dx ≠ a := fun z => by rw [z, ha] at h2; cases h2
      exact ⟨keepN b g nb, dx, fvs, h, keepN dx g2 nd, n2, h2, h3, r.mono gg ⟨[], by simp⟩⟩
  · rw [upd_ne (fun z => hB (by rw [← z]; exact h))]
    exact R.base.new b h
  · obtain ⟨v, h1, h2⟩ := R.slot i s h
    refine ⟨v, h1, ?_⟩
    cases s with
    | exc c fs =>
      obtain ⟨h3, hc, x⟩ := h2
      refine ⟨h3, hc, ?_⟩
      rcases x with x | ⟨dx, fvs, y1, y2, y3, y4, y5⟩
      · exact .inl x
      · exact .inr ⟨dx, fvs, y1, y2, y3, y4, y5.mono gg ⟨[], by simp⟩⟩
    | sh d => obtain ⟨x, h3, r⟩ := h2; exact ⟨x, h3, r.mono gg ⟨[], by simp⟩⟩
    | ow d =>
      obtain ⟨b, h3, h4⟩ := h2
      have nb : b ≠ a := fun z => by
        subst z
        subst h3
        exact hs i d h h1
      refine ⟨b, h3, ?_⟩
      cases d with
      | lst ds =>
        obtain ⟨g, n, vs, h5, r⟩ := h4
        exact ⟨keepN b g nb, n, vs, h5, r.mono gg ⟨[], by simp⟩⟩
      | _ => exact False.elim h4
theorem OwnAt.there {K : PySem.W.Frag} {G H : Hp} {m : List Addr} {a : Addr} {d : D} (o : OwnAt K G m H a d) : Pr H a := by
  cases d with
  | lst ds => obtain ⟨_, _, vs, h, _⟩ := o; exact pr_lst h
  | _ => exact False.elim o
/-- a fresh list, frozen at once -/
theorem dOfF {f : DF} (h : PE X e (tF C f)) : PE X e (tD C f) := h.imp fun σ H Q ⟨G, m, env, st, R, a⟩ => by
  refine ⟨G, m, env, st, R, ?_⟩
  cases hr : f env st with
  | stuck => rw [hr] at a; exact a
  | ex c fs st' => rw [hr] at a; exact a
  | ok d st' =>
    rw [hr] at a
    intro G' m' H' E' R' p hp own
    cases d with
    | lst ds =>
      obtain ⟨g, n, vs, hv, r⟩ := own
      have hB : ¬ Pr C.B.H p := fun z => hp (R.base.th p z)
      have R'' := R'.freeze hv ⟨vs, rfl⟩ g n hB fun i d hi hs => by
        obtain ⟨v, h1, h2⟩ := R.slot i _ hi
        rw [hs] at h1
        cases h1
        obtain ⟨b, h3, h4⟩ := h2
        cases h3
        exact hp h4.there
      refine a (upd G' p (.lst vs)) m' H' ⟨E'.gg.trans (same_upd' g), E'.hh, E'.th, fun x hx => ?_, E'.mm, E'.mn⟩ R'' (.ref p) (.lst upd_same (r.mono (same_upd' g) ⟨[], by simp⟩))
      rw [upd_ne (fun z => hp (by rw [← z]; exact hx))]
      exact E'.new x hx
    | _ => exact False.elim own
end

/-! ### data as the library's data -/
mutual
def D.py : D → PyData
  | .non => .none
  | .bl b => .bool b
  | .int i => .int i
  | .str s => .str ⟨s.toArray⟩
  | .lst xs => .list (D.pys xs)
  | .tup xs => .tuple (D.pys xs)
  | _ => .none
def D.pys : List D → List PyData
  | [] => []
  | x :: xs => D.py x :: D.pys xs
end
mutual
/-- none, bools, ints, texts, lists, tuples alone -/
def D.dat : D → Bool
  | .non => true
  | .bl _ => true
  | .int _ => true
  | .str _ => true
  | .lst xs => D.dats xs
  | .tup xs => D.dats xs
  | _ => false
def D.dats : List D → Bool
  | [] => true
  | x :: xs => D.dat x && D.dats xs
end
mutual
def D.dep : D → Nat
  | .lst xs => D.deps xs + 1
  | .tup xs => D.deps xs + 1
  | _ => 0
def D.deps : List D → Nat
  | [] => 0
  | x :: xs => max (D.dep x) (D.deps xs)
end
mutual
/-- Python's == over data -/
def deq : D → D → Bool
  | .non, .non => true
  | .bl a, .bl b => a == b
  | .bl a, .int j => (if a then 1 else 0) == j
  | .int i, .bl b => i == (if b then 1 else 0)
  | .int i, .int j => i == j
  | .str x, .str y => x == y
  | .lst xs, .lst ys => deqs xs ys
  | .tup xs, .tup ys => deqs xs ys
  | _, _ => false
def deqs : List D → List D → Bool
  | [], [] => true
  | x :: xs, y :: ys => deq x y && deqs xs ys
  | _, _ => false
end
mutual
theorem dep_py : ∀ d : D, d.dat = true → d.py.depth = d.dep
  | .non, _ => rfl
  | .bl _, _ => rfl
  | .int _, _ => rfl
  | .str _, _ => rfl
  | .lst xs, h => by simp only [D.py, PyData.depth, D.dep, deps_py xs (by simpa [D.dat] using h)]
  | .tup xs, h => by simp only [D.py, PyData.depth, D.dep, deps_py xs (by simpa [D.dat] using h)]
  | .fls _, h => by cases h
  | .dic _ _, h => by cases h
  | .obj _, h => by cases h
  | .fn _, h => by cases h
  | .clo _ _, h => by cases h
theorem deps_py : ∀ ds : List D, D.dats ds = true → PyData.depthAll (D.pys ds) = D.deps ds
  | [], _ => rfl
  | x :: xs, h => by
    have h' : x.dat = true ∧ D.dats xs = true := by simpa [D.dats] using h
    simp only [D.pys, PyData.depthAll, D.deps, dep_py x h'.1, deps_py xs h'.2]
end
theorem str_beq (x y : List Nat) : ((⟨x.toArray⟩ : Str) == ⟨y.toArray⟩) = (x == y) := by
  rw [Bool.eq_iff_iff, beq_iff_eq, beq_iff_eq]
  constructor
  · intro h
    have h2 := congrArg (fun z : Str => z.cps.toList) h
    simpa using h2
  · intro h; rw [h]
mutual
theorem deq_py : ∀ d e : D, d.dat = true → e.dat = true → PyData.eqv d.py e.py = deq d e
  | .non, e, _, h => by cases e <;> first | rfl | cases h
  | .bl _, e, _, h => by cases e <;> first | rfl | cases h
  | .int _, e, _, h => by cases e <;> first | rfl | cases h
  | .str x, e, _, h => by
    cases e with
    | str y => simp only [D.py, PyData.eqv, deq]; exact str_beq x y
    | _ => first | rfl | cases h
  | .lst xs, e, hd, h => by
    cases e with
    | lst ys => simp only [D.py, PyData.eqv, deq]; exact deqs_py xs ys (by simpa [D.dat] using hd) (by simpa [D.dat] using h)
    | _ => first | (simp only [D.py, PyData.eqv, deq]; done) | cases h
  | .tup xs, e, hd, h => by
    cases e with
    | tup ys => simp only [D.py, PyData.eqv, deq]; exact deqs_py xs ys (by simpa [D.dat] using hd) (by simpa [D.dat] using h)
    | _ => first | (simp only [D.py, PyData.eqv, deq]; done) | cases h
  | .fls _, _, h, _ => by cases h
  | .dic _ _, _, h, _ => by cases h
  | .obj _, _, h, _ => by cases h
  | .fn _, _, h, _ => by cases h
  | .clo _ _, _, h, _ => by cases h
theorem deqs_py : ∀ xs ys : List D, D.dats xs = true → D.dats ys = true → PyData.eqvAll (D.pys xs) (D.pys ys) = deqs xs ys
  | [], [], _, _ => rfl
  | [], _ :: _, _, _ => rfl
  | _ :: _, [], _, _ => rfl
  | x :: xs, y :: ys, h, h2 => by
    have h' : x.dat = true ∧ D.dats xs = true := by simpa [D.dats] using h
    have h2' : y.dat = true ∧ D.dats ys = true := by simpa [D.dats] using h2
    simp only [D.pys, PyData.eqvAll, deqs, deq_py x y h'.1 h2'.1, deqs_py xs ys h'.2 h2'.2]
end
theorem pys_any (d : D) (hd : d.dat = true) : ∀ ds : List D, D.dats ds = true → (D.pys ds).any (fun z => PyData.eqv z d.py) = ds.any fun z => deq z d
  | [], _ => rfl
  | x :: xs, h => by
    have h' : x.dat = true ∧ D.dats xs = true := by simpa [D.dats] using h
    simp only [D.pys, List.any_cons, deq_py x d h'.1 hd, pys_any d hd xs h'.2]
section
variable {K : PySem.W.Frag} {G H : Hp} {m : List Addr}
mutual
theorem Rep.dp (g : Same G H) : ∀ {v : V} {d : D}, Rep K G m v d → d.dat = true → Dp K H v d.py ∧ d.py.canLay0 = true
  | _, _, .non, _ => ⟨.non, rfl⟩
  | _, _, .bl b, _ => ⟨.bl b, rfl⟩
  | _, _, .int b, _ => ⟨.int b, rfl⟩
  | _, _, .str s h, _ => ⟨.str _, by simp only [D.py, PyData.canLay0, PyData.strOk, List.all_toArray]; simpa using h⟩
  | _, _, .lst h r, hd => by
    obtain ⟨h1, h2⟩ := RepAll.dp g r (by simpa [D.dat] using hd)
    exact ⟨by simp only [D.py]; exact .lst (.inl (.inl (g _ _ h))) h1, by simp only [D.py, PyData.canLay0]; exact h2⟩
  | _, _, .tup h r, hd => by
    obtain ⟨h1, h2⟩ := RepAll.dp g r (by simpa [D.dat] using hd)
    exact ⟨by simp only [D.py]; exact .tup (SqTm g h) h1, by simp only [D.py, PyData.canLay0]; exact h2⟩
  | _, _, .fls _ _, h => by cases h
  | _, _, .obj _, h => by cases h
  | _, _, .fn _, h => by cases h
theorem RepAll.dp (g : Same G H) : ∀ {vs : List V} {ds : List D}, RepAll K G m vs ds → D.dats ds = true → DpAll K H vs (D.pys ds) ∧ PyData.canLayAll0 (D.pys ds) = true
  | _, _, .nil, _ => ⟨.nil, rfl⟩
  | _, _, .cons r t, h => by
    have h' := Bool.and_eq_true_iff.mp (by simpa [D.dats] using h : (_ && _) = true)
    obtain ⟨h1, h2⟩ := Rep.dp g r h'.1
    obtain ⟨h3, h4⟩ := RepAll.dp g t h'.2
    exact ⟨.cons h1 h3, by simp only [D.pys, PyData.canLayAll0, h2, h4, Bool.and_self]⟩
end
theorem RepB.dp (g : Same G H) {v : V} {d : D} (r : RepB K G m H v d) (hd : d.dat = true) : Dp K H v d.py ∧ d.py.canLay0 = true := by
  rcases r with r | ⟨a, rfl, o⟩
  · exact r.dp g hd
  · cases d with
    | lst ds =>
      obtain ⟨_, _, vs, h, r⟩ := o
      obtain ⟨h1, h2⟩ := r.dp g (by simpa [D.dat] using hd)
      exact ⟨by simp only [D.py]; exact .lst (.inl (.inl h)) h1, by simp only [D.py, PyData.canLay0]; exact h2⟩
    | _ => exact False.elim o
end
end DI


/-! DI2: operators and calls by values -/
namespace DI
open PySem PySem.Spec PyProof.Rows L2

section
variable {K : PySem.W.Frag} {G H : Hp} {m : List Addr} {v : V}
theorem RepB.int {i : Int} (r : RepB K G m H v (.int i)) : v = .int i := by
  rcases r with r | ⟨a, _, o⟩
  · cases r; rfl
  · exact o.elim
theorem RepB.bl {b : Bool} (r : RepB K G m H v (.bl b)) : v = .bl b := by
  rcases r with r | ⟨a, _, o⟩
  · cases r; rfl
  · exact o.elim
theorem RepB.non (r : RepB K G m H v .non) : v = .non := by
  rcases r with r | ⟨a, _, o⟩
  · cases r; rfl
  · exact o.elim
theorem RepB.str {s : List Nat} (r : RepB K G m H v (.str s)) : v = .str ⟨s.toArray⟩ ∧ s.all (· < 0x110000) = true := by
  rcases r with r | ⟨a, _, o⟩
  · cases r with
    | str _ h => exact ⟨rfl, h⟩
  · exact o.elim
theorem RepB.lst {ds : List D} (g : Same G H) (r : RepB K G m H v (.lst ds)) : ∃ a vs, v = .ref a ∧ H a = some (.lst vs) ∧ RepAll K G m vs ds := by
  rcases r with r | ⟨a, rfl, o⟩
  · cases r with
    | lst h r => exact ⟨_, _, rfl, g _ _ h, r⟩
  · obtain ⟨_, _, vs, h, r⟩ := o
    exact ⟨a, vs, rfl, h, r⟩
theorem RepB.tup {ds : List D} (g : Same G H) (r : RepB K G m H v (.tup ds)) : ∃ a vs, v = .ref a ∧ SqT K H a vs ∧ RepAll K G m vs ds := by
  rcases r with r | ⟨a, rfl, o⟩
  · cases r with
    | tup h r => exact ⟨_, _, rfl, SqTm g h, r⟩
  · exact o.elim
theorem RepB.fls {ds : List D} (g : Same G H) (r : RepB K G m H v (.fls ds)) : ∃ a vs, v = .ref a ∧ SqL K H a vs ∧ RepAll K G m vs ds := by
  rcases r with r | ⟨a, rfl, o⟩
  · cases r with
    | fls h r => exact ⟨_, _, rfl, SqLm g h, r⟩
  · exact o.elim
theorem Rep.noref {d : D} (r : RepB K G m H v d) : (decide (v = .non)) = (match d with | .non => true | _ => false) := by
  rcases r with r | ⟨a, rfl, o⟩
  · cases r <;> rfl
  · cases d with
    | lst _ => rfl
    | _ => exact o.elim
theorem RepAll.ints : ∀ {vs : List V} {ns : List Int}, RepAll K G m vs (ns.map D.int) → vs = ns.map V.int
  | [], [], _ => rfl
  | _ :: _, [], h => by cases h
  | _, n :: ns, h => by
    rw [List.map_cons] at h
    cases h with
    | cons r t => cases r; rw [RepAll.ints t]; rfl
theorem RepAll.bls : ∀ {vs : List V} {ns : List Bool}, RepAll K G m vs (ns.map D.bl) → vs = ns.map V.bl
  | [], [], _ => rfl
  | _ :: _, [], h => by cases h
  | _, n :: ns, h => by
    rw [List.map_cons] at h
    cases h with
    | cons r t => cases r; rw [RepAll.bls t]; rfl
theorem RepAll.ofInts : ∀ ns : List Int, RepAll K G m (ns.map V.int) (ns.map D.int)
  | [] => .nil
  | n :: ns => .cons (.int n) (RepAll.ofInts ns)
theorem RepAll.rep {vs : List V} {ds : List D} (h : RepAll K G m vs ds) : ∀ k : Nat, RepAll K G m (List.replicate k vs).flatten (List.replicate k ds).flatten
  | 0 => .nil
  | k + 1 => by rw [List.replicate_succ, List.replicate_succ, List.flatten_cons, List.flatten_cons]; exact h.append (RepAll.rep h k)
/-- all ints -/
def D.asInts : List D → Option (List Int)
  | [] => some []
  | .int i :: r => (D.asInts r).map (i :: ·)
  | _ => none
theorem asInts_eq : ∀ {ds : List D} {ns : List Int}, D.asInts ds = some ns → ds = ns.map D.int
  | [], ns, h => by cases h; rfl
  | .int i :: r, ns, h => by
    obtain ⟨ms, h1, rfl⟩ := Option.map_eq_some_iff.mp (show (D.asInts r).map (i :: ·) = some ns from h)
    rw [asInts_eq h1]; rfl
  | .non :: _, _, h => by cases h
  | .bl _ :: _, _, h => by cases h
  | .str _ :: _, _, h => by cases h
  | .lst _ :: _, _, h => by cases h
  | .tup _ :: _, _, h => by cases h
  | .fls _ :: _, _, h => by cases h
  | .dic _ _ :: _, _, h => by cases h
  | .obj _ :: _, _, h => by cases h
  | .fn _ :: _, _, h => by cases h
  | .clo _ _ :: _, _, h => by cases h
theorem asInts_map : ∀ ns : List Int, D.asInts (ns.map D.int) = some ns
  | [] => rfl
  | n :: ns => by rw [List.map_cons]; unfold D.asInts; rw [asInts_map ns]; rfl
def D.asBls : List D → Option (List Bool)
  | [] => some []
  | .bl i :: r => (D.asBls r).map (i :: ·)
  | _ => none
theorem asBls_eq : ∀ {ds : List D} {ns : List Bool}, D.asBls ds = some ns → ds = ns.map D.bl
  | [], ns, h => by cases h; rfl
  | .bl i :: r, ns, h => by
    obtain ⟨ms, h1, rfl⟩ := Option.map_eq_some_iff.mp (show (D.asBls r).map (i :: ·) = some ns from h)
    rw [asBls_eq h1]; rfl
  | .non :: _, _, h => by cases h
  | .int _ :: _, _, h => by cases h
  | .str _ :: _, _, h => by cases h
  | .lst _ :: _, _, h => by cases h
  | .tup _ :: _, _, h => by cases h
  | .fls _ :: _, _, h => by cases h
  | .dic _ _ :: _, _, h => by cases h
  | .obj _ :: _, _, h => by cases h
  | .fn _ :: _, _, h => by cases h
  | .clo _ _ :: _, _, h => by cases h
theorem asBls_map : ∀ ns : List Bool, D.asBls (ns.map D.bl) = some ns
  | [] => rfl
  | n :: ns => by rw [List.map_cons]; unfold D.asBls; rw [asBls_map ns]; rfl
def D.asStrs : List D → Option (List (List Nat))
  | [] => some []
  | .str i :: r => (D.asStrs r).map (i :: ·)
  | _ => none
theorem asStrs_eq : ∀ {ds : List D} {ns : List (List Nat)}, D.asStrs ds = some ns → ds = ns.map D.str
  | [], ns, h => by cases h; rfl
  | .str i :: r, ns, h => by
    obtain ⟨ms, h1, rfl⟩ := Option.map_eq_some_iff.mp (show (D.asStrs r).map (i :: ·) = some ns from h)
    rw [asStrs_eq h1]; rfl
  | .non :: _, _, h => by cases h
  | .int _ :: _, _, h => by cases h
  | .bl _ :: _, _, h => by cases h
  | .lst _ :: _, _, h => by cases h
  | .tup _ :: _, _, h => by cases h
  | .fls _ :: _, _, h => by cases h
  | .dic _ _ :: _, _, h => by cases h
  | .obj _ :: _, _, h => by cases h
  | .fn _ :: _, _, h => by cases h
  | .clo _ _ :: _, _, h => by cases h
theorem asStrs_map : ∀ ns : List (List Nat), D.asStrs (ns.map D.str) = some ns
  | [] => rfl
  | n :: ns => by rw [List.map_cons]; unfold D.asStrs; rw [asStrs_map ns]; rfl
abbrev mkS (s : List Nat) : Str := ⟨s.toArray⟩
theorem RepAll.strs : ∀ {vs : List V} {ns : List (List Nat)}, RepAll K G m vs (ns.map D.str) → vs = (ns.map mkS).map V.str ∧ ∀ s ∈ ns, s.all (· < 0x110000) = true
  | [], [], _ => ⟨rfl, by simp⟩
  | _ :: _, [], h => by cases h
  | _, n :: ns, h => by
    rw [List.map_cons] at h
    cases h with
    | cons r t =>
      cases r with
      | str _ h1 =>
        obtain ⟨e, h2⟩ := RepAll.strs t
        exact ⟨by rw [e]; rfl, fun s hs => by
          rcases List.mem_cons.mp hs with rfl | hs
          · exact h1
          · exact h2 s hs⟩
theorem RepAll.ofStrs : ∀ {ns : List (List Nat)}, (∀ s ∈ ns, s.all (· < 0x110000) = true) → RepAll K G m ((ns.map mkS).map V.str) (ns.map D.str)
  | [], _ => .nil
  | n :: ns, h => .cons (.str n (h n List.mem_cons_self)) (RepAll.ofStrs fun s hs => h s (List.mem_cons_of_mem _ hs))
end

/-! ### two-place operators -/
def Op2 (X : Cx) (C : Ct) (f : Value → Value → Sem Value) (g : D → D → Option D) : Prop :=
  ∃ r : R2, OpR X f r ∧ ∀ st G m H x y d e z (Q : VK), W0 C.T C.K st G m H → RepB C.K G m H x d → RepB C.K G m H y e → g d e = some z → (∀ v G' H', PExt G H G' H' → Rep C.K G' m v z → Q v H') → r x y H Q
/-- with a fresh list as its answer -/
def Op2F (X : Cx) (C : Ct) (f : Value → Value → Sem Value) (g : D → D → Option D) : Prop :=
  ∃ r : R2, OpR X f r ∧ ∀ st G m H x y d e z (Q : VK), W0 C.T C.K st G m H → RepB C.K G m H x d → RepB C.K G m H y e → g d e = some z → (∀ a G' H', PExt G H G' H' → H a = none → OwnAt C.K G' m H' a z → Q (.ref a) H') → r x y H Q
section
variable {X : Cx} {C : Ct} {f : Value → Value → Sem Value} {g g' : D → D → Option D}
theorem Op2.or (h : Op2 X C f g) (h' : Op2 X C f g') : Op2 X C f (fun d e => (g d e).or (g' d e)) := by
  obtain ⟨r, o, i⟩ := h
  obtain ⟨r', o', i'⟩ := h'
  refine ⟨_, o.or o', fun st G m H x y d e z Q w rx ry hz q => ?_⟩
  replace hz : (g d e).or (g' d e) = some z := hz
  cases hg : g d e with
  | some z' =>
    rw [hg] at hz
    cases hz
    exact .inl (i st G m H x y d e _ Q w rx ry hg q)
  | none =>
    rw [hg] at hz
    exact .inr (i' st G m H x y d e z Q w rx ry hz q)
/-- an own list that nobody names lies apart from the store -/
theorem W0.nomem {T : List (Addr × Str)} {K : PySem.W.Frag} {st : Store} {G H : Hp} {m : List Addr} {a : Addr} (w : W0 T K st G m H) (h : H a = none) : a ∉ m := fun hm => by
  obtain ⟨i, hi, e⟩ := List.mem_iff_getElem.mp hm
  have hs : i < st.length := by rw [← w.len]; exact hi
  have x := w.store i st[i] a (List.getElem?_eq_getElem hs) (by rw [List.getElem?_eq_getElem hi, e])
  cases q : st[i] with
  | lst ds => rw [q] at x; obtain ⟨_, vs, h2, _⟩ := x; rw [h] at h2; cases h2
  | ins c fs => rw [q] at x; obtain ⟨_, dx, fvs, h2, _⟩ := x; rw [h] at h2; cases h2
/-- a fresh own list at p -/
theorem W0.ownNew {T : List (Addr × Str)} {K : PySem.W.Frag} {st : Store} {G H : Hp} {m : List Addr} {p : Addr} {vs : List V} {ds : List D} (w : W0 T K st G m H) (h : H p = none) (r : RepAll K G m vs ds) : PExt G H G (upd H p (.lst vs)) ∧ OwnAt K G m (upd H p (.lst vs)) p (.lst ds) :=
  ⟨PExt.own w.gh h, w.gh.free h, w.nomem h, vs, upd_same, r⟩
theorem W0.lstNew {T : List (Addr × Str)} {K : PySem.W.Frag} {st : Store} {G H : Hp} {m : List Addr} {p : Addr} {vs : List V} {ds : List D} (w : W0 T K st G m H) (h : H p = none) (r : RepAll K G m vs ds) : PExt G H (upd G p (.lst vs)) (upd H p (.lst vs)) ∧ Rep K (upd G p (.lst vs)) m (.ref p) (.lst ds) := by
  have e := PExt.fresh (o := .lst vs) w.gh h (fun ps q => by cases q)
  exact ⟨e, .lst upd_same (r.mono e.gg ⟨[], by simp⟩)⟩
theorem W0.tupNew {T : List (Addr × Str)} {K : PySem.W.Frag} {st : Store} {G H : Hp} {m : List Addr} {p : Addr} {vs : List V} {ds : List D} (w : W0 T K st G m H) (h : H p = none) (r : RepAll K G m vs ds) : PExt G H (upd G p (.tup vs)) (upd H p (.tup vs)) ∧ Rep K (upd G p (.tup vs)) m (.ref p) (.tup ds) := by
  have e := PExt.fresh (o := .tup vs) w.gh h (fun ps q => by cases q)
  exact ⟨e, .tup (.inl (.inl upd_same)) (r.mono e.gg ⟨[], by simp⟩)⟩

/-! #### ints -/
def gI (C0 : Int → Int → Bool) (k : Int → Int → D) : D → D → Option D
  | .int i, .int j => if C0 i j then some (k i j) else none
  | _, _ => none
theorem gI_some {C0 : Int → Int → Bool} {k : Int → Int → D} {d e z : D} (h : gI C0 k d e = some z) : ∃ i j, d = .int i ∧ e = .int j ∧ C0 i j = true ∧ z = k i j := by
  unfold gI at h
  split at h
  · split at h
    · rename_i i j hc
      cases h
      exact ⟨i, j, rfl, rfl, hc, rfl⟩
    · cases h
  · cases h
theorem op2I {P : Int → Int → Prop} {k : Int → Int → Int} {C0 : Int → Int → Bool} (h : OpR X f (rI P fun i j => .int (k i j))) (hP : ∀ i j, C0 i j = true → P i j) : Op2 X C f (gI C0 fun i j => .int (k i j)) :=
  ⟨_, h, fun st G m H x y d e z Q w rx ry hz q => by
    obtain ⟨i, j, rfl, rfl, hc, rfl⟩ := gI_some hz
    exact ⟨i, j, rx.int, ry.int, hP i j hc, q _ G H (PExt.refl w.gh) (.int _)⟩⟩
theorem op2I0 {k : Int → Int → Int} (h : OpR X f (rI0 fun i j => .int (k i j))) : Op2 X C f (gI (fun _ _ => true) fun i j => .int (k i j)) :=
  ⟨_, h, fun st G m H x y d e z Q w rx ry hz q => by
    obtain ⟨i, j, rfl, rfl, hc, rfl⟩ := gI_some hz
    exact ⟨i, j, rx.int, ry.int, q _ G H (PExt.refl w.gh) (.int _)⟩⟩
theorem op2IB {k : Int → Int → Bool} (h : OpR X f (rI0 fun i j => .bl (k i j))) : Op2 X C f (gI (fun _ _ => true) fun i j => .bl (k i j)) :=
  ⟨_, h, fun st G m H x y d e z Q w rx ry hz q => by
    obtain ⟨i, j, rfl, rfl, hc, rfl⟩ := gI_some hz
    exact ⟨i, j, rx.int, ry.int, q _ G H (PExt.refl w.gh) (.bl _)⟩⟩
def cDiv (i j : Int) : Bool := decide (0 < j ∧ j < 1073741824)
def cMod (i j : Int) : Bool := decide (0 < j)
def cMul (i j : Int) : Bool := decide ((-(2 ^ 64) < i ∧ i < 2 ^ 64) ∨ (-(2 ^ 64) < j ∧ j < 2 ^ 64))
def cPow (i j : Int) : Bool := decide (0 ≤ j ∧ j ≤ 1000000 ∧ i.natAbs < 2 ^ 64)
def gSub : D → D → Option D := gI (fun _ _ => true) fun i j => .int (i - j)
def gMulI : D → D → Option D := gI cMul fun i j => .int (i * j)
def gDiv : D → D → Option D := gI cDiv fun i j => .int (i / j)
def gMod : D → D → Option D := gI cMod fun i j => .int (i % j)
def gPow : D → D → Option D := gI cPow fun i j => .int (i ^ j.toNat)
theorem o_sub : Op2 X C (binaryOp .Sub) gSub := op2I0 op_sub
theorem o_mulI : Op2 X C (binaryOp .Mult) gMulI := op2I op_mul fun i j h => by unfold cMul at h; have h2 := of_decide_eq_true h; exact h2
theorem o_div : Op2 X C (binaryOp .FloorDiv) gDiv := op2I op_fdiv fun i j h => by unfold cDiv at h; have h2 := of_decide_eq_true h; exact h2
theorem o_mod : Op2 X C (binaryOp .Mod) gMod := op2I op_mod fun i j h => by unfold cMod at h; have h2 := of_decide_eq_true h; exact h2
theorem o_pow : Op2 X C (binaryOp .Pow) gPow := op2I op_pow fun i j h => by unfold cPow at h; have h2 := of_decide_eq_true h; exact h2
def gLt : D → D → Option D := gI (fun _ _ => true) fun i j => .bl (decide (i < j))
def gLe : D → D → Option D := gI (fun _ _ => true) fun i j => .bl (decide (i ≤ j))
def gGt : D → D → Option D := gI (fun _ _ => true) fun i j => .bl (decide (j < i))
def gGe : D → D → Option D := gI (fun _ _ => true) fun i j => .bl (decide (j ≤ i))
theorem o_lt : Op2 X C (compareOp .Lt) gLt := op2IB op_lt
theorem o_le : Op2 X C (compareOp .LtE) gLe := op2IB op_le
theorem o_gt : Op2 X C (compareOp .Gt) gGt := op2IB op_gt
theorem o_ge : Op2 X C (compareOp .GtE) gGe := op2IB op_ge

/-! #### + -/
def gAddI : D → D → Option D := gI (fun _ _ => true) fun i j => .int (i + j)
def gAddS : D → D → Option D
  | .str s, .str t => if s.length + t.length ≤ sizeLine then some (.str (s ++ t)) else none
  | _, _ => none
def gAddT : D → D → Option D
  | .tup s, .tup t => if s.length + t.length ≤ sizeLine then some (.tup (s ++ t)) else none
  | _, _ => none
def gAddL : D → D → Option D
  | .lst s, .lst t => if s.length + t.length ≤ sizeLine then some (.lst (s ++ t)) else none
  | _, _ => none
theorem o_addI : Op2 X C (binaryOp .Add) gAddI := op2I0 op_add
theorem o_addS : Op2 X C (binaryOp .Add) gAddS := ⟨_, op_add_str, fun st G m H x y d e z Q w rx ry hz q => by
  unfold gAddS at hz
  split at hz
  · split at hz
    · rename_i s t hl
      cases hz
      obtain ⟨rfl, h1⟩ := rx.str
      obtain ⟨rfl, h2⟩ := ry.str
      refine ⟨_, _, rfl, rfl, by simpa [Str.length] using hl, ?_⟩
      have e : ((⟨s.toArray⟩ : Str) ++ (⟨t.toArray⟩ : Str)) = ⟨(s ++ t).toArray⟩ := TL.ext_tl (by rw [TL.tl_append])
      rw [e]
      exact q _ G H (PExt.refl w.gh) (.str _ (by rw [List.all_append, h1, h2]; rfl))
    · cases hz
  · cases hz⟩
theorem o_addT (hK : C.K = X.K) : Op2 X C (binaryOp .Add) gAddT := ⟨_, op_catA, fun st G m H x y d e z Q w rx ry hz q => by
  unfold gAddT at hz
  split at hz
  · split at hz
    · rename_i s t hl
      cases hz
      obtain ⟨a, xs, rfl, ha, r1⟩ := rx.tup w.gh
      obtain ⟨b, ys, rfl, hb, r2⟩ := ry.tup w.gh
      rw [hK] at ha hb
      refine ⟨a, b, xs, ys, rfl, rfl, ha, hb, by rw [r1.length, r2.length]; exact hl, fun ex => ?_, fun _ ey => ?_, fun _ _ p hp => ?_⟩
      · subst ex
        cases r1
        rcases ry with ry | ⟨_, _, o⟩
        · exact q _ G H (PExt.refl w.gh) ry
        · exact o.elim
      · subst ey
        cases r2
        rw [List.append_nil] at q
        rcases rx with rx | ⟨_, _, o⟩
        · exact q _ G H (PExt.refl w.gh) rx
        · exact o.elim
      · obtain ⟨e, r⟩ := w.tupNew hp (r1.append r2)
        exact q _ _ _ e r
    · cases hz
  · cases hz⟩
theorem gAddL_some {d e z : D} (h : gAddL d e = some z) : ∃ s t, d = .lst s ∧ e = .lst t ∧ s.length + t.length ≤ sizeLine ∧ z = .lst (s ++ t) := by
  unfold gAddL at h
  split at h
  · split at h
    · rename_i s t hl
      cases h
      exact ⟨s, t, rfl, rfl, hl, rfl⟩
    · cases h
  · cases h
theorem o_addL : Op2 X C (binaryOp .Add) gAddL := ⟨_, op_cat, fun st G m H x y d e z Q w rx ry hz q => by
  obtain ⟨s, t, rfl, rfl, hl, rfl⟩ := gAddL_some hz
  obtain ⟨a, xs, rfl, ha, r1⟩ := rx.lst w.gh
  obtain ⟨b, ys, rfl, hb, r2⟩ := ry.lst w.gh
  refine ⟨a, b, xs, ys, rfl, rfl, ha, hb, by rw [r1.length, r2.length]; exact hl, fun p hp => ?_⟩
  obtain ⟨e, r⟩ := w.lstNew hp (r1.append r2)
  exact q _ _ _ e r⟩
theorem o_addLF : Op2F X C (binaryOp .Add) gAddL := ⟨_, op_cat, fun st G m H x y d e z Q w rx ry hz q => by
  obtain ⟨s, t, rfl, rfl, hl, rfl⟩ := gAddL_some hz
  obtain ⟨a, xs, rfl, ha, r1⟩ := rx.lst w.gh
  obtain ⟨b, ys, rfl, hb, r2⟩ := ry.lst w.gh
  refine ⟨a, b, xs, ys, rfl, rfl, ha, hb, by rw [r1.length, r2.length]; exact hl, fun p hp => ?_⟩
  obtain ⟨e, r⟩ := w.ownNew hp (r1.append r2)
  exact q _ _ _ e hp r⟩
def gAdd (d e : D) : Option D := (((gAddI d e).or (gAddS d e)).or (gAddT d e)).or (gAddL d e)
theorem o_add (hK : C.K = X.K) : Op2 X C (binaryOp .Add) gAdd := ((o_addI.or o_addS).or (o_addT hK)).or o_addL

/-! #### * -/
def gMulL : D → D → Option D
  | .lst s, .int k => if s.length * k.toNat ≤ sizeLine ∧ -(2 ^ 63) ≤ k ∧ k < 2 ^ 63 then some (.lst (List.replicate k.toNat s).flatten) else none
  | _, _ => none
def gMulT : D → D → Option D
  | .tup s, .int k => if s ≠ [] ∧ 2 ≤ k ∧ k ≤ 1000 ∧ s.length ≤ 1000 then some (.tup (List.replicate k.toNat s).flatten) else none
  | _, _ => none
theorem gMulL_some {d e z : D} (h : gMulL d e = some z) : ∃ s k, d = .lst s ∧ e = .int k ∧ (s.length * k.toNat ≤ sizeLine ∧ -(2 ^ 63) ≤ k ∧ k < 2 ^ 63) ∧ z = .lst (List.replicate k.toNat s).flatten := by
  unfold gMulL at h
  split at h
  · split at h
    · rename_i s t hl
      cases h
      exact ⟨s, t, rfl, rfl, hl, rfl⟩
    · cases h
  · cases h
theorem o_mulL : Op2 X C (binaryOp .Mult) gMulL := ⟨_, op_rep, fun st G m H x y d e z Q w rx ry hz q => by
  obtain ⟨s, k, rfl, rfl, ⟨h1, h2, h3⟩, rfl⟩ := gMulL_some hz
  obtain ⟨a, xs, rfl, ha, r1⟩ := rx.lst w.gh
  have := ry.int
  subst this
  refine ⟨a, k, xs, rfl, rfl, ha, h2, h3, by rw [r1.length]; exact h1, fun p hp => ?_⟩
  obtain ⟨e, r⟩ := w.lstNew hp (r1.rep k.toNat)
  exact q _ _ _ e r⟩
theorem o_mulLF : Op2F X C (binaryOp .Mult) gMulL := ⟨_, op_rep, fun st G m H x y d e z Q w rx ry hz q => by
  obtain ⟨s, k, rfl, rfl, ⟨h1, h2, h3⟩, rfl⟩ := gMulL_some hz
  obtain ⟨a, xs, rfl, ha, r1⟩ := rx.lst w.gh
  have := ry.int
  subst this
  refine ⟨a, k, xs, rfl, rfl, ha, h2, h3, by rw [r1.length]; exact h1, fun p hp => ?_⟩
  obtain ⟨e, r⟩ := w.ownNew hp (r1.rep k.toNat)
  exact q _ _ _ e hp r⟩
theorem o_mulT (hK : C.K = X.K) : Op2 X C (binaryOp .Mult) gMulT := ⟨_, op_repT, fun st G m H x y d e z Q w rx ry hz q => by
  unfold gMulT at hz
  split at hz
  · split at hz
    · rename_i s k hl
      cases hz
      obtain ⟨h1, h2, h3, h4⟩ := hl
      obtain ⟨a, xs, rfl, ha, r1⟩ := rx.tup w.gh
      have := ry.int
      subst this
      rw [hK] at ha
      refine ⟨a, k, xs, rfl, rfl, ha, fun e => h1 (by rw [e] at r1; cases r1; rfl), h2, h3, by rw [r1.length]; exact h4, fun p hp => ?_⟩
      obtain ⟨e, r⟩ := w.tupNew hp (r1.rep k.toNat)
      exact q _ _ _ e r
    · cases hz
  · cases hz⟩
theorem foldl_cps (s : List Nat) : ∀ (n : Nat) (acc : List Nat), (List.replicate n s.toArray).foldl (· ++ ·) acc.toArray = (acc ++ (List.replicate n s).flatten).toArray
  | 0, acc => by simp
  | n + 1, acc => by
    rw [List.replicate_succ, List.foldl_cons, List.replicate_succ, List.flatten_cons, ← List.append_assoc]
    have e : acc.toArray ++ s.toArray = (acc ++ s).toArray := by simp
    rw [e, foldl_cps s n (acc ++ s)]
theorem op_repS : OpR X (binaryOp .Mult) (fun x y H Q => ∃ (z : Str) (k : Int), x = .str z ∧ y = .int k ∧ 2 ≤ k ∧ k ≤ 1000 ∧ z.length ≠ 0 ∧ z.length ≤ 1000 ∧ Q (.str ⟨(List.replicate k.toNat z.cps).foldl (· ++ ·) #[]⟩) H) := by
  intro pins s σ H x y v u Q I rx ry h
  obtain ⟨z, k, rfl, rfl, h1, h2, h3, h4, q⟩ := h
  obtain ⟨t, rfl⟩ := rx
  obtain ⟨t', rfl⟩ := ry
  have e1 : ¬ k < 1 := by omega
  have e2 : (k == 1 || z.length == 0) = false := by
    rw [show (k == 1) = false from beq_eq_false_iff_ne.mpr (by omega), show (z.length == 0) = false from beq_eq_false_iff_ne.mpr h3] <;> rfl
  have hm : z.length * k.toNat ≤ 1000000 := by
    have := Nat.mul_le_mul h4 (show k.toNat ≤ 1000 by omega)
    omega
  refine PySem.P.mul_str (by rw [decide_eq_false (by omega), decide_eq_false (by omega)] <;> rfl) (fun _ _ => ?_) (fun _ _ => ?_) ?_
  · have : (2 ^ 63 - 1 : Int) / k ≥ (2 ^ 63 - 1) / 1000 := by
      have hk : (0 : Int) < k := by omega
      rw [ge_iff_le, Int.le_ediv_iff_mul_le hk]
      have : (2 ^ 63 - 1 : Int) / 1000 * k ≤ (2 ^ 63 - 1 : Int) / 1000 * 1000 := Int.mul_le_mul_of_nonneg_left h2 (by decide)
      have h5 : (2 ^ 63 - 1 : Int) / 1000 * 1000 ≤ 2 ^ 63 - 1 := by decide
      omega
    have h6 : (1000 : Int) < (2 ^ 63 - 1) / 1000 := by decide
    omega
  · unfold Builtin.Str.tooLong
    have := sizeLine_eq
    first
      | exact decide_eq_false (by omega)
      | (simp only [decide_eq_false_iff_not]; omega)
  · rw [if_neg e1, if_neg (by rw [e2]; exact Bool.false_ne_true)]
    refine ⟨?_, ⟨.str ⟨(List.replicate k.toNat z.cps).foldl (· ++ ·) #[]⟩, H, I.tok _, ⟨_, rfl⟩, q⟩⟩
    have e := foldl_cps z.cps.toList k.toNat []
    rw [List.nil_append, Array.toArray_toList] at e
    show (List.foldl (· ++ ·) #[] (List.replicate k.toNat z.cps)).size ≤ sizeLine
    rw [e, List.size_toArray, PyProof.Rows.lm_len_rep_flat, sizeLine_eq]
    have hz : z.cps.toList.length = z.length := by simp [Str.length]
    rw [hz, Nat.mul_comm]
    omega
def gMulS : D → D → Option D
  | .str s, .int k => if 2 ≤ k ∧ k ≤ 1000 ∧ s.length ≠ 0 ∧ s.length ≤ 1000 then some (.str (List.replicate k.toNat s).flatten) else none
  | _, _ => none
theorem o_mulS : Op2 X C (binaryOp .Mult) gMulS := ⟨_, op_repS, fun st G m H x y d e z Q w rx ry hz q => by
  unfold gMulS at hz
  split at hz
  · split at hz
    · rename_i s k hl
      cases hz
      obtain ⟨h1, h2, h3, h4⟩ := hl
      obtain ⟨rfl, hs⟩ := rx.str
      have := ry.int
      subst this
      refine ⟨_, k, rfl, rfl, h1, h2, by simpa [Str.length] using h3, by simpa [Str.length] using h4, ?_⟩
      have e := foldl_cps s k.toNat []
      rw [List.nil_append] at e
      have e2 : (⟨(List.replicate k.toNat (mkS s).cps).foldl (· ++ ·) #[]⟩ : Str) = mkS (List.replicate k.toNat s).flatten := by
        show (⟨(List.replicate k.toNat s.toArray).foldl (· ++ ·) #[]⟩ : Str) = ⟨_⟩
        rw [← e]
      rw [e2]
      refine q _ G H (PExt.refl w.gh) (.str _ ?_)
      rw [List.all_eq_true] at hs ⊢
      intro x hx
      obtain ⟨l, hl, hxl⟩ := List.mem_flatten.mp hx
      rw [List.mem_replicate] at hl
      rw [hl.2] at hxl
      exact hs x hxl
    · cases hz
  · cases hz⟩
def gMul (d e : D) : Option D := (((gMulI d e).or (gMulL d e)).or (gMulT d e)).or (gMulS d e)
theorem o_mul (hK : C.K = X.K) : Op2 X C (binaryOp .Mult) gMul := ((o_mulI.or o_mulL).or (o_mulT hK)).or o_mulS

/-! #### ==, !=, in, not in, is -/
def eqOk (d e : D) : Bool := d.dat && e.dat && decide (min d.dep e.dep ≤ 64)
def gEq (d e : D) : Option D := if eqOk d e then some (.bl (deq d e)) else none
def gNe (d e : D) : Option D := if eqOk d e then some (.bl (!deq d e)) else none
theorem eqOk_of {d e : D} (h : eqOk d e = true) : d.dat = true ∧ e.dat = true ∧ min d.dep e.dep ≤ 64 := by
  unfold eqOk at h
  simp only [Bool.and_eq_true, decide_eq_true_eq] at h
  exact ⟨h.1.1, h.1.2, h.2⟩
def rEqM (K : PySem.W.Frag) (neg : Bool) : R2 := fun x y H Q => ∃ d e, Dp K H x d ∧ Dp K H y e ∧ d.canLay0 = true ∧ e.canLay0 = true ∧ min d.depth e.depth ≤ 64 ∧ Q (.bl (if neg then !PyData.eqv d e else PyData.eqv d e)) H
theorem op_eqM (hu : X.A.units + 64 < cLine) : OpR X (compareOp .Eq) (rEqM X.K false) := by
  intro pins s σ H x y v u Q I rx ry h
  obtain ⟨d, e, hd, he, sd, se, hm, q⟩ := h
  obtain ⟨as, r1⟩ := Dp.reads I d x v hd rx
  obtain ⟨bs, r2⟩ := Dp.reads I e y u he ry
  exact SeqAt.compareEq_reads r1 r2 sd se (by omega) ⟨.bl _, H, I, rfl, q⟩
theorem op_neM (hu : X.A.units + 64 < cLine) : OpR X (compareOp .NotEq) (rEqM X.K true) := by
  intro pins s σ H x y v u Q I rx ry h
  obtain ⟨d, e, hd, he, sd, se, hm, q⟩ := h
  obtain ⟨as, r1⟩ := Dp.reads I d x v hd rx
  obtain ⟨bs, r2⟩ := Dp.reads I e y u he ry
  exact SeqAt.compareNe_reads r1 r2 sd se (by omega) ⟨.bl _, H, I, rfl, q⟩
theorem eqM_of {K : PySem.W.Frag} {G H : Hp} {m : List Addr} {x y : V} {d e : D} {neg : Bool} {Q : VK} (g : Same G H) (rx : RepB K G m H x d) (ry : RepB K G m H y e) (h : eqOk d e = true) (q : Q (.bl (if neg then !deq d e else deq d e)) H) : rEqM K neg x y H Q := by
  obtain ⟨h1, h2, h3⟩ := eqOk_of h
  obtain ⟨p1, c1⟩ := rx.dp g h1
  obtain ⟨p2, c2⟩ := ry.dp g h2
  refine ⟨_, _, p1, p2, c1, c2, by rw [dep_py d h1, dep_py e h2]; exact h3, ?_⟩
  rw [deq_py d e h1 h2]
  exact q
theorem o_eq (hK : C.K = X.K) (hu : X.A.units + 64 < cLine) : Op2 X C (compareOp .Eq) gEq := ⟨_, op_eqM hu, fun st G m H x y d e z Q w rx ry hz q => by
  unfold gEq at hz
  split at hz
  · rename_i h
    cases hz
    rw [← hK]
    exact eqM_of w.gh rx ry h (q _ G H (PExt.refl w.gh) (.bl _))
  · cases hz⟩
theorem o_ne (hK : C.K = X.K) (hu : X.A.units + 64 < cLine) : Op2 X C (compareOp .NotEq) gNe := ⟨_, op_neM hu, fun st G m H x y d e z Q w rx ry hz q => by
  unfold gNe at hz
  split at hz
  · rename_i h
    cases hz
    rw [← hK]
    exact eqM_of w.gh rx ry h (q _ G H (PExt.refl w.gh) (.bl _))
  · cases hz⟩
/-- in a list | a tuple of data; a sign in a text -/
def inOf (d : D) (ds : List D) : Option Bool := if d.dat && D.dats ds && decide (min (D.deps ds) d.dep ≤ 64) then some (ds.any fun z => deq z d) else none
def isIn : D → D → Option Bool
  | d, .lst ds => inOf d ds
  | d, .tup ds => inOf d ds
  | .str [c], .str s => some (decide (c ∈ s))
  | _, _ => none
def gIn (d e : D) : Option D := (isIn d e).map fun b => .bl b
def gNotIn (d e : D) : Option D := (isIn d e).map fun b => .bl (!b)
def rInM (K : PySem.W.Frag) (neg : Bool) : R2 := fun x y H Q => (∃ d ds, Dp K H x d ∧ (Dp K H y (.list ds) ∨ Dp K H y (.tuple ds)) ∧ d.canLay0 = true ∧ PyData.canLayAll0 ds = true ∧ min (PyData.depthAll ds) d.depth ≤ 64 ∧ Q (.bl (if neg then !ds.any fun z => PyData.eqv z d else ds.any fun z => PyData.eqv z d)) H) ∨
  ∃ (c : Nat) (z : Str), x = .str ⟨#[c]⟩ ∧ y = .str z ∧ Q (.bl (if neg then !decide (c ∈ z.cps.toList) else decide (c ∈ z.cps.toList))) H
theorem op_inM (hu : X.A.units + 65 < cLine) : OpR X (compareOp .In) (rInM X.K false) := by
  intro pins s σ H x y v u Q I rx ry h
  rcases h with ⟨d, ds, hd, he, sd, se, hm, q⟩ | h
  · obtain ⟨as, r1⟩ := Dp.reads I d x v hd rx
    rcases he with he | he
    · obtain ⟨bs, r2⟩ := Dp.reads I (.list ds) y u he ry
      exact SeqAt.in_list_reads r2 r1 se sd (by omega) ⟨.bl _, H, I, rfl, q⟩
    · obtain ⟨bs, r2⟩ := Dp.reads I (.tuple ds) y u he ry
      exact SeqAt.in_tuple_reads r2 r1 se sd (by omega) ⟨.bl _, H, I, rfl, q⟩
  · exact op_in_sign pins s σ H x y v u Q I rx ry h
theorem op_notInM (hu : X.A.units + 65 < cLine) : OpR X (compareOp .NotIn) (rInM X.K true) := by
  intro pins s σ H x y v u Q I rx ry h
  rcases h with ⟨d, ds, hd, he, sd, se, hm, q⟩ | h
  · obtain ⟨as, r1⟩ := Dp.reads I d x v hd rx
    rcases he with he | he
    · obtain ⟨bs, r2⟩ := Dp.reads I (.list ds) y u he ry
      exact SeqAt.notIn_list_reads r2 r1 se sd (by omega) ⟨.bl _, H, I, rfl, q⟩
    · obtain ⟨bs, r2⟩ := Dp.reads I (.tuple ds) y u he ry
      exact SeqAt.notIn_tuple_reads r2 r1 se sd (by omega) ⟨.bl _, H, I, rfl, q⟩
  · exact op_notIn_sign pins s σ H x y v u Q I rx ry h
theorem inM_of {K : PySem.W.Frag} {G H : Hp} {m : List Addr} {x y : V} {d e : D} {neg : Bool} {Q : VK} {b : Bool} (g : Same G H) (rx : RepB K G m H x d) (ry : RepB K G m H y e) (h : isIn d e = some b) (q : Q (.bl (if neg then !b else b)) H) : rInM K neg x y H Q := by
  have key : ∀ ds, inOf d ds = some b → (Dp K H y (.list (D.pys ds)) ∨ Dp K H y (.tuple (D.pys ds))) → PyData.canLayAll0 (D.pys ds) = true → rInM K neg x y H Q := fun ds hb hy hc => by
    unfold inOf at hb
    split at hb
    · rename_i hh
      cases hb
      simp only [Bool.and_eq_true, decide_eq_true_eq] at hh
      obtain ⟨⟨h1, h2⟩, h3⟩ := hh
      obtain ⟨p1, c1⟩ := rx.dp g h1
      refine .inl ⟨_, D.pys ds, p1, hy, c1, hc, by rw [deps_py ds h2, dep_py d h1]; exact h3, ?_⟩
      rw [pys_any d h1 ds h2]
      exact q
    · cases hb
  have dts : ∀ ds, inOf d ds = some b → D.dats ds = true := fun ds hb => by
    unfold inOf at hb
    split at hb
    · rename_i hh
      simp only [Bool.and_eq_true, decide_eq_true_eq] at hh
      exact hh.1.2
    · cases hb
  unfold isIn at h
  split at h
  · rename_i ds
    obtain ⟨p, c⟩ := ry.dp g (show (D.lst ds).dat = true by simp only [D.dat]; exact dts ds h)
    exact key ds h (.inl p) (by simpa only [D.py, PyData.canLay0] using c)
  · rename_i ds
    obtain ⟨p, c⟩ := ry.dp g (show (D.tup ds).dat = true by simp only [D.dat]; exact dts ds h)
    exact key ds h (.inr p) (by simpa only [D.py, PyData.canLay0] using c)
  · cases h
    obtain ⟨rfl, _⟩ := rx.str
    obtain ⟨rfl, _⟩ := ry.str
    exact .inr ⟨_, _, rfl, rfl, q⟩
  · cases h
theorem o_in (hK : C.K = X.K) (hu : X.A.units + 65 < cLine) : Op2 X C (compareOp .In) gIn := ⟨_, op_inM hu, fun st G m H x y d e z Q w rx ry hz q => by
  obtain ⟨b, hb, rfl⟩ := Option.map_eq_some_iff.mp hz
  rw [← hK]
  exact inM_of w.gh rx ry hb (q _ G H (PExt.refl w.gh) (.bl _))⟩
theorem o_notIn (hK : C.K = X.K) (hu : X.A.units + 65 < cLine) : Op2 X C (compareOp .NotIn) gNotIn := ⟨_, op_notInM hu, fun st G m H x y d e z Q w rx ry hz q => by
  obtain ⟨b, hb, rfl⟩ := Option.map_eq_some_iff.mp hz
  rw [← hK]
  exact inM_of w.gh rx ry hb (q _ G H (PExt.refl w.gh) (.bl _))⟩
def D.isN : D → Bool
  | .non => true
  | _ => false
def gIs (d e : D) : Option D := if e.isN then some (.bl d.isN) else none
def gIsNot (d e : D) : Option D := if e.isN then some (.bl (!d.isN)) else none
theorem isN_dec {K : PySem.W.Frag} {G H : Hp} {m : List Addr} {v : V} {d : D} (r : RepB K G m H v d) : decide (v = .non) = d.isN := by
  rcases r with r | ⟨a, rfl, o⟩
  · cases r <;> rfl
  · cases d with
    | lst _ => rfl
    | _ => exact o.elim
theorem isN_eq {K : PySem.W.Frag} {G H : Hp} {m : List Addr} {v : V} {d : D} (r : RepB K G m H v d) (h : d.isN = true) : v = .non := by
  rw [← isN_dec r] at h; have h2 := of_decide_eq_true h; exact h2
theorem o_is : Op2 X C (compareOp .Is) gIs := ⟨_, op_isN, fun st G m H x y d e z Q w rx ry hz q => by
  unfold gIs at hz
  split at hz
  · rename_i h
    cases hz
    exact ⟨isN_eq ry h, by rw [isN_dec rx]; exact q _ G H (PExt.refl w.gh) (.bl _)⟩
  · cases hz⟩
theorem o_isNot : Op2 X C (compareOp .IsNot) gIsNot := ⟨_, op_notN, fun st G m H x y d e z Q w rx ry hz q => by
  unfold gIsNot at hz
  split at hz
  · rename_i h
    cases hz
    exact ⟨isN_eq ry h, by rw [isN_dec rx]; exact q _ G H (PExt.refl w.gh) (.bl _)⟩
  · cases hz⟩
/-- a comparison, by its sign -/
def gCmp : CmpOp → D → D → Option D
  | .Eq => gEq | .NotEq => gNe | .Lt => gLt | .LtE => gLe | .Gt => gGt | .GtE => gGe | .Is => gIs | .IsNot => gIsNot | .In => gIn | .NotIn => gNotIn
theorem o_cmp (hK : C.K = X.K) (hu : X.A.units + 65 < cLine) : ∀ op : CmpOp, Op2 X C (compareOp op) (gCmp op)
  | .Eq => o_eq hK (by omega) | .NotEq => o_ne hK (by omega) | .Lt => o_lt | .LtE => o_le | .Gt => o_gt | .GtE => o_ge | .Is => o_is | .IsNot => o_isNot | .In => o_in hK hu | .NotIn => o_notIn hK hu
theorem gCmp_bl {op : CmpOp} {d e z : D} (h : gCmp op d e = some z) : ∃ b, z = .bl b := by
  have k : ∀ {C0 : Int → Int → Bool} {k : Int → Int → Bool}, gI C0 (fun i j => .bl (k i j)) d e = some z → ∃ b, z = .bl b := fun h => by
    obtain ⟨i, j, _, _, _, rfl⟩ := gI_some h; exact ⟨_, rfl⟩
  cases op with
  | Eq => simp only [gCmp, gEq] at h; split at h <;> cases h; exact ⟨_, rfl⟩
  | NotEq => simp only [gCmp, gNe] at h; split at h <;> cases h; exact ⟨_, rfl⟩
  | Lt => exact k h
  | LtE => exact k h
  | Gt => exact k h
  | GtE => exact k h
  | Is => simp only [gCmp, gIs] at h; split at h <;> cases h; exact ⟨_, rfl⟩
  | IsNot => simp only [gCmp, gIsNot] at h; split at h <;> cases h; exact ⟨_, rfl⟩
  | In => obtain ⟨b, _, rfl⟩ := Option.map_eq_some_iff.mp h; exact ⟨_, rfl⟩
  | NotIn => obtain ⟨b, _, rfl⟩ := Option.map_eq_some_iff.mp h; exact ⟨_, rfl⟩
def gBin : Operator → Option (D → D → Option D)
  | .Add => some gAdd | .Sub => some gSub | .Mult => some gMul | .FloorDiv => some gDiv | .Mod => some gMod | .Pow => some gPow | _ => none
theorem o_bin (hK : C.K = X.K) : ∀ {op : Operator} {g : D → D → Option D}, gBin op = some g → Op2 X C (binaryOp op) g
  | .Add, _, h => by cases h; exact o_add hK
  | .Sub, _, h => by cases h; exact o_sub
  | .Mult, _, h => by cases h; exact o_mul hK
  | .FloorDiv, _, h => by cases h; exact o_div
  | .Mod, _, h => by cases h; exact o_mod
  | .Pow, _, h => by cases h; exact o_pow
  | .MatMult, _, h => by cases h
  | .Div, _, h => by cases h
  | .LShift, _, h => by cases h
  | .RShift, _, h => by cases h
  | .BitOr, _, h => by cases h
  | .BitXor, _, h => by cases h
  | .BitAnd, _, h => by cases h
def gBinF : Operator → Option (D → D → Option D)
  | .Add => some gAddL | .Mult => some gMulL | _ => none
theorem o_binF : ∀ {op : Operator} {g : D → D → Option D}, gBinF op = some g → Op2F X C (binaryOp op) g
  | .Add, _, h => by cases h; exact o_addLF
  | .Mult, _, h => by cases h; exact o_mulLF
  | .Sub, _, h => by cases h
  | .FloorDiv, _, h => by cases h
  | .Mod, _, h => by cases h
  | .Pow, _, h => by cases h
  | .MatMult, _, h => by cases h
  | .Div, _, h => by cases h
  | .LShift, _, h => by cases h
  | .RShift, _, h => by cases h
  | .BitOr, _, h => by cases h
  | .BitXor, _, h => by cases h
  | .BitAnd, _, h => by cases h
end
end DI


/-! DI3: calls of built-ins, methods, subscripts, slices by values -/
namespace DI
open PySem PySem.Spec PyProof.Rows L2

/-! ### calls of one argument -/
def Ca1 (X : Cx) (C : Ct) (f : Value) (g : D → Option D) : Prop :=
  ∃ r : List V → Hp → VK → Prop, CallR X f r ∧ ∀ st G m H x d z (Q : VK), W0 C.T C.K st G m H → RepB C.K G m H x d → g d = some z → (∀ v G' H', PExt G H G' H' → Rep C.K G' m v z → Q v H') → r [x] H Q
def Ca1F (X : Cx) (C : Ct) (f : Value) (g : D → Option D) : Prop :=
  ∃ r : List V → Hp → VK → Prop, CallR X f r ∧ ∀ st G m H x d z (Q : VK), W0 C.T C.K st G m H → RepB C.K G m H x d → g d = some z → (∀ a G' H', PExt G H G' H' → H a = none → OwnAt C.K G' m H' a z → Q (.ref a) H') → r [x] H Q
section
variable {X : Cx} {C : Ct} {f : Value} {g g' : D → Option D}
theorem Ca1.or (h : Ca1 X C f g) (h' : Ca1 X C f g') : Ca1 X C f (fun d => (g d).or (g' d)) := by
  obtain ⟨r, o, i⟩ := h
  obtain ⟨r', o', i'⟩ := h'
  refine ⟨_, o.or o', fun st G m H x d z Q w rx hz q => ?_⟩
  replace hz : (g d).or (g' d) = some z := hz
  cases hg : g d with
  | some z' =>
    rw [hg] at hz
    cases hz
    exact .inl (i st G m H x d _ Q w rx hg q)
  | none =>
    rw [hg] at hz
    exact .inr (i' st G m H x d z Q w rx hz q)
theorem Ca1F.dOf (h : Ca1F X C f g) : Ca1 X C f g := by
  obtain ⟨r, o, i⟩ := h
  refine ⟨r, o, fun st G m H x d z Q w rx hz q => i st G m H x d z Q w rx hz fun a G' H' e ha own => ?_⟩
  cases z with
  | lst ds =>
    obtain ⟨g1, n, vs, hv, r1⟩ := own
    have gg : Same G' (upd G' a (.lst vs)) := same_upd' g1
    refine q (.ref a) (upd G' a (.lst vs)) H' ⟨e.gg.trans gg, e.hh, fun b u hb => ?_, fun b hb => ?_, fun b ps hb => ?_⟩ (.lst upd_same (r1.mono gg ⟨[], by simp⟩))
    · by_cases z : b = a
      · subst z; rw [upd_same] at hb; rw [hv]; exact hb
      · rw [upd_ne z] at hb; exact e.gh b u hb
    · rw [upd_ne (fun z => hb (by rw [z]; exact ha))]
      exact e.new b hb
    · by_cases z : b = a
      · subst z; rw [upd_same] at hb; cases hb
      · rw [upd_ne z] at hb; exact e.nt b ps hb
  | _ => exact own.elim

def gLen : D → Option D
  | .lst ds => some (.int ds.length)
  | .tup ds => some (.int ds.length)
  | .fls ds => some (.int ds.length)
  | .str s => if s.length ≤ sizeLine then some (.int s.length) else none
  | _ => none
theorem c_len (hK : C.K = X.K) : Ca1 X C (.builtin "len") gLen := ⟨_, (call_len_seq (X := X)).or call_len_str, fun st G m H x d z Q w rx hz q => by
  have fin : ∀ (ds : List D) (vs : List V), RepAll C.K G m vs ds → z = .int ds.length → Q (.int vs.length) H := fun ds vs r e => by
    subst e
    rw [r.length]
    exact q _ G H (PExt.refl w.gh) (.int _)
  cases d with
  | lst ds =>
    obtain ⟨a, vs, rfl, h, r⟩ := rx.lst w.gh
    exact .inl ⟨a, vs, rfl, .inl (.inl (.inl h)), fin ds vs r (Option.some.inj hz).symm⟩
  | tup ds =>
    obtain ⟨a, vs, rfl, h, r⟩ := rx.tup w.gh
    rw [hK] at h
    exact .inl ⟨a, vs, rfl, .inr h, fin ds vs r (Option.some.inj hz).symm⟩
  | fls ds =>
    obtain ⟨a, vs, rfl, h, r⟩ := rx.fls w.gh
    rw [hK] at h
    exact .inl ⟨a, vs, rfl, .inl h, fin ds vs r (Option.some.inj hz).symm⟩
  | str s =>
    obtain ⟨rfl, _⟩ := rx.str
    have hz' : (if s.length ≤ sizeLine then some (D.int s.length) else none) = some z := hz
    split at hz'
    · rename_i hl
      cases hz'
      refine .inr ⟨_, rfl, by simpa [Str.length] using hl, ?_⟩
      have e : (⟨s.toArray⟩ : Str).length = s.length := by simp [Str.length]
      rw [e]
      exact q _ G H (PExt.refl w.gh) (.int _)
    · cases hz'
  | _ => cases hz⟩
def gInt : D → Option D
  | .int i => some (.int i)
  | .bl b => some (.int (if b then 1 else 0))
  | .str s => if s.length ≤ 640 then (PySem.intText? (mkS s)).map .int else none
  | _ => none
theorem c_int : Ca1 X C (.type "int") gInt := ⟨_, (call_int1 (X := X)).or call_int_str, fun st G m H x d z Q w rx hz q => by
  cases d with
  | int i =>
    cases hz
    have := rx.int
    subst this
    exact .inl (.inl ⟨i, rfl, q _ G H (PExt.refl w.gh) (.int _)⟩)
  | bl b =>
    cases hz
    have := rx.bl
    subst this
    exact .inl (.inr ⟨b, rfl, q _ G H (PExt.refl w.gh) (.int _)⟩)
  | str s =>
    obtain ⟨rfl, _⟩ := rx.str
    have hz' : (if s.length ≤ 640 then (PySem.intText? (mkS s)).map D.int else none) = some z := hz
    split at hz'
    · rename_i hl
      obtain ⟨n, hn, rfl⟩ := Option.map_eq_some_iff.mp hz'
      exact .inr ⟨_, n, rfl, hn, by simpa [Str.length] using hl, q _ G H (PExt.refl w.gh) (.int _)⟩
    · cases hz'
  | _ => cases hz⟩
/-- str(n) as codes -/
def intS (i : Int) : List Nat := (toString i).toList.map Char.toNat
theorem char_lt (c : Char) : c.toNat < 0x110000 := by
  have h := c.valid
  simp only [UInt32.isValidChar, Nat.isValidChar] at h
  show c.val.toNat < _
  omega
theorem all_chars (s : String) : (s.toList.map Char.toNat).all (· < 0x110000) = true := by
  rw [List.all_eq_true]
  intro x hx
  obtain ⟨c, _, rfl⟩ := List.mem_map.mp hx
  exact decide_eq_true (char_lt c)
theorem str_ofString (s : String) : (Str.ofString s) = mkS (s.toList.map Char.toNat) := Str.ofString_eq_toList s
def gStr : D → Option D
  | .int i => if i.natAbs.log2 < 1920 then some (.str (intS i)) else none
  | .str s => some (.str s)
  | _ => none
theorem c_str : Ca1 X C (.type "str") gStr := ⟨_, (call_str_int (X := X)).or SkE.call_str_str, fun st G m H x d z Q w rx hz q => by
  cases d with
  | int i =>
    have hz' : (if i.natAbs.log2 < 1920 then some (D.str (intS i)) else none) = some z := hz
    split at hz'
    · rename_i hl
      cases hz'
      have := rx.int
      subst this
      refine .inl ⟨i, rfl, hl, ?_⟩
      have e : (((toString i : String) : Str)) = mkS (intS i) := str_ofString _
      rw [e]
      exact q _ G H (PExt.refl w.gh) (.str _ (all_chars _))
    · cases hz'
  | str s =>
    cases hz
    obtain ⟨rfl, h⟩ := rx.str
    exact .inr ⟨_, rfl, q _ G H (PExt.refl w.gh) (.str _ h)⟩
  | _ => cases hz⟩
def gTuple : D → Option D
  | .lst ds => some (.tup ds)
  | .tup ds => some (.tup ds)
  | _ => none
theorem c_tuple (hK : C.K = X.K) : Ca1 X C (.type "tuple") gTuple := ⟨_, call_tuple_of (X := X), fun st G m H x d z Q w rx hz q => by
  cases d with
  | lst ds =>
    cases hz
    obtain ⟨a, vs, rfl, h, r⟩ := rx.lst w.gh
    refine ⟨a, vs, rfl, .inl ⟨.inl (.inl h), fun p hp => ?_⟩⟩
    obtain ⟨e, r2⟩ := w.tupNew hp r
    exact q _ _ _ e r2
  | tup ds =>
    cases hz
    obtain ⟨a, vs, rfl, h, r⟩ := rx.tup w.gh
    rcases rx with rx | ⟨_, _, o⟩
    · rw [hK] at h
      exact ⟨a, vs, rfl, .inr ⟨h, q _ G H (PExt.refl w.gh) rx⟩⟩
    · exact o.elim
  | _ => cases hz⟩
def gList : D → Option D
  | .lst ds => some (.lst ds)
  | .tup ds => some (.lst ds)
  | _ => none
theorem c_listF (hK : C.K = X.K) : Ca1F X C (.type "list") gList := ⟨_, call_list_of (X := X), fun st G m H x d z Q w rx hz q => by
  cases d with
  | lst ds =>
    cases hz
    obtain ⟨a, vs, rfl, h, r⟩ := rx.lst w.gh
    refine ⟨a, vs, rfl, .inl (.inl (.inl h)), fun p hp => ?_⟩
    obtain ⟨e, r2⟩ := w.ownNew hp r
    exact q _ _ _ e hp r2
  | tup ds =>
    cases hz
    obtain ⟨a, vs, rfl, h, r⟩ := rx.tup w.gh
    rw [hK] at h
    refine ⟨a, vs, rfl, .inr h, fun p hp => ?_⟩
    obtain ⟨e, r2⟩ := w.ownNew hp r
    exact q _ _ _ e hp r2
  | _ => cases hz⟩
def gSum : D → Option D
  | .lst ds => (D.asInts ds).map fun ns => .int ns.sum
  | _ => none
theorem c_sum (hc : X.calm = true) : Ca1 X C (.builtin "sum") gSum := ⟨_, cr_sum hc, fun st G m H x d z Q w rx hz q => by
  cases d with
  | lst ds =>
    obtain ⟨ns, hn, rfl⟩ := Option.map_eq_some_iff.mp hz
    have := asInts_eq hn
    subst this
    obtain ⟨a, vs, rfl, h, r⟩ := rx.lst w.gh
    have := r.ints
    subst this
    exact ⟨a, ns, rfl, .inl (.inl h), q _ G H (PExt.refl w.gh) (.int _)⟩
  | _ => cases hz⟩
def gAll : D → Option D
  | .lst ds => (D.asBls ds).map fun ns => .bl (ns.all id)
  | _ => none
theorem c_all (hc : X.calm = true) : Ca1 X C (.builtin "all") gAll := ⟨_, cr_all hc, fun st G m H x d z Q w rx hz q => by
  cases d with
  | lst ds =>
    obtain ⟨ns, hn, rfl⟩ := Option.map_eq_some_iff.mp hz
    have := asBls_eq hn
    subst this
    obtain ⟨a, vs, rfl, h, r⟩ := rx.lst w.gh
    have := r.bls
    subst this
    exact ⟨a, ns, rfl, .inl (.inl h), q _ G H (PExt.refl w.gh) (.bl _)⟩
  | _ => cases hz⟩
def gAny : D → Option D
  | .lst ds => (D.asBls ds).map fun ns => .bl (ns.any id)
  | _ => none
theorem c_any (hc : X.calm = true) : Ca1 X C (.builtin "any") gAny := ⟨_, cr_any hc, fun st G m H x d z Q w rx hz q => by
  cases d with
  | lst ds =>
    obtain ⟨ns, hn, rfl⟩ := Option.map_eq_some_iff.mp hz
    have := asBls_eq hn
    subst this
    obtain ⟨a, vs, rfl, h, r⟩ := rx.lst w.gh
    have := r.bls
    subst this
    exact ⟨a, ns, rfl, .inl (.inl h), q _ G H (PExt.refl w.gh) (.bl _)⟩
  | _ => cases hz⟩
/-- isinstance(x, T), T a built-in type -/
def D.tyN : D → Option String
  | .non => some "NoneType" | .bl _ => some "bool" | .int _ => some "int" | .str _ => some "str"
  | .lst _ => some "list" | .tup _ => some "tuple" | _ => none
def gIsi (T : String) (d : D) : Option D := d.tyN.bind fun t => (kitB t T).map .bl
theorem tyX_of {K : PySem.W.Frag} {G H : Hp} {m : List Addr} {x : V} {d : D} {t : String} (g : Same G H) (rx : RepB K G m H x d) (h : d.tyN = some t) : TyX K H x (.type t) := by
  cases d with
  | non => cases h; rw [rx.non]; exact .base .non
  | bl b => cases h; rw [rx.bl]; exact .base (.bl b)
  | int i => cases h; rw [rx.int]; exact .base (.int i)
  | str s => cases h; rw [rx.str.1]; exact .base (.str _)
  | lst ds =>
    cases h
    obtain ⟨a, vs, rfl, h, r⟩ := rx.lst g
    exact .base (.lst h)
  | tup ds =>
    cases h
    obtain ⟨a, vs, rfl, h, r⟩ := rx.tup g
    rcases h with (h | ⟨o, h⟩) | ⟨o, its, n, h1, h2, _⟩
    · exact .base (.tup h)
    · exact .fTuple h
    · exact .kTuple h1 h2
  | _ => cases h
end

/-! ### methods -/
/-- the receiver's type, as the method call asks -/
def recOk (T : String) : D → Bool
  | .str _ => T == "str"
  | .lst _ => T == "list"
  | _ => false
theorem recOk_ty {K : PySem.W.Frag} {G H : Hp} {m : List Addr} {x : V} {d : D} {T : String} (g : Same G H) (rx : RepB K G m H x d) (h : recOk T d = true) : tyV K T x H := by
  cases d with
  | str s =>
    rw [rx.str.1]
    exact beq_iff_eq.mp h
  | lst ds =>
    obtain ⟨a, vs, rfl, hv, r⟩ := rx.lst g
    exact .inl ⟨beq_iff_eq.mp h, vs, .inl (.inl hv)⟩
  | _ => cases h
def Mt1 (X : Cx) (C : Ct) (id : String) (g : D → D → Option D) : Prop :=
  ∃ r : V → List V → Hp → VK → Prop, MtR X id r ∧ ∀ st G m H x y d e z (Q : VK), W0 C.T C.K st G m H → RepB C.K G m H x d → RepB C.K G m H y e → g d e = some z → (∀ v G' H', PExt G H G' H' → Rep C.K G' m v z → Q v H') → r x [y] H Q
section
variable {X : Cx} {C : Ct}
/-- s.split(sep) -/
def sSplit (s t : List Nat) : List (List Nat) := TL.spl t 0 [] s
theorem spl_all (P : Nat → Bool) (S : List Nat) : ∀ (l : List Nat) (k : Nat) (acc : List Nat), l.all P = true → acc.all P = true → ∀ x ∈ TL.spl S k acc l, x.all P = true
  | [], k, acc, _, ha, x, hx => by
    rw [TL.spl_nil] at hx
    rw [List.mem_singleton.mp hx]
    exact ha
  | c :: r, 0, acc, hl, ha, x, hx => by
    have hl' := Bool.and_eq_true_iff.mp (by simpa only [List.all_cons] using hl)
    cases hp : TL.pre S (c :: r) with
    | true =>
      rw [TL.spl_hit hp] at hx
      rcases List.mem_cons.mp hx with rfl | hx
      · exact ha
      · exact spl_all P S r _ [] hl'.2 rfl x hx
    | false =>
      rw [TL.spl_miss hp] at hx
      exact spl_all P S r 0 (acc ++ [c]) hl'.2 (by rw [List.all_append, ha]; simp [hl'.1]) x hx
  | c :: r, k + 1, acc, hl, ha, x, hx => by
    have hl' := Bool.and_eq_true_iff.mp (by simpa only [List.all_cons] using hl)
    exact spl_all P S r k acc hl'.2 ha x hx
theorem map_mkS_tl : ∀ xs : List Str, (xs.map TL.tl).map mkS = xs
  | [] => rfl
  | x :: xs => by
    rw [List.map_cons, List.map_cons, map_mkS_tl xs]
def gSplit : D → D → Option D
  | .str s, .str t => if t ≠ [] ∧ t.all (· < 256) = true ∧ s.length + 2 ≤ sizeLine then some (.lst ((sSplit s t).map .str)) else none
  | _, _ => none
theorem m_split : Mt1 X C "str.split" gSplit := ⟨_, mt_split, fun st G m H x y d e z Q w rx ry hz q => by
  unfold gSplit at hz
  split at hz
  · split at hz
    · rename_i s t hc
      cases hz
      obtain ⟨h1, h2, h3⟩ := hc
      obtain ⟨rfl, hs⟩ := rx.str
      obtain ⟨rfl, ht⟩ := ry.str
      have hl : ((⟨t.toArray⟩ : Str).length == 0) = false := by
        cases t with
        | nil => exact absurd rfl h1
        | cons c r => simp [Str.length]
      have e : Txt.split (mkS s) (mkS t) = (sSplit s t).map mkS := by
        rw [← map_mkS_tl (Txt.split (mkS s) (mkS t)), TL.split_spl (mkS s) (mkS t) h1 (TL.kind_ok (by simpa using h2))] <;> rfl
      refine ⟨mkS s, mkS t, rfl, rfl, hl, by simpa [Str.length] using h3, fun p hp => ?_⟩
      rw [e]
      obtain ⟨e2, r⟩ := w.lstNew hp (RepAll.ofStrs (K := C.K) (G := G) (m := m) (ns := sSplit s t) (spl_all _ t s 0 [] hs rfl))
      exact q _ _ _ e2 r
    · cases hz
  · cases hz⟩
/-- sep.join(texts) -/
def gJoin : D → D → Option D
  | .str s, .lst ds => (D.asStrs ds).bind fun ts => if (ts.map (·.length)).sum + ts.length * s.length ≤ 16777216 then some (.str (TL.joinL s ts)) else none
  | .str s, .tup ds => (D.asStrs ds).bind fun ts => if (ts.map (·.length)).sum + ts.length * s.length ≤ 16777216 then some (.str (TL.joinL s ts)) else none
  | _, _ => none
theorem joinL_all (P : Nat → Bool) (S : List Nat) (hS : S.all P = true) : ∀ ts : List (List Nat), (∀ t ∈ ts, t.all P = true) → (TL.joinL S ts).all P = true
  | [], _ => rfl
  | [t], h => h t List.mem_cons_self
  | t :: u :: r, h => by
    show (t ++ (S ++ TL.joinL S (u :: r))).all P = true
    rw [List.all_append, List.all_append, h t List.mem_cons_self, hS, joinL_all P S hS (u :: r) fun x hx => h x (List.mem_cons_of_mem _ hx)]
    rfl
theorem join_mkS (s : List Nat) (ts : List (List Nat)) : Txt.join (mkS s) (ts.map mkS) = mkS (TL.joinL s ts) := by
  rw [TL.join_eq]
  refine TL.ext_tl ?_
  rw [TL.tl_join, List.map_map]
  have e : ts.map (TL.tl ∘ mkS) = ts := by
    induction ts with
    | nil => rfl
    | cons t r ih => rw [List.map_cons, ih]; rfl
  rw [e]
theorem m_join (hK : C.K = X.K) : Mt1 X C "str.join" gJoin := ⟨_, mt_join, fun st G m H x y d e z Q w rx ry hz q => by
  have fin : ∀ (s : List Nat) (ds : List D) (a : Addr) (vs : List V), x = .str (mkS s) → s.all (· < 0x110000) = true → y = .ref a → (SqL X.K H a vs ∨ SqT X.K H a vs) → RepAll C.K G m vs ds →
      ((D.asStrs ds).bind fun ts => if (ts.map (·.length)).sum + ts.length * s.length ≤ 16777216 then some (D.str (TL.joinL s ts)) else none) = some z →
      ∃ (a : Str) (p : Addr) (ys : List Str), x = V.str a ∧ [y] = [V.ref p] ∧ (SqL X.K H p (ys.map V.str) ∨ SqT X.K H p (ys.map V.str)) ∧ (ys.map (·.length)).sum + ys.length * a.length ≤ 16777216 ∧ Q (.str (Txt.join a ys)) H := fun s ds a vs hx hs hy hv r hz => by
    obtain ⟨ts, ht, hz⟩ := Option.bind_eq_some_iff.mp hz
    split at hz
    · rename_i hl
      cases hz
      have := asStrs_eq ht
      subst this
      obtain ⟨e1, h1⟩ := r.strs
      subst e1
      have el : (ts.map mkS).map (·.length) = ts.map (·.length) := by
        rw [List.map_map]
        exact List.map_congr_left fun t _ => by simp [Str.length]
      refine ⟨mkS s, a, ts.map mkS, hx, by rw [hy], hv, by rw [el, List.length_map]; simpa [Str.length] using hl, ?_⟩
      rw [join_mkS]
      exact q _ G H (PExt.refl w.gh) (.str _ (joinL_all _ s hs ts h1))
    · cases hz
  unfold gJoin at hz
  split at hz
  · obtain ⟨rfl, hs⟩ := rx.str
    obtain ⟨a, vs, rfl, h, r⟩ := ry.lst w.gh
    exact fin _ _ a vs rfl hs rfl (.inl (.inl (.inl h))) r hz
  · obtain ⟨rfl, hs⟩ := rx.str
    obtain ⟨a, vs, rfl, h, r⟩ := ry.tup w.gh
    rw [hK] at h
    exact fin _ _ a vs rfl hs rfl (.inr h) r hz
  · cases hz⟩
def gCountS : D → D → Option D
  | .str s, .str t => some (.int (Txt.count (mkS s) (mkS t)))
  | _, _ => none
theorem m_countS : Mt1 X C "str.count" gCountS := ⟨_, mt_count, fun st G m H x y d e z Q w rx ry hz q => by
  unfold gCountS at hz
  split at hz
  · cases hz
    obtain ⟨rfl, hs⟩ := rx.str
    obtain ⟨rfl, ht⟩ := ry.str
    exact ⟨_, _, rfl, rfl, q _ G H (PExt.refl w.gh) (.int _)⟩
  · cases hz⟩
def gIndexS : D → D → Option D
  | .str s, .str t => match Builtin.Str.occurrences (mkS s) (mkS t) 0 (mkS s).length 1 with
    | i :: _ => some (.int (i : Nat))
    | [] => none
  | _, _ => none
theorem m_indexS : Mt1 X C "str.index" gIndexS := ⟨_, mt_sindex, fun st G m H x y d e z Q w rx ry hz q => by
  unfold gIndexS at hz
  split at hz
  · split at hz
    · rename_i s t i rest ho
      cases hz
      obtain ⟨rfl, hs⟩ := rx.str
      obtain ⟨rfl, ht⟩ := ry.str
      exact ⟨_, _, i, rest, rfl, rfl, ho, q _ G H (PExt.refl w.gh) (.int _)⟩
    · cases hz
  · cases hz⟩
/-- the first place of an equal item -/
def dIndex (d : D) : List D → Option Nat
  | [] => none
  | x :: xs => if deq x d then some 0 else (dIndex d xs).map (· + 1)
theorem dIndex_at {d : D} : ∀ {ds : List D} {j : Nat}, dIndex d ds = some j → ∃ z, ds[j]? = some z ∧ deq z d = true ∧ ∀ (m : Nat) (z' : D), m < j → ds[m]? = some z' → deq z' d = false
  | [], j, h => by cases h
  | x :: xs, j, h => by
    have h' : (if deq x d then some 0 else (dIndex d xs).map (· + 1)) = some j := h
    split at h'
    · rename_i hx
      cases h'
      exact ⟨x, rfl, hx, fun m z' hm => absurd hm (Nat.not_lt_zero _)⟩
    · rename_i hx
      obtain ⟨k, hk, rfl⟩ := Option.map_eq_some_iff.mp h'
      obtain ⟨z, h1, h2, h3⟩ := dIndex_at hk
      refine ⟨z, by simpa using h1, h2, fun m z' hm hz => ?_⟩
      cases m with
      | zero => simp at hz; rw [← hz]; simpa using hx
      | succ m => exact h3 m z' (by omega) (by simpa using hz)
theorem pys_get : ∀ {ds : List D} {j : Nat}, (D.pys ds)[j]? = (ds[j]?).map D.py
  | [], j => by simp [D.pys]
  | x :: xs, 0 => rfl
  | x :: xs, j + 1 => by
    show (D.pys xs)[j]? = _
    rw [pys_get]
    simp
theorem dats_get : ∀ {ds : List D} {j : Nat} {d : D}, D.dats ds = true → ds[j]? = some d → d.dat = true
  | [], j, d, _, h => by simp at h
  | x :: xs, 0, d, h, e => by
    simp at e
    subst e
    exact (Bool.and_eq_true_iff.mp (by simpa only [D.dats] using h)).1
  | x :: xs, j + 1, d, h, e => dats_get (Bool.and_eq_true_iff.mp (by simpa only [D.dats] using h)).2 (by simpa using e)
def gIndexL : D → D → Option D
  | .lst ds, d => if d.dat && D.dats ds && decide (D.deps ds + 1 ≤ 64) && decide (d.dep ≤ 64) then (dIndex d ds).map fun j => .int (j : Nat) else none
  | _, _ => none
theorem m_indexL (hK : C.K = X.K) (hu : X.A.units + 65 < cLine) : Mt1 X C "list.index" gIndexL := ⟨_, mt_indexD hu, fun st G m H x y d e0 z Q w rx ry hz q => by
  unfold gIndexL at hz
  split at hz
  · split at hz
    · rename_i _ ds hc
      simp only [Bool.and_eq_true, decide_eq_true_eq] at hc
      obtain ⟨⟨⟨h1, h2⟩, h3⟩, h4⟩ := hc
      obtain ⟨j, hj, rfl⟩ := Option.map_eq_some_iff.mp hz
      have hd : (D.lst ds).dat = true := by simp only [D.dat]; exact h2
      obtain ⟨p1, c1⟩ := rx.dp w.gh hd
      obtain ⟨p2, c2⟩ := ry.dp w.gh h1
      obtain ⟨a, vs, ex, h, r⟩ := rx.lst w.gh
      subst ex
      rw [hK] at p1 p2
      obtain ⟨zz, g1, g2, g3⟩ := dIndex_at hj
      have sh : ∀ k : D, k.dat = true → k.py.canLay0 = true → k.dep ≤ 64 → SeqAt.shaped k.py = true := fun k k1 k2 k3 => by
        unfold SeqAt.shaped
        rw [k2, dep_py k k1, decide_eq_true k3]
        rfl
      refine ⟨a, y, e0.py, D.pys ds, j, zz.py, rfl, rfl, by simpa only [D.py] using p1, p2, ?_, sh e0 h1 c2 h4, by rw [pys_get, g1]; rfl, by rw [deq_py zz e0 (dats_get h2 g1) h1]; exact g2, fun k z' hk hz' => ?_, q _ G H (PExt.refl w.gh) (.int _)⟩
      · have := sh (.lst ds) hd c1 (by simp only [D.dep]; exact h3)
        simpa only [D.py] using this
      · rw [pys_get] at hz'
        obtain ⟨z2, e1, rfl⟩ := Option.map_eq_some_iff.mp hz'
        rw [deq_py z2 e0 (dats_get h2 e1) h1]
        exact g3 k z2 hk e1
    · cases hz
  · cases hz⟩
end
end DI


/-! DI4: expressions -/
namespace DI
open PySem PySem.Spec PyProof.Rows L2

abbrev DFB := DEnv → Store → Res Bool
abbrev DFL := DEnv → Store → Res (List D)
def dK (d : D) : DF := fun _ st => .ok d st
def dVar (i : Nat) : DF := fun env st => match env[i]? with
  | some (some (.sh d)) => .ok d st
  | _ => .stuck
/-- borrowed: an own list too -/
def dVarB (i : Nat) : DF := fun env st => match env[i]? with
  | some (some (.sh d)) => .ok d st
  | some (some (.ow d)) => .ok d st
  | _ => .stuck
def dBin (g : D → D → Option D) (fa fb : DF) : DF := fun env st => (fa env st).bind fun x st => (fb env st).bind fun y st => Res.opt (g x y) st
def D.toB : D → Option Bool
  | .bl b => some b
  | _ => none
/-- a value as a test -/
def dTest (f : DF) : DFB := fun env st => (f env st).bind fun x st => Res.opt x.toB st
def dChain (g g' : D → D → Option D) (fa fb fc : DF) : DF := fun env st => (fa env st).bind fun x st => (fb env st).bind fun y st => (Res.opt ((g x y).bind D.toB) st).bind fun k st =>
  if k then (fc env st).bind fun z st => Res.opt (g' y z) st else .ok (.bl false) st
def dAndT (f g : DFB) : DFB := fun env st => (f env st).bind fun b st => if b then g env st else .ok false st
def dOrT (f g : DFB) : DFB := fun env st => (f env st).bind fun b st => if b then .ok true st else g env st
def dNotT (f : DFB) : DFB := fun env st => (f env st).bind fun b st => .ok (!b) st
def dOfT (f : DFB) : DF := fun env st => (f env st).bind fun b st => .ok (.bl b) st
def dIf {α : Type} (c : DFB) (f g : DEnv → Store → Res α) : DEnv → Store → Res α := fun env st => (c env st).bind fun b st => if b then f env st else g env st
def lenOk (ds : List D) : Bool := decide (ds.length ≤ sizeLine)
def dTup (f : DFL) : DF := fun env st => (f env st).bind fun ds st => if lenOk ds then .ok (.tup ds) st else .stuck
def dLst (f : DFL) : DF := fun env st => (f env st).bind fun ds st => if lenOk ds then .ok (.lst ds) st else .stuck
def dNil : DFL := fun _ st => .ok [] st
def dCons (f : DF) (r : DFL) : DFL := fun env st => (f env st).bind fun d st => (r env st).bind fun ds st => .ok (d :: ds) st
def D.items : D → Option (List D)
  | .lst xs => some xs
  | .tup xs => some xs
  | _ => none
def dStar (f : DF) (r : DFL) : DFL := fun env st => (f env st).bind fun d st => (Res.opt d.items st).bind fun xs st => (r env st).bind fun ds st => .ok (xs ++ ds) st
def dC1 (g : D → Option D) (f : DF) : DF := fun env st => (f env st).bind fun x st => Res.opt (g x) st
def dM1 (T : String) (g : D → D → Option D) (fo fa : DF) : DF := fun env st => (fo env st).bind fun x st => if recOk T x then (fa env st).bind fun y st => Res.opt (g x y) st else .stuck

/-- no star -/
def noStar : Expr → Bool
  | .Starred .. => false
  | _ => true
theorem starEach_ns {e : Expr} (h : noStar e = true) (es : List Expr) (env : Env) : starEach (e :: es) env = (false, eval e env) :: starEach es env := by
  cases e <;> first | rfl | cases h
/-- a test by its value -/
def plainT : Expr → Bool
  | .UnaryOp .Not _ _ => false
  | .BoolOp .. => false
  | .IfExp .. => false
  | .Compare .. => false
  | _ => true
theorem plainT_eq {e : Expr} (h : plainT e = true) (env : Env) (whole : Sem Value) : isTrue e env whole = (do let v ← whole; standAt e.pos; holding [v] (truthy v)) := by
  cases e with
  | UnaryOp op x p => cases op <;> first | rfl | cases h
  | BoolOp _ _ _ => cases h
  | IfExp _ _ _ _ => cases h
  | Compare _ _ _ _ => cases h
  | _ => rfl
/-- no set display behind in -/
def noSet : Expr → Bool
  | .Set .. => false
  | _ => true
theorem noSet_marks {b : Expr} (h : noSet b = true) (op : CmpOp) : behindInMarks op b = false := by
  cases b <;> first | rfl | cases h
def noSlice : Expr → Bool
  | .Slice .. => false
  | _ => true
theorem noSlice_ix {b : Expr} (h : noSlice b = true) : PlainIx b := fun o i => by
  cases b <;> first | rfl | cases h
/-- no super() -/
def noCall : Expr → Bool
  | .Call .. => false
  | _ => true
theorem noCall_base {o : Expr} (h : noCall o = true) (n : Str) (env : Env) (whole : Sem Value) : attributeBase o n env whole = whole := by
  cases o <;> first | rfl | cases h

section
variable {X : Cx} {C : Ct} {a b c e : Expr} {fa fb fc f : DF} {pos : Pos}
theorem e_int {i : Int} {j : Nat} : PE X (.Constant (.int i) j pos) (tD C (dK (.int i))) := pe_int.imp fun σ H Q ⟨G, m, env, st, R, h⟩ => h.here R _ (.int i)
theorem e_bl {i : Bool} {j : Nat} : PE X (.Constant (.bool i) j pos) (tD C (dK (.bl i))) := pe_bl.imp fun σ H Q ⟨G, m, env, st, R, h⟩ => h.here R _ (.bl i)
theorem e_non {j : Nat} : PE X (.Constant .none j pos) (tD C (dK .non)) := pe_non.imp fun σ H Q ⟨G, m, env, st, R, h⟩ => h.here R _ .non
theorem e_str {s : List Nat} {j : Nat} (hs : s.all (· < 0x110000) = true) : PE X (.Constant (.str (mkS s)) j pos) (tD C (dK (.str s))) := pe_str.imp fun σ H Q ⟨G, m, env, st, R, h⟩ => h.here R _ (.str s hs)
theorem e_var {i : Nat} {x : Str} (hN : X.N[i]? = some x) (hv : Vis X.env.scope x) (hd : (x == ("__debug__" : Str)) = false) (hcd : (x == ("__classdict__" : Str)) = false) : PE X (.Name x pos) (tD C (dVar i)) := (pe_var hN hv hd hcd).imp fun σ H Q ⟨G, m, env, st, R, h⟩ => by
  unfold dVar at h
  split at h
  · rename_i d he
    obtain ⟨v, h1, x, h2, r⟩ := R.slot i _ he
    subst h2
    exact ⟨x, h1, h.here R x r⟩
  · exact h.elim
theorem e_varB {i : Nat} {x : Str} (hN : X.N[i]? = some x) (hv : Vis X.env.scope x) (hd : (x == ("__debug__" : Str)) = false) (hcd : (x == ("__classdict__" : Str)) = false) : PE X (.Name x pos) (tB C (dVarB i)) := (pe_var hN hv hd hcd).imp fun σ H Q ⟨G, m, env, st, R, h⟩ => by
  unfold dVarB at h
  split at h
  · rename_i d he
    obtain ⟨v, h1, x, h2, r⟩ := R.slot i _ he
    subst h2
    exact ⟨x, h1, h.here R x (.inl r)⟩
  · rename_i d he
    obtain ⟨v, h1, a, h2, o⟩ := R.slot i _ he
    subst h2
    exact ⟨.ref a, h1, h.here R _ (.inr ⟨a, rfl, o⟩)⟩
  · exact h.elim
theorem e_glob {x : Str} {v : V} {u : Value} {d : D} (hg : Gl X x) (hm : X.mg x = some u) (r : RelV v u) (hr : ∀ G m, Rep C.K G m v d) (hd : (x == ("__debug__" : Str)) = false) : PE X (.Name x pos) (tD C (dK d)) := (pe_glob hg hm r hd).imp fun σ H Q ⟨G, m, env, st, R, h⟩ => h.here R _ (hr G m)
theorem e_bin {op : Operator} {g : D → D → Option D} (o : Op2 X C (binaryOp op) g) (ha : PE X a (tB C fa)) (hb : PE X b (tB C fb)) : PE X (.BinOp a op b pos) (tD C (dBin g fa fb)) := by
  obtain ⟨r, ho, hi⟩ := o
  refine (pe_op ho ha hb).imp fun σ H Q ⟨G, m, env, st, R, h⟩ => ?_
  exact ⟨G, m, env, st, R, (Aft.bind h).imp fun x st1 G1 m1 H1 E1 R1 h1 v rv => ⟨G1, m1, env, st1, R1, (Aft.bind h1).imp fun y st2 G2 m2 H2 E2 R2 h2 w rw' => by
    obtain ⟨z, hz, h3⟩ := h2.opt
    exact hi st2 G2 m2 H2 v w x y z Q R2.w (rv.ext E2) rw' hz fun u G' H' p r3 => h3.pure R2 p u r3⟩⟩
theorem e_binF {op : Operator} {g : D → D → Option D} (o : Op2F X C (binaryOp op) g) (ha : PE X a (tB C fa)) (hb : PE X b (tB C fb)) : PE X (.BinOp a op b pos) (tF C (dBin g fa fb)) := by
  obtain ⟨r, ho, hi⟩ := o
  refine (pe_op ho ha hb).imp fun σ H Q ⟨G, m, env, st, R, h⟩ => ?_
  exact ⟨G, m, env, st, R, (Aft.bind h).imp fun x st1 G1 m1 H1 E1 R1 h1 v rv => ⟨G1, m1, env, st1, R1, (Aft.bind h1).imp fun y st2 G2 m2 H2 E2 R2 h2 w rw' => by
    obtain ⟨z, hz, h3⟩ := h2.opt
    exact hi st2 G2 m2 H2 v w x y z Q R2.w (rv.ext E2) rw' hz fun u G' H' p hu r3 => h3.pure R2 p u (fun z => npr hu ((E1.trans E2).th u z)) r3⟩⟩
theorem e_cmp {op : CmpOp} {g : D → D → Option D} (o : Op2 X C (compareOp op) g) (ha : PE X a (tB C fa)) (hb : PE X b (tB C fb)) (hm : noSet b = true) : PE X (.Compare a [op] [b] pos) (tD C (dBin g fa fb)) := by
  obtain ⟨r, ho, hi⟩ := o
  refine (pe_cmpR ho ha hb (noSet_marks hm op)).imp fun σ H Q ⟨G, m, env, st, R, h⟩ => ?_
  exact ⟨G, m, env, st, R, (Aft.bind h).imp fun x st1 G1 m1 H1 E1 R1 h1 v rv => ⟨G1, m1, env, st1, R1, (Aft.bind h1).imp fun y st2 G2 m2 H2 E2 R2 h2 w rw' => by
    obtain ⟨z, hz, h3⟩ := h2.opt
    exact hi st2 G2 m2 H2 v w x y z Q R2.w (rv.ext E2) rw' hz fun u G' H' p r3 => h3.pure R2 p u r3⟩⟩
theorem toB_some {d : D} {b : Bool} (h : d.toB = some b) : d = .bl b := by
  cases d with
  | bl x => cases h; rfl
  | _ => cases h
theorem t_cmp {op : CmpOp} {g : D → D → Option D} (o : Op2 X C (compareOp op) g) (ha : PE X a (tB C fa)) (hb : PE X b (tB C fb)) (hm : noSet b = true) : PT X (.Compare a [op] [b] pos) (tT C (dTest (dBin g fa fb))) := by
  obtain ⟨r, ho, hi⟩ := o
  refine (pt_cmpR ho ha hb (noSet_marks hm op)).imp fun σ H Q ⟨G, m, env, st, R, h⟩ => ?_
  refine ⟨G, m, env, st, R, (Aft.bind (Aft.bind h)).imp fun x st1 G1 m1 H1 E1 R1 h1 v rv => ⟨G1, m1, env, st1, R1, (Aft.bind h1).imp fun y st2 G2 m2 H2 E2 R2 h2 w rw' => ?_⟩⟩
  obtain ⟨z, hz, h3⟩ := h2.opt
  refine hi st2 G2 m2 H2 v w x y z _ R2.w (rv.ext E2) rw' hz fun u G' H' p r3 => ?_
  obtain ⟨k, hk, h4⟩ := (h3.pure R2 p).opt
  have := toB_some hk
  subst this
  cases r3
  exact ⟨k, rfl, h4.here (R2.pext p)⟩
/-- two signs in a row -/
theorem e_chain {op op' : CmpOp} {g g' : D → D → Option D} (o : Op2 X C (compareOp op) g) (o' : Op2 X C (compareOp op') g') (ha : PE X a (tB C fa)) (hb : PE X b (tB C fb)) (hc : PE X c (tB C fc)) (hm : noSet c = true) :
    PE X (.Compare a [op, op'] [b, c] pos) (tD C (dChain g g' fa fb fc)) := by
  obtain ⟨r, ho, hi⟩ := o
  obtain ⟨r', ho', hi'⟩ := o'
  refine (pe_chain ho ho' ha hb hc (noSet_marks hm op')).imp fun σ H Q ⟨G, m, env, st, R, h⟩ => ?_
  refine ⟨G, m, env, st, R, (Aft.bind h).imp fun x st1 G1 m1 H1 E1 R1 h1 v rv => ⟨G1, m1, env, st1, R1, (Aft.bind h1).imp fun y st2 G2 m2 H2 E2 R2 h2 w rw' => ?_⟩⟩
  obtain ⟨k, hk, h3⟩ := (Aft.bind h2).opt
  obtain ⟨z, hz, hk⟩ := Option.bind_eq_some_iff.mp hk
  have := toB_some hk
  subst this
  refine hi st2 G2 m2 H2 v w x y _ _ R2.w (rv.ext E2) rw' hz fun u G' H' p r3 => ?_
  cases r3
  have h4 := h3.pure R2 p
  have R3 := R2.pext p
  refine ⟨k, rfl, ?_⟩
  cases k with
  | false => exact h4.here R3 _ (.bl false)
  | true => exact ⟨G', m2, env, st2, R3, (Aft.bind h4).imp fun zz st4 G4 m4 H4 E4 R4 h5 w2 rw2 => by
      obtain ⟨z3, hz3, h6⟩ := h5.opt
      exact hi' st4 G4 m4 H4 w w2 y zz z3 Q R4.w ((rw'.ext p.ext).ext E4) rw2 hz3 fun u G' H' p r3 => h6.pure R4 p u r3⟩
/-! #### tests -/
theorem t_val (he : PE X e (tD C f)) (hp : plainT e = true) : PT X e (tT C (dTest f)) := by
  refine (pt_val he (fun w => plainT_eq hp _ w)).imp fun σ H Q ⟨G, m, env, st, R, h⟩ => ?_
  refine ⟨G, m, env, st, R, (Aft.bind h).imp fun x st1 G1 m1 H1 E1 R1 h1 v rv => ?_⟩
  obtain ⟨k, hk, h2⟩ := h1.opt
  have := toB_some hk
  subst this
  cases rv
  exact ⟨k, rfl, h2.here R1⟩
section
variable {ga gb gc : DFB} {rest : List Expr}
theorem t_not (ha : PT X a (tT C ga)) : PT X (.UnaryOp .Not a pos) (tT C (dNotT ga)) := (pt_not ha).imp fun σ H Q ⟨G, m, env, st, R, h⟩ =>
  ⟨G, m, env, st, R, (Aft.bind h).imp fun x st1 G1 m1 H1 E1 R1 h1 => h1.here R1⟩
theorem w_and (ha : PT X a (tT C ga)) (hb : PW X (.BoolOp .And (b :: rest) pos) (tT C gb)) : PW X (.BoolOp .And (a :: b :: rest) pos) (tT C (dAndT ga gb)) :=
  ⟨fun wh pins s σ H Q I ⟨G, m, env, st, R, h⟩ => (pw_and ha hb).run wh pins s σ H Q I ⟨G, m, env, st, R, (Aft.bind h).imp fun x st1 G1 m1 H1 E1 R1 h1 => by
    cases x with
    | true => exact ⟨G1, m1, env, st1, R1, h1⟩
    | false => exact h1.here R1⟩⟩
theorem w_or (ha : PT X a (tT C ga)) (hb : PW X (.BoolOp .Or (b :: rest) pos) (tT C gb)) : PW X (.BoolOp .Or (a :: b :: rest) pos) (tT C (dOrT ga gb)) :=
  ⟨fun wh pins s σ H Q I ⟨G, m, env, st, R, h⟩ => (pw_or ha hb).run wh pins s σ H Q I ⟨G, m, env, st, R, (Aft.bind h).imp fun x st1 G1 m1 H1 E1 R1 h1 => by
    cases x with
    | true => exact h1.here R1
    | false => exact ⟨G1, m1, env, st1, R1, h1⟩⟩⟩
/-- as values -/
theorem e_not (ha : PE X a (tD C (dOfT ga))) : PE X (.UnaryOp .Not a pos) (tD C (dOfT (dNotT ga))) := (pe_not ha).imp fun σ H Q ⟨G, m, env, st, R, h⟩ => by
  refine ⟨G, m, env, st, R, ?_⟩
  unfold dOfT dNotT at h
  unfold dOfT
  cases hg : ga env st with
  | stuck => rw [hg] at h; exact h
  | ex c fs st' => rw [hg] at h; exact h
  | ok k st' =>
    rw [hg] at h
    exact fun G' m' H' E' R' v rv => by
      cases rv
      exact ⟨k, rfl, (Aft.frm (show Aft C env σ G m H (.ok (D.bl (!k)) st') _ from h) E').here R' _ (.bl _)⟩
theorem e_and (ha : PE X a (tD C (dOfT ga))) (hb : PE X (.BoolOp .And (b :: rest) pos) (tD C (dOfT gb))) : PE X (.BoolOp .And (a :: b :: rest) pos) (tD C (dOfT (dAndT ga gb))) := (pe_and ha hb).imp fun σ H Q ⟨G, m, env, st, R, h⟩ => by
  refine ⟨G, m, env, st, R, ?_⟩
  unfold dOfT dAndT at h
  unfold dOfT
  cases hg : ga env st with
  | stuck => rw [hg] at h; exact h
  | ex c fs st' => rw [hg] at h; exact h
  | ok k st' =>
    rw [hg] at h
    exact fun G' m' H' E' R' v rv => by
      cases rv
      refine ⟨k, rfl, ?_⟩
      cases k with
      | false => exact (Aft.frm (show Aft C env σ G m H (.ok (D.bl false) st') _ from h) E').here R' _ (.bl _)
      | true => exact ⟨G', m', env, st', R', Aft.frm (show Aft C env σ G m H (dOfT gb env st') _ from h) E'⟩
theorem e_or (ha : PE X a (tD C (dOfT ga))) (hb : PE X (.BoolOp .Or (b :: rest) pos) (tD C (dOfT gb))) : PE X (.BoolOp .Or (a :: b :: rest) pos) (tD C (dOfT (dOrT ga gb))) := (pe_or ha hb).imp fun σ H Q ⟨G, m, env, st, R, h⟩ => by
  refine ⟨G, m, env, st, R, ?_⟩
  unfold dOfT dOrT at h
  unfold dOfT
  cases hg : ga env st with
  | stuck => rw [hg] at h; exact h
  | ex c fs st' => rw [hg] at h; exact h
  | ok k st' =>
    rw [hg] at h
    exact fun G' m' H' E' R' v rv => by
      cases rv
      refine ⟨k, rfl, ?_⟩
      cases k with
      | true => exact (Aft.frm (show Aft C env σ G m H (.ok (D.bl true) st') _ from h) E').here R' _ (.bl _)
      | false => exact ⟨G', m', env, st', R', Aft.frm (show Aft C env σ G m H (dOfT gb env st') _ from h) E'⟩
/-- a value that is a bool -/
theorem e_ofTest {f : DF} (he : PE X e (tD C f)) : PE X e (tD C (dOfT (dTest f))) := he.imp fun σ H Q ⟨G, m, env, st, R, h⟩ => by
  refine ⟨G, m, env, st, R, (Aft.bind (Aft.bind h)).imp fun x st1 G1 m1 H1 E1 R1 h1 v rv => ?_⟩
  obtain ⟨k, hk, h2⟩ := h1.opt
  have := toB_some hk
  subst this
  exact (h2.here R1).here R1 v rv
end
theorem e_if {gc : DFB} (hc : PT X c (tT C gc)) (ha : PE X a (tD C fa)) (hb : PE X b (tD C fb)) : PE X (.IfExp c a b pos) (tD C (dIf gc fa fb)) := (pe_ifExp hc ha hb).imp fun σ H Q ⟨G, m, env, st, R, h⟩ =>
  ⟨G, m, env, st, R, (Aft.bind h).imp fun x st1 G1 m1 H1 E1 R1 h1 => by
    cases x with
    | true => exact ⟨G1, m1, env, st1, R1, h1⟩
    | false => exact ⟨G1, m1, env, st1, R1, h1⟩⟩
theorem e_ifF {gc : DFB} (hc : PT X c (tT C gc)) (ha : PE X a (tF C fa)) (hb : PE X b (tF C fb)) : PE X (.IfExp c a b pos) (tF C (dIf gc fa fb)) := (pe_ifExp hc ha hb).imp fun σ H Q ⟨G, m, env, st, R, h⟩ =>
  ⟨G, m, env, st, R, (Aft.bind h).imp fun x st1 G1 m1 H1 E1 R1 h1 => by
    have back : ∀ {a : Addr}, ¬ Pr H1 a → ¬ Pr H a := fun {a} hu z => hu (E1.th a z)
    cases x with
    | true => exact ⟨G1, m1, env, st1, R1, h1.imp fun d st' G' m' H' _ _ q a ha o => q a (back ha) o⟩
    | false => exact ⟨G1, m1, env, st1, R1, h1.imp fun d st' G' m' H' _ _ q a ha o => q a (back ha) o⟩⟩

/-! #### displays -/
section
variable {es : List Expr} {r : DFL}
theorem a_nil : PA X [] (tL C dNil) := pa_nil.imp fun σ H Q ⟨G, m, env, st, R, h⟩ => h.here R _ .nil
theorem a_cons (he : PE X e (tD C f)) (hr : PA X es (tL C r)) (hs : noStar e = true) : PA X (e :: es) (tL C (dCons f r)) := (pa_cons he hr (starEach_ns hs es _)).imp fun σ H Q ⟨G, m, env, st, R, h⟩ =>
  ⟨G, m, env, st, R, (Aft.bind h).imp fun x st1 G1 m1 H1 E1 R1 h1 v rv => ⟨G1, m1, env, st1, R1, (Aft.bind h1).imp fun ys st2 G2 m2 H2 E2 R2 h2 ws rw' => h2.here R2 _ (.cons (rv.ext E2) rw')⟩⟩
theorem a_star (hK : C.K = X.K) (he : PE X e (tB C f)) (hr : PA X es (tL C r)) : PA X (.Starred e pos :: es) (tL C (dStar f r)) := (StX.pa_star he hr).imp fun σ H Q ⟨G, m, env, st, R, h⟩ => by
  refine ⟨G, m, env, st, R, (Aft.bind h).imp fun x st1 G1 m1 H1 E1 R1 h1 v rv => ?_⟩
  obtain ⟨xs, hx, h2⟩ := (Aft.bind h1).opt
  have h3 := h2.here R1
  have key : ∀ (a : Addr) (vs : List V), v = .ref a → (SqT X.K H1 a vs ∨ SqL X.K H1 a vs) → RepAll C.K G1 m1 vs xs → ∃ p zs, v = .ref p ∧ (SqT X.K H1 p zs ∨ SqL X.K H1 p zs) ∧ tL C r σ H1 fun ys H2 => Q (zs ++ ys) H2 := fun a vs e1 e2 e3 =>
    ⟨a, vs, e1, e2, G1, m1, env, st1, R1, (Aft.bind h3).imp fun ys st2 G2 m2 H2 E2 R2 h4 ws rw' => h4.here R2 _ ((e3.ext E2).append rw')⟩
  cases x with
  | lst ds =>
    cases hx
    obtain ⟨a, vs, e1, e2, e3⟩ := rv.lst R1.w.gh
    exact key a vs e1 (.inr (.inl (.inl e2))) e3
  | tup ds =>
    cases hx
    obtain ⟨a, vs, e1, e2, e3⟩ := rv.tup R1.w.gh
    rw [hK] at e2
    exact key a vs e1 (.inl e2) e3
  | _ => cases hx
theorem e_tup {k : Nat} (h : PA X es (tL C r)) : PE X (.Tuple es k pos) (tD C (dTup r)) := (pe_tup h).imp fun σ H Q ⟨G, m, env, st, R, h⟩ =>
  ⟨G, m, env, st, R, (Aft.bind h).imp fun ds st1 G1 m1 H1 E1 R1 h1 vs rv => by
    split at h1
    · rename_i hl
      refine ⟨by rw [rv.length]; exact of_decide_eq_true hl, fun p hp => ?_⟩
      obtain ⟨e, r2⟩ := R1.w.tupNew hp rv
      exact h1.pure R1 e _ r2
    · exact h1.elim⟩
theorem e_lst (h : PA X es (tL C r)) : PE X (.List es pos) (tF C (dLst r)) := (pe_lst h).imp fun σ H Q ⟨G, m, env, st, R, h⟩ =>
  ⟨G, m, env, st, R, (Aft.bind h).imp fun ds st1 G1 m1 H1 E1 R1 h1 vs rv => by
    split at h1
    · rename_i hl
      refine ⟨by rw [rv.length]; exact of_decide_eq_true hl, fun p hp => ?_⟩
      obtain ⟨e, r2⟩ := R1.w.ownNew hp rv
      exact h1.pure R1 e p (fun z => npr hp (E1.th p z)) r2
    · exact h1.elim⟩
end
/-! #### built-ins -/
theorem a_one (ha : PE X a (tB C fa)) (hs : noStar a = true) : PA X [a] (tCons (tB C fa) tNil) := pa_cons ha pa_nil (starEach_ns hs [] _)
theorem e_callB {id : String} {g : D → Option D} {x : Str} {p : Pos} (o : Ca1 X C (.builtin id) g) (hg : Gl X x) (hm : X.mg x = none) (hv : bootBuiltins x = some (.builtin id)) (ha : PE X a (tB C fa)) (hs : noStar a = true) (hn : x ≠ "__name__") (hdb : (x == ("__debug__" : Str)) = false) :
    PE X (.Call (.Name x p) [a] [] pos) (tD C (dC1 g fa)) := by
  obtain ⟨r, ho, hi⟩ := o
  refine (pe_callB ho hg hm hv (a_one ha hs) hn hdb (starEach_ns hs [] _) rfl).imp fun σ H Q ⟨G, m, env, st, R, h⟩ => ?_
  refine ⟨G, m, env, st, R, (Aft.bind h).imp fun x st1 G1 m1 H1 E1 R1 h1 v rv => ?_⟩
  obtain ⟨z, hz, h2⟩ := h1.opt
  exact hi st1 G1 m1 H1 v x z Q R1.w rv hz fun u G' H' p r3 => h2.pure R1 p u r3
theorem e_callTy {T : String} {g : D → Option D} {x : Str} {p : Pos} (o : Ca1 X C (.type T) g) (hg : Gl X x) (hm : X.mg x = none) (hv : bootBuiltins x = some (.type T)) (ha : PE X a (tB C fa)) (hs : noStar a = true) (hn : x ≠ "__name__") (hdb : (x == ("__debug__" : Str)) = false) :
    PE X (.Call (.Name x p) [a] [] pos) (tD C (dC1 g fa)) := by
  obtain ⟨r, ho, hi⟩ := o
  refine (pe_callTy ho hg hm hv (a_one ha hs) hn hdb (starEach_ns hs [] _) rfl).imp fun σ H Q ⟨G, m, env, st, R, h⟩ => ?_
  refine ⟨G, m, env, st, R, (Aft.bind h).imp fun x st1 G1 m1 H1 E1 R1 h1 v rv => ?_⟩
  obtain ⟨z, hz, h2⟩ := h1.opt
  exact hi st1 G1 m1 H1 v x z Q R1.w rv hz fun u G' H' p r3 => h2.pure R1 p u r3
theorem e_callTyF {T : String} {g : D → Option D} {x : Str} {p : Pos} (o : Ca1F X C (.type T) g) (hg : Gl X x) (hm : X.mg x = none) (hv : bootBuiltins x = some (.type T)) (ha : PE X a (tB C fa)) (hs : noStar a = true) (hn : x ≠ "__name__") (hdb : (x == ("__debug__" : Str)) = false) :
    PE X (.Call (.Name x p) [a] [] pos) (tF C (dC1 g fa)) := by
  obtain ⟨r, ho, hi⟩ := o
  refine (pe_callTy ho hg hm hv (a_one ha hs) hn hdb (starEach_ns hs [] _) rfl).imp fun σ H Q ⟨G, m, env, st, R, h⟩ => ?_
  refine ⟨G, m, env, st, R, (Aft.bind h).imp fun x st1 G1 m1 H1 E1 R1 h1 v rv => ?_⟩
  obtain ⟨z, hz, h2⟩ := h1.opt
  exact hi st1 G1 m1 H1 v x z Q R1.w rv hz fun u G' H' p hu r3 => h2.pure R1 p u (fun z => npr hu (E1.th u z)) r3
/-- isinstance(e, T) -/
theorem e_isi {T : String} {x : Str} {p p2 : Pos} {y : Str} (hK : C.K = X.K) (hg : Gl X x) (hx : x = ("isinstance" : Str)) (hm : X.mg x = none) (hgy : Gl X y) (hmy : X.mg y = none) (hvy : bootBuiltins y = some (.type T)) (ha : PE X a (tB C fa)) (hs : noStar a = true) (hny : y ≠ "__name__") (hdy : (y == ("__debug__" : Str)) = false) :
    PE X (.Call (.Name x p) [a, .Name y p2] [] pos) (tD C (dC1 (gIsi T) fa)) := by
  subst hx
  have hy : PE X (.Name y p2) (tC (.ty T)) := pe_bltn hgy hmy hvy rfl hny hdy
  refine (pe_callB call_isi hg hm (by decide +kernel : bootBuiltins "isinstance" = some (.builtin "isinstance")) (pa_cons ha (pa_cons hy pa_nil) (starEach_ns hs _ _)) (by decide) (by decide) (starEach_ns hs _ _) rfl).imp fun σ H Q ⟨G, m, env, st, R, h⟩ => ?_
  refine ⟨G, m, env, st, R, (Aft.bind h).imp fun x st1 G1 m1 H1 E1 R1 h1 v rv => ?_⟩
  obtain ⟨z, hz, h2⟩ := h1.opt
  obtain ⟨t, ht, hz⟩ := Option.bind_eq_some_iff.mp hz
  obtain ⟨k, hk, rfl⟩ := Option.map_eq_some_iff.mp hz
  have ty := tyX_of R1.w.gh rv ht
  rw [hK] at ty
  show rIsi X.K [v, .ty T] H1 Q
  exact ⟨v, .ty T, .type t, .type T, k, rfl, .ty T, ty, kit_ty hk, h2.here R1 _ (.bl k)⟩
end
end DI


/-! DI5: subscripts, slices, methods -/
namespace DI
open PySem PySem.Spec PyProof.Rows L2

/-- x[i] -/
def gIx : D → D → Option D
  | .lst ds, .int i => atI ds i
  | .tup ds, .int i => atI ds i
  | .fls ds, .int i => atI ds i
  | .str s, .int i => if s.length ≤ sizeLine then (atI s i).map fun c => .str [c] else none
  | _, _ => none
/-- x[i], an object of the store looked into -/
def subD (st : Store) (x i : D) : Option D := match x with
  | .obj k => match st[k]? with
    | some (.lst ds) => gIx (.lst ds) i
    | _ => none
  | _ => gIx x i
def dSub (fa fb : DF) : DF := fun env st => (fa env st).bind fun x st => (fb env st).bind fun i st => Res.opt (subD st x i) st
section
variable {K : PySem.W.Frag} {G H : Hp} {m : List Addr}
theorem atI_rep {vs : List V} {ds : List D} {i : Int} {d : D} (r : RepAll K G m vs ds) (h : atI ds i = some d) : ∃ v, atI vs i = some v ∧ Rep K G m v d := by
  unfold atI at h
  obtain ⟨j, hj, hd⟩ := Option.bind_eq_some_iff.mp h
  obtain ⟨v, hv, rv⟩ := r.get hd
  refine ⟨v, ?_, rv⟩
  unfold atI
  rw [r.length, hj]
  exact hv
end
section
variable {X : Cx} {C : Ct} {a b c e : Expr} {fa fb fc f : DF} {pos : Pos}
theorem W0.obj {T : List (Addr × Str)} {K : PySem.W.Frag} {st : Store} {G H : Hp} {m : List Addr} {a : Addr} {k : Nat} {ds : List D} (w : W0 T K st G m H) (h : m[k]? = some a) (hs : st[k]? = some (.lst ds)) : ∃ vs, H a = some (.lst vs) ∧ RepAll K G m vs ds :=
  (w.store k _ a hs h).2
theorem e_sub (hK : C.K = X.K) (ha : PE X a (tB C fa)) (hb : PE X b (tD C fb)) (hs : noSlice b = true) : PE X (.Subscript a b pos) (tD C (dSub fa fb)) := by
  refine (pe_ix (ix_seq (X := X)) ha hb (noSlice_ix hs)).imp fun σ H Q ⟨G, m, env, st, R, h⟩ => ?_
  refine ⟨G, m, env, st, R, (Aft.bind h).imp fun x st1 G1 m1 H1 E1 R1 h1 v rv => ⟨G1, m1, env, st1, R1, (Aft.bind h1).imp fun y st2 G2 m2 H2 E2 R2 h2 w rw' => ?_⟩⟩
  have rv2 := rv.ext E2
  obtain ⟨z, hz, h3⟩ := h2.opt
  have lst : ∀ (p : Addr) (vs : List V) (ds : List D), v = .ref p → SqL X.K H2 p vs → RepAll C.K G2 m2 vs ds → gIx (.lst ds) y = some z → rIx X.K v w H2 Q := fun p vs ds ev hv r hz => by
    cases y with
    | int i =>
      obtain ⟨u, hu, ru⟩ := atI_rep r hz
      cases rw'
      exact .inl ⟨p, vs, i, u, ev, rfl, hv, hu, h3.here R2 u ru⟩
    | _ => cases hz
  cases x with
  | obj k =>
    have hz' : (match st2[k]? with | some (.lst ds) => gIx (.lst ds) y | _ => none) = some z := hz
    cases hk : st2[k]? with
    | none => rw [hk] at hz'; cases hz'
    | some o =>
      rw [hk] at hz'
      cases o with
      | lst ds =>
        rcases rv2 with r | ⟨_, _, o⟩
        · cases r with
          | obj hm =>
            obtain ⟨vs, hv, r⟩ := R2.w.obj hm hk
            exact lst _ vs ds rfl (.inl (.inl hv)) r hz'
        · exact o.elim
      | ins _ _ => cases hz'
  | lst ds =>
    obtain ⟨p, vs, e1, e2, r⟩ := rv2.lst R2.w.gh
    exact lst p vs ds e1 (.inl (.inl e2)) r hz
  | fls ds =>
    obtain ⟨p, vs, e1, e2, r⟩ := rv2.fls R2.w.gh
    rw [hK] at e2
    exact lst p vs ds e1 e2 r (by cases y <;> first | exact hz | cases hz)
  | tup ds =>
    obtain ⟨p, vs, e1, e2, r⟩ := rv2.tup R2.w.gh
    rw [hK] at e2
    cases y with
    | int i =>
      obtain ⟨u, hu, ru⟩ := atI_rep r hz
      cases rw'
      exact .inr (.inl ⟨p, vs, i, u, e1, rfl, e2, hu, h3.here R2 u ru⟩)
    | _ => cases hz
  | str s =>
    cases y with
    | int i =>
      have hz' : (if s.length ≤ sizeLine then (atI s i).map fun c => D.str [c] else none) = some z := hz
      split at hz'
      · rename_i hl
        obtain ⟨c, hc, rfl⟩ := Option.map_eq_some_iff.mp hz'
        obtain ⟨e1, hs1⟩ := rv2.str
        cases rw'
        refine .inr (.inr ⟨mkS s, i, c, e1, rfl, by simpa [Str.length] using hl, hc, h3.here R2 _ (.str [c] ?_)⟩)
        obtain ⟨j, _, hj⟩ := Option.bind_eq_some_iff.mp hc
        have := List.all_eq_true.mp hs1 c (List.mem_of_getElem? hj)
        simpa using this
      · cases hz'
    | _ => cases hz
  | _ => cases y <;> cases hz

/-! #### slices -/
def cutD {α : Type} (xs : List α) (lo hi : Option Int) : List α := (xs.drop (HT.sIx xs.length 0 lo)).take (HT.sIx xs.length xs.length hi - HT.sIx xs.length 0 lo)
def gSl (d : D) (lo hi : Option Int) : Option D := match d with
  | .lst ds => some (.lst (cutD ds lo hi))
  | .tup ds => some (.tup (cutD ds lo hi))
  | .str s => if s.length ≤ sizeLine then some (.str (cutD s lo hi)) else none
  | _ => none
/-- a slice's part -/
def dPart (f : Option DF) : DEnv → Store → Res (Option Int) := fun env st => match f with
  | none => .ok none st
  | some f => (f env st).bind fun d st => match d with
    | .int i => .ok (some i) st
    | _ => .stuck
def dSl (fa : DF) (lo hi : Option DF) : DF := fun env st => (fa env st).bind fun x st => (dPart lo env st).bind fun l st => (dPart hi env st).bind fun u st => Res.opt (gSl x l u) st
def tP (C : Ct) (f : DEnv → Store → Res (Option Int)) : TO := fun σ H Q => ∃ G m env st, Rel C.B C.T C.K env st G m σ H ∧ Aft C env σ G m H (f env st) fun o _ G' m' H' => Q o H'
theorem _root_.L2.PO.imp {e : Option Expr} {t t' : TO} (h : PO X e t) (i : ∀ σ H Q, t' σ H Q → t σ H Q) : PO X e t' := ⟨fun pins s σ H Q I q => h.run pins s σ H Q I (i σ H Q q)⟩
theorem p_none : PO X none (tP C (dPart none)) := po_none.imp fun σ H Q ⟨G, m, env, st, R, h⟩ => h.here R
theorem p_some (he : PE X e (tD C f)) : PO X (some e) (tP C (dPart (some f))) := (po_some he).imp fun σ H Q ⟨G, m, env, st, R, h⟩ => by
  refine ⟨G, m, env, st, R, (Aft.bind h).imp fun x st1 G1 m1 H1 E1 R1 h1 v rv => ?_⟩
  cases x with
  | int i => cases rv; exact ⟨i, rfl, h1.here R1⟩
  | _ => exact h1.elim
theorem cutV_rep {K : PySem.W.Frag} {G : Hp} {m : List Addr} {vs : List V} {ds : List D} (r : RepAll K G m vs ds) (lo hi : Option Int) : RepAll K G m (cutV vs lo hi) (cutD ds lo hi) := by
  unfold cutV cutD
  rw [r.length]
  exact (r.drop _).take _
theorem cutD_all {α : Type} (P : α → Bool) (xs : List α) (lo hi : Option Int) (h : xs.all P = true) : (cutD xs lo hi).all P = true := by
  unfold cutD
  rw [List.all_eq_true] at h ⊢
  intro x hx
  exact h x (List.mem_of_mem_drop (List.mem_of_mem_take hx))
theorem cutD_whole {α : Type} {xs : List α} {lo hi : Option Int} (h : HT.sIx xs.length 0 lo = 0 ∧ HT.sIx xs.length xs.length hi = xs.length) : cutD xs lo hi = xs := by
  unfold cutD
  rw [h.1, h.2, List.drop_zero, Nat.sub_zero, List.take_length]
def rSlAll (K : PySem.W.Frag) : V → Option Int → Option Int → Hp → VK → Prop := fun x lo hi H Q => rSlL K x lo hi H Q ∨ (rSlA K x lo hi H Q ∨ rSlS x lo hi H Q)
theorem sl_all : SlR X (rSlAll X.K) := sl_list.or (sl_tupA.or sl_str)
theorem cutS_mk (s : List Nat) (lo hi : Option Int) : cutS (mkS s) lo hi = mkS (cutD s lo hi) := by
  have e : (mkS s).length = s.length := by simp [Str.length]
  unfold cutS cutD
  rw [e]
theorem e_slice {lo hi : Option Expr} {fl fu : Option DF} {p2 : Pos} (hK : C.K = X.K) (ha : PE X a (tB C fa)) (hl : PO X lo (tP C (dPart fl))) (hu : PO X hi (tP C (dPart fu))) : PE X (.Subscript a (.Slice lo hi none p2) pos) (tD C (dSl fa fl fu)) := by
  refine (pe_slice (sl_all (X := X)) ha hl hu).imp fun σ H Q ⟨G, m, env, st, R, h⟩ => ?_
  refine ⟨G, m, env, st, R, (Aft.bind h).imp fun x st1 G1 m1 H1 E1 R1 h1 v rv => ⟨G1, m1, env, st1, R1, (Aft.bind h1).imp fun l st2 G2 m2 H2 E2 R2 h2 => ⟨G2, m2, env, st2, R2, (Aft.bind h2).imp fun u st3 G3 m3 H3 E3 R3 h3 => ?_⟩⟩⟩
  have rv3 := rv.ext (E2.trans E3)
  obtain ⟨z, hz, h4⟩ := h3.opt
  cases x with
  | lst ds =>
    cases hz
    obtain ⟨p, vs, rfl, e2, r⟩ := rv3.lst R3.w.gh
    refine .inl ⟨p, vs, rfl, .inl (.inl e2), fun q hq => ?_⟩
    obtain ⟨e, r2⟩ := R3.w.lstNew hq (cutV_rep r l u)
    exact h4.pure R3 e _ r2
  | tup ds =>
    cases hz
    obtain ⟨p, vs, rfl, e2, r⟩ := rv3.tup R3.w.gh
    have e3 := e2
    rw [hK] at e3
    refine .inr (.inl ⟨p, vs, rfl, e3, fun hw => ?_, fun hw q hq => ?_⟩)
    · rw [r.length] at hw
      rw [cutD_whole hw] at h4
      rcases rv3 with rv3 | ⟨_, _, o⟩
      · exact h4.here R3 _ rv3
      · exact o.elim
    · obtain ⟨e, r2⟩ := R3.w.tupNew hq (cutV_rep r l u)
      exact h4.pure R3 e _ r2
  | str s =>
    have hz' : (if s.length ≤ sizeLine then some (D.str (cutD s l u)) else none) = some z := hz
    split at hz'
    · rename_i hl
      cases hz'
      obtain ⟨rfl, hs1⟩ := rv3.str
      refine .inr (.inr ⟨mkS s, rfl, by simpa [Str.length] using hl, ?_⟩)
      rw [cutS_mk]
      exact h4.here R3 _ (.str _ (cutD_all _ s l u hs1))
    · cases hz'
  | _ => cases hz
theorem e_sliceF {lo hi : Option Expr} {fl fu : Option DF} {p2 : Pos} (hK : C.K = X.K) (ha : PE X a (tB C fa)) (hl : PO X lo (tP C (dPart fl))) (hu : PO X hi (tP C (dPart fu))) : PE X (.Subscript a (.Slice lo hi none p2) pos) (tF C (fun env st => (dSl fa fl fu env st).bind fun d st => match d with | .lst _ => .ok d st | _ => .stuck)) := by
  refine (pe_slice (sl_all (X := X)) ha hl hu).imp fun σ H Q ⟨G, m, env, st, R, h⟩ => ?_
  refine ⟨G, m, env, st, R, (Aft.bind (Aft.bind h)).imp fun x st1 G1 m1 H1 E1 R1 h1 v rv => ⟨G1, m1, env, st1, R1, (Aft.bind h1).imp fun l st2 G2 m2 H2 E2 R2 h2 => ⟨G2, m2, env, st2, R2, (Aft.bind h2).imp fun u st3 G3 m3 H3 E3 R3 h3 => ?_⟩⟩⟩
  have rv3 := rv.ext (E2.trans E3)
  obtain ⟨z, hz, h4⟩ := h3.opt
  have h5 := h4.here R3
  cases x with
  | lst ds =>
    cases hz
    obtain ⟨p, vs, rfl, e2, r⟩ := rv3.lst R3.w.gh
    refine .inl ⟨p, vs, rfl, .inl (.inl e2), fun q hq => ?_⟩
    obtain ⟨e, r2⟩ := R3.w.ownNew hq (cutV_rep r l u)
    exact h5.pure R3 e q (fun z => npr hq (((E1.trans E2).trans E3).th q z)) r2
  | tup ds => cases hz; exact h5.elim
  | str s =>
    have hz' : (if s.length ≤ sizeLine then some (D.str (cutD s l u)) else none) = some z := hz
    split at hz'
    · cases hz'; exact h5.elim
    · cases hz'
  | _ => cases hz

/-! #### methods of one argument -/
theorem e_meth {T id : String} {name : Str} (hK' : C.K = X.K) {g : D → D → Option D} {apos : Pos} (pa : PlainAttrs T) (slot : PySem.Slot T name id) (hty : typeOf (.builtin id) = pure (.type "method_descriptor")) (hmt : Mt1 X C id g)
    (ha : PE X a (tB C fa)) (hb : PE X b (tB C fb)) (hs : noStar b = true) (hc : noCall a = true) (hl : (apos.endLine == pos.line) = true) : PE X (.Call (.Attribute a name apos) [b] [] pos) (tD C (dM1 T g fa fb)) := by
  obtain ⟨r, ho, hi⟩ := hmt
  refine (pe_bm pa slot hty ho ha (a_one hb hs) (noCall_base hc _ _ _) (by rw [starEach_ns hs]; rfl) hl (starEach_ns hs [] _) rfl).imp fun σ H Q ⟨G, m, env, st, R, h⟩ => ?_
  refine ⟨G, m, env, st, R, (Aft.bind h).imp fun x st1 G1 m1 H1 E1 R1 h1 v rv => ?_⟩
  split at h1
  · rename_i hr
    refine ⟨by have := recOk_ty R1.w.gh rv hr; rw [hK'] at this; exact this, G1, m1, env, st1, R1, (Aft.bind h1).imp fun y st2 G2 m2 H2 E2 R2 h2 w rw' => ?_⟩
    obtain ⟨z, hz, h3⟩ := h2.opt
    exact hi st2 G2 m2 H2 v w x y z Q R2.w (rv.ext E2) rw' hz fun u G' H' p r3 => h3.pure R2 p u r3
  · exact h1.elim
end
end DI


/-! DI6: statements -/
namespace DI
open PySem PySem.Spec PyProof.Rows L2

inductive Fl where
  | nx (e : DEnv) | rt (d : D) | bk (e : DEnv) | ct (e : DEnv)
abbrev DS := DEnv → Store → Res Fl

/-- what stays through statements -/
structure Gx (G : Hp) (m : List Addr) (G' : Hp) (m' : List Addr) : Prop where
  gg : Same G G'
  mm : ∃ t, m' = m ++ t
theorem Gx.refl (G : Hp) (m : List Addr) : Gx G m G m := ⟨Same.refl _, [], by simp⟩
theorem Gx.trans {G G' G'' : Hp} {m m' m'' : List Addr} (a : Gx G m G' m') (b : Gx G' m' G'' m'') : Gx G m G'' m'' := ⟨a.gg.trans b.gg, by
  obtain ⟨t, rfl⟩ := a.mm
  obtain ⟨u, rfl⟩ := b.mm
  exact ⟨t ++ u, by simp⟩⟩
theorem Ext.gx {G H G' H' : Hp} {m m' : List Addr} (e : Ext G m H G' m' H') : Gx G m G' m' := ⟨e.gg, e.mm⟩
section
variable (C : Ct)
def EndW (st : Store) (G : Hp) (m : List Addr) (H : Hp) : Prop := W0 C.T C.K st G m H ∧ Ext C.B.G C.B.m C.B.H G m H
def SAft (D : Ends) (G0 : Hp) (m0 : List Addr) (r : Res Fl) : Prop := match r with
  | .ok (.nx e) st => ∀ G m σ H, Gx G0 m0 G m → Rel C.B C.T C.K e st G m σ H → D.nx σ H
  | .ok (.bk e) st => ∀ G m σ H, Gx G0 m0 G m → Rel C.B C.T C.K e st G m σ H → D.bk σ H
  | .ok (.ct e) st => ∀ G m σ H, Gx G0 m0 G m → Rel C.B C.T C.K e st G m σ H → D.ct σ H
  | .ok (.rt d) st => ∀ G m H v, EndW C st G m H → Rep C.K G m v d → D.rt v H
  | .ex c fs st => ∀ G m H cls dd, EndW C st G m H → ExAt C.K G m H c fs cls dd → C.W cls dd H
  | .stuck => False
def tS (f : DS) : TS := fun D σ H => ∃ G m env st, Rel C.B C.T C.K env st G m σ H ∧ SAft C D G m (f env st)
end
def sThen (g : DS) : Fl → Store → Res Fl := fun fl st => match fl with
  | .nx e => g e st
  | .rt d => .ok (.rt d) st
  | .bk e => .ok (.bk e) st
  | .ct e => .ok (.ct e) st
def sSeq (f g : DS) : DS := fun env st => (f env st).bind (sThen g)
def sNil : DS := fun env st => .ok (.nx env) st
def sRet (f : DF) : DS := fun env st => (f env st).bind fun d st => .ok (.rt d) st
def sRetN : DS := fun _ st => .ok (.rt .non) st
def sBrk : DS := fun env st => .ok (.bk env) st
def sCnt : DS := fun env st => .ok (.ct env) st
def sExpr (f : DF) : DS := fun env st => (f env st).bind fun _ st => .ok (.nx env) st
def sIf (c : DFB) (f g : DS) : DS := fun env st => (c env st).bind fun b st => if b then f env st else g env st
/-- name = value -/
def sSet (i : Nat) (f : DF) : DS := fun env st => (f env st).bind fun d st => .ok (.nx (env.set i (some (.sh d)))) st
/-- name = a new list that this def keeps for itself -/
def sSetF (i : Nat) (f : DF) : DS := fun env st => (f env st).bind fun d st => .ok (.nx (env.set i (some (.ow d)))) st
/-- the own list of slot i is shared from now on -/
def sFrz (i : Nat) : DS := fun env st => match env[i]? with
  | some (some (.ow (.lst ds))) => .ok (.nx (env.set i (some (.sh (.lst ds))))) st
  | _ => .stuck

section
variable {C : Ct} {X : Cx} {env : DEnv} {st : Store} {G H : Hp} {m : List Addr} {σ : L2.St}
theorem Rel.endW (R : Rel C.B C.T C.K env st G m σ H) : EndW C st G m H := ⟨R.w, R.base⟩
theorem SAft.mono {D : Ends} {G' : Hp} {m' : List Addr} {r : Res Fl} (h : SAft C D G m r) (e : Gx G m G' m') : SAft C D G' m' r := by
  cases r with
  | ok fl st =>
    cases fl with
    | nx _ => exact fun G2 m2 σ H g => h G2 m2 σ H (e.trans g)
    | bk _ => exact fun G2 m2 σ H g => h G2 m2 σ H (e.trans g)
    | ct _ => exact fun G2 m2 σ H g => h G2 m2 σ H (e.trans g)
    | rt d => exact h
  | ex c fs st => exact h
  | stuck => exact h
theorem SAft.aft {α : Type} {r : Res α} {k : α → Store → Res Fl} {D : Ends} (h : SAft C D G m (r.bind k)) : Aft C env σ G m H r fun d st' G' m' _ => SAft C D G' m' (k d st') := by
  cases r with
  | ok d st => exact fun _ _ _ e _ => SAft.mono h e.gx
  | ex c fs st => exact fun G' m' H' cls dd _ R x => h G' m' H' cls dd R.endW x
  | stuck => exact h
theorem SAft.seq {D : Ends} {g : DS} {r : Res Fl} (h : SAft C D G m (r.bind (sThen g))) : SAft C { D with nx := fun σ H => tS C g D σ H } G m r := by
  cases r with
  | ok fl st =>
    cases fl with
    | nx e => exact fun G m σ H g R => ⟨G, m, e, st, R, SAft.mono h g⟩
    | rt d => exact h
    | bk e => exact h
    | ct e => exact h
  | ex c fs st => exact h
  | stuck => exact h
theorem _root_.L2.PS.imp {s : Stmt} {t t' : TS} (h : PS X s t) (i : ∀ D σ H, t' D σ H → t D σ H) : PS X s t' := ⟨fun pins s σ H D I q => h.run pins s σ H D I (i D σ H q)⟩
theorem _root_.L2.PSs.imp {s : List Stmt} {t t' : TS} (h : PSs X s t) (i : ∀ D σ H, t' D σ H → t D σ H) : PSs X s t' := ⟨fun pins s σ H D I q => h.run pins s σ H D I (i D σ H q)⟩
variable {pos : Pos} {e c : Expr} {f : DF} {gc : DFB} {s : Stmt} {ss a b : List Stmt} {fs fa fb : DS}
theorem ss_nil : PSs X [] (tS C sNil) := pss_nil.imp fun D σ H ⟨G, m, env, st, R, h⟩ => h G m σ H (.refl G m) R
theorem ss_cons {g : DS} (h1 : PS X s (tS C fs)) (h2 : PSs X ss (tS C g)) : PSs X (s :: ss) (tS C (sSeq fs g)) := (pss_cons h1 h2).imp fun D σ H ⟨G, m, env, st, R, h⟩ =>
  ⟨G, m, env, st, R, SAft.seq h⟩
theorem ss_one (h1 : PS X s (tS C fs)) : PSs X [s] (tS C fs) := pss_one h1
theorem s_ret (he : PE X e (tD C f)) : PS X (.Return (some e) pos) (tS C (sRet f)) := (ps_ret he).imp fun D σ H ⟨G, m, env, st, R, h⟩ =>
  ⟨G, m, env, st, R, (SAft.aft h).imp fun d st' G' m' H' _ R' h1 v rv => h1 G' m' H' v R'.endW rv⟩
theorem s_retN : PS X (.Return none pos) (tS C sRetN) := ps_retN.imp fun D σ H ⟨G, m, env, st, R, h⟩ => h G m H .non R.endW .non
theorem s_brk : PS X (.Break pos) (tS C sBrk) := ps_break.imp fun D σ H ⟨G, m, env, st, R, h⟩ => h G m σ H (.refl G m) R
theorem s_cnt : PS X (.Continue pos) (tS C sCnt) := ps_continue.imp fun D σ H ⟨G, m, env, st, R, h⟩ => h G m σ H (.refl G m) R
theorem s_pass : PS X (.Pass pos) (tS C sNil) := ps_pass.imp fun D σ H ⟨G, m, env, st, R, h⟩ => h G m σ H (.refl G m) R
theorem s_expr (he : PE X e (tD C f)) (hs : swapsWith e none pos.line X.env = pure false) : PS X (.Expr e pos) (tS C (sExpr f)) := (ps_expr he hs).imp fun D σ H ⟨G, m, env, st, R, h⟩ =>
  ⟨G, m, env, st, R, (SAft.aft h).imp fun d st' G' m' H' _ R' h1 v rv => h1 G' m' σ H' (.refl G' m') R'⟩
theorem s_if (hc : PT X c (tT C gc)) (ha : PSs X a (tS C fa)) (hb : PSs X b (tS C fb)) : PS X (.If c a b pos) (tS C (sIf gc fa fb)) := (ps_if hc ha hb).imp fun D σ H ⟨G, m, env, st, R, h⟩ =>
  ⟨G, m, env, st, R, (SAft.aft h).imp fun d st' G' m' H' _ R' h1 => by
    cases d with
    | true => exact ⟨G', m', env, st', R', h1⟩
    | false => exact ⟨G', m', env, st', R', h1⟩⟩

/-! #### slots -/
theorem Rel.put {B : Bs} {T : List (Addr × Str)} {K : PySem.W.Frag} (R : Rel B T K env st G m σ H) (i : Nat) {v : V} {s : Slot} (hs : SlotAt K G m H B.x (some v) s)
    (fr : ∀ d a, s = .ow d → v = .ref a → ¬ Pr B.H a ∧ ∀ j e, j ≠ i → env[j]? = some (some (.ow e)) → (σ : List (Option V))[j]? ≠ some (some (.ref a))) : Rel B T K (env.set i (some s)) st G m ((σ : List (Option V)).set i (some v)) H := by
  have get : ∀ (j : Nat) (s' : Slot), (env.set i (some s))[j]? = some (some s') → (j = i ∧ s' = s ∧ ((σ : List (Option V)).set i (some v))[j]? = some (some v)) ∨ (j ≠ i ∧ env[j]? = some (some s') ∧ ((σ : List (Option V)).set i (some v))[j]? = (σ : List (Option V))[j]?) := fun j s' h => by
    by_cases e : j = i
    · subst e
      have hl : j < env.length := by
        have := (List.getElem?_eq_some_iff.mp h).1
        simpa using this
      rw [List.getElem?_set_self hl] at h
      have hl2 : j < (σ : List (Option V)).length := by rw [← R.len]; exact hl
      exact .inl ⟨rfl, by cases h; rfl, List.getElem?_set_self hl2⟩
    · rw [List.getElem?_set_ne (Ne.symm e)] at h
      exact .inr ⟨e, h, List.getElem?_set_ne (Ne.symm e)⟩
  refine ⟨R.w, R.base, fun j s' h => ?_, fun j k d e a hj hk h1 h2 => ?_, fun j d a hj h1 => ?_, by rw [List.length_set, List.length_set]; exact R.len⟩
  · rcases get j s' h with ⟨_, e, q⟩ | ⟨_, h, q⟩
    · subst e; exact ⟨_, q, hs⟩
    · rw [q]; exact R.slot j s' h
  · rcases get j _ hj with ⟨ej, es, q⟩ | ⟨nj, hj, q⟩ <;> rcases get k _ hk with ⟨ek, es2, q2⟩ | ⟨nk, hk, q2⟩
    · rw [ej, ek]
    · rw [q] at h1; rw [q2] at h2
      cases h1
      exact absurd h2 ((fr d a es.symm rfl).2 k e nk hk)
    · rw [q] at h1; rw [q2] at h2
      cases h2
      exact absurd h1 ((fr e a es2.symm rfl).2 j d nj hj)
    · rw [q] at h1; rw [q2] at h2
      exact R.sep j k d e a hj hk h1 h2
  · rcases get j _ hj with ⟨ej, es, q⟩ | ⟨nj, hj, q⟩
    · rw [q] at h1
      cases h1
      exact (fr d a es.symm rfl).1
    · rw [q] at h1
      exact R.own j d a hj h1
theorem Rel.putSh {B : Bs} {T : List (Addr × Str)} {K : PySem.W.Frag} (R : Rel B T K env st G m σ H) (i : Nat) {v : V} {d : D} (r : Rep K G m v d) : Rel B T K (env.set i (some (.sh d))) st G m ((σ : List (Option V)).set i (some v)) H :=
  R.put i ⟨v, rfl, r⟩ fun _ _ z => by cases z
/-- new since H0 -/
theorem Rel.putOw {B : Bs} {T : List (Addr × Str)} {K : PySem.W.Frag} {st0 : Store} {G0 H0 : Hp} {m0 : List Addr} (R0 : Rel B T K env st0 G0 m0 σ H0) (R : Rel B T K env st G m σ H) (i : Nat) {a : Addr} {d : D} (ha : ¬ Pr H0 a) (o : OwnAt K G m H a d) : Rel B T K (env.set i (some (.ow d))) st G m ((σ : List (Option V)).set i (some (.ref a))) H :=
  R.put i ⟨a, rfl, o⟩ fun d' a' _ z => by
    cases z
    refine ⟨?_, fun j e nj hj h1 => ?_⟩
    · exact fun z => ha (R0.base.th a z)
    · obtain ⟨v, h2, h3⟩ := R0.slot j _ hj
      rw [h1] at h2
      cases h2
      obtain ⟨b, e2, o2⟩ := h3
      cases e2
      exact ha o2.there
theorem s_set {i : Nat} {x : Str} {p : Pos} (hN : X.N.Nodup) (hi : X.N[i]? = some x) (hx : Loc X.env.scope x) (he : PE X e (tD C f)) (hs : swapsWith e (some (.Name x p)) pos.line X.env = pure false) (hf : X.fn x = true ∨ X.env.scope.names.lookup x = some .local) :
    PS X (.Assign [.Name x p] e pos) (tS C (sSet i f)) := (ps_set hN hi hx he hs hf).imp fun D σ H ⟨G, m, env, st, R, h⟩ =>
  ⟨G, m, env, st, R, (SAft.aft h).imp fun d st' G' m' H' _ R' h1 v rv => h1 G' m' _ H' (.refl G' m') (R'.putSh i rv)⟩
theorem s_setF {i : Nat} {x : Str} {p : Pos} (hN : X.N.Nodup) (hi : X.N[i]? = some x) (hx : Loc X.env.scope x) (he : PE X e (tF C f)) (hs : swapsWith e (some (.Name x p)) pos.line X.env = pure false) (hf : X.fn x = true ∨ X.env.scope.names.lookup x = some .local) :
    PS X (.Assign [.Name x p] e pos) (tS C (sSetF i f)) := (ps_set hN hi hx he hs hf).imp fun D σ H ⟨G, m, env, st, R, h⟩ =>
  ⟨G, m, env, st, R, (SAft.aft h).imp fun d st' G' m' H' _ R' h1 a ha o => h1 G' m' _ H' (.refl G' m') (Rel.putOw R R' i ha o)⟩
/-- a slot forgotten, and what is kept in it shared -/
theorem Rel.frz {B : Bs} {T : List (Addr × Str)} {K : PySem.W.Frag} {i : Nat} {ds : List D} (R : Rel B T K env st G m σ H) (he : env[i]? = some (some (.ow (.lst ds)))) :
    ∃ G', Gx G m G' m ∧ Rel B T K (env.set i (some (.sh (.lst ds)))) st G' m σ H := by
  obtain ⟨v, h1, a, h2, g, n, vs, hv, r⟩ := R.slot i _ he
  subst h2
  have hB := R.own i _ a he h1
  have hl : i < env.length := (List.getElem?_eq_some_iff.mp he).1
  have hl2 : i < (σ : List (Option V)).length := by rw [← R.len]; exact hl
  -- forget the slot
  have R1 : Rel B T K (env.set i none) st G m σ H := by
    have get : ∀ (j : Nat) (s' : Slot), (env.set i none)[j]? = some (some s') → j ≠ i ∧ env[j]? = some (some s') := fun j s' h => by
      by_cases e : j = i
      · subst e; rw [List.getElem?_set_self hl] at h; cases h
      · rw [List.getElem?_set_ne (Ne.symm e)] at h; exact ⟨e, h⟩
    exact ⟨R.w, R.base, fun j s h => R.slot j s (get j s h).2, fun j k d e a hj hk => R.sep j k d e a (get _ _ hj).2 (get _ _ hk).2, fun j d a hj => R.own j d a (get _ _ hj).2, by rw [List.length_set]; exact R.len⟩
  have R2 := R1.freeze hv ⟨vs, rfl⟩ g n hB fun j d hj hs => by
    by_cases e : j = i
    · subst e; rw [List.getElem?_set_self hl] at hj; cases hj
    · rw [List.getElem?_set_ne (Ne.symm e)] at hj
      exact e (R.sep j i d _ a hj he hs h1)
  refine ⟨upd G a (.lst vs), ⟨same_upd' g, [], by simp⟩, ?_⟩
  have R3 := R2.putSh i (v := .ref a) (d := .lst ds) (.lst upd_same (r.mono (same_upd' g) ⟨[], by simp⟩))
  rw [List.set_set] at R3
  have e2 : (σ : List (Option V)).set i (some (.ref a)) = σ := by
    rw [List.getElem?_eq_some_iff] at h1
    obtain ⟨_, h1⟩ := h1
    rw [← h1, List.set_getElem_self]
  rw [e2] at R3
  exact R3
theorem ss_frz {i : Nat} {g : DS} (h : PSs X ss (tS C g)) : PSs X ss (tS C (sSeq (sFrz i) g)) := h.imp fun D σ H ⟨G, m, env, st, R, q⟩ => by
  unfold sSeq sFrz at q
  split at q
  · rename_i ds he
    obtain ⟨G', gx, R'⟩ := R.frz he
    exact ⟨G', m, _, st, R', SAft.mono q gx⟩
  · exact q.elim
end
end DI


/-! DI7: targets, loops, own lists -/
namespace DI
open PySem PySem.Spec PyProof.Rows L2

/-! #### targets -/
abbrev DTg := D → DEnv → Option DEnv
abbrev DTgs := List D → DEnv → Option DEnv
def gN (i : Nat) : DTg := fun d env => some (env.set i (some (.sh d)))
def gT (t : DTgs) : DTg := fun d env => match d with
  | .tup ds => t ds env
  | .lst ds => t ds env
  | _ => none
def gNils : DTgs := fun ds env => match ds with
  | [] => some env
  | _ => none
def gC (t : DTg) (u : DTgs) : DTgs := fun ds env => match ds with
  | d :: ds => (t d env).bind (u ds)
  | [] => none
section
variable (C : Ct)
/-- l: the slots that are written -/
def tG (l : List Nat) (t : DTg) : TG := fun v σ H Q => ∃ G m env st d, Rel C.B C.T C.K env st G m σ H ∧ Rep C.K G m v d ∧ ∃ env', t d env = some env' ∧ ∀ σ', Rel C.B C.T C.K env' st G m σ' H → (∀ vs : List Nat, (∀ i ∈ l, i ∈ vs) → wipe σ' vs = wipe σ vs) → Q σ' H
def tGs (l : List Nat) (t : DTgs) : TGs := fun vs σ H Q => ∃ G m env st ds, Rel C.B C.T C.K env st G m σ H ∧ RepAll C.K G m vs ds ∧ ∃ env', t ds env = some env' ∧ ∀ σ', Rel C.B C.T C.K env' st G m σ' H → (∀ vs : List Nat, (∀ i ∈ l, i ∈ vs) → wipe σ' vs = wipe σ vs) → Q σ' H
end
section
variable {C : Ct} {X : Cx} {pos : Pos} {e : Expr} {es : List Expr} {t : DTg} {u : DTgs} {n : Nat} {l l' : List Nat}
theorem wipe_get (σ : L2.St) (j : Nat) : ∀ vs : List Nat, (wipe σ vs : List (Option V))[j]? = if j ∈ vs then (if j < (σ : List (Option V)).length then some none else none) else (σ : List (Option V))[j]?
  | [] => by simp [wipe]
  | v :: vs => by
    unfold wipe
    rw [List.getElem?_set, wipe_get σ j vs, wipe_length]
    by_cases e : v = j
    · subst e; simp
    · simp [e, Ne.symm e]
theorem wipe_set {σ : L2.St} {i : Nat} {x : Option V} {vs : List Nat} (h : i ∈ vs) : wipe ((σ : List (Option V)).set i x) vs = wipe σ vs := by
  apply List.ext_getElem?
  intro j
  rw [wipe_get, wipe_get, List.length_set]
  by_cases e : j ∈ vs
  · simp [e]
  · rw [if_neg e, if_neg e, List.getElem?_set_ne]
    intro z; subst z; exact e h
theorem _root_.L2.PG.imp {t t' : TG} (h : PG X e t) (i : ∀ v σ H Q, t' v σ H Q → t v σ H Q) : PG X e t' := ⟨fun pins s σ H v u Q I r q => h.run pins s σ H v u Q I r (i v σ H Q q)⟩
theorem _root_.L2.PGs.imp {t t' : TGs} (h : PGs X es t) (i : ∀ v σ H Q, t' v σ H Q → t v σ H Q) : PGs X es t' := ⟨fun pins s σ H v u Q I r q => h.run pins s σ H v u Q I r (i v σ H Q q)⟩
theorem g_name {i : Nat} {x : Str} (hN : X.N.Nodup) (hi : X.N[i]? = some x) (hx : Loc X.env.scope x) (hf : X.fn x = true ∨ X.env.scope.names.lookup x = some .local) : PG X (.Name x pos) (tG C [i] (gN i)) :=
  (pg_name hN hi hx hf).imp fun v σ H Q ⟨G, m, env, st, d, R, r, env', he, q⟩ => by
    cases he
    exact q _ (R.putSh i r) fun vs h => wipe_set (h i (by simp))
theorem gs_nil : PGs X [] (tGs C [] gNils) := pgs_nil.imp fun vs σ H Q ⟨G, m, env, st, ds, R, r, env', he, q⟩ => by
  cases r with
  | nil => cases he; exact ⟨rfl, q σ R fun _ _ => rfl⟩
  | cons _ _ => cases he
theorem gs_cons (h1 : PG X e (tG C l t)) (h2 : PGs X es (tGs C l' u)) (hs : (assignEach (e :: es) X.env).map (·.2) = assign e X.env :: (assignEach es X.env).map (·.2)) : PGs X (e :: es) (tGs C (l ++ l') (gC t u)) :=
  (pgs_cons h1 h2 hs).imp fun vs σ H Q ⟨G, m, env, st, ds, R, r, env', he, q⟩ => by
    cases r with
    | nil => cases he
    | cons r rr =>
      obtain ⟨e1, h1, h2⟩ := Option.bind_eq_some_iff.mp he
      exact ⟨_, _, rfl, G, m, env, st, _, R, r, e1, h1, fun σ' R' w1 => ⟨G, m, e1, st, _, R', rr, env', h2, fun σ2 R2 w2 => q σ2 R2 fun vs h => (w2 vs fun i hi => h i (List.mem_append_right _ hi)).trans (w1 vs fun i hi => h i (List.mem_append_left _ hi))⟩⟩
/-- how many a list of targets takes -/
def takesN (n : Nat) (u : DTgs) : Prop := ∀ ds env env', u ds env = some env' → ds.length = n
theorem takes_nil : takesN 0 gNils := fun ds env env' h => by
  cases ds with
  | nil => rfl
  | cons _ _ => cases h
theorem takes_cons (h : takesN n u) : takesN (n + 1) (gC t u) := fun ds env env' he => by
  cases ds with
  | nil => cases he
  | cons d ds =>
    obtain ⟨e1, h1, h2⟩ := Option.bind_eq_some_iff.mp he
    simp [h ds e1 env' h2]
theorem g_tup {k : Nat} (hK : C.K = X.K) (hc : X.calm = true) (h : PGs X es (tGs C l u)) (tn : takesN n u) (hn : (assignEach es X.env).length = n) (hst : (assignEach es X.env).findIdx? (·.1) = none) : PG X (.Tuple es k pos) (tG C l (gT u)) :=
  PG.imp (t := fun v σ H Q => L2.gTup X.K n (tGs C l u) v σ H Q ∨ L2.gUnl X.K n (tGs C l u) v σ H Q) ⟨fun pins s σ H v us Q I r q => q.elim (fun q => (pg_tup hc h hn hst).run pins s σ H v us Q I r q) (fun q => (pg_unl hc h hn hst).run pins s σ H v us Q I r q)⟩ fun v σ H Q ⟨G, m, env, st, d, R, r, env', he, q⟩ => by
    cases r with
    | tup h1 h2 =>
      have hl := tn _ _ _ he
      refine .inl ⟨_, _, rfl, ?_, by rw [h2.length]; exact hl, G, m, env, st, _, R, h2, env', he, q⟩
      rw [← hK]
      exact SqTm R.w.gh h1
    | lst h1 h2 =>
      have hl := tn _ _ _ he
      refine .inr ⟨_, _, rfl, ?_, by rw [h2.length]; exact hl, G, m, env, st, _, R, h2, env', he, q⟩
      exact SqLm R.w.gh (.inl (.inl h1))
    | _ => cases he
/-- target = value -/
def sAsg (f : DF) (t : DTg) : DS := fun env st => (f env st).bind fun d st => Res.bind (Res.opt (t d env) st) fun env st => .ok (.nx env) st
theorem s_asg {f : DF} {tg : Expr} (he : PE X e (tD C f)) (hg : PG X tg (tG C l t)) (hs : swapsWithSole [tg] e pos.line X.env = pure false) (hw : swappedStores [tg] e X.env = pure none)
    (h1 : (assignEach [tg] X.env).map (·.2) = [assign tg X.env]) : PS X (.Assign [tg] e pos) (tS C (sAsg f t)) := (ps_asg he hg hs hw h1).imp fun D σ H ⟨G, m, env, st, R, h⟩ =>
  ⟨G, m, env, st, R, (SAft.aft h).imp fun d st' G' m' H' E' R' h1 v rv => by
    cases ht : t d env with
    | none => rw [ht] at h1; exact h1.elim
    | some env' =>
      rw [ht] at h1
      exact ⟨G', m', env, st', d, R', rv, env', ht, fun σ' R2 _ => h1 G' m' σ' H' (.refl G' m') R2⟩⟩
end

/-! #### what is walked -/
structure ItD (K : PySem.W.Frag) (G0 : Hp) (m0 : List Addr) (J : It) (ds : List D) : Prop where
  go : ∀ i H, Same G0 H → i < ds.length → J.go i H
  stop : ∀ i H, Same G0 H → ds.length ≤ i → J.stop i H
  yld : ∀ i d G m H x H', Same G0 G → (∃ t, m = m0 ++ t) → Same G H → ds[i]? = some d → J.yld i H x H' → ∃ G', PExt G H G' H' ∧ Rep K G' m x d
def tI (C : Ct) (f : DFL) : TI := fun σ H R => ∃ G m env st, Rel C.B C.T C.K env st G m σ H ∧ Aft C env σ G m H (f env st) fun ds _ G' m' H' => ∀ J, ItD C.K G' m' J ds → R J H'
theorem _root_.L2.PI.imp {X : Cx} {tg e : Expr} {t t' : TI} (h : PI X tg e t) (i : ∀ σ H R, t' σ H R → t σ H R) : PI X tg e t' := ⟨fun pins s σ H R I q => h.run pins s σ H R I (i σ H R q)⟩
def D.walk : D → Option (List D)
  | .lst ds => some ds
  | .tup ds => some ds
  | .fls ds => some ds
  | .str s => some (s.map fun c => .str [c])
  | _ => none
def iSeq (f : DF) : DFL := fun env st => (f env st).bind fun d st => Res.opt d.walk st
section
variable {C : Ct} {X : Cx} {pos : Pos} {e tg : Expr} {f : DF}
theorem pi_seq {tl : TE} (hl : PE X e tl) : PI X tg e (fun σ H R => tl σ H fun x H1 => (∃ a, x = .ref a ∧ (∃ xs, SqL X.K H1 a xs) ∧ R (Itl X.K a) H1) ∨ (∃ a, x = .ref a ∧ (∃ xs, SqT X.K H1 a xs) ∧ R (Itt X.K a) H1) ∨ ∃ s, x = .str s ∧ R (Its s) H1) := by
  refine ⟨fun pins s σ H R I h => ?_⟩
  refine thn (hl.run pins s σ H _ I h) fun v s1 ⟨x, H1, I1, r1, q1⟩ => ?_
  have fin : ∀ {a : Addr} {b : Addr}, b ∈ [s1.heap.objs.size] → FpOk X pins H1 b := fun {a b} hb => by
    have e : b = s1.heap.objs.size := by simpa using hb
    subst e
    exact I1.fpOk (Nat.le_refl _) (I1.hok.fresh (Nat.le_refl _))
  rcases q1 with ⟨a, e, ⟨xs, hq⟩, q⟩ | ⟨a, e, ⟨xs, hq⟩, q⟩ | ⟨x, ex, q⟩
  · subst e
    cases r1
    obtain ⟨its, rv, p, hz⟩ := I1.list hq
    refine wpAny_pyIter_list p.isList ?_
    exact ⟨s1.heap.objs.size, [s1.heap.objs.size], _, _, H1, rfl, I1.kept (t' := s1.toks) fun b o e => Heap.get?_push_of_some _ e, turn_list a _, ⟨_, Heap.get?_push_size _ rfl, rfl, rfl⟩, fun b hb => fin (a := a) hb, q⟩
  · subst e
    cases r1
    obtain ⟨its, rv, p, hz⟩ := I1.tuple hq
    refine wpAny_pyIter_tuple (show s1.heap.IsTuple a its.toArray from p) ?_
    exact ⟨s1.heap.objs.size, [s1.heap.objs.size], _, _, H1, rfl, I1.kept (t' := s1.toks) fun b o e => Heap.get?_push_of_some _ e, turn_tuple a _, ⟨_, Heap.get?_push_size _ rfl, rfl, rfl⟩, fun b hb => fin (a := a) hb, q⟩
  · subst ex
    obtain ⟨t, rfl⟩ := r1
    cases ha : x.cps.all (· < 128)
    · exact wpAny_pyIter_wide ha (pi_one (tk := s1.toks) I1 _ (turn_str _ x t "str_iterator" (.inr rfl)) ⟨_, Heap.get?_push_size _ rfl, rfl, rfl⟩ q)
    · exact wpAny_pyIter_ascii ha (pi_one (tk := s1.toks) I1 _ (turn_str _ x t "str_ascii_iterator" (.inl rfl)) ⟨_, Heap.get?_push_size _ rfl, rfl, rfl⟩ q)
theorem itD_list {K : PySem.W.Frag} {G0 : Hp} {m0 : List Addr} {a : Addr} {vs : List V} {ds : List D} (h : SqL K G0 a vs) (r : RepAll K G0 m0 vs ds) : ItD K G0 m0 (Itl K a) ds where
  go := fun i H s hi => by
    obtain ⟨v, hv, _⟩ := r.get (List.getElem?_eq_getElem hi)
    exact ⟨vs, v, SqLm s h, hv⟩
  stop := fun i H s hi => ⟨vs, SqLm s h, by rw [r.length]; exact hi⟩
  yld := fun i d G m H x H' s1 hm s2 hd ⟨e, hy⟩ => by
    subst e
    obtain ⟨v, hv, rv⟩ := r.get hd
    have := hy vs (SqLm (s1.trans s2) h)
    rw [hv] at this
    cases this
    exact ⟨G, PExt.refl s2, rv.mono s1 hm⟩
theorem itD_tup {K : PySem.W.Frag} {G0 : Hp} {m0 : List Addr} {a : Addr} {vs : List V} {ds : List D} (h : SqT K G0 a vs) (r : RepAll K G0 m0 vs ds) : ItD K G0 m0 (Itt K a) ds where
  go := fun i H s hi => by
    obtain ⟨v, hv, _⟩ := r.get (List.getElem?_eq_getElem hi)
    exact ⟨vs, v, SqTm s h, hv⟩
  stop := fun i H s hi => ⟨vs, SqTm s h, by rw [r.length]; exact hi⟩
  yld := fun i d G m H x H' s1 hm s2 hd ⟨e, hy⟩ => by
    subst e
    obtain ⟨v, hv, rv⟩ := r.get hd
    have := hy vs (SqTm (s1.trans s2) h)
    rw [hv] at this
    cases this
    exact ⟨G, PExt.refl s2, rv.mono s1 hm⟩
theorem itD_str {K : PySem.W.Frag} {G0 : Hp} {m0 : List Addr} {s : List Nat} (hs : s.all (· < 0x110000) = true) : ItD K G0 m0 (Its (mkS s)) (s.map fun c => .str [c]) where
  go := fun i H _ hi => by simpa [Its] using hi
  stop := fun i H _ hi => by simpa [Its] using hi
  yld := fun i d G m H x H' s1 hm s2 hd ⟨e, c, hc, hx⟩ => by
    subst e hx
    have hc' : s[i]? = some c := by simpa using hc
    have hd' : d = .str [c] := by
      rw [List.getElem?_map, hc'] at hd
      simpa using hd.symm
    subst hd'
    have := List.all_eq_true.mp hs c (List.mem_of_getElem? hc')
    exact ⟨G, PExt.refl s2, .str [c] (by simpa using this)⟩
theorem i_seq (hK : C.K = X.K) (he : PE X e (tD C f)) : PI X tg e (tI C (iSeq f)) := (pi_seq he).imp fun σ H R ⟨G, m, env, st, Rl, h⟩ =>
  ⟨G, m, env, st, Rl, (Aft.bind h).imp fun d st' G' m' H' E' R' h1 v rv => by
    obtain ⟨ds, hd, h2⟩ := h1.opt
    have h3 := h2.here R'
    cases rv with
    | str s hs => cases hd; exact .inr (.inr ⟨_, rfl, h3 _ (itD_str hs)⟩)
    | lst h r =>
      cases hd
      exact .inl ⟨_, rfl, ⟨_, .inl (.inl (R'.w.gh _ _ h))⟩, by rw [← hK]; exact h3 _ (itD_list (.inl (.inl h)) r)⟩
    | fls h r =>
      cases hd
      exact .inl ⟨_, rfl, ⟨_, by rw [← hK]; exact SqLm R'.w.gh h⟩, by rw [← hK]; exact h3 _ (itD_list h r)⟩
    | tup h r =>
      cases hd
      exact .inr (.inl ⟨_, rfl, ⟨_, by rw [← hK]; exact SqTm R'.w.gh h⟩, by rw [← hK]; exact h3 _ (itD_tup h r)⟩)
    | _ => cases hd⟩
end
end DI


/-! DI8: loops, own lists, lists of the store -/
namespace DI
open PySem PySem.Spec PyProof.Rows L2

def loopF (t : DTg) (body : DS) : List D → DS
  | [], env, st => .ok (.nx env) st
  | d :: ds, env, st => (Res.opt (t d env) st).bind fun env st => (body env st).bind fun fl st => match fl with
    | .nx e => loopF t body ds e st
    | .ct e => loopF t body ds e st
    | .bk e => .ok (.nx e) st
    | .rt d => .ok (.rt d) st
def sFor (fi : DFL) (t : DTg) (body : DS) : DS := fun env st => (fi env st).bind fun ds st => loopF t body ds env st
def whileF (c : DFB) (body : DS) : Nat → DS
  | 0, _, _ => .stuck
  | n + 1, env, st => (c env st).bind fun b st => if b then (body env st).bind fun fl st => match fl with
    | .nx e => whileF c body n e st
    | .ct e => whileF c body n e st
    | .bk e => .ok (.nx e) st
    | .rt d => .ok (.rt d) st else .ok (.nx env) st
section
variable {C : Ct} {X : Cx} {env : DEnv} {st : Store} {G H : Hp} {m : List Addr} {σ : L2.St} {pos : Pos} {e tg iter c : Expr} {f : DF} {fi : DFL} {gc : DFB} {t : DTg} {fb : DS} {body : List Stmt}
theorem s_for (hp : PassesOwn (model X.prog X.w) X.A X.env X.xe) (hc : X.calm = true) (hi : PI X tg iter (tI C fi)) {l : List Nat} (hg : PG X tg (tG C l t)) (hb : PSs X body (tS C fb)) (hs : ∀ x, foldedSetIterable iter X.env x = pure x) :
    PS X (.For tg iter body [] pos) (tS C (sFor fi t fb)) := (ps_for hp hc hi hg hb hs).imp fun D σ H ⟨G, m, env, st, R, h⟩ => by
  refine ⟨G, m, env, st, R, (SAft.aft h).imp fun ds st1 G1 m1 H1 E1 R1 h1 J hJ => ?_⟩
  refine ⟨fun i n σ H => ∃ G m env st, Rel C.B C.T C.K env st G m σ H ∧ Gx G1 m1 G m ∧ n = ds.length - i ∧ i ≤ ds.length ∧ SAft C D G m (loopF t fb (ds.drop i) env st),
    ⟨ds.length, G1, m1, env, st1, R1, .refl _ _, rfl, Nat.zero_le _, by rw [List.drop_zero]; exact h1⟩, ?_⟩
  rintro i n σ H ⟨G, m, env, st, R, gx, rfl, hi, h⟩
  have same : Same G1 H := gx.gg.trans R.w.gh
  by_cases hlt : i < ds.length
  · refine .inr ⟨hJ.go i H same hlt, fun σ H => ∃ G m env st, Rel C.B C.T C.K env st G m σ H ∧ Gx G1 m1 G m ∧ SAft C D G m (loopF t fb (ds.drop (i + 1)) env st), fun σ' H' ⟨G', m', env', st', R', gx', h'⟩ => ⟨ds.length - (i + 1), by omega, G', m', env', st', R', gx', rfl, hlt, h'⟩, fun x H' hy => ?_⟩
    obtain ⟨G', p, rx⟩ := hJ.yld i ds[i] G m H x H' gx.gg gx.mm R.w.gh (List.getElem?_eq_getElem hlt) hy
    rw [List.drop_eq_getElem_cons hlt] at h
    have R' := R.pext p
    have h := SAft.mono h (p.ext (m := m)).gx
    unfold loopF at h
    cases ht : t ds[i] env with
    | none => rw [ht] at h; exact h.elim
    | some env2 =>
      rw [ht] at h
      refine ⟨G', m, env, st, ds[i], R', rx, env2, ht, fun σ2 R2 _ => ⟨G', m, env2, st, R2, ?_⟩⟩
      have gx2 : Gx G1 m1 G' m := gx.trans (p.ext (m := m)).gx
      change SAft C D G' m ((fb env2 st).bind fun fl st => match fl with
        | .nx e => loopF t fb (ds.drop (i + 1)) e st
        | .ct e => loopF t fb (ds.drop (i + 1)) e st
        | .bk e => .ok (.nx e) st
        | .rt d => .ok (.rt d) st) at h
      cases hr : fb env2 st with
      | stuck => rw [hr] at h; exact h
      | ex c fs st' => rw [hr] at h; exact h
      | ok fl st' =>
        rw [hr] at h
        cases fl with
        | nx e => exact fun G3 m3 σ3 H3 g3 R3 => ⟨G3, m3, e, st', R3, gx2.trans g3, SAft.mono h g3⟩
        | ct e => exact fun G3 m3 σ3 H3 g3 R3 => ⟨G3, m3, e, st', R3, gx2.trans g3, SAft.mono h g3⟩
        | bk e => exact h
        | rt d => exact h
  · have hle : ds.length ≤ i := by omega
    rw [List.drop_eq_nil_of_le hle] at h
    exact .inl ⟨hJ.stop i H same hle, h G m σ H (.refl _ _) R⟩
theorem s_while (n : Nat) (hp : PassesOwn (model X.prog X.w) X.A X.env X.xe) (hc : PT X c (tT C gc)) (hb : PSs X body (tS C fb)) : PS X (.While c body [] pos) (tS C (whileF gc fb n)) := (ps_while hp hc hb).imp fun D σ H ⟨G, m, env, st, R, h⟩ => by
  refine ⟨fun n σ H => ∃ G m env st, Rel C.B C.T C.K env st G m σ H ∧ SAft C D G m (whileF gc fb n env st), ⟨n, G, m, env, st, R, h⟩, ?_⟩
  rintro n σ H ⟨G, m, env, st, R, h⟩
  cases n with
  | zero => exact h.elim
  | succ n =>
    unfold whileF at h
    refine ⟨G, m, env, st, R, (SAft.aft h).imp fun b st1 G1 m1 H1 E1 R1 h1 => ?_⟩
    cases b with
    | false => exact h1 G1 m1 σ H1 (.refl _ _) R1
    | true =>
      rw [if_pos rfl]
      refine ⟨fun σ H => ∃ G m env st, Rel C.B C.T C.K env st G m σ H ∧ SAft C D G m (whileF gc fb n env st), fun σ' H' ⟨G', m', env', st', R', h'⟩ => ⟨n, Nat.lt_succ_self n, G', m', env', st', R', h'⟩, G1, m1, env, st1, R1, ?_⟩
      change SAft C D G1 m1 ((fb env st1).bind fun fl st => match fl with
        | .nx e => whileF gc fb n e st
        | .ct e => whileF gc fb n e st
        | .bk e => .ok (.nx e) st
        | .rt d => .ok (.rt d) st) at h1
      cases hr : fb env st1 with
      | stuck => rw [hr] at h1; exact h1
      | ex c fs st' => rw [hr] at h1; exact h1
      | ok fl st' =>
        rw [hr] at h1
        cases fl with
        | nx e => exact fun G3 m3 σ3 H3 g3 R3 => ⟨G3, m3, e, st', R3, SAft.mono h1 g3⟩
        | ct e => exact fun G3 m3 σ3 H3 g3 R3 => ⟨G3, m3, e, st', R3, SAft.mono h1 g3⟩
        | bk e => exact h1
        | rt d => exact h1

/-! #### own lists written -/
theorem Rel.mut {B : Bs} {T : List (Addr × Str)} {K : PySem.W.Frag} {i : Nat} {a : Addr} {vs vs' : List V} {ds ds' : List D} (R : Rel B T K env st G m σ H) (he : env[i]? = some (some (.ow (.lst ds)))) (h1 : (σ : List (Option V))[i]? = some (some (.ref a))) (hv : H a = some (.lst vs))
    (r : RepAll K G m vs' ds') : Rel B T K (env.set i (some (.ow (.lst ds')))) st G m σ (upd H a (.lst vs')) := by
  obtain ⟨v, h2, b, e2, g, n, ws, hw, rw'⟩ := R.slot i _ he
  rw [h1] at h2
  cases h2
  cases e2
  have hB := R.own i _ a he h1
  have hl : i < env.length := (List.getElem?_eq_some_iff.mp he).1
  have gh : Same G (upd H a (.lst vs')) := fun b u h => by
    rw [upd_ne (ne_of_none h g)]
    exact R.w.gh b u h
  have hn : ∀ (b : Addr) (o : HO), H b = some o → (∀ us, o ≠ .lst us) → b ≠ a := fun b o h q z => by
    rw [z, hv] at h
    exact q _ (Option.some.inj h).symm
  refine ⟨⟨gh, R.w.nt, R.w.len, R.w.nd, fun k o b h1 h2 => ?_, fun p hp => ?_⟩, ⟨R.base.gg, fun b o h nm nt => ?_, fun b h => ?_, R.base.new, R.base.mm, R.base.mn⟩, fun j s h => ?_, fun j k d e b hj hk => ?_, fun j d b hj => ?_, by rw [List.length_set]; exact R.len⟩
  · have nb : b ≠ a := fun z => n (z ▸ List.mem_of_getElem? h2)
    have x := R.w.store k o b h1 h2
    cases o with
    | lst es =>
      obtain ⟨g, us, h, r⟩ := x
      exact ⟨g, us, by rw [upd_ne nb]; exact h, r⟩
    | ins Cn fs =>
      obtain ⟨g, dx, fvs, h, g2, n2, h2, h3, r⟩ := x
      exact ⟨g, dx, fvs, by rw [upd_ne nb]; exact h, g2, n2, by rw [upd_ne (hn _ _ h2 (fun us z => by cases z))]; exact h2, h3, r⟩
  · obtain ⟨ps, h1, h2, h3⟩ := R.w.tabs p hp
    refine ⟨ps, by rw [upd_ne (hn _ _ h1 (fun us z => by cases z))]; exact h1, h2, fun pos cv hc => ?_⟩
    obtain ⟨c, e1, e2⟩ := h3 pos cv hc
    exact ⟨c, e1, by rw [upd_ne (hn _ _ e2 (fun us z => by unfold LamX.CodeO at z; cases z))]; exact e2⟩
  · rw [upd_ne (fun z => hB (by rw [← z]; exact ⟨o, h, nt⟩))]
    exact R.base.hh b o h nm nt
  · obtain ⟨o, h1, h2⟩ := R.base.th b h
    exact ⟨o, by rw [upd_ne (fun z => hB (by rw [← z]; exact h))]; exact h1, h2⟩
  · by_cases e : j = i
    · subst e
      rw [List.getElem?_set_self hl] at h
      cases h
      exact ⟨_, h1, a, rfl, g, n, vs', upd_same, r⟩
    · rw [List.getElem?_set_ne (Ne.symm e)] at h
      obtain ⟨v, h2, h3⟩ := R.slot j s h
      refine ⟨v, h2, ?_⟩
      cases s with
      | exc c fs =>
        obtain ⟨e1, hc, x⟩ := h3
        refine ⟨e1, hc, ?_⟩
        rcases x with x | ⟨dx, fvs, y1, y2, y3, y4, y5⟩
        · exact .inl x
        · exact .inr ⟨dx, fvs, y1, y2, by rw [upd_ne (hn _ _ y3 (fun us z => by cases z))]; exact y3, y4, y5⟩
      | sh d => exact h3
      | ow d =>
        obtain ⟨b, e2, o⟩ := h3
        refine ⟨b, e2, ?_⟩
        cases d with
        | lst es =>
          obtain ⟨g, n, us, hu, r⟩ := o
          refine ⟨g, n, us, ?_, r⟩
          rw [upd_ne (fun z => e (R.sep j i _ _ a h he (by rw [h2, e2, z]) h1))]
          exact hu
        | _ => exact False.elim o
  · have back : ∀ (j : Nat) (d : D), (env.set i (some (.ow (.lst ds'))))[j]? = some (some (.ow d)) → ∃ d', env[j]? = some (some (.ow d')) := fun j d h => by
      by_cases e : j = i
      · subst e; exact ⟨_, he⟩
      · rw [List.getElem?_set_ne (Ne.symm e)] at h; exact ⟨_, h⟩
    obtain ⟨d', hj'⟩ := back j d hj
    obtain ⟨e', hk'⟩ := back k e hk
    exact R.sep j k d' e' b hj' hk'
  · by_cases e : j = i
    · subst e; exact R.own j _ b he
    · rw [List.getElem?_set_ne (Ne.symm e)] at hj; exact R.own j d b hj
end
end DI


/-! DI9: comprehensions, calls, own lists, lists of the store -/
namespace DI
open PySem PySem.Spec PyProof.Rows L2

/-- the slots forgotten -/
def wipeE (env : DEnv) : List Nat → DEnv
  | [] => env
  | v :: vs => (wipeE env vs).set v none
def compF (t : DTg) (ft : DFB) (fe : DF) : List D → DEnv → Store → Option (List D × Store)
  | [], _, st => some ([], st)
  | d :: ds, env, st => match t d env with
    | none => none
    | some e1 => match ft e1 st with
      | .ok true st1 => match fe e1 st1 with
        | .ok x st2 => (compF t ft fe ds env st2).map fun p => (x :: p.1, p.2)
        | _ => none
      | .ok false st1 => compF t ft fe ds env st1
      | _ => none
def dComp (fi : DFL) (t : DTg) (vs : List Nat) (ft : DFB) (fe : DF) : DF := fun env st => (fi env st).bind fun ds st => match compF t ft fe ds (wipeE env vs) st with
  | some (out, st) => if lenOk out then .ok (.lst out) st else .stuck
  | none => .stuck
def dYes : DFB := fun _ st => .ok true st
/-- no exception goes out of a comprehension's block -/
abbrev Ct.in_ (C : Ct) : Ct := { C with W := fun _ _ _ => False }
section
variable {C : Ct} {X : Cx} {env : DEnv} {st : Store} {G H : Hp} {m : List Addr} {σ : L2.St}
theorem wipeE_len (env : DEnv) : ∀ vs, (wipeE env vs).length = env.length
  | [] => rfl
  | v :: vs => by unfold wipeE; rw [List.length_set, wipeE_len env vs]
theorem wipeE_get {env : DEnv} {i : Nat} {x : Slot} : ∀ {vs : List Nat}, (wipeE env vs)[i]? = some (some x) → env[i]? = some (some x) ∧ i ∉ vs
  | [], h => ⟨h, by simp⟩
  | v :: vs, h => by
    unfold wipeE at h
    by_cases hi : v = i
    · subst hi
      by_cases hv : v < (wipeE env vs).length
      · rw [List.getElem?_set_self hv] at h; cases h
      · rw [List.getElem?_eq_none (by simpa using hv)] at h; cases h
    · rw [List.getElem?_set_ne hi] at h
      obtain ⟨h1, h2⟩ := wipeE_get h
      exact ⟨h1, by simp only [List.mem_cons, not_or]; exact ⟨fun e => hi e.symm, h2⟩⟩
theorem Rel.wipe {B : Bs} {T : List (Addr × Str)} {K : PySem.W.Frag} (R : Rel B T K env st G m σ H) (vs : List Nat) : Rel B T K (wipeE env vs) st G m (L2.wipe σ vs) H := by
  have same : ∀ (i : Nat), i ∉ vs → (L2.wipe σ vs : List (Option V))[i]? = (σ : List (Option V))[i]? := fun i h => by rw [wipe_get, if_neg h]
  refine ⟨R.w, R.base, fun i s h => ?_, fun i j d e a hi hj h1 h2 => ?_, fun i d a hi h1 => ?_, by rw [wipeE_len, wipe_length]; exact R.len⟩
  · obtain ⟨h1, h2⟩ := wipeE_get h
    rw [same i h2]
    exact R.slot i s h1
  · obtain ⟨g1, g2⟩ := wipeE_get hi
    obtain ⟨g3, g4⟩ := wipeE_get hj
    rw [same i g2] at h1
    rw [same j g4] at h2
    exact R.sep i j d e a g1 g3 h1 h2
  · obtain ⟨g1, g2⟩ := wipeE_get hi
    rw [same i g2] at h1
    exact R.own i d a g1 h1
/-- a list that is neither frozen nor the store's is written -/
theorem w0_list {T : List (Addr × Str)} {K : PySem.W.Frag} {a : Addr} {vs vs' : List V} (w : W0 T K st G m H) (hv : H a = some (.lst vs)) (g : G a = none) (n : a ∉ m) : W0 T K st G m (upd H a (.lst vs')) := by
  have hn : ∀ (b : Addr) (o : HO), H b = some o → (∀ us, o ≠ .lst us) → b ≠ a := fun b o h q z => by
    rw [z, hv] at h
    exact q _ (Option.some.inj h).symm
  refine ⟨fun b u h => ?_, w.nt, w.len, w.nd, fun k o b h1 h2 => ?_, fun p hp => ?_⟩
  · rw [upd_ne (ne_of_none h g)]
    exact w.gh b u h
  · have nb : b ≠ a := fun z => n (z ▸ List.mem_of_getElem? h2)
    have x := w.store k o b h1 h2
    cases o with
    | lst es =>
      obtain ⟨g, us, h, r⟩ := x
      exact ⟨g, us, by rw [upd_ne nb]; exact h, r⟩
    | ins Cn fs =>
      obtain ⟨g, dx, fvs, h, g2, n2, h2, h3, r⟩ := x
      exact ⟨g, dx, fvs, by rw [upd_ne nb]; exact h, g2, n2, by rw [upd_ne (hn _ _ h2 (fun us z => by cases z))]; exact h2, h3, r⟩
  · obtain ⟨ps, h1, h2, h3⟩ := w.tabs p hp
    refine ⟨ps, by rw [upd_ne (hn _ _ h1 (fun us z => by cases z))]; exact h1, h2, fun pos cv hc => ?_⟩
    obtain ⟨c, e1, e2⟩ := h3 pos cv hc
    exact ⟨c, e1, by rw [upd_ne (hn _ _ e2 (fun us z => by unfold LamX.CodeO at z; cases z))]; exact e2⟩
theorem wipe_wipe (σ : L2.St) (vs : List Nat) : L2.wipe (L2.wipe σ vs) vs = L2.wipe σ vs := by
  apply List.ext_getElem?
  intro j
  rw [wipe_get, wipe_length, wipe_get]
  by_cases e : j ∈ vs <;> simp [e]
theorem compF_cons {t : DTg} {ft : DFB} {fe : DF} {d : D} {ds rest : List D} {stE : Store} (h : compF t ft fe (d :: ds) env st = some (rest, stE)) :
    ∃ e1 b st1, t d env = some e1 ∧ ft e1 st = .ok b st1 ∧ ((b = true ∧ ∃ x st2 r, fe e1 st1 = .ok x st2 ∧ compF t ft fe ds env st2 = some (r, stE) ∧ rest = x :: r) ∨ (b = false ∧ compF t ft fe ds env st1 = some (rest, stE))) := by
  unfold compF at h
  split at h
  · cases h
  · rename_i e1 ht
    split at h
    · rename_i st1 hft
      split at h
      · rename_i x st2 hfe
        obtain ⟨p, hp, e⟩ := Option.map_eq_some_iff.mp h
        cases e
        exact ⟨e1, true, st1, ht, hft, .inl ⟨rfl, x, st2, p.1, hfe, hp, rfl⟩⟩
      · cases h
    · rename_i st1 hft
      exact ⟨e1, false, st1, ht, hft, .inr ⟨rfl, h⟩⟩
    · cases h
theorem e_comp {elt tg iter : Expr} {ifs : List Expr} {scope : Scope} {own : List (Str × Nat)} {pos : Pos} {fi : DFL} {t : DTg} {l : List Nat} {ft : DFB} {fe : DF} (hc : X.calm = true) (hN : X.N.Nodup) (hi : PI X tg iter (tI C fi)) (ok : BlkOk X.N X.env.scope scope own)
    (hg : ∀ (s : Shared) (H : Hp) (Ca : Addr) (cl : List (Str × Addr)) (fp : List Addr), PG (X.blk s H scope (compEnvC scope cl Ca X.env) fp) tg (tG C.in_ l t)) (ht : ∀ (s : Shared) (H : Hp) (Ca : Addr) (cl : List (Str × Addr)) (fp : List Addr), PTs (X.blk s H scope (compEnvC scope cl Ca X.env) fp) ifs (tT C.in_ ft))
    (he : ∀ (s : Shared) (H : Hp) (Ca : Addr) (cl : List (Str × Addr)) (fp : List Addr), PE (X.blk s H scope (compEnvC scope cl Ca X.env) fp) elt (tD C.in_ fe)) (hs : ∀ x, foldedSetIterable iter X.env x = pure x) (hl : ∀ i ∈ l, i ∈ own.map (·.2)) :
    PE X (.ListComp elt [⟨tg, iter, ifs, 0⟩] scope pos) (tF C (dComp fi t (own.map (·.2)) ft fe)) := (pe_lc hc hN hi ok hg ht he hs).imp fun σ H Q ⟨G, m, env, st, R, h⟩ => by
  generalize own.map (·.2) = vs at h hl ⊢
  refine ⟨G, m, env, st, R, (Aft.bind h).imp fun ds st1 G1 m1 H1 E1 R1 h1 J hJ => ?_⟩
  intro Da hDa
  split at h1
  rotate_left
  · exact h1.elim
  rename_i all stE hcomp
  split at h1
  rotate_left
  · exact h1.elim
  rename_i hlen
  have hlen : all.length ≤ sizeLine := of_decide_eq_true hlen
  have dm1 : Da ∉ m1 := fun z => R1.w.nomem hDa z
  have gD1 : G1 Da = none := R1.w.gh.free hDa
  refine ⟨fun i n H => ∃ G m st acc out rest, n = ds.length - i ∧ i ≤ ds.length ∧ W0 C.T C.K st G m H ∧ Ext G1 m1 H1 G m H ∧ H Da = some (.lst acc) ∧ G Da = none ∧ Da ∉ m ∧ RepAll C.K G m acc out ∧ compF t ft fe (ds.drop i) (wipeE env vs) st = some (rest, stE) ∧ out ++ rest = all,
    ⟨ds.length, G1, m1, st1, [], [], all, rfl, Nat.zero_le _, R1.w.pext (PExt.own R1.w.gh hDa), (PExt.own R1.w.gh hDa).ext, upd_same, gD1, dm1, .nil, by rw [List.drop_zero]; exact hcomp, rfl⟩, ?_⟩
  rintro i n H2 ⟨G2, m2, st2, acc, out, rest, rfl, hi, w2, E2, hD2, gD2, dm2, rep2, hcf, hall⟩
  have same : Same G1 H2 := E2.gg.trans w2.gh
  by_cases hlt : i < ds.length
  rotate_left
  · have hle : ds.length ≤ i := by omega
    rw [List.drop_eq_nil_of_le hle] at hcf
    cases hcf
    rw [List.append_nil] at hall
    subst hall
    refine .inl ⟨hJ.stop i H2 same hle, ?_⟩
    exact h1 G2 m2 H2 E2 (R1.ext E2 w2) Da (fun z => npr hDa (E1.th Da z)) ⟨gD2, dm2, acc, hD2, rep2⟩
  · rw [List.drop_eq_getElem_cons hlt] at hcf
    obtain ⟨e1, b, st3, hte, hft, hcase⟩ := compF_cons hcf
    have R2 : Rel C.B C.T C.K (wipeE env vs) st2 G2 m2 (L2.wipe σ vs) H2 := (R1.ext E2 w2).wipe vs
    refine .inr ⟨hJ.go i H2 same hlt, fun H => ∃ G m st acc out rest, W0 C.T C.K st G m H ∧ Ext G1 m1 H1 G m H ∧ H Da = some (.lst acc) ∧ G Da = none ∧ Da ∉ m ∧ RepAll C.K G m acc out ∧ compF t ft fe (ds.drop (i + 1)) (wipeE env vs) st = some (rest, stE) ∧ out ++ rest = all,
      fun H' ⟨G', m', st', acc', out', rest', z⟩ => ⟨ds.length - (i + 1), by omega, G', m', st', acc', out', rest', rfl, hlt, z⟩, fun x H3 hy => ?_⟩
    obtain ⟨G3, p3, rx⟩ := hJ.yld i ds[i] G2 m2 H2 x H3 E2.gg E2.mm w2.gh (List.getElem?_eq_getElem hlt) hy
    have R3 := R2.pext p3
    have E3 : Ext G1 m1 H1 G3 m2 H3 := E2.trans p3.ext
    refine ⟨G3, m2, _, st2, _, R3, rx, e1, hte, fun σ4 R4 hw4 => ⟨(hw4 vs hl).trans (wipe_wipe σ vs), G3, m2, e1, st2, R4, ?_⟩⟩
    have hD3 : H3 Da = some (.lst acc) := p3.hh _ _ hD2
    rw [hft]
    intro G5 m5 H5 E5 R5
    have E15 : Ext G1 m1 H1 G5 m5 H5 := E3.trans E5
    have hD5 : H5 Da = some (.lst acc) := E5.hh _ _ hD3 dm2 (fun ps z => by cases z)
    have gD3 : G3 Da = none := (p3.new Da (by rw [hD2]; simp)).trans gD2
    have gD5 : G5 Da = none := (E5.new Da (pr_lst hD3)).trans gD3
    have dm5 : Da ∉ m5 := fun z => by
      rcases E5.mn Da z with q | q
      · exact dm2 q
      · exact q (pr_lst hD3)
    have rep5 : RepAll C.K G5 m5 acc out := (rep2.ext (p3.ext (H' := H3))).ext E5
    rcases hcase with ⟨hb, y, st6, r, hfe, hcf', hr⟩ | ⟨hb, hcf'⟩
    · subst hb
      dsimp only
      rw [if_pos rfl]
      refine ⟨G5, m5, e1, st3, R5, ?_⟩
      rw [hfe]
      intro G6 m6 H6 E6 R6 v rv
      have hD6 : H6 Da = some (.lst acc) := E6.hh _ _ hD5 dm5 (fun ps z => by cases z)
      have gD6 : G6 Da = none := (E6.new Da (pr_lst hD5)).trans gD5
      have dm6 : Da ∉ m6 := fun z => by
        rcases E6.mn Da z with q | q
        · exact dm5 q
        · exact q (pr_lst hD5)
      have rep6 := rep5.ext E6
      subst hr
      refine ⟨acc, hD6, ?_, G6, m6, st6, acc ++ [v], out ++ [y], r, ?_, ?_, upd_same, gD6, dm6, rep6.append (.cons rv .nil), hcf', by rw [List.append_assoc]; exact hall⟩
      · rw [rep6.length]
        have : (out ++ y :: r).length ≤ sizeLine := by rw [hall]; exact hlen
        rw [List.length_append, List.length_cons] at this
        omega
      · exact w0_list R6.w hD6 gD6 dm6
      · refine ⟨(E15.trans E6).gg, fun b o h nm nt => ?_, fun b h => ?_, (E15.trans E6).new, (E15.trans E6).mm, (E15.trans E6).mn⟩
        · rw [upd_ne (ne_of_none h hDa)]
          exact (E15.trans E6).hh b o h nm nt
        · obtain ⟨o, h1, h2⟩ := (E15.trans E6).th b h
          exact ⟨o, by rw [upd_ne (fun z => npr hDa (by rw [← z]; exact h))]; exact h1, h2⟩
    · subst hb
      dsimp only
      rw [if_neg Bool.false_ne_true]
      exact ⟨G5, m5, st3, acc, out, rest, R5.w, E15, hD5, gD5, dm5, rep5, hcf', hall⟩
end
end DI


/-! DI10: defs and calls, own lists, lists of the store, raise -/
namespace DI
open PySem PySem.Spec PyProof.Rows L2

/-! #### defs -/
abbrev DFn := List D → Store → Res D
def spD (T : List (Addr × Str)) (K : PySem.W.Frag) (r : DFn) : Sp := fun vs H Q E => ∃ G m st ds, W0 T K st G m H ∧ RepAll K G m vs ds ∧ match r ds st with
  | .ok d st' => ∀ G' m' H' v, Ext G m H G' m' H' → W0 T K st' G' m' H' → Rep K G' m' v d → Q v H'
  | .ex c fs st' => ∀ G' m' H' cls dd, Ext G m H G' m' H' → W0 T K st' G' m' H' → ExAt K G' m' H' c fs cls dd → E cls dd H'
  | .stuck => False
def env0 (N n : Nat) (ds : List D) : DEnv := ds.map (fun d => some (.sh d)) ++ List.replicate (N - n) none
def runD (N n : Nat) (body : DS) : DFn := fun ds st => if ds.length = n then (body (env0 N n ds) st).bind fun fl st => match fl with
  | .nx _ => .ok .non st
  | .rt d => .ok d st
  | _ => .stuck else .stuck
theorem runD_len {N n : Nat} {body : DS} {ds : List D} {st : Store} (h : runD N n body ds st ≠ .stuck) : ds.length = n := by
  unfold runD at h
  split at h
  · assumption
  · exact absurd rfl h
section
variable {P : Program} {w : World} {K : PySem.W.Frag} {mg : Str → Option Value} {base : Heap} {T : List (Addr × Str)}
theorem rel_start {N ps : List Str} {G H : Hp} {m : List Addr} {st : Store} {vs : List V} {ds : List D} (hN : ps.length ≤ N.length) (hl : ds.length = ps.length) (w : W0 T K st G m H) (r : RepAll K G m vs ds) :
    Rel ⟨G, m, H, {}⟩ T K (env0 N.length ps.length ds) st G m (L2.start N vs) H := by
  have hv := r.length
  have get : ∀ (i : Nat) (s : Slot), (env0 N.length ps.length ds)[i]? = some (some s) → ∃ d, ds[i]? = some d ∧ s = .sh d := fun i s h => by
    unfold env0 at h
    by_cases hi : i < ds.length
    · rw [List.getElem?_append_left (by simpa using hi), List.getElem?_map, List.getElem?_eq_getElem hi] at h
      cases h
      exact ⟨_, List.getElem?_eq_getElem hi, rfl⟩
    · rw [List.getElem?_append_right (by simpa using hi), List.getElem?_replicate] at h
      split at h <;> cases h
  refine ⟨w, Ext.refl w.gh, fun i s h => ?_, fun i j d e a hi => ?_, fun i d a hi => ?_, ?_⟩
  · obtain ⟨d, hd, e⟩ := get i s h
    subst e
    obtain ⟨v, hv', rv⟩ := r.get hd
    refine ⟨some v, ?_, v, rfl, rv⟩
    have hi : i < vs.length := (List.getElem?_eq_some_iff.mp hv').1
    show (vs.map some ++ _)[i]? = _
    rw [List.getElem?_append_left (by simpa using hi), List.getElem?_map, hv']
    rfl
  · obtain ⟨_, _, z⟩ := get i _ hi
    cases z
  · obtain ⟨_, _, z⟩ := get i _ hi
    cases z
  · unfold env0
    show _ = (vs.map some ++ List.replicate (N.length - vs.length) none).length
    simp only [List.length_append, List.length_map, List.length_replicate]
    omega
theorem fn_di {CX : CXT} {x qual : Str} {params : Arguments} {body : List Stmt} {scope : Scope} {f : Addr} {fd : FuncData} {N ps : List Str} {k : Nat} {d : DS} (F : FunD K x qual params body scope [] [] f fd) (S : FnScope N ps scope)
    (hb : ∀ (cdv : Value) (A : Around) (outer : List Env) (s : Shared) (H : Hp) (E : XK) (B : Bs), Room k (A.deeper (envOfC qual scope s.heap.objs.size f cdv)) → PSs (cxOf CX P w K mg base N qual scope f cdv A outer s H E) body (tS ⟨B, T, K, E⟩ d)) :
    FnOk P w K mg base CX (k + 1) f fd ps (spD T K (runD N.length ps.length d)) := by
  have hlen : ∀ vs H Q E, spD T K (runD N.length ps.length d) vs H Q E → vs.length = ps.length := fun vs H Q E ⟨G, m, st, ds, w0, r, h⟩ => by
    rw [r.length]
    refine runD_len (N := N.length) (body := d) (st := st) fun z => ?_
    rw [z] at h
    exact h
  refine F.ok S hlen fun cdv A outer s H vs Q E hr h => ?_
  have hl := hlen vs H Q E h
  obtain ⟨G, m, st, ds, w0, r, h⟩ := h
  have hN : ps.length ≤ N.length := by have := congrArg List.length S.pre; rw [List.length_take] at this; omega
  refine ⟨_, hb cdv A outer s H E ⟨G, m, H, {}⟩ hr, G, m, _, st, rel_start hN (by rw [← r.length]; exact hl) w0 r, ?_⟩
  unfold runD at h
  rw [if_pos (by rw [← r.length]; exact hl)] at h
  cases hr : d (env0 N.length ps.length ds) st with
  | stuck => rw [hr] at h; exact h
  | ex c fs st' => rw [hr] at h; exact fun G' m' H' cls dd e => h G' m' H' cls dd e.2 e.1
  | ok fl st' =>
    rw [hr] at h
    cases fl with
    | nx e => exact fun G' m' σ' H' _ R => h G' m' H' .non R.base R.w .non
    | rt d => exact fun G' m' H' v e rv => h G' m' H' v e.2 e.1 rv
    | bk e => exact h.elim
    | ct e => exact h.elim
end

/-! #### calls of defs -/
def dCall (r : DFn) (fl : DFL) : DF := fun env st => (fl env st).bind fun ds st => r ds st
section
variable {C : Ct} {X : Cx} {env : DEnv} {st : Store} {G H : Hp} {m : List Addr} {σ : L2.St} {pos : Pos} {e : Expr} {es : List Expr} {f : DF} {fl : DFL}
theorem e_call {CX : CXT} {k : Nat} {fa : Addr} {fd : FuncData} {ps : List Str} {r : DFn} {x : Str} {p : Pos} (hK : C.K = X.K) (F : FnOk X.prog X.w X.K X.mg X.base CX k fa fd ps (spD C.T C.K r)) (hr : Room k X.A) (hg : Gl X x) (hm : X.mg x = some (.ref fa)) (hk : PySem.W.keepIn X.K (.ref fa) = true)
    (hb : L2.Binds X.K fd ps []) (hx : Passes CX X C.W) (ha : PA X (e :: es) (tL C fl)) (hdb : (x == ("__debug__" : Str)) = false) (hs : noStar e = true) (hpl : (backTo pos (starEach es X.env)).any (·.1) = false) :
    PE X (.Call (.Name x p) (e :: es) [] pos) (tD C (dCall r fl)) := (pe_call F hr hg hm hk hb .nil hx ha hdb (starEach_ns hs es _) hpl).imp fun σ H Q ⟨G, m, env, st, R, h⟩ =>
  ⟨G, m, env, st, R, (Aft.bind h).imp fun ds st1 G1 m1 H1 E1 R1 h1 vs rv => by
    refine ⟨G1, m1, st1, ds, R1.w, by rw [List.append_nil]; exact rv, ?_⟩
    cases hr : r ds st1 with
    | stuck => rw [hr] at h1; exact h1
    | ex c fs st' => rw [hr] at h1; exact fun G' m' H' cls dd e w x => h1 G' m' H' cls dd e (R1.ext e w) x
    | ok d st' => rw [hr] at h1; exact fun G' m' H' v e w rv => h1 G' m' H' e (R1.ext e w) v rv⟩
theorem e_call0 {CX : CXT} {k : Nat} {fa : Addr} {fd : FuncData} {ps : List Str} {r : DFn} {x : Str} {p : Pos} (F : FnOk X.prog X.w X.K X.mg X.base CX k fa fd ps (spD C.T C.K r)) (hr : Room k X.A) (hg : Gl X x) (hm : X.mg x = some (.ref fa)) (hk : PySem.W.keepIn X.K (.ref fa) = true)
    (hb : L2.Binds X.K fd ps []) (hx : Passes CX X C.W) (hdb : (x == ("__debug__" : Str)) = false) :
    PE X (.Call (.Name x p) [] [] pos) (tD C (dCall r dNil)) := (pe_call0 F hr hg hm hk hb .nil hx hdb).imp fun σ H Q ⟨G, m, env, st, R, h⟩ => by
  refine ⟨G, m, st, [], R.w, .nil, ?_⟩
  change Aft C env σ G m H (r [] st) _ at h
  cases hr : r [] st with
  | stuck => rw [hr] at h; exact h
  | ex c fs st' => rw [hr] at h; exact fun G' m' H' cls dd e w x => h G' m' H' cls dd e (R.ext e w) x
  | ok d st' => rw [hr] at h; exact fun G' m' H' v e w rv => h G' m' H' e (R.ext e w) v rv

/-! #### own lists -/
def sApp (i : Nat) (f : DF) : DS := fun env st => match env[i]? with
  | some (some (.ow (.lst ds))) => (f env st).bind fun d st => if ds.length < sizeLine then .ok (.nx (env.set i (some (.ow (.lst (ds ++ [d])))))) st else .stuck
  | _ => .stuck
def sExt (i : Nat) (f : DF) : DS := fun env st => match env[i]? with
  | some (some (.ow (.lst ds))) => (f env st).bind fun d st => match d with
    | .lst es => if ds.length + es.length ≤ sizeLine then .ok (.nx (env.set i (some (.ow (.lst (ds ++ es)))))) st else .stuck
    | _ => .stuck
  | _ => .stuck
theorem ty_append : typeOf (.builtin "list.append") = pure (.type "method_descriptor") := by show builtinType _ = _; rw [builtinType_eq_fast]; kernel_rfl
theorem ty_extend : typeOf (.builtin "list.extend") = pure (.type "method_descriptor") := by show builtinType _ = _; rw [builtinType_eq_fast]; kernel_rfl
/-- behind an evaluation the own list is as it was -/
theorem Rel.own_at {B : Bs} {T : List (Addr × Str)} {K : PySem.W.Frag} {i : Nat} {a : Addr} {ds : List D} (R : Rel B T K env st G m σ H) (he : env[i]? = some (some (.ow (.lst ds)))) (h1 : (σ : List (Option V))[i]? = some (some (.ref a))) : ∃ vs, H a = some (.lst vs) ∧ RepAll K G m vs ds := by
  obtain ⟨v, h2, b, e2, g, n, vs, hv, r⟩ := R.slot i _ he
  rw [h1] at h2
  cases h2
  cases e2
  exact ⟨vs, hv, r⟩
theorem s_app {i : Nat} {x : Str} {p apos pos2 : Pos} (hK : C.K = X.K) (hN : X.N[i]? = some x) (hv : Vis X.env.scope x) (hd : (x == ("__debug__" : Str)) = false) (hcd : (x == ("__classdict__" : Str)) = false) (he : PE X e (tD C f)) (hs : noStar e = true) (hl : (apos.endLine == pos.line) = true) :
    PS X (.Expr (.Call (.Attribute (.Name x p) "append" apos) [e] [] pos) pos2) (tS C (sApp i f)) :=
  (ps_expr (pe_bm F.plainAttrs_list F.slot_list_append ty_append mt_append (pe_var hN hv hd hcd) (pa_cons he pa_nil (starEach_ns hs [] _)) rfl (by rw [starEach_ns hs]; rfl) hl (starEach_ns hs [] _) rfl) rfl).imp fun D σ H ⟨G, m, env, st, R, h⟩ => by
  unfold sApp at h
  split at h
  · rename_i ds hi
    obtain ⟨v, h1, a, e2, o⟩ := R.slot i _ hi
    subst e2
    refine ⟨.ref a, h1, by rw [← hK]; exact recOk_ty R.w.gh (.inr ⟨a, rfl, o⟩) rfl, G, m, env, st, R, (SAft.aft h).imp fun d st1 G1 m1 H1 E1 R1 h2 y ry => ?_⟩
    obtain ⟨vs, hva, r⟩ := R1.own_at hi h1
    split at h2
    · rename_i hlen
      exact ⟨a, vs, y, rfl, rfl, hva, by rw [r.length]; exact hlen, h2 G1 m1 σ _ (.refl _ _) (R1.mut hi h1 hva (r.append (.cons ry .nil)))⟩
    · exact h2.elim
  · exact h.elim
theorem s_ext {i : Nat} {x : Str} {p apos pos2 : Pos} (hK : C.K = X.K) (hN : X.N[i]? = some x) (hv : Vis X.env.scope x) (hd : (x == ("__debug__" : Str)) = false) (hcd : (x == ("__classdict__" : Str)) = false) (he : PE X e (tD C f)) (hs : noStar e = true) (hl : (apos.endLine == pos.line) = true) :
    PS X (.Expr (.Call (.Attribute (.Name x p) "extend" apos) [e] [] pos) pos2) (tS C (sExt i f)) :=
  (ps_expr (pe_bm F.plainAttrs_list F.slot_list_extend ty_extend mt_extend (pe_var hN hv hd hcd) (pa_cons he pa_nil (starEach_ns hs [] _)) rfl (by rw [starEach_ns hs]; rfl) hl (starEach_ns hs [] _) rfl) rfl).imp fun D σ H ⟨G, m, env, st, R, h⟩ => by
  unfold sExt at h
  split at h
  · rename_i ds hi
    obtain ⟨v, h1, a, e2, o⟩ := R.slot i _ hi
    subst e2
    refine ⟨.ref a, h1, by rw [← hK]; exact recOk_ty R.w.gh (.inr ⟨a, rfl, o⟩) rfl, G, m, env, st, R, (SAft.aft h).imp fun d st1 G1 m1 H1 E1 R1 h2 y ry => ?_⟩
    obtain ⟨vs, hva, r⟩ := R1.own_at hi h1
    cases d with
    | lst es =>
      cases ry with
      | lst hb rb =>
        have h2 : SAft C D G1 m1 (if ds.length + es.length ≤ sizeLine then .ok (.nx (env.set i (some (.ow (.lst (ds ++ es)))))) st1 else .stuck) := h2
        split at h2
        · rename_i hlen
          exact ⟨a, _, vs, _, rfl, rfl, hva, R1.w.gh _ _ hb, by rw [r.length, rb.length]; exact hlen, h2 G1 m1 σ _ (.refl _ _) (R1.mut hi h1 hva (r.append rb))⟩
        · exact h2.elim
    | _ => exact h2.elim
  · exact h.elim

/-! #### o[i] = v, o a list of the store -/
def sPut (fo fi fv : DF) : DS := fun env st => (fv env st).bind fun v st => (fo env st).bind fun o st => (fi env st).bind fun i st => match o, i with
  | .obj k, .int j => match st[k]? with
    | some (.lst ds) => match ixN ds.length j with
      | some n => .ok (.nx env) (st.set k (.lst (ds.set n v)))
      | none => .stuck
    | _ => .stuck
  | _, _ => .stuck
theorem nodup_ix2 {α : Type} {l : List α} {i j : Nat} {a : α} (h : l.Nodup) (h1 : l[i]? = some a) (h2 : l[j]? = some a) : i = j := by
  induction l generalizing i j with
  | nil => simp at h1
  | cons x l ih =>
    rw [List.nodup_cons] at h
    cases i with
    | zero =>
      cases j with
      | zero => rfl
      | succ j =>
        simp at h1 h2
        subst h1
        exact absurd (List.mem_of_getElem? h2) h.1
    | succ i =>
      cases j with
      | zero =>
        simp at h1 h2
        subst h2
        exact absurd (List.mem_of_getElem? h1) h.1
      | succ j =>
        simp at h1 h2
        rw [ih h.2 h1 h2]
theorem Rel.putObj {B : Bs} {T : List (Addr × Str)} {K : PySem.W.Frag} {k : Nat} {a : Addr} {vs' : List V} {ds ds' : List D} (R : Rel B T K env st G m σ H) (hm : m[k]? = some a) (hs : st[k]? = some (.lst ds)) (r : RepAll K G m vs' ds') : Rel B T K env (st.set k (.lst ds')) G m σ (upd H a (.lst vs')) := by
  obtain ⟨g, vs, hv, _⟩ := R.w.store k _ a hs hm
  have ham : a ∈ m := List.mem_of_getElem? hm
  have hn : ∀ (b : Addr) (o : HO), H b = some o → (∀ us, o ≠ .lst us) → b ≠ a := fun b o h q z => by
    rw [z, hv] at h
    exact q _ (Option.some.inj h).symm
  have hkl : k < st.length := (List.getElem?_eq_some_iff.mp hs).1
  refine ⟨⟨fun b u h => ?_, R.w.nt, by rw [List.length_set]; exact R.w.len, R.w.nd, fun j o b h1 h2 => ?_, fun p hp => ?_⟩, ⟨R.base.gg, fun b o h nm nt => ?_, fun b h => ?_, R.base.new, R.base.mm, R.base.mn⟩, fun j s h => ?_, R.sep, R.own, R.len⟩
  · rw [upd_ne (ne_of_none h g)]
    exact R.w.gh b u h
  · by_cases e : j = k
    · subst e
      rw [List.getElem?_set_self hkl] at h1
      cases h1
      rw [hm] at h2
      cases h2
      exact ⟨g, vs', upd_same, r⟩
    · rw [List.getElem?_set_ne (Ne.symm e)] at h1
      have nb : b ≠ a := fun z => by
        subst z
        exact e (nodup_ix2 R.w.nd h2 hm)
      have x := R.w.store j o b h1 h2
      cases o with
      | lst es =>
        obtain ⟨g, us, h, r⟩ := x
        exact ⟨g, us, by rw [upd_ne nb]; exact h, r⟩
      | ins Cn fs =>
        obtain ⟨g, dx, fvs, h, g2, n2, h2, h3, r⟩ := x
        exact ⟨g, dx, fvs, by rw [upd_ne nb]; exact h, g2, n2, by rw [upd_ne (hn _ _ h2 (fun us z => by cases z))]; exact h2, h3, r⟩
  · obtain ⟨ps, h1, h2, h3⟩ := R.w.tabs p hp
    refine ⟨ps, by rw [upd_ne (hn _ _ h1 (fun us z => by cases z))]; exact h1, h2, fun pos cv hc => ?_⟩
    obtain ⟨c, e1, e2⟩ := h3 pos cv hc
    exact ⟨c, e1, by rw [upd_ne (hn _ _ e2 (fun us z => by unfold LamX.CodeO at z; cases z))]; exact e2⟩
  · by_cases e : b = a
    · subst e
      rcases R.base.mn b ham with q | q
      · exact absurd q nm
      · exact absurd ⟨o, h, nt⟩ q
    · rw [upd_ne e]
      exact R.base.hh b o h nm nt
  · by_cases e : b = a
    · subst e; exact pr_lst upd_same
    · obtain ⟨o, h1, h2⟩ := R.base.th b h
      exact ⟨o, by rw [upd_ne e]; exact h1, h2⟩
  · obtain ⟨v, h2, h3⟩ := R.slot j s h
    refine ⟨v, h2, ?_⟩
    cases s with
    | exc c fs =>
      obtain ⟨e1, hc, x⟩ := h3
      refine ⟨e1, hc, ?_⟩
      rcases x with x | ⟨dx, fvs, y1, y2, y3, y4, y5⟩
      · exact .inl x
      · exact .inr ⟨dx, fvs, y1, y2, by rw [upd_ne (hn _ _ y3 (fun us z => by cases z))]; exact y3, y4, y5⟩
    | sh d => exact h3
    | ow d =>
      obtain ⟨b, e2, o⟩ := h3
      refine ⟨b, e2, ?_⟩
      cases d with
      | lst es =>
        obtain ⟨g, n, us, hu, r⟩ := o
        exact ⟨g, n, us, by rw [upd_ne (fun z => n (by rw [z]; exact ham))]; exact hu, r⟩
      | _ => exact False.elim o
theorem s_put {o i v : Expr} {fo fi fv : DF} {p : Pos} (ho : PE X o (tD C fo)) (hi : PE X i (tD C fi)) (hv : PE X v (tD C fv)) (ha : ∀ v, assign (.Subscript o i p) X.env v = (do
      let ov ← holding [v] (eval o X.env)
      let iv ← holding [v, ov] (eval i X.env)
      standAt p
      holding [v, ov, iv] (setItem ov iv v)
      release [v, ov, iv] [])) (hs : swapsWithSole [.Subscript o i p] v pos.line X.env = pure false) (hw : swappedStores [.Subscript o i p] v X.env = pure none)
    (h1 : (assignEach [.Subscript o i p] X.env).map (·.2) = [assign (.Subscript o i p) X.env]) : PS X (.Assign [.Subscript o i p] v pos) (tS C (sPut fo fi fv)) :=
  (ps_asg hv (pg_sub ho hi set_list ha) hs hw h1).imp fun D σ H ⟨G, m, env, st, R, h⟩ =>
  ⟨G, m, env, st, R, (SAft.aft h).imp fun dv st1 G1 m1 H1 E1 R1 h1 x rx => ⟨G1, m1, env, st1, R1, (SAft.aft h1).imp fun dd st2 G2 m2 H2 E2 R2 h2 y ry => ⟨G2, m2, env, st2, R2, (SAft.aft h2).imp fun di st3 G3 m3 H3 E3 R3 h3 z rz => by
    have rx3 := (rx.ext E2).ext E3
    have ry3 := ry.ext E3
    cases dd with
    | obj k =>
      cases di with
      | int j =>
        have h3 : SAft C D G3 m3 (match st3[k]? with
          | some (.lst ds) => match ixN ds.length j with
            | some n => .ok (.nx env) (st3.set k (.lst (ds.set n dv)))
            | none => .stuck
          | _ => .stuck) := h3
        split at h3
        · rename_i ds hds
          split at h3
          · rename_i n hn
            cases ry3 with
            | obj hm =>
              cases rz
              obtain ⟨vs, hvs, r⟩ := R3.w.obj hm hds
              exact ⟨_, vs, j, n, rfl, rfl, hvs, by rw [r.length]; exact hn, h3 G3 m3 σ _ (.refl _ _) (R3.putObj hm hds (r.set rx3 n))⟩
          · exact h3.elim
        · exact h3.elim
      | _ => exact h3.elim
    | _ => exact h3.elim⟩⟩⟩
end
end DI


/-! DI11: a, b = x, y; raise; what else is walked -/
namespace DI
open PySem PySem.Spec PyProof.Rows L2
/-! #### a, b = x, y -/
def MAt (K : PySem.W.Frag) (b : Bool) (G : Hp) (m : List Addr) (H0 H : Hp) (v : V) (d : D) : Prop := match b with
  | true => ∃ a, v = .ref a ∧ ¬ Pr H0 a ∧ OwnAt K G m H a d
  | false => Rep K G m v d
def mkSl (b : Bool) (d : D) : Slot := match b with
  | true => .ow d
  | false => .sh d
def tM (C : Ct) (b : Bool) (f : DF) : TE := fun σ H Q => ∃ G m env st, Rel C.B C.T C.K env st G m σ H ∧ Aft C env σ G m H (f env st) fun d _ G' m' H' => ∀ v, MAt C.K b G' m' H H' v d → Q v H'
def sPar (i j : Nat) (b1 : Bool) (f1 : DF) (b2 : Bool) (f2 : DF) : DS := fun env st => (f1 env st).bind fun d1 st => (f2 env st).bind fun d2 st => .ok (.nx ((env.set i (some (mkSl b1 d1))).set j (some (mkSl b2 d2)))) st
section
variable {C : Ct} {X : Cx} {env : DEnv} {st : Store} {G H : Hp} {m : List Addr} {σ : L2.St} {pos : Pos} {e : Expr} {es : List Expr} {f : DF} {fl : DFL}
theorem m_sh (h : PE X e (tD C f)) : PE X e (tM C false f) := h
theorem m_ow (h : PE X e (tF C f)) : PE X e (tM C true f) := h.imp fun σ H Q ⟨G, m, env, st, R, h⟩ => ⟨G, m, env, st, R, h.imp fun d st' G' m' H' _ _ h1 a ha o => h1 _ ⟨a, rfl, ha, o⟩⟩
theorem MAt.slot {K : PySem.W.Frag} {b : Bool} {H0 : Hp} {v : V} {d : D} {x : Xe} (h : MAt K b G m H0 H v d) : SlotAt K G m H x (some v) (mkSl b d) := by
  cases b with
  | true => obtain ⟨a, e, _, o⟩ := h; exact ⟨a, by rw [e], o⟩
  | false => exact ⟨v, rfl, h⟩
theorem MAt.fresh {K : PySem.W.Frag} {b : Bool} {H0 : Hp} {v : V} {d d' : D} {a : Addr} (h : MAt K b G m H0 H v d) (e : mkSl b d = .ow d') (ev : v = .ref a) : ¬ Pr H0 a := by
  cases b with
  | true =>
    obtain ⟨a', e', n, o⟩ := h
    rw [ev] at e'
    cases e'
    exact n
  | false => cases e
theorem s_par {i j : Nat} {x y : Str} {a b : Expr} {b1 b2 : Bool} {f1 f2 : DF} {px py pt : Pos} {kt k2 pt2} (hc : X.calm = true) (hN : X.N.Nodup) (hi : X.N[i]? = some x) (hj : X.N[j]? = some y) (hij : i ≠ j)
    (hx : X.env.scope.names.lookup x = some .local) (hy : X.env.scope.names.lookup y = some .local) (ha : PE X a (tM C b1 f1)) (hb : PE X b (tM C b2 f2)) (sa : noStar a = true) (sb : noStar b = true)
    (hw : swappedStores [.Tuple [.Name x px, .Name y py] kt pt] (.Tuple [a, b] k2 pt2) X.env = pure (some [x, y]))
    (hs : swapsWithSole [.Tuple [.Name x px, .Name y py] kt pt] (.Tuple [a, b] k2 pt2) pos.line X.env = pure false) :
    PS X (.Assign [.Tuple [.Name x px, .Name y py] kt pt] (.Tuple [a, b] k2 pt2) pos) (tS C (sPar i j b1 f1 b2 f2)) :=
  (ps_par hc hN hi hj hij hx hy (pa_cons ha (pa_cons hb pa_nil (starEach_ns sb [] _)) (starEach_ns sa _ _)) hw hs).imp fun D σ H ⟨G, m, env, st, R, h⟩ =>
  ⟨G, m, env, st, R, (SAft.aft h).imp fun d1 st1 G1 m1 H1 E1 R1 h1 v1 r1 => ⟨G1, m1, env, st1, R1, (SAft.aft h1).imp fun d2 st2 G2 m2 H2 E2 R2 h2 v2 r2 => ⟨v1, v2, rfl, by
    have s1 : SlotAt C.K G2 m2 H2 C.B.x (some v1) (mkSl b1 d1) := r1.slot.ext E2
    -- a fresh address is none of the own slots'
    have apart : ∀ {G : Hp} {m : List Addr} {st : Store} {H : Hp} {a : Addr}, Rel C.B C.T C.K env st G m σ H → ¬ Pr H a → ¬ Pr C.B.H a ∧ (∀ (k : Nat) (e : DI.D), env[k]? = some (some (.ow e)) → (σ : List (Option V))[k]? ≠ some (some (.ref a))) := fun {G m st H a} R ha => ⟨fun z => ha (R.base.th a z), fun k e hk h1 => by
        obtain ⟨v, h2, h3⟩ := R.slot k _ hk
        rw [h1] at h2
        cases h2
        obtain ⟨b, e2, o2⟩ := h3
        cases e2
        exact ha o2.there⟩
    have P1 := R2.put i s1 fun d a e ev => ⟨(apart R (r1.fresh e ev)).1, fun k e' _ hk => (apart R (r1.fresh e ev)).2 k e' hk⟩
    have P2 := P1.put j r2.slot fun d a e ev => ⟨(apart R1 (r2.fresh e ev)).1, fun k e' nk hk h1 => by
      by_cases hki : k = i
      · subst hki
        have hl : k < env.length := by
          have := (List.getElem?_eq_some_iff.mp hk).1
          simpa using this
        rw [List.getElem?_set_self hl] at hk
        rw [List.getElem?_set_self (by rw [← R.len]; exact hl)] at h1
        cases h1
        -- the first is there when the second is new
        cases b1 with
        | false => cases hk
        | true =>
          obtain ⟨a', e', _, o⟩ := r1
          cases e'
          exact (r2.fresh e ev) o.there
      · rw [List.getElem?_set_ne (Ne.symm hki)] at hk h1
        exact (apart R1 (r2.fresh e ev)).2 k e' hk h1⟩
    exact h2 G2 m2 _ H2 (.refl _ _) P2⟩⟩⟩

end
end DI


/-! DI12: rules as the printer uses them -/
namespace DI
open PySem PySem.Spec PyProof.Rows L2

def visB (sc : Scope) (x : Str) : Bool := match sc.names.lookup x with
  | some .local => true
  | some .cell => true
  | some .free => true
  | _ => false
theorem vis_of {sc : Scope} {x : Str} (h : visB sc x = true) : Vis sc x := by
  unfold visB at h
  unfold Vis
  cases e : sc.names.lookup x with
  | none => rw [e] at h; cases h
  | some k => rw [e] at h; cases k <;> first | exact .inl rfl | exact .inr (.inl rfl) | exact .inr (.inr rfl) | cases h
def locB (sc : Scope) (x : Str) : Bool := match sc.names.lookup x with
  | some .local => true
  | some .cell => true
  | _ => false
theorem loc_of {sc : Scope} {x : Str} (h : locB sc x = true) : Loc sc x := by
  unfold locB at h
  unfold L2.Loc
  cases e : sc.names.lookup x with
  | none => rw [e] at h; cases h
  | some k => rw [e] at h; cases k <;> first | exact .inl rfl | exact .inr rfl | cases h
theorem huR {k : Nat} {A : Around} (r : Room k A) : A.units + 65 < cLine := by have := r.un; omega

structure OkF (P : Program) (w : World) (K : PySem.W.Frag) (mg : Str → Option Value) (base : Heap) (T : List (Addr × Str)) (n : Nat) (x : Str) (ps : List Str) (r : DFn) : Prop where
  ex : ∃ fd : FuncData, FnOk P w K mg base (L2.CX P w) n (He.ga K x) fd ps (spD T K r) ∧ L2.Binds K fd ps []
  kp : PySem.W.keepIn K (.ref (He.ga K x)) = true
  mg : mg x = some (.ref (He.ga K x))
section
variable {C : Ct} {X : Cx} {pos : Pos} {e : Expr} {es : List Expr} {f : DF} {fl : DFL}
theorem e_callO {k : Nat} {ps : List Str} {r : DFn} {x : Str} {p : Pos} (o : OkF X.prog X.w X.K X.mg X.base C.T k x ps r) (hK : C.K = X.K) (hr : Room k X.A) (hx : Passes (L2.CX X.prog X.w) X C.W) (ha : PA X (e :: es) (tL C fl)) (hg : Gl X x := by rfl)
    (hdb : (x == ("__debug__" : Str)) = false := by rfl) (hs : noStar e = true := by rfl) (hpl : (backTo pos (starEach es X.env)).any (·.1) = false := by rfl) : PE X (.Call (.Name x p) (e :: es) [] pos) (tD C (dCall r fl)) := by
  obtain ⟨fd, F, hb⟩ := o.ex
  rw [← hK] at F
  exact e_call hK (by rw [← hK]; exact F) hr hg o.mg o.kp hb hx ha hdb hs hpl
theorem e_callO0 {k : Nat} {ps : List Str} {r : DFn} {x : Str} {p : Pos} (o : OkF X.prog X.w X.K X.mg X.base C.T k x ps r) (hK : C.K = X.K) (hr : Room k X.A) (hx : Passes (L2.CX X.prog X.w) X C.W) (hg : Gl X x := by rfl)
    (hdb : (x == ("__debug__" : Str)) = false := by rfl) : PE X (.Call (.Name x p) [] [] pos) (tD C (dCall r dNil)) := by
  obtain ⟨fd, F, hb⟩ := o.ex
  rw [← hK] at F
  exact e_call0 (by rw [← hK]; exact F) hr hg o.mg o.kp hb hx hdb
theorem e_globI {x : Str} {i : Int} (h : ∃ t, X.mg x = some (.int i t)) (hg : Gl X x := by rfl) (hd : (x == ("__debug__" : Str)) = false := by rfl) : PE X (.Name x pos) (tD C (dK (.int i))) := by
  obtain ⟨t, h⟩ := h
  exact e_glob (v := .int i) hg h ⟨t, rfl⟩ (fun G m => .int i) hd
theorem e_globS {x z : Str} {s : List Nat} (h : ∃ t, X.mg x = some (.str z t)) (hz : z = mkS s) (hs : s.all (· < 0x110000) = true) (hg : Gl X x := by rfl) (hd : (x == ("__debug__" : Str)) = false := by rfl) : PE X (.Name x pos) (tD C (dK (.str s))) := by
  obtain ⟨t, h⟩ := h
  subst hz
  exact e_glob (v := .str (mkS s)) hg h ⟨t, rfl⟩ (fun G m => .str s hs) hd
theorem e_globR {x : Str} {a : Addr} {d : D} (h : X.mg x = some (.ref a)) (hr : ∀ G m, Rep C.K G m (.ref a) d) (hg : Gl X x := by rfl) (hd : (x == ("__debug__" : Str)) = false := by rfl) : PE X (.Name x pos) (tD C (dK d)) :=
  e_glob (v := .ref a) hg h rfl hr hd
theorem e_strK {z : Str} {s : List Nat} {j : Nat} (hz : z = mkS s) (hs : s.all (· < 0x110000) = true) : PE X (.Constant (.str z) j pos) (tD C (dK (.str s))) := by
  subst hz
  exact e_str hs
theorem repAll_strs {K : PySem.W.Frag} {G : Hp} {m : List Addr} : ∀ {ss : List (List Nat)}, (ss.all fun s => s.all (· < 0x110000)) = true → RepAll K G m (ss.map fun s => V.str (mkS s)) (ss.map D.str)
  | [], _ => .nil
  | s :: ss, h => by
    have h' : (s.all (· < 0x110000)) = true ∧ (ss.all fun s => s.all (· < 0x110000)) = true := by simpa only [List.all_cons, Bool.and_eq_true] using h
    exact .cons (.str s h'.1) (repAll_strs h'.2)

/-! #### raise X(..), X without own __init__ -/
theorem pmk_own0 {C' : Addr} {bmB : List Value} {B newId initId : String} {x : Str} {p : Pos} (F : ExcBaseFacts B newId initId bmB) (q : PySem.W.excIn X.K C' bmB newId = true) (gC : X.mg x = some (.ref C'))
    (kC : PySem.W.keepIn X.K (.ref C') = true) (r : Raises X (.ref C')) (hg : Gl X x) (hdb : (x == ("__debug__" : Str)) = false) : PMk X (.Call (.Name x p) [] [] pos) (fun _ H Q => Q (.ref C') none H) := by
  intro pins s σ H Q I h
  refine wpAny_Call_Name_kw (ld_glob I hg gC ?_ hdb)
  refine PySem.W.callWith_K0 I.kIn kC ?_
  obtain ⟨bm, N, nm, qn, bs, hdct, sn, sub, ab, col, dd, k0, k1, k2, k3, k5, mN, hC, hN, hni, T⟩ := exc_obj I.kIn q
  refine wpAny_call_exc_subT F T hC hN hni (fun h' e hm => ?_) (by show 0 ≤ sizeLine; exact Nat.zero_le _)
  exact mk_of I hm r h (I.hok.gone hm.new)
def sRaise0 (c : Str) : DS := fun _ st => .ex c [] st
theorem s_raise0 {x : Str} {p p2 : Pos} (hK : C.K = X.K) (tk : Takes X (fun cls d _ H => C.W cls d H)) (hm : X.mg x = some (.ref (He.ga X.K x))) (hx : (He.Fa.exc x).ok X.K = true) (hc : X.calm = true := by rfl) (hg : Gl X x := by rfl) (hdb : (x == ("__debug__" : Str)) = false := by rfl) :
    PS X (.Raise (some (.Call (.Name x p) [] [] p2)) none pos) (tS C (sRaise0 x)) := by
  obtain ⟨h1, h2, h3, h4⟩ := He.exc_ok hx
  exact (ps_raise hc tk (pmk_own0 F.excBase_ValueError h1 hm h2 (raises_own h3 h4) hg hdb)).imp fun D σ H ⟨G, m, env, st, R, h⟩ => h G m H _ none R.endW ⟨by rw [hK], .inl ⟨rfl, rfl⟩⟩
end
end DI
namespace DI
theorem hu1 {n : Nat} (h : n + 65 < PySem.cLine) : n + 1 < PySem.cLine := by omega
end DI


/-! DI13: range, enumerate; blocks of comprehensions checked -/
namespace DI
open PySem PySem.Spec PyProof.Rows L2

/-! #### blocks -/
def blkB (N : List Str) (sc scope : Scope) (own : List (Str × Nat)) : Bool :=
  decide (scope.kind = .function) && (scope.names.all (fun y => decide (scope.names.lookup y.1 = some y.2)) && (own.all (fun p => decide (N[p.2]? = some p.1)) &&
    (scope.names.all (fun y => decide (y.2 ≠ .free) || (decide (sc.names.lookup y.1 = some .cell) || decide (sc.names.lookup y.1 = some .free))) &&
      scope.names.all (fun y => (decide (y.2 ≠ .local) && decide (y.2 ≠ .cell)) || ((own.map (·.1)).contains y.1 || !N.contains y.1)))))
theorem blk_of {N : List Str} {sc scope : Scope} {own : List (Str × Nat)} (h : blkB N sc scope own = true) : BlkOk N sc scope own := by
  unfold blkB at h
  simp only [Bool.and_eq_true, List.all_eq_true, decide_eq_true_eq, Bool.or_eq_true, Bool.not_eq_true'] at h
  obtain ⟨h1, h2, h3, h4, h5⟩ := h
  refine ⟨h1, fun y hy => h2 y hy, fun p hp => h3 p hp, fun y hy e => ?_, fun y hy e => ?_⟩
  · rcases h4 y hy with z | z
    · exact absurd e z
    · exact z
  · rcases h5 y hy with z | z | z
    · rcases e with e | e
      · exact absurd e z.1
      · exact absurd e z.2
    · exact .inl (by simpa using z)
    · exact .inr (by simpa using z)
section
variable {C : Ct} {X : Cx} {pos : Pos} {e tg : Expr} {f : DF}
theorem pts_yes : PTs X [] (tT C dYes) := ⟨fun pins s σ H Q I ⟨G, m, env, st, R, h⟩ => pts_nil.run pins s σ H Q I (h.here R)⟩

/-! #### range(n) -/
def gRng (d : D) : Option (List D) := match d with
  | .int n => if -(2 ^ 62) ≤ n ∧ n < 2 ^ 62 then some ((List.range n.toNat).map fun i => .int (i : Nat)) else none
  | _ => none
def iRng (f : DF) : DFL := fun env st => (f env st).bind fun d st => Res.opt (gRng d) st
theorem itD_rng {K : PySem.W.Frag} {G0 : Hp} {m0 : List Addr} {n : Nat} : ItD K G0 m0 (Itr 0 n) ((List.range n).map fun i => .int (i : Nat)) where
  go := fun i H _ hi => show i < n by simpa using hi
  stop := fun i H _ hi => show n ≤ i by simpa using hi
  yld := fun i d G m H x H' s1 hm s2 hd ⟨e, hx⟩ => by
    subst e hx
    rw [List.getElem?_map] at hd
    obtain ⟨j, hj, rfl⟩ := Option.map_eq_some_iff.mp hd
    have hl := (List.getElem?_eq_some_iff.mp hj)
    obtain ⟨h1, h2⟩ := hl
    rw [List.getElem_range] at h2
    subst h2
    have e : ((0 : Int) + (i : Nat)) = (i : Nat) := by omega
    rw [e]
    exact ⟨G, PExt.refl s2, .int _⟩
theorem i_range1 {p : Pos} (hg : Gl X "range") (hm : X.mg "range" = none) (he : PE X e (tD C f)) (hs : noStar e = true) : PI X tg (.Call (.Name "range" p) [e] [] pos) (tI C (iRng f)) :=
  (pi_range1 hg hm (pa_cons he pa_nil (starEach_ns hs [] _)) (starEach_ns hs [] _)).imp fun σ H R ⟨G, m, env, st, Rl, h⟩ =>
  ⟨G, m, env, st, Rl, (Aft.bind h).imp fun d st' G' m' H' E' R' h1 v rv => by
    obtain ⟨ds, hd, h2⟩ := h1.opt
    have h3 := h2.here R'
    cases d with
    | int n =>
      have hd' : (if -(2 ^ 62) ≤ n ∧ n < 2 ^ 62 then some ((List.range n.toNat).map fun i => D.int (i : Nat)) else none) = some ds := hd
      split at hd'
      · rename_i hb
        cases hd'
        cases rv
        exact ⟨n, rfl, hb.1, hb.2, h3 _ itD_rng⟩
      · cases hd'
    | _ => cases hd⟩
end
end DI

namespace PySem
open Sem (wp)
open AutoSeq1 (wpAny_loadPart')
theorem meets_enumerate_newT (l : Addr) (items : Array Value) (n : Nat) (dct : Option Addr) (sl : Array (Option Value)) :
    Meets (Builtin.«enumerate.__new__» ⟨[.type "enumerate", .ref l], []⟩) (fun _ R s => s.heap.get? l = some { cls := .type "tuple", dict := dct, data := .seq items n, slots := sl } ∧
      R (.ok (.ret (.ref (s.heap.push { cls := .type "tuple_iterator", data := .fields #[.ref l, .int 0 0] }).objs.size)))
        { s with heap := (s.heap.push { cls := .type "tuple_iterator", data := .fields #[.ref l, .int 0 0] }).push { cls := .type "enumerate", data := .fields #[.none, .bool false, .ref s.heap.objs.size, rawInt 0, .none, .none] } }) :=
  .of_wp fun prog w A R s h => by
    obtain ⟨hp, g, d, tk, os⟩ := s; obtain ⟨hl, h⟩ := h
    have hsub := sub_enumerate
    have hL : Heap.IsTuple (Shared.heap ⟨hp, g, d, tk, os⟩) l items := ⟨_, hl, rfl, n, rfl⟩
    wp_walk using wpAny_loadPart' hl
    refine wpAny_stack_any fun st => wpAny_pure ?_
    split
    · rename_i c _ _ _ _ _
      cases (c == Value.type "enumerate")
      · wp_walk using wpAny_loadPart' hl, wpAny_pyIter_tuple hL
        exact ⟨_, rfl, h⟩
      · wp_walk using wpAny_loadPart' hl, wpAny_pyIter_tuple hL
        exact ⟨_, rfl, h⟩
    · wp_walk using wpAny_loadPart' hl, wpAny_pyIter_tuple hL
      exact ⟨_, rfl, h⟩
theorem call_enumerate_tuple {prog : Program} {w : World} {A : Around} {E : Value → Shared → Prop} {s : Shared} {l : Addr} {items : Array Value} {Q : Value → Shared → Prop} (hL : s.heap.IsTuple l items)
    (h : ∀ h', IsEnum h' (s.heap.objs.size + 1) s.heap.objs.size 0 .none → h'.IsTupleIter s.heap.objs.size l 0 → h'.objs.size = s.heap.objs.size + 2 →
      (∀ b o, s.heap.get? b = some o → h'.get? b = some o) → Q (.ref (s.heap.objs.size + 1)) { s with heap := h' }) :
    wpAny (model prog w) A (call (.type "enumerate") [.ref l]) Q E s := by
  obtain ⟨⟨c, dct, dt, sl⟩, hl, hc, n, hd⟩ := hL
  replace hc : c = .type "tuple" := hc
  replace hd : dt = .seq items n := hd
  subst hc hd
  refine callType_new F.called_enumerate (by decide) (F.typeCall_enumerate_1 _) (F.newCall_enumerate_1 _) (fun obj => F.args_object_init_2 obj _) F.entry_enumerate_new
    (meets_enumerate_newT l items n dct sl) ⟨hl, ?_⟩
  have hz : (s.heap.push { cls := .type "tuple_iterator", data := .fields #[.ref l, .int 0 0] }).objs.size = s.heap.objs.size + 1 := Heap.size_push ..
  show _ ∧ _
  rw [hz]
  have he : IsEnum ((s.heap.push { cls := .type "tuple_iterator", data := .fields #[.ref l, .int 0 0] }).push
      { cls := .type "enumerate", data := .fields #[.none, .bool false, .ref s.heap.objs.size, rawInt 0, .none, .none] }) (s.heap.objs.size + 1) s.heap.objs.size 0 .none := by
    have := Heap.get?_push_size (s.heap.push { cls := .type "tuple_iterator", data := .fields #[.ref l, .int 0 0] })
      (o := { cls := .type "enumerate", data := .fields #[.none, .bool false, .ref s.heap.objs.size, rawInt 0, .none, .none] }) rfl
    rw [hz] at this; exact this
  refine ⟨⟨_, he, rfl⟩, h _ he ⟨_, Heap.get?_push_of_some _ (Heap.get?_push_size _ rfl), rfl, rfl⟩ (by rw [Heap.size_push, hz]) fun b o x => Heap.get?_push_of_some _ (Heap.get?_push_of_some _ x)⟩
theorem enum_tuple_end {prog : Program} {w : World} {A : Around} {E : Value → Shared → Prop} {s : Shared} {e it l : Addr} {i : Nat} {items : Array Value} {old : Value} {c : Int} {Q : Option Value → Shared → Prop} (hh : A.handled = none)
    (he : IsEnum s.heap e it c old) (hit : s.heap.IsTupleIter it l i) (hl : s.heap.IsTuple l items) (hx : items[i]? = none)
    (hQ : ∀ h', Heap.ExtBut it s.heap h' → Q none { s with heap := h' }) : wpAny (model prog w) A (pyNext (.ref e)) Q E s := by
  have hT : s.TypeIs (.ref e) "enumerate" := ⟨_, he, rfl⟩
  unfold pyNext
  refine wpAny_bind (wpAny_attempt (wpAny_callSpecial?_slot (name := Str.ofString "__next__") hT F.slot_enumerate_next
    (wpAny_call_entry F.slot_enumerate_next hT F.entry_enumerate_next ?_ (F.args_enumerate_next_1 _))))
  show wpAny _ _ (field (.ref e) 2 >>= _) _ _ _
  refine wpAny_bind (wpAny_field he rfl (x := .ref it) rfl ?_)
  refine wpAny_bind (wpAny_nextOf_tuple_end (A := A.in1) hh hit hl hx fun h' x he' hx' => ?_)
  obtain ⟨o, ho, hc⟩ := hx'
  refine wpAny_bind (wpAny_isInstance (T := "StopIteration") (b := true) ⟨o, ho, hc⟩ isSubtype_stop ?_)
  exact wpAny_pure (hQ _ he')
end PySem

namespace DI
open PySem PySem.Spec PyProof.Rows L2
/-- enumerate(a tuple) -/
def IteT (K : PySem.W.Frag) (a : Addr) : It :=
  ⟨fun i H => ∃ (xs : List V) (x : V), SqT K H a xs ∧ xs[i]? = some x, fun i H v H' => ∃ T x, v = .ref T ∧ H T = none ∧ H' = upd H T (.tup [.int (i : Nat), x]) ∧ ∀ xs, SqT K H a xs → xs[i]? = some x, fun i H => ∃ xs : List V, SqT K H a xs ∧ xs.length ≤ i⟩
theorem turn_enumT {P : Program} {w : World} {K : PySem.W.Frag} {elts : List Expr} {kk : Nat} {tpos : Pos} (a e it : Addr) (hai : a ≠ it) (hae : a ≠ e) :
    Turn P w K (.Tuple elts kk tpos) (IteT K a) [e, it] e (fun i h => (∃ old, IsEnum h e it ((i : Nat) : Int) old) ∧ h.IsTupleIter it a i ∧ e ≠ it) where
  mem := by simp
  obj := fun i h st b hb => by
    obtain ⟨⟨old, he⟩, ⟨o, ho, hc, hd⟩, _⟩ := st
    have e' : b = e ∨ b = it := by simpa using hb
    rcases e' with z | z
    · rw [z]; exact ⟨_, he, fun v q => nomatch q⟩
    · rw [z]; exact ⟨o, ho, fun v q => by rw [hd] at q; cases q⟩
  keep := fun i h h' st k => let ⟨⟨old, he⟩, hi, hne⟩ := st; ⟨⟨old, k e (by simp) _ he⟩, hi.at fun o q => k it (by simp) o q, hne⟩
  item := by
    intro X hP hw hK hc i pins s σ H E I hf st hg
    subst hP hw hK
    obtain ⟨⟨old, he⟩, hit, hne⟩ := st
    obtain ⟨xs, x, hq, hx⟩ := hg
    obtain ⟨its, rv, p, hz⟩ := I.tuple hq
    obtain ⟨u, hu, ru⟩ := rv.get hx
    have hel : e < s.heap.objs.size := Heap.lt_size he
    have hil : it < s.heap.objs.size := by obtain ⟨_, q, _⟩ := hit; exact Heap.lt_size q
    have pt : s.heap.IsTuple a its.toArray := p
    have hlt : i < its.toArray.size := by
      have := (List.getElem?_eq_some_iff.mp hu).1
      simpa using this
    refine wpAny_pyNext_enum_itemD (A := X.A) (Draws.tuple (prog := X.prog) (w := X.w) (A := X.A.in1) (I.ok.hd hc) it a hai its.toArray) he ⟨hit, pt⟩ hlt hne (by simp [hne, Ne.symm hae]) fun x' h' tk hx' ho st' hT hsz hk => ?_
    obtain rfl : x' = u := by
      have hx2 : its.toArray[i]? = some x' := hx'
      rw [show its.toArray[i]? = some u by simpa using hu] at hx2
      exact (Option.some.inj hx2).symm
    refine ⟨_, rfl, wpAny_letOwnedTupleGo_enum (s := { s with heap := h', toks := tk + 1 }) ho fun h'' he' sb => ?_⟩
    have hT2 : h''.get? s.heap.objs.size = some { cls := .type "tuple", data := .seq #[.int i tk, x'] } := (sb.2 _ (Nat.ne_of_gt hel)).trans hT
    have new : ObjOk X.prog X.w (upd H s.heap.objs.size (.tup [.int (i : Nat), x])) h'' s.heap.objs.size (.tup [.int (i : Nat), x]) :=
      ⟨by show 2 ≤ sizeLine; decide, [.int i tk, x'], .cons ⟨_, rfl⟩ (.cons ru .nil), ⟨_, hT2, rfl, _, rfl⟩⟩
    have I1 : Inv X pins σ (upd H s.heap.objs.size (.tup [.int (i : Nat), x])) { s with heap := h'', toks := tk + 1 } :=
      I.turnedNew (ch := [e, it]) (fun b ob hb q => (sb.2 b (fun z => hb (by simp [z]))).trans (hk b ob (fun z => hb (by simp [z])) (fun z => hb (by simp [z])) q)) hf (Nat.le_refl _) new
    refine ⟨.ref s.heap.objs.size, _, I1, rfl, ⟨_, x, rfl, I.hok.fresh (Nat.le_refl _), rfl, fun ys hy => by rw [I.tuple_inj hy hq]; exact hx⟩, ⟨⟨x', ?_⟩, st'.1.at fun o q => (sb.2 it (Ne.symm hne)).trans q, hne⟩, fun b hb => ?_⟩
    · have e1 : ((i + 1 : Nat) : Int) = (i : Int) + 1 := by omega
      rw [e1]; exact he'
    · have hb' : b < s.heap.objs.size := by
        have e' : b = e ∨ b = it := by simpa using hb
        rcases e' with z | z
        · rw [z]; exact hel
        · rw [z]; exact hil
      rw [upd_ne (Nat.ne_of_lt hb')]
      exact (hf b hb).1
  done := by
    intro X hP hw hK hc i pins s σ H E I hf st hg
    subst hP hw hK
    obtain ⟨⟨old, he⟩, hit, hne⟩ := st
    obtain ⟨xs, hq, hx⟩ := hg
    obtain ⟨its, rv, p, hz⟩ := I.tuple hq
    obtain ⟨f0, f1, f2, f3, f4, f5⟩ := hf it (by simp)
    have hl := rv.length
    have pt : s.heap.IsTuple a its.toArray := p
    exact enum_tuple_end (A := X.A) (I.ok.hd hc) he hit pt (by simp; omega) fun h' eb => ⟨rfl, I.turned (t' := s.toks) (fun b o hb q => eb b o hb q) f0 f1 f3 f4 f5⟩
  self := fun A i s Q E st h => let ⟨⟨_, he⟩, _⟩ := st; wpAny_pyIter_enum he h
theorem pi_enumA {X : Cx} {e : Expr} {ta : TA} {p pos tpos : Pos} {elts : List Expr} {kk : Nat} (hg : Gl X "enumerate") (hm : X.mg "enumerate" = none) (ha : PA X [e] ta) (hs : starEach [e] X.env = [(false, eval e X.env)]) :
    PI X (.Tuple elts kk tpos) (.Call (.Name "enumerate" p) [e] [] pos) (fun σ H R => ta σ H fun vs H1 => (∃ a xs, vs = [.ref a] ∧ SqL X.K H1 a xs ∧ R (Ite X.K a) H1) ∨ ∃ a xs, vs = [.ref a] ∧ SqT X.K H1 a xs ∧ R (IteT X.K a) H1) := by
  refine ⟨fun pins s σ H R I h => ?_⟩
  refine Call_ (ld_blt I hg hm boot_enumerate (PyProof.Rows.callWith_type1 (thn (ha.run pos pins s σ H _ I h) fun us s1 ⟨vs, H1, I1, r1, q1⟩ => ?_) hs rfl))
  have two : ∀ {b : Addr}, b ∈ [s1.heap.objs.size + 1, s1.heap.objs.size] → s1.heap.objs.size ≤ b := fun {b} hb => by
    have e' : b = s1.heap.objs.size + 1 ∨ b = s1.heap.objs.size := by simpa using hb
    rcases e' with z | z
    · rw [z]; exact Nat.le_add_right _ _
    · rw [z]; exact Nat.le_refl _
  rcases q1 with ⟨a, xs, ex, hq, q⟩ | ⟨a, xs, ex, hq, q⟩
  · subst ex
    cases r1 with
    | cons r rr =>
      cases rr
      cases r
      obtain ⟨its, rv, p', hz⟩ := I1.list hq
      refine call_enumerate_list p'.isList fun h' he hit hsz hk => wpAny_pyIter_enum he ?_
      have I2 : Inv X pins σ H1 { s1 with heap := h' } := I1.kept (t' := s1.toks) hk
      exact ⟨s1.heap.objs.size + 1, [s1.heap.objs.size + 1, s1.heap.objs.size], _, _, H1, rfl, I2, turn_enum a (s1.heap.objs.size + 1) s1.heap.objs.size, ⟨⟨.none, he⟩, hit, Nat.succ_ne_self _⟩, fun b hb => I1.fpOk (two hb) (I1.hok.fresh (two hb)), q⟩
  · subst ex
    cases r1 with
    | cons r rr =>
      cases rr
      cases r
      obtain ⟨its, rv, p', hz⟩ := I1.tuple hq
      have pt : s1.heap.IsTuple a its.toArray := p'
      have la : a < s1.heap.objs.size := by obtain ⟨_, e', _⟩ := pt; exact Heap.lt_size e'
      refine call_enumerate_tuple pt fun h' he hit hsz hk => wpAny_pyIter_enum he ?_
      have I2 : Inv X pins σ H1 { s1 with heap := h' } := I1.kept (t' := s1.toks) hk
      exact ⟨s1.heap.objs.size + 1, [s1.heap.objs.size + 1, s1.heap.objs.size], _, _, H1, rfl, I2, turn_enumT a (s1.heap.objs.size + 1) s1.heap.objs.size (Nat.ne_of_lt la) (Nat.ne_of_lt (Nat.lt_succ_of_lt la)), ⟨⟨.none, he⟩, hit, Nat.succ_ne_self _⟩, fun b hb => I1.fpOk (two hb) (I1.hok.fresh (two hb)), q⟩
def numF : Nat → List D → List D
  | _, [] => []
  | i, d :: ds => .tup [.int (i : Nat), d] :: numF (i + 1) ds
theorem numF_get : ∀ (i j : Nat) (ds : List D), (numF i ds)[j]? = ds[j]?.map fun d => D.tup [.int ((i + j : Nat) : Int), d]
  | _, j, [] => by simp [numF]
  | i, 0, d :: ds => by simp [numF]
  | i, j + 1, d :: ds => by
    simp only [numF, List.getElem?_cons_succ]
    rw [numF_get (i + 1) j ds]
    have : i + 1 + j = i + (j + 1) := by omega
    rw [this]
theorem numF_len : ∀ (i : Nat) (ds : List D), (numF i ds).length = ds.length
  | _, [] => rfl
  | i, d :: ds => by simp [numF, numF_len (i + 1) ds]
def D.walk2 : D → Option (List D)
  | .lst ds => some ds
  | .tup ds => some ds
  | _ => none
def iEnu (f : DF) : DFL := fun env st => (f env st).bind fun d st => Res.opt (d.walk2.map (numF 0)) st
theorem itD_enum {K : PySem.W.Frag} {G0 : Hp} {m0 : List Addr} {vs : List V} {ds : List D} {J : It} (r : RepAll K G0 m0 vs ds) (Sq : Hp → List V → Prop) (h : ∀ H, Same G0 H → Sq H vs) (go : ∀ i H, J.go i H ↔ ∃ xs x, Sq H xs ∧ xs[i]? = some x)
    (yld : ∀ i H x H', J.yld i H x H' → ∃ T y, x = .ref T ∧ H T = none ∧ H' = upd H T (.tup [.int (i : Nat), y]) ∧ ∀ xs, Sq H xs → xs[i]? = some y) (stop : ∀ i H, J.stop i H ↔ ∃ xs, Sq H xs ∧ xs.length ≤ i) : ItD K G0 m0 J (numF 0 ds) where
  go := fun i H s hi => by
    rw [numF_len] at hi
    obtain ⟨v, hv, _⟩ := r.get (List.getElem?_eq_getElem hi)
    exact (go i H).mpr ⟨vs, v, h H s, hv⟩
  stop := fun i H s hi => (stop i H).mpr ⟨vs, h H s, by rw [r.length]; rw [numF_len] at hi; exact hi⟩
  yld := fun i d G m H x H' s1 hm s2 hd hy => by
    obtain ⟨T, y, e1, hT, e2, hy2⟩ := yld i H x H' hy
    subst e1 e2
    rw [numF_get] at hd
    obtain ⟨dd, hdd, rfl⟩ := Option.map_eq_some_iff.mp hd
    obtain ⟨v, hv, rv⟩ := r.get hdd
    have e3 := hy2 vs (h H (s1.trans s2))
    rw [hv] at e3
    have e4 : y = v := (Option.some.inj e3).symm
    subst e4
    have gT : G T = none := s2.free hT
    refine ⟨upd G T (.tup [.int (i : Nat), y]), PExt.fresh s2 hT (fun ps z => by cases z), ?_⟩
    have ei : ((0 + i : Nat) : Int) = (i : Nat) := by omega
    rw [ei]
    exact .tup (.inl (.inl upd_same)) (.cons (.int _) (.cons ((rv.mono s1 hm).mono (same_upd' gT) ⟨[], by simp⟩) .nil))
section
variable {C : Ct} {X : Cx} {pos : Pos} {e tg : Expr} {f : DF}
theorem i_enum {p tpos : Pos} {elts : List Expr} {kk : Nat} (hK : C.K = X.K) (hg : Gl X "enumerate") (hm : X.mg "enumerate" = none) (he : PE X e (tD C f)) (hs : noStar e = true) : PI X (.Tuple elts kk tpos) (.Call (.Name "enumerate" p) [e] [] pos) (tI C (iEnu f)) :=
  (pi_enumA hg hm (pa_cons he pa_nil (starEach_ns hs [] _)) (starEach_ns hs [] _)).imp fun σ H R ⟨G, m, env, st, Rl, h⟩ =>
  ⟨G, m, env, st, Rl, (Aft.bind h).imp fun d st' G' m' H' E' R' h1 v rv => by
    obtain ⟨ds, hd, h2⟩ := h1.opt
    have h3 := h2.here R'
    obtain ⟨es, hes, rfl⟩ := Option.map_eq_some_iff.mp hd
    cases rv with
    | lst h r =>
      cases hes
      have hq : SqL X.K G' _ _ := .inl (.inl h)
      exact .inl ⟨_, _, rfl, SqLm R'.w.gh hq, h3 _ (itD_enum r (fun H xs => SqL X.K H _ xs) (fun H s => SqLm s hq) (fun i H => Iff.rfl) (fun i H x H' h => h) (fun i H => Iff.rfl))⟩
    | tup h r =>
      cases hes
      have hq := h
      rw [hK] at hq
      exact .inr ⟨_, _, rfl, SqTm R'.w.gh hq, h3 _ (itD_enum r (fun H xs => SqT X.K H _ xs) (fun H s => SqTm s hq) (fun i H => Iff.rfl) (fun i H x H' h => h) (fun i H => Iff.rfl))⟩
    | _ => cases hes⟩
end
end DI


/-! DI14: an own exception class whose __init__ says super().__init__(..) and stores its fields -/
namespace DI
open PySem PySem.Spec PyProof.Rows L2

/-- what the written part says of such an __init__ -/
structure SupC (P : Program) (K : PySem.W.Frag) (C f : Addr) (fd : FuncData) (F : NdefX.NF) (params : Arguments) : Prop where
  lk : ∃ oc od osl kV doc pm an ct, fd = PySem.W.fnX F.name F.qual params F.body F.scope F.cl .none kV doc pm an (.ref F.c) ct ∧ K.lookup f = some ⟨oc, od, .func fd, osl⟩
  cd : PySem.W.codeIn K (.ref F.c) F.qual = true
  code : ∃ ccl cdd vs ccs file tf, K.lookup F.c = some ⟨ccl, cdd, .fields vs, ccs⟩ ∧ vs[2]? = some (.str file tf) ∧ ((P.main.file : Str) == file) = true
  cell : ∃ cc cl cld csl, F.cl = [(("__class__" : Str), cc)] ∧ K.lookup cc = some ⟨cl, cld, .cell (some (.ref C)), csl⟩
  cls : ∃ cdD, PySem.W.clsIn K C = some cdD
  sub : PySem.W.mroIn K C (.ref C) = some true
  ini : PySem.W.ks_superIn K C C "__init__" = some (some (.builtin "ValueError.__init__"))
  ve : PySem.W.subIn K (.ref C) (.type "ValueError") = some true
  op : PySem.W.nsIn K cStatics "thirdparty.any" = some none
section
variable {P : Program} {w : World} {K : PySem.W.Frag} {mg : Str → Option Value} {base : Heap} {CX : CXT}
theorem fn_sup {C f : Addr} {fd : FuncData} {F : NdefX.NF} {params : Arguments} {N qs : List Str} {ar : Arg} {p0 p1 p2 p3 p4 : Pos} {e : Expr} {es : List Expr} {rest : List Stmt} {k : Nat} {sp : Sp} {ta : TA} {t : TS}
    (S : SupC P K C f fd F params) (O : OexC K C) (sc : NdefX.NScope N ("self" :: qs) ["__class__"] F.scope) (hp : (params.posonlyargs ++ params.args).head? = some ar) (har : ar.arg = "self")
    (hbody : F.body = .Expr (.Call (.Attribute (.Call (.Name "super" p0) [] [] p1) "__init__" p2) (e :: es) [] p3) p4 :: rest) (hks : F.scope.names.lookup ("super" : Str) = some NameKind.globalImplicit)
    (htop : (P.main.scope.names.lookup ("super" : Str)).isSome = false) (hboot : bootBuiltins "super" = some (.type "super")) (hm : mg "super" = none)
    {pl : Env → Sem Bool} (hev : ∀ env : Env, eval (.Call (.Attribute (.Call (.Name "super" p0) [] [] p1) "__init__" p2) (e :: es) [] p3) env = (do
      let ov ← attributeBase (.Call (.Name "super" p0) [] [] p1) "__init__" env (eval (.Call (.Name "super" p0) [] [] p1) env)
      standAt p2.atName
      let (f, first) ← holding [ov] (getMethod ov "__init__" (pl env))
      callWith p3 f first (backTo p3 (starEach (e :: es) env)) []))
    (hs : noStar e = true) (hargs : ∀ (A : Around) (outer : List Env) (s : Shared) (H : Hp) (E : XK), PA (NdefX.ncx CX P w K mg base N F f A outer s H E) (e :: es) ta) (hpl : ∀ env : Env, (backTo p3 (starEach es env)).any (·.1) = false)
    (hrest : ∀ (A : Around) (outer : List Env) (s : Shared) (H : Hp) (E : XK), PSs (NdefX.ncx CX P w K mg base N F f A outer s H E) rest t)
    (hsp : ∀ vs H Q E, sp vs H Q E → ∃ a ys, vs = .ref a :: ys ∧ ys.length = qs.length ∧ H a = some (exo a C none) ∧
      ta (NdefX.startF N vs [some (.ref C)]) H fun us H1 => us.length ≤ 1000 ∧ H1 a = some (exo a C none) ∧ t { nx := fun _ H' => Q .non H', rt := Q } (NdefX.startF N vs [some (.ref C)]) H1) :
    FnOk P w K mg base CX (k + 1) f fd ("self" :: qs) sp := by
  obtain ⟨oc, od, osl, kV, doc, pm, an, ct, efd, lk⟩ := S.lk
  obtain ⟨ccl, cdd, vs0, ccs, file, tf, lkc, hvs, hfile⟩ := S.code
  obtain ⟨cc, cl, cld, csl, ecl, lkcell⟩ := S.cell
  obtain ⟨cdD, hD⟩ := S.cls
  obtain ⟨nm, q, N0, bs, bm, sn, sub, ab, col, dd, k0, k1, k2, k3, k5, hCK, hbm⟩ := O.cls
  subst efd
  refine ⟨fun vs H Q E h => ?_, fun A outer s H args us vs Q E hr e0 hb r h => ?_⟩
  · obtain ⟨a, ys, e1, hl, _⟩ := hsp vs H Q E h
    rw [e1, List.length_cons, List.length_cons, hl]
  obtain ⟨a, ys, evs, hl, hexo, hta⟩ := hsp vs H Q E h
  have hlv : vs.length = (("self" : Str) :: qs).length := by rw [evs, List.length_cons, List.length_cons, hl]
  have KX : K.In s.heap := e0.mod.kin.keeps fun b o e => (e0.bs b o e).1
  have lim : s.heap.NoLimit := e0.mod.nolimit.keeps fun b o e => (e0.bs b o e).1
  have KN : ∀ b o, K.lookup b = some o → H b = none := fun b o e => (e0.bs b o (e0.mod.kin _ _ e)).2
  have cells : NdefX.CellsAt F.cl ["__class__"] [some (.ref C)] s.heap H := by
    rw [ecl]
    refine ⟨rfl, fun y c e => ?_, fun x y c e1 e2 => ?_, fun i y e => ?_⟩
    · have ec : c = cc := by
        rw [List.lookup_cons] at e
        split at e
        · exact (Option.some.inj e).symm
        · cases e
      subst ec
      exact ⟨KN _ _ lkcell, _, _, KX _ _ lkcell, rfl⟩
    · rw [List.lookup_cons] at e1 e2
      split at e1
      · rename_i h1
        split at e2
        · rename_i h2
          exact (eq_of_beq h1).trans (eq_of_beq h2).symm
        · cases e2
      · cases e1
    · cases i with
      | zero =>
        cases e
        exact ⟨cc, by simp [List.lookup], fun v ev => by cases ev; exact ⟨.ref C, rfl, _, KX _ _ lkcell, rfl⟩⟩
      | succ i => simp at e
  refine ks_codeAny_call_defAt hr.depth (KX _ _ lk) rfl lim (PySem.W.codeRec_of KX S.cd) rfl hb sc.nocell (fun y hy => sc.par y.1 (List.of_mem_zip hy).1) (fun h1 hns kp => ?_) sc.co sc.gen sc.kind
  have I : L2.Inv (NdefX.ncx CX P w K mg base N F f A outer s H E) [] (NdefX.startF N vs [some (.ref C)]) H { s with heap := h1, toks := s.toks + (((("self" : Str) :: qs)).zip us).length } := NdefX.inv_startN sc hr.hd e0 hlv r cells hns kp
  have fin : ∀ (fl : Flow) (s' : Shared), SP (NdefX.ncx CX P w K mg base N F f A outer s H E) [] { nx := fun _ H' => Q .non H', rt := Q } fl s' → CR CX outer P w H s Q E (.ok (.ret (match fl with | .ret v => v | _ => .none))) s' := fun fl s' hs => by
    have fin2 : ∀ {σ' : L2.St} {H' : Hp} {v : V} {u : Value}, Inv (NdefX.ncx CX P w K mg base N F f A outer s H E) [] σ' H' s' → L2.RelV v u → Q v H' → CE outer P w H s Q u s' :=
      fun {σ' H' v u} J rv q => ⟨v, H', J.os, J.bare, J.base, J.hok, rv, q⟩
    cases fl with
    | ret u =>
      obtain ⟨v, σ', H', J, rv, q⟩ := hs
      exact fin2 J rv q
    | next =>
      obtain ⟨σ', H', J, q⟩ := hs
      exact fin2 (v := V.non) (u := Value.none) J rfl q
    | brk =>
      obtain ⟨_, _, _, q⟩ := hs
      exact False.elim q
    | cont =>
      obtain ⟨_, _, _, q⟩ := hs
      exact False.elim q
  show PySem.wpAt (model P w) (A.deeper (NdefX.envF F f s.heap.objs.size)) (.func F.body (NdefX.envF F f s.heap.objs.size)) (execs F.body (NdefX.envF F f s.heap.objs.size)) _ _ _
  rw [show execs F.body (NdefX.envF F f s.heap.objs.size) = execs (.Expr (.Call (.Attribute (.Call (.Name "super" p0) [] [] p1) "__init__" p2) (e :: es) [] p3) p4 :: rest) (NdefX.envF F f s.heap.objs.size) by rw [hbody]]
  generalize hbd : F.body = bd
  have usc : ∃ u1 ur, us = u1 :: ur ∧ u1 = .ref a := by
    subst evs
    cases r with
    | cons ra rr => exact ⟨_, _, rfl, ra⟩
  obtain ⟨u1, ur, eus, eu1⟩ := usc
  have hself : (((("self" : Str) :: qs)).zip us).reverse.lookup ("self" : Str) = some (Value.ref a) := by
    have ndP : (("self" : Str) :: qs).Nodup := by
      have q := sc.nd.sublist (List.take_sublist ((("self" : Str) :: qs).length + [("__class__" : Str)].length) N)
      rw [sc.pre] at q
      exact (List.nodup_append.mp q).1
    exact NdefX.zip_look (i := 0) ndP rfl (by rw [eus, eu1]; rfl)
  obtain ⟨t1, hoa⟩ := exo_at I.hok hexo
  have KX1 : K.In h1 := KX.keeps kp
  obtain ⟨oD, hD1, hD2⟩ : ∃ oD, h1.get? C = some oD ∧ oD.data = .cls cdD := by
    unfold PySem.W.clsIn at hD
    split at hD
    · rename_i c d cd' sl ho
      cases hD
      exact ⟨_, KX1 _ _ ho, rfl⟩
    · cases hD
  have kCls : (NdefX.envF F f s.heap.objs.size).kindOf "__class__" = some .free := sc.frk _ (by simp)
  refine ks_wpAt_execs_cons (ks_wpAt_Expr_any (ks_wpAt_MethodCall (ks_wpAt_super_base (of := _) (oc := _) (vs := vs0) (file := file) (tf := tf) (ar := ar) (f := f) (cc := F.c) hks kCls (by decide) rfl (KX1 _ _ lk) rfl hp rfl (KX1 _ _ lkc) rfl hvs hfile htop ?_) (hev _)) I.quiet rfl)
  have gl : PySem.wpAny (model P w) (A.deeper (NdefX.envF F f s.heap.objs.size)) (loadName (NdefX.envF F f s.heap.objs.size) "super") (fun v s2 => v = Value.type "super" ∧ s2 = { s with heap := h1, toks := s.toks + (((("self" : Str) :: qs)).zip us).length }) (fun _ _ => False) { s with heap := h1, toks := s.toks + (((("self" : Str) :: qs)).zip us).length } := by
    obtain ⟨mb, g1, g2⟩ := I.mod.blt
    exact PySem.W.ks_loadName_global sc.kind hks (Calls.loadGlobal_builtin (by exact I.mod.glob.keeps I.bk) hm (by exact g1.keeps I.bk) ((g2 "super" (by decide)).trans hboot) ⟨rfl, rfl⟩)
  refine wpAny_mono gl (fun v s2 hv => ?_) fun _ _ z => z.elim
  obtain ⟨ev, es2⟩ := hv
  subst ev es2
  refine ⟨rfl, ?_⟩
  refine wpAny_loadName_free sc.kind kCls (c := cc) (by show F.cl.lookup _ = _; rw [ecl]; simp [List.lookup]) ⟨_, KX1 _ _ lkcell, rfl⟩ ?_
  refine wpAny_loadName_local sc.kind (by rw [har]; exact sc.par _ (by simp)) hns (by rw [har]; exact hself) ?_
  refine ks_wpAny_isType_cls hD1 hD2 ⟨rfl, ?_⟩
  refine ks_wpAny_call_super hD1 hD2 hoa rfl (fun c z => by cases z) (PySem.W.looks_mroIn KX1 S.sub) (fun h2 eso k2 => ?_)
  have I2 : L2.Inv (NdefX.ncx CX P w K mg base N F f A outer s H E) [] (NdefX.startF N vs [some (.ref C)]) H { s with heap := h2, toks := s.toks + (((("self" : Str) :: qs)).zip us).length } := I.kept (t' := s.toks + (((("self" : Str) :: qs)).zip us).length) k2
  have KX2 : K.In h2 := KX1.keeps k2
  have IA : PySem.W.InstAt h2 a _ C none := ⟨k2 _ _ hoa, rfl, rfl, trivial⟩
  have hxC : a ≠ C := PySem.W.ks_ne KX2 IA hD
  have hIs : PySem.W.Looks (model P w) h2 (isInstance (.ref a) (.type "ValueError")) true := IA.type.andThen (PySem.W.looks_subIn KX2 S.ve)
  have hini : PySem.W.alongIn K "__init__" ((cdD.mro.dropWhile (· != .ref C)).drop 1) = some (some (.builtin "ValueError.__init__")) := by
    have z := S.ini
    unfold PySem.W.ks_superIn at z
    rw [hD] at z
    exact z
  refine PySem.W.kxs_getMethod PySem.W.kxs_ValueError eso (PySem.W.looks_opaque KX2 S.op) (l₀ := cdD.mro) (fun A Q E s k q => wpAny_bind ((PySem.W.looks_clsIn KX2 hD) A _ E s k (wpAny_pure q))) rfl KX2 hini hIs hxC (by decide) ?_
  have I3 : L2.Inv (NdefX.ncx CX P w K mg base N F f A outer s H E) [(h2.objs.size, PySem.W.kxs_mw "ValueError.__init__" a)] (NdefX.startF N vs [some (.ref C)]) H { s with heap := h2.push (PySem.W.kxs_mw "ValueError.__init__" a), toks := s.toks + (((("self" : Str) :: qs)).zip us).length + 1 } :=
    ClX.pin_new (s := { s with heap := h2, toks := s.toks + ((((("self" : Str) :: qs)).zip us).length) }) (t' := s.toks + (((("self" : Str) :: qs)).zip us).length + 1) I2 (fun b o e => Heap.get?_push_of_some _ e) (Nat.le_refl _) (Heap.get?_push_size _ rfl) (fun v z => by cases z)
  show PySem.wpAny _ _ (callWith p3 (.ref h2.objs.size) [] (backTo p3 (starEach (e :: es) _)) []) _ _ _
  rw [starEach_ns hs]
  refine PySem.W.kxs_callWith (i := "ValueError.__init__") (x := a) (by show (false || (backTo p3 (starEach es _)).any (·.1)) = false; rw [hpl] <;> rfl) (Calls.evalArgs_plain ?_)
  have pa := (hargs A outer s H E).run p3 [(h2.objs.size, PySem.W.kxs_mw "ValueError.__init__" a)] _ _ H _ I3 hta
  rw [starEach_ns hs] at pa
  refine wpAny_mono pa (fun us4 s4 h4 => ?_) (fun _ _ z => z)
  obtain ⟨vs4, H4, I4, r4, hl4, hexo4, ht4⟩ := h4
  have hu := ClX.pin_at I4
  refine ⟨hu, ?_⟩
  obtain ⟨t4, ho4⟩ := exo_at I4.hok hexo4
  have hlen : us4.length ≤ sizeLine := by
    rw [← Paired.length r4, sizeLine_eq]
    omega
  have I4' := ClX.unpin I4
  obtain ⟨hp4, g4, d4, tk4, os4⟩ := s4
  have inner : PySem.wpAny (model P w) (A.deeper (NdefX.envF F f s.heap.objs.size)) (call (.ref h2.objs.size) us4) (fun v s5 => v = Value.none ∧ L2.Inv (NdefX.ncx CX P w K mg base N F f A outer s H E) [] (NdefX.startF N vs [some (.ref C)]) H4 s5) (fun _ _ => False) ⟨hp4, g4, d4, tk4, os4⟩ := by
    have KX4 : K.In hp4 := I4'.kIn
    have hC4 := KX4 _ _ hCK
    refine wpAny_call (codeAny_of_tree ?_)
    show PySem.wpAny _ (A.deeper (NdefX.envF F f s.heap.objs.size)).in1 (callAny (.ref h2.objs.size) ⟨us4, []⟩) _ _ _
    simp only [callAny]
    refine wpAny_bind (wpAny_load hu ?_)
    simp only [PySem.W.kxs_mw, show (Value.type "method-wrapper" == Value.type "method" || Value.type "method-wrapper" == Value.type "builtin_function_or_method" || Value.type "method-wrapper" == Value.type "method-wrapper") = true by decide, if_true]
    refine PySem.W.KFB.if_so (by decide) ?_
    refine wpAny_bind (PySem.W.check_bound_init PySem.F.excBase_ValueError.toExcCallFacts hC4 ho4 rfl ?_)
    refine wpAny_bind (wpAny_pure (wpAny_pure ?_))
    refine ⟨plainId_quiet PySem.F.excBase_ValueError.init.plain _, codeAny_builtin PySem.F.excBase_ValueError.initEntry ?_⟩
    refine PySem.W.exc_init_tree (cls := .ref C) (t0 := t4) (dv := none) (c2 := .none) (c3 := .none) (b4 := .bool false) ho4 hlen fun h5 k5 e5 t5 => ?_
    have J := I4'.write (t' := tk4) (x := a) (e := a) (o := exo a C none) (by rw [hexo4]; exact True.intro) (.inl rfl) k5 ⟨_, e5⟩ (exo_ok e5)
    have eu : upd H4 a (exo a C none) = H4 := by
      funext b
      by_cases hb : b = a
      · rw [hb, upd_same, hexo4]
      · rw [upd_ne hb]
    rw [eu] at J
    exact ⟨rfl, J⟩
  refine wpAny_mono inner (fun v s5 hv => ?_) fun _ _ z => z.elim
  obtain ⟨_, I5⟩ := hv
  refine wpAt_of_wpAny ?_
  exact wpAny_mono ((hrest A outer s H E).run [] s5 _ H4 _ I5 ht4) (fun fl s' hs => fin fl s' hs) fun _ _ z => z
end
end DI


/-! DI15: raise X(..), X with such an __init__ -/
namespace DI
open PySem PySem.Spec PyProof.Rows L2

/-- what __init__ leaves: the fields, the last one first -/
def spInit (C : Addr) (fs : List Str) : Sp := fun vs H Q E => ∃ a ys, vs = .ref a :: ys ∧ ys.length = fs.length ∧ H a = some (exo a C none) ∧
  ∀ d, H d = none → d ≠ a → Q .non (upd (upd H d (exd d (fs.zip ys).reverse)) a (exo a C (some d)))
theorem upd_comm3 {H : Hp} {a d : Addr} {o1 o2 u : HO} (h : d ≠ a) : upd (upd (upd H d o1) a u) d o2 = upd (upd H d o2) a u := by
  funext b
  by_cases e : b = d
  · subst e; rw [upd_same, upd_ne h, upd_same]
  · by_cases e2 : b = a
    · subst e2; rw [upd_ne e, upd_same, upd_same]
    · rw [upd_ne e, upd_ne e2, upd_ne e, upd_ne e2, upd_ne e]
section
variable {P : Program} {w : World} {K : PySem.W.Frag} {mg : Str → Option Value} {base : Heap} {CX : CXT} {k : Nat}
/-- one field -/
theorem fn_sup1 {C f : Addr} {fd : FuncData} {F : NdefX.NF} {params : Arguments} {f1 : Str} {ar : Arg} {p0 p1 p2 p3 p4 p5 p6 p7 p8 p9 : Pos}
    (S : SupC P K C f fd F params) (O : OexC K C) (n1 : PySem.W.findIn K (.ref C) f1 = some none) (sc : NdefX.NScope [("self" : Str), f1, "__class__"] [("self" : Str), f1] ["__class__"] F.scope) (hp : (params.posonlyargs ++ params.args).head? = some ar) (har : ar.arg = "self")
    (hbody : F.body = [.Expr (.Call (.Attribute (.Call (.Name "super" p0) [] [] p1) "__init__" p2) [.Name f1 p5] [] p3) p4, .Assign [.Attribute (.Name "self" p6) f1 p7] (.Name f1 p8) p9])
    (hks : F.scope.names.lookup ("super" : Str) = some NameKind.globalImplicit) (htop : (P.main.scope.names.lookup ("super" : Str)).isSome = false) (hm : mg "super" = none)
    {pl : Env → Sem Bool} (hev : ∀ env : Env, eval (.Call (.Attribute (.Call (.Name "super" p0) [] [] p1) "__init__" p2) [.Name f1 p5] [] p3) env = (do
      let ov ← attributeBase (.Call (.Name "super" p0) [] [] p1) "__init__" env (eval (.Call (.Name "super" p0) [] [] p1) env)
      standAt p2.atName
      let (f, first) ← holding [ov] (getMethod ov "__init__" (pl env))
      callWith p3 f first (backTo p3 (starEach [.Name f1 p5] env)) []))
    (hd : (f1 == ("__debug__" : Str)) = false := by decide) (hcd : (f1 == ("__classdict__" : Str)) = false := by decide) :
    FnOk P w K mg base CX (k + 1) f fd [("self" : Str), f1] (spInit C [f1]) := by
  have v0 : ∀ (A : Around) (outer : List Env) (s : Shared) (H : Hp) (E : XK) (p : Pos), PE (NdefX.ncx CX P w K mg base [("self" : Str), f1, "__class__"] F f A outer s H E) (.Name "self" p) (tVar 0) := fun A outer s H E p => pe_var (i := 0) rfl (.inl (sc.par _ (by simp)))
  have v1 : ∀ (A : Around) (outer : List Env) (s : Shared) (H : Hp) (E : XK) (p : Pos), PE (NdefX.ncx CX P w K mg base [("self" : Str), f1, "__class__"] F f A outer s H E) (.Name f1 p) (tVar 1) := fun A outer s H E p => pe_var (i := 1) rfl (.inl (sc.par _ (by simp))) hd hcd
  refine fn_sup (qs := [f1]) (t := tOst K f1 (tVar 0) (tVar 1)) S O sc hp har hbody hks htop (by decide +kernel) hm hev rfl (fun A outer s H E => pa_cons (v1 A outer s H E _) pa_nil) (fun env => rfl)
    (fun A outer s H E => pss_one (ps_ost (f := f1) (v0 A outer s H E _) (v1 A outer s H E _))) fun vs H Q E h => ?_
  obtain ⟨a, ys, rfl, hl, ha, hq⟩ := h
  match ys, hl with
  | [y], _ =>
    exact ⟨a, [y], rfl, rfl, ha, y, rfl, by simp, ha, y, rfl, .ref a, rfl, a, C, rfl, O, n1, .inl ⟨ha, fun dx h1 h2 => hq dx h1 h2⟩⟩
/-- two fields -/
theorem fn_sup2 {C f : Addr} {fd : FuncData} {F : NdefX.NF} {params : Arguments} {f1 f2 : Str} {ar : Arg} {p0 p1 p2 p3 p4 p5 p6 p7 p8 p9 p10 p11 p12 p13 p14 : Pos}
    (S : SupC P K C f fd F params) (O : OexC K C) (n1 : PySem.W.findIn K (.ref C) f1 = some none) (n2 : PySem.W.findIn K (.ref C) f2 = some none) (sc : NdefX.NScope [("self" : Str), f1, f2, "__class__"] [("self" : Str), f1, f2] ["__class__"] F.scope) (hp : (params.posonlyargs ++ params.args).head? = some ar) (har : ar.arg = "self")
    (hbody : F.body = [.Expr (.Call (.Attribute (.Call (.Name "super" p0) [] [] p1) "__init__" p2) [.Name f1 p5, .Name f2 p10] [] p3) p4, .Assign [.Attribute (.Name "self" p6) f1 p7] (.Name f1 p8) p9, .Assign [.Attribute (.Name "self" p11) f2 p12] (.Name f2 p13) p14])
    (hks : F.scope.names.lookup ("super" : Str) = some NameKind.globalImplicit) (htop : (P.main.scope.names.lookup ("super" : Str)).isSome = false) (hm : mg "super" = none)
    {pl : Env → Sem Bool} (hev : ∀ env : Env, eval (.Call (.Attribute (.Call (.Name "super" p0) [] [] p1) "__init__" p2) [.Name f1 p5, .Name f2 p10] [] p3) env = (do
      let ov ← attributeBase (.Call (.Name "super" p0) [] [] p1) "__init__" env (eval (.Call (.Name "super" p0) [] [] p1) env)
      standAt p2.atName
      let (f, first) ← holding [ov] (getMethod ov "__init__" (pl env))
      callWith p3 f first (backTo p3 (starEach [.Name f1 p5, .Name f2 p10] env)) []))
    (hd : (f1 == ("__debug__" : Str)) = false := by decide) (hcd : (f1 == ("__classdict__" : Str)) = false := by decide) (hd2 : (f2 == ("__debug__" : Str)) = false := by decide) (hcd2 : (f2 == ("__classdict__" : Str)) = false := by decide) :
    FnOk P w K mg base CX (k + 1) f fd [("self" : Str), f1, f2] (spInit C [f1, f2]) := by
  have v0 : ∀ (A : Around) (outer : List Env) (s : Shared) (H : Hp) (E : XK) (p : Pos), PE (NdefX.ncx CX P w K mg base [("self" : Str), f1, f2, "__class__"] F f A outer s H E) (.Name "self" p) (tVar 0) := fun A outer s H E p => pe_var (i := 0) rfl (.inl (sc.par _ (by simp)))
  have v1 : ∀ (A : Around) (outer : List Env) (s : Shared) (H : Hp) (E : XK) (p : Pos), PE (NdefX.ncx CX P w K mg base [("self" : Str), f1, f2, "__class__"] F f A outer s H E) (.Name f1 p) (tVar 1) := fun A outer s H E p => pe_var (i := 1) rfl (.inl (sc.par _ (by simp))) hd hcd
  have v2 : ∀ (A : Around) (outer : List Env) (s : Shared) (H : Hp) (E : XK) (p : Pos), PE (NdefX.ncx CX P w K mg base [("self" : Str), f1, f2, "__class__"] F f A outer s H E) (.Name f2 p) (tVar 2) := fun A outer s H E p => pe_var (i := 2) rfl (.inl (sc.par _ (by simp))) hd2 hcd2
  refine fn_sup (qs := [f1, f2]) (t := tSeq (tOst K f1 (tVar 0) (tVar 1)) (tOst K f2 (tVar 0) (tVar 2))) S O sc hp har hbody hks htop (by decide +kernel) hm hev rfl (fun A outer s H E => pa_cons (v1 A outer s H E _) (pa_cons (v2 A outer s H E _) pa_nil)) (fun env => rfl)
    (fun A outer s H E => pss_cons (ps_ost (f := f1) (v0 A outer s H E _) (v1 A outer s H E _)) (pss_one (ps_ost (f := f2) (v0 A outer s H E _) (v2 A outer s H E _)))) fun vs H Q E h => ?_
  obtain ⟨a, ys, rfl, hl, ha, hq⟩ := h
  match ys, hl with
  | [y, z], _ =>
    refine ⟨a, [y, z], rfl, rfl, ha, y, rfl, z, rfl, by simp, ha, y, rfl, .ref a, rfl, a, C, rfl, O, n1, .inl ⟨ha, fun dx h1 h2 => ?_⟩⟩
    refine ⟨z, rfl, .ref a, rfl, a, C, rfl, O, n2, .inr ⟨dx, [(f1, y)], upd_same, by rw [upd_ne h2, upd_same], by simp, ?_⟩⟩
    have e := hq dx h1 h2
    have e2 : upd (upd (upd H dx (exd dx [(f1, y)])) a (exo a C (some dx))) dx (exd dx [(f2, z), (f1, y)]) = upd (upd H dx (exd dx [(f2, z), (f1, y)])) a (exo a C (some dx)) := upd_comm3 h2
    show Q .non (upd (upd (upd H dx (exd dx [(f1, y)])) a (exo a C (some dx))) dx (exd dx [(f2, z), (f1, y)]))
    rw [e2]
    exact e
end
/-- a class whose instances may be made and raised -/
structure SupOk (P : Program) (w : World) (K : PySem.W.Frag) (mg : Str → Option Value) (base : Heap) (x : Str) (fs : List Str) : Prop where
  ex : ∃ fI fd ps, FnOk P w K mg base (L2.CX P w) 1 fI fd ps (spInit (He.ga K x) fs) ∧ L2.Binds K fd ps [] ∧ PySem.W.findIn K (.ref (He.ga K x)) "__init__" = some (some (.ref fI)) ∧ PySem.W.typeIn K (.ref fI) = some (.type "function")
  mg : mg x = some (.ref (He.ga K x))
  O : OexC K (He.ga K x)
def sRaise (c : Str) (fs : List Str) (fl : DFL) : DS := fun env st => (fl env st).bind fun ds st => if ds.length = fs.length ∧ ds.length ≤ 1000 then .ex c (fs.zip ds).reverse st else .stuck
section
variable {C : Ct} {X : Cx} {pos : Pos} {e : Expr} {es : List Expr} {fl : DFL}
theorem zip_snd {K : PySem.W.Frag} {G : Hp} {m : List Addr} : ∀ {fs : List Str} {vs : List V} {ds : List D}, RepAll K G m vs ds → RepAll K G m ((fs.zip vs).map (·.2)) ((fs.zip ds).map (·.2))
  | [], _, _, _ => by simp; exact .nil
  | _ :: _, _, _, .nil => by simp; exact .nil
  | f :: fs, _, _, .cons r t => by simp only [List.zip_cons_cons, List.map_cons]; exact .cons r (zip_snd t)
theorem zip_fst : ∀ {fs : List Str} {vs : List V} {ds : List D}, vs.length = ds.length → (fs.zip vs).map (·.1) = (fs.zip ds).map (·.1)
  | [], _, _, _ => by simp
  | _ :: _, [], [], _ => by simp
  | f :: fs, v :: vs, d :: ds, h => by simp only [List.zip_cons_cons, List.map_cons, List.cons.injEq, true_and]; exact zip_fst (by simpa using h)
theorem RepAll.reverse {K : PySem.W.Frag} {G : Hp} {m : List Addr} : ∀ {vs : List V} {ds : List D}, RepAll K G m vs ds → RepAll K G m vs.reverse ds.reverse
  | _, _, .nil => .nil
  | _, _, .cons r t => by rw [List.reverse_cons, List.reverse_cons]; exact (RepAll.reverse t).append (.cons r .nil)
theorem s_raise {x : Str} {fs : List Str} {p p2 : Pos} (hK : C.K = X.K) (tk : Takes X (fun cls d _ H => C.W cls d H)) (hr : Room 2 X.A) (S : SupOk X.prog X.w X.K X.mg X.base x fs) (ha : PA X (e :: es) (tL C fl)) (hc : X.calm = true := by rfl) (hg : Gl X x := by rfl) (hdb : (x == ("__debug__" : Str)) = false := by rfl)
    (hs : noStar e = true := by rfl) (hpl : (backTo p2 (starEach es X.env)).any (·.1) = false := by rfl) :
    PS X (.Raise (some (.Call (.Name x p) (e :: es) [] p2)) none pos) (tS C (sRaise x fs fl)) := by
  obtain ⟨fI, fd, ps, F1, hb, hi, ht⟩ := S.ex
  refine (ps_raise hc tk (pmk_oex S.O hi ht F1 hr hb .nil passL hg S.mg ha hdb (starEach_ns hs es _) hpl)).imp fun D σ H ⟨G, m, env, st, R, h⟩ => ⟨G, m, env, st, R, (SAft.aft h).imp fun ds st1 G1 m1 H1 E1 R1 h1 vs rv => ?_⟩
  split at h1
  · rename_i hl
    refine ⟨by rw [rv.length]; exact hl.2, fun a ha => ?_⟩
    rw [List.append_nil]
    refine ⟨a, vs, rfl, by rw [rv.length]; exact hl.1, upd_same, fun d hd hda => ⟨rfl, d, (fs.zip vs).reverse, upd_same, by rw [upd_ne hda, upd_same], ?_, ?_⟩⟩
    · rw [upd_ne hda] at hd; exact hd
    · have hd1 : H1 d = none := by rw [upd_ne hda] at hd; exact hd
      have e : upd (del (upd (upd (upd H1 a (exo a (He.ga X.K x) none)) d (exd d (fs.zip vs).reverse)) a (exo a (He.ga X.K x) (some d))) a) d (.xd (fs.zip vs).reverse) = upd H1 d (.xd (fs.zip vs).reverse) := by
        funext b
        by_cases e1 : b = d
        · rw [e1, upd_same, upd_same]
        · rw [upd_ne e1, upd_ne e1]
          by_cases e2 : b = a
          · rw [e2, del_same, ha]
          · rw [del_ne e2, upd_ne e2, upd_ne e1, upd_ne e2]
      rw [e]
      have p := PExt.own (o := .xd (fs.zip vs).reverse) R1.w.gh hd1
      refine h1 G1 m1 _ _ _ ⟨R1.w.pext p, R1.base.trans p.ext⟩ ⟨by rw [hK], .inr ⟨d, _, rfl, R1.w.nomem hd1, upd_same, ?_, ?_⟩⟩
      · rw [List.map_reverse, List.map_reverse, zip_fst rv.length]
      · rw [List.map_reverse, List.map_reverse]
        exact (zip_snd rv).reverse
  · exact h1.elim
end
end DI


/-! DI16: {texts: ..}.get(e) -/
namespace DI
open PySem PySem.Spec PyProof.Rows L2

/-- an object that only the evaluation knows -/
structure Tmp (G : Hp) (m : List Addr) (H : Hp) (p : Addr) (kvs : List (Key × V)) : Prop where
  h : H p = some (.dK kvs)
  g : G p = none
  m : p ∉ m
theorem Tmp.ext {G G' H H' : Hp} {m m' : List Addr} {p : Addr} {kvs : List (Key × V)} (t : Tmp G m H p kvs) (e : Ext G m H G' m' H') : Tmp G' m' H' p kvs :=
  ⟨e.hh p _ t.h t.m (fun ps z => by cases z), (e.new p ⟨_, t.h, fun ps z => by cases z⟩).trans t.g, fun z => by
    rcases e.mn p z with q | q
    · exact t.m q
    · exact q ⟨_, t.h, fun ps z => by cases z⟩⟩
theorem w0_dict {T : List (Addr × Str)} {K : PySem.W.Frag} {st : Store} {G H : Hp} {m : List Addr} {a : Addr} {kvs kvs' : List (Key × V)} (w : W0 T K st G m H) (t : Tmp G m H a kvs) : W0 T K st G m (upd H a (.dK kvs')) := by
  have hn : ∀ (b : Addr) (o : HO), H b = some o → (∀ us, o ≠ .dK us) → b ≠ a := fun b o h q z => by
    rw [z, t.h] at h
    exact q _ (Option.some.inj h).symm
  refine ⟨fun b u h => ?_, w.nt, w.len, w.nd, fun k o b h1 h2 => ?_, fun p hp => ?_⟩
  · rw [upd_ne (ne_of_none h t.g)]
    exact w.gh b u h
  · have nb : b ≠ a := fun z => t.m (z ▸ List.mem_of_getElem? h2)
    have x := w.store k o b h1 h2
    cases o with
    | lst es =>
      obtain ⟨g, us, h, r⟩ := x
      exact ⟨g, us, by rw [upd_ne nb]; exact h, r⟩
    | ins Cn fs =>
      obtain ⟨g, dx, fvs, h, g2, n2, h2, h3, r⟩ := x
      exact ⟨g, dx, fvs, by rw [upd_ne nb]; exact h, g2, n2, by rw [upd_ne (hn _ _ h2 (fun us z => by cases z))]; exact h2, h3, r⟩
  · obtain ⟨ps, h1, h2, h3⟩ := w.tabs p hp
    refine ⟨ps, by rw [upd_ne (hn _ _ h1 (fun us z => by cases z))]; exact h1, h2, fun pos cv hc => ?_⟩
    obtain ⟨c, e1, e2⟩ := h3 pos cv hc
    exact ⟨c, e1, by rw [upd_ne (hn _ _ e2 (fun us z => by unfold LamX.CodeO at z; cases z))]; exact e2⟩
/-- new since H0 -/
theorem ext_tmp {G0 H0 G H : Hp} {m0 m : List Addr} {p : Addr} {o : HO} (e : Ext G0 m0 H0 G m H) (h0 : H0 p = none) : Ext G0 m0 H0 G m (upd H p o) :=
  ⟨e.gg, fun b u h n t => by rw [upd_ne (ne_of_none h h0)]; exact e.hh b u h n t, fun b h => by
    obtain ⟨o, h1, h2⟩ := e.th b h
    exact ⟨o, by rw [upd_ne (fun z => npr h0 (by rw [← z]; exact h))]; exact h1, h2⟩, e.new, e.mm, e.mn⟩
/-- the last one that bears the key -/
def dLook : List (List Nat × D) → List Nat → Option D
  | [], _ => none
  | (k', d) :: r, k => match dLook r k with
    | some x => some x
    | none => if k = k' then some d else none
def dPairs : List (List Nat × DF) → DEnv → Store → Res (List (List Nat × D))
  | [], _, st => .ok [] st
  | (k, f) :: r, env, st => (f env st).bind fun d st => (dPairs r env st).bind fun ps st => .ok ((k, d) :: ps) st
def dGetS (fs : List (List Nat × DF)) (fe : DF) : DF := fun env st => (dPairs fs env st).bind fun ps st => if ps.length ≤ 15 then (fe env st).bind fun d st => match d with
  | .str s => .ok ((dLook ps s).getD .non) st
  | _ => .stuck else .stuck
/-- pairs and their values -/
inductive RepPs (K : PySem.W.Frag) (G : Hp) (m : List Addr) : List (Key × V) → List (List Nat × D) → Prop
  | nil : RepPs K G m [] []
  | cons {s : List Nat} {v : V} {d : D} {kvs : List (Key × V)} {ps : List (List Nat × D)} : Rep K G m v d → RepPs K G m kvs ps → RepPs K G m ((.inr (mkS s), v) :: kvs) ((s, d) :: ps)
section
variable {K : PySem.W.Frag} {G G' H H' : Hp} {m m' : List Addr}
theorem RepPs.ext (e : Ext G m H G' m' H') : ∀ {kvs : List (Key × V)} {ps : List (List Nat × D)}, RepPs K G m kvs ps → RepPs K G' m' kvs ps
  | _, _, .nil => .nil
  | _, _, .cons r t => .cons (r.ext e) (t.ext e)
theorem RepPs.len : ∀ {kvs : List (Key × V)} {ps : List (List Nat × D)}, RepPs K G m kvs ps → kvs.length = ps.length
  | _, _, .nil => rfl
  | _, _, .cons r t => by simp [t.len]
theorem mkS_inj {s t : List Nat} : mkS s = mkS t ↔ s = t := by
  constructor
  · intro h
    have h2 := congrArg (fun z : Str => z.cps.toList) h
    simpa using h2
  · intro h; rw [h]
theorem RepPs.look (s : List Nat) : ∀ {kvs : List (Key × V)} {ps : List (List Nat × D)} {acc : List (Key × V)}, RepPs K G m kvs ps →
    (∃ v d, valV (mergeK acc kvs) (.inr (mkS s)) = some v ∧ dLook ps s = some d ∧ Rep K G m v d) ∨ (dLook ps s = none ∧ valV (mergeK acc kvs) (.inr (mkS s)) = valV acc (.inr (mkS s)))
  | _, _, acc, .nil => .inr ⟨rfl, rfl⟩
  | _, _, acc, @RepPs.cons _ _ _ s' v d kvs ps r t => by
    rcases RepPs.look s (acc := putK acc (.inr (mkS s')) v) t with ⟨v2, d2, h1, h2, h3⟩ | ⟨h1, h2⟩
    · exact .inl ⟨v2, d2, h1, by simp only [dLook, h2], h3⟩
    · have e : valV (mergeK acc ((.inr (mkS s'), v) :: kvs)) (.inr (mkS s)) = valV (putK acc (.inr (mkS s')) v) (.inr (mkS s)) := h2
      rw [valV_put] at e
      by_cases hs : s = s'
      · subst hs
        rw [if_pos rfl] at e
        exact .inl ⟨v, d, e, by simp only [dLook, h1, if_true], r⟩
      · have hne : ¬ ((.inr (mkS s) : Key) = .inr (mkS s')) := fun z => hs (mkS_inj.mp (Sum.inr.inj z))
        rw [if_neg hne] at e
        exact .inr ⟨by simp only [dLook, h1, if_neg hs], e⟩
end
section
variable {C : Ct} {X : Cx} {env : DEnv} {st : Store} {G H : Hp} {m : List Addr} {σ : L2.St}
theorem pairs_read {Q : List (V × V) → Hp → Prop} : ∀ {fs : List (List Nat × DF)} {st : Store} {G H : Hp} {m : List Addr}, Rel C.B C.T C.K env st G m σ H →
    (Aft C env σ G m H (dPairs fs env st) fun ps _ G' m' H' => ∀ kvs, RepPs C.K G' m' kvs ps → Q (kvs.map fun kv => (kV kv.1, kv.2)) H') → tPairs (fs.map fun p => (tD C (dK (.str p.1)), tD C p.2)) σ H Q
  | [], st, G, H, m, R, h => h.here R [] .nil
  | (k, f) :: fs, st, G, H, m, R, h => by
    refine ⟨G, m, env, st, R, fun G1 m1 H1 E1 R1 v rv => ?_⟩
    refine ⟨G1, m1, env, st, R1, (Aft.bind (Aft.frm h E1)).imp fun d st2 G2 m2 H2 E2 R2 h2 w rw' => ?_⟩
    refine pairs_read R2 ((Aft.bind h2).imp fun ps st3 G3 m3 H3 E3 R3 h3 kvs rk => ?_)
    have hv : v = .str (mkS k) := by cases rv; rfl
    subst hv
    exact h3.here R3 ((.inr (mkS k), w) :: kvs) (.cons (rw'.ext E3) rk)
theorem e_dgetS {keys : List (Option Expr)} {values : List Expr} {fs : List (List Nat × DF)} {e : Expr} {fe : DF} {dpos apos cpos : Pos} (hu : X.A.units + 1 < cLine) (h : PPs X dpos keys values (fs.map fun p => (tD C (dK (.str p.1)), tD C p.2)))
    (he : PE X e (tD C fe)) (hs : noStar e = true) (hall : keys.all (·.isSome) = true) (hl : keys.length = values.length) (h0 : keys ≠ []) (h15 : keys.length ≤ 15) (hln : (apos.endLine == cpos.line) = true) :
    PE X (.Call (.Attribute (.Dict keys values dpos) "get" apos) [e] [] cpos) (tD C (dGetS fs fe)) :=
  (pe_dget1 hu (pe_disp h hall hl h0 h15) he ⟨rfl, by rw [starEach_ns hs]; rfl, hln, by rw [starEach_ns hs] <;> rfl⟩).imp fun σ H Q ⟨G, m, env, st, R, h⟩ => by
  intro p hp
  have R0 := R.pext (PExt.own (o := .dK []) R.w.gh hp)
  have E0 : Ext G m H G m (upd H p (.dK [])) := (PExt.own R.w.gh hp).ext
  have T0 : Tmp G m (upd H p (.dK [])) p [] := ⟨upd_same, R.w.gh.free hp, R.w.nomem hp⟩
  refine pairs_read R0 ?_
  cases hP : dPairs fs env st with
  | stuck => unfold dGetS at h; rw [hP] at h; exact h.elim
  | ex c es st1 =>
    unfold dGetS at h
    rw [hP] at h
    exact Aft.frm (r := (.ex c es st1 : Res (List (List Nat × D)))) (Q := fun ps _ G' m' H' => _) h E0
  | ok ps st1 =>
    intro G1 m1 H1 E1 R1 kvs rk
    have T1 := T0.ext E1
    unfold dGetS at h
    rw [hP] at h
    change Aft C env σ G m H (if ps.length ≤ 15 then (fe env st1).bind fun d st => match d with
      | .str s => .ok ((dLook ps s).getD .non) st
      | _ => .stuck else .stuck) _ at h
    split at h
    rotate_left
    · exact h.elim
    rename_i hlen
    refine ⟨T1.h, kvs, rfl, by rw [rk.len]; exact hlen, p, rfl, .inl ⟨mergeK [] kvs, .inl upd_same⟩, ?_⟩
    have w2 := w0_dict (kvs' := mergeK [] kvs) R1.w T1
    have E2 : Ext G m H G1 m1 (upd H1 p (.dK (mergeK [] kvs))) := ext_tmp (E0.trans E1) hp
    have T2 : Tmp G1 m1 (upd H1 p (.dK (mergeK [] kvs))) p (mergeK [] kvs) := ⟨upd_same, T1.g, T1.m⟩
    have R2 := R.ext E2 w2
    refine ⟨G1, m1, env, st1, R2, (Aft.bind (Aft.frm h E2)).imp fun d st3 G3 m3 H3 E3 R3 h3 v rv => ?_⟩
    have T3 := T2.ext E3
    cases d with
    | str s =>
      cases rv with
      | str _ hsz =>
        refine ⟨valV (mergeK [] kvs) (.inr (mkS s)), .inl ⟨_, .inr (mkS s), .inl T3.h, rfl, rfl⟩, ?_⟩
        rcases rk.look s (acc := []) with ⟨v, d, h1, h2, r⟩ | ⟨h1, h2⟩
        · have h4 := h3.here R3
          rw [h2] at h4
          rw [h1]
          exact h4 v (r.mono E3.gg E3.mm)
        · have h4 := h3.here R3
          rw [h1] at h4
          rw [h2, valV_nil]
          exact h4 .non .non
    | _ => exact h3.elim
end
end DI


/-! DI17: list.count; what an except suite asks of its exception -/
namespace DI
open PySem PySem.Spec PyProof.Rows L2

/-! #### xs.count(y) -/
def rCountD (K : PySem.W.Frag) : V → List V → Hp → VK → Prop := fun x xs H Q => ∃ (a : Addr) (y : V) (d : PyData) (ds : List PyData), x = V.ref a ∧ xs = [y] ∧ Dp K H (V.ref a) (.list ds) ∧ Dp K H y d ∧
  SeqAt.shaped (.list ds) = true ∧ SeqAt.shaped d = true ∧ Q (.int ((ds.countP fun z => PyData.eqv z d : Nat) : Int)) H
section
variable {X : Cx} {C : Ct}
theorem mt_countD (hu : X.A.units + 65 < cLine) : MtR X "list.count" (rCountD X.K) := by
  intro pins s σ H x xs v us Q I rx rxs h
  obtain ⟨a, y, d, ds, rfl, rfl, hl, hy, sl, sd, q⟩ := h
  cases rx
  cases rxs with
  | cons ry rt =>
    rename_i uy ut
    cases rt
    obtain ⟨bs, r1⟩ := Dp.reads I d y uy hy ry
    have hxs : PyData.canLayAll0 ds = true := SeqAt.canLay_of_shaped sl
    have hroom : X.A.units + 1 + min (PyData.depthAll ds) d.depth < cLine := room_in_shaped sd hu
    cases hl with
    | lst hs ha =>
      obtain ⟨its, rv, ⟨⟨cls, dd, data, sls⟩, n, ho, hc, hdn, hdt⟩, hlen⟩ := I.list hs
      simp only at hc hdt
      subst hc hdt
      obtain ⟨as, h4⟩ := Dp.readsAll I ds _ its ha rv
      have hmap : its.map (SeqAt.readOf s.heap) = ds := SeqAt.readsAll_map ds its as hxs h4
      refine call_meets PySem.F.slot_list_count ⟨_, ho, rfl⟩ PySem.F.entry_list_count (PySem.F.args_list_count_2 _ _)
        (SeqAt.list_countAt a its.toArray n dd sls uy (fun u => PyData.eqv (SeqAt.readOf s.heap u) d)) ⟨ho, SeqAt.items_eqAt (vs := its.toArray) (show ReadsAll s.heap its.toArray.toList ds as from h4) r1 hxs (SeqAt.canLay_of_shaped sd) hroom, ?_⟩
      have e : its.toArray.toList.countP (fun u => PyData.eqv (SeqAt.readOf s.heap u) d) = ds.countP fun z => PyData.eqv z d := by
        rw [← hmap, List.countP_map]
        rfl
      exact ⟨.int ((ds.countP fun z => PyData.eqv z d : Nat) : Int), H, I.tok _, ⟨s.toks, by rw [e]⟩, q⟩
def gCountL : D → D → Option D
  | .lst ds, d => if d.dat && D.dats ds && decide (D.deps ds + 1 ≤ 64) && decide (d.dep ≤ 64) then some (.int ((ds.countP fun z => deq z d : Nat) : Int)) else none
  | _, _ => none
theorem countP_pys (d : D) (hd : d.dat = true) : ∀ ds : List D, D.dats ds = true → (D.pys ds).countP (fun z => PyData.eqv z d.py) = ds.countP fun z => deq z d
  | [], _ => rfl
  | x :: xs, h => by
    have h' : x.dat = true ∧ D.dats xs = true := by simpa [D.dats] using h
    simp only [D.pys, List.countP_cons, deq_py x d h'.1 hd, countP_pys d hd xs h'.2]
theorem m_countL (hK : C.K = X.K) (hu : X.A.units + 65 < cLine) : Mt1 X C "list.count" gCountL := ⟨_, mt_countD hu, fun st G m H x y d e0 z Q w rx ry hz q => by
  unfold gCountL at hz
  split at hz
  · split at hz
    · rename_i _ ds hc
      simp only [Bool.and_eq_true, decide_eq_true_eq] at hc
      obtain ⟨⟨⟨h1, h2⟩, h3⟩, h4⟩ := hc
      cases hz
      have hd : (D.lst ds).dat = true := by simp only [D.dat]; exact h2
      obtain ⟨p1, c1⟩ := rx.dp w.gh hd
      obtain ⟨p2, c2⟩ := ry.dp w.gh h1
      obtain ⟨a, vs, ex, h, r⟩ := rx.lst w.gh
      subst ex
      rw [hK] at p1 p2
      have sh : ∀ k : D, k.dat = true → k.py.canLay0 = true → k.dep ≤ 64 → SeqAt.shaped k.py = true := fun k k1 k2 k3 => by
        unfold SeqAt.shaped
        rw [k2, dep_py k k1, decide_eq_true k3]
        rfl
      refine ⟨a, y, e0.py, D.pys ds, rfl, rfl, by simpa only [D.py] using p1, p2, ?_, sh e0 h1 c2 h4, ?_⟩
      · have := sh (.lst ds) hd c1 (by simp only [D.dep]; exact h3)
        simpa only [D.py] using this
      · rw [countP_pys e0 h1 ds h2]
        exact q _ G H (PExt.refl w.gh) (.int _)
    · cases hz
  · cases hz⟩

/-! #### isinstance(e, T), e.f in a suite -/
/-- (d: the exception's dict) -/
theorem call_isE2 {a D : Addr} {d : Option Addr} {oe : Obj} {pn : List (Addr × Obj)} (F : ExcC X.K D) (hz : Zc (.ref D) d oe) (hf : ∃ vs, oe.data = .fields vs) : CallR (X.suite a ((a, oe) :: pn)) (.builtin "isinstance")
    (fun xs H Q => ∃ (c : V) (cv : Value) (b : Bool), xs = [.ref a, c] ∧ (d = none ∨ ∃ dd fs, d = some dd ∧ H dd = some (.xd fs)) ∧ (∀ u, RelV c u → u = cv) ∧ PySem.W.kitOne X.K (.ref D) cv = some b ∧ Q (.bl b) H) := by
  intro pins s σ H xs us Q I r h
  obtain ⟨c, cv, b, rfl, hdd, hcv, e, q⟩ := h
  cases r with
  | cons rx rr =>
    cases rr with
    | cons rt rr =>
      cases rr
      cases rx
      have ec := hcv _ rt
      subst ec
      obtain ⟨hget, _⟩ := I.pin (a, oe) (List.mem_append.mpr (.inl List.mem_cons_self))
      obtain ⟨vs, hv⟩ := hf
      have hcl : (PySem.W.clsIn X.K D).isSome = true := by obtain ⟨cd, hc, _⟩ := PySem.W.any_some F.hd; rw [hc]; rfl
      obtain ⟨oc, od, oda, osl⟩ := oe
      obtain ⟨h1, h2⟩ := hz
      dsimp only at h1 h2 hv
      subst h1 h2 hv
      have fin : ∀ od' : Option Obj, PySem.W.InstAt s.heap a ⟨.ref D, od, .fields vs, osl⟩ D od' → _ := fun od' J =>
        PySem.W.kia_one (prog := X.prog) (w := X.w) (A := (X.suite a ((a, ⟨.ref D, od, .fields vs, osl⟩) :: pn)).A) (E := (X.suite a ((a, ⟨.ref D, od, .fields vs, osl⟩) :: pn)).xe) (Q := EP (X.suite a ((a, ⟨.ref D, od, .fields vs, osl⟩) :: pn)) pins σ Q) (PySem.W.kitx_exc hcl F.hg F.hk F.hs F.ha F.hn F.ht F.hm) I.kIn J e (fun z => nomatch z) fun tk => ⟨.bl b, H, I.kept (t' := tk) fun _ _ z => z, rfl, q⟩
      rcases hdd with rfl | ⟨dd, fs, rfl, ea⟩
      · exact fin none ⟨hget, rfl, rfl, trivial⟩
      · have hx : ObjOk X.prog X.w H s.heap dd (.xd fs) := I.hok dd _ ea
        obtain ⟨mA, hns, hr⟩ := hx
        obtain ⟨odd, ho, hl⟩ := lookIn_ns hns
        exact fin (some odd) ⟨hget, rfl, rfl, ho⟩
/-- which class is another's, as the program has it -/
abbrev SubT := Str → Str → Option Bool
def dIsE (sb : SubT) (i : Nat) (T : Str) : DF := fun env st => match env[i]? with
  | some (some (.exc c fs)) => Res.opt ((sb c T).map .bl) st
  | _ => .stuck
def dFldE (ff : Str → Str → Bool) (i : Nat) (n : Str) : DF := fun env st => match env[i]? with
  | some (some (.exc c fs)) => if ff c n then Res.opt (fs.lookup n) st else .stuck
  | _ => .stuck
theorem XcAt.dict {K : PySem.W.Frag} {G H : Hp} {m : List Addr} {fs : List (Str × D)} {dd : Option Addr} (x : XcAt K G m H fs dd) : dd = none ∨ ∃ a fs, dd = some a ∧ H a = some (.xd fs) := by
  rcases x with ⟨_, h⟩ | ⟨dx, fvs, h1, _, h2, _⟩
  · exact .inl h
  · exact .inr ⟨dx, fvs, h1, h2⟩
theorem look_rep {K : PySem.W.Frag} {G : Hp} {m : List Addr} {n : Str} {d : D} : ∀ {fvs : List (Str × V)} {fs : List (Str × D)}, fvs.map (·.1) = fs.map (·.1) → RepAll K G m (fvs.map (·.2)) (fs.map (·.2)) → fs.lookup n = some d → ∃ v, fvs.lookup n = some v ∧ Rep K G m v d
  | [], [], _, _, h => by cases h
  | [], _ :: _, h, _, _ => by cases h
  | _ :: _, [], h, _, _ => by cases h
  | (k, v) :: fvs, (k', d') :: fs, h, r, hl => by
    simp only [List.map_cons, List.cons.injEq] at h
    obtain ⟨h1, h2⟩ := h
    have h1 : k = k' := h1
    subst h1
    cases r with
    | cons r1 r2 =>
      rw [List.lookup_cons] at hl ⊢
      split at hl
      · rename_i e
        cases hl
        exact ⟨v, by simp, r1⟩
      · rename_i e
        exact look_rep h2 r2 hl
section
variable {X : Cx} {C : Ct} {a : Addr} {oe : Obj} {cls : Value} {d : Option Addr} {pn : List (Addr × Obj)} {sb : SubT} {i : Nat} {x : Str} {p p1 p2 pos : Pos}
theorem e_isE {T : Str} (hK : C.K = X.K) (hz : Zc cls d oe) (hf : ∃ vs, oe.data = .fields vs) (hx : C.B.x = ⟨a, d, cls⟩) (hsb : ∀ c T b, sb c T = some b → ExcC X.K (He.ga X.K c) ∧ PySem.W.kitOne X.K (.ref (He.ga X.K c)) (.ref (He.ga X.K T)) = some b)
    (hm : X.mg "isinstance" = none) (hmT : X.mg T = some (.ref (He.ga X.K T))) (hN : X.N[i]? = some x) (hv : Vis X.env.scope x) (hd : (x == ("__debug__" : Str)) = false) (hcd : (x == ("__classdict__" : Str)) = false)
    (hg : Gl (X.suite a ((a, oe) :: pn)) "isinstance" := by rfl) (hgT : Gl (X.suite a ((a, oe) :: pn)) T := by rfl) (hdT : (T == ("__debug__" : Str)) = false := by rfl) :
    PE (X.suite a ((a, oe) :: pn)) (.Call (.Name "isinstance" p) [.Name x p1, .Name T p2] [] pos) (tD C (dIsE sb i T)) := by
  by_cases hc : ∃ c b, cls = .ref (He.ga X.K c) ∧ sb c T = some b
  · obtain ⟨c, b, ec, hb⟩ := hc
    obtain ⟨F1, F2⟩ := hsb c T b hb
    subst ec
    have hv1 : PE (X.suite a ((a, oe) :: pn)) (.Name x p1) (tVar i) := pe_var hN hv hd hcd
    have hv2 : PE (X.suite a ((a, oe) :: pn)) (.Name T p2) (tC (.ref (He.ga X.K T))) := pe_glob hgT hmT rfl hdT
    refine (pe_callB (call_isE2 F1 hz hf) hg hm (by decide +kernel) (pa_cons hv1 (pa_cons hv2 pa_nil))).imp fun σ H Q ⟨G, m, env, st, R, h⟩ => ?_
    unfold dIsE at h
    split at h
    · rename_i c' fs he
      obtain ⟨v, h1, h2, h3, h4⟩ := R.slot i _ he
      rw [hx] at h2 h3 h4
      subst h2
      have h3 : Value.ref (He.ga X.K c) = .ref (He.ga C.K c') := h3
      obtain ⟨z, hz2, h5⟩ := h.opt
      obtain ⟨b', hb', rfl⟩ := Option.map_eq_some_iff.mp hz2
      have F3 := (hsb c' T b' hb').2
      rw [← hK, ← show He.ga X.K c = He.ga C.K c' from Value.ref.inj h3, hK] at F3
      exact ⟨.ref a, h1, _, _, b', rfl, h4.dict, fun u hu => hu, F3, h5.here R _ (.bl b')⟩
    · exact h.elim
  · refine ⟨fun pins s σ H Q I ⟨G, m, env, st, R, h⟩ => ?_⟩
    exfalso
    unfold dIsE at h
    split at h
    · rename_i c' fs he
      obtain ⟨v, h1, h2, h3, h4⟩ := R.slot i _ he
      rw [hx] at h3
      obtain ⟨z, hz2, h5⟩ := h.opt
      obtain ⟨b', hb', rfl⟩ := Option.map_eq_some_iff.mp hz2
      exact hc ⟨c', b', by rw [← hK]; exact h3, hb'⟩
    · exact h
theorem e_fldE {n : Str} {ff : Str → Str → Bool} (hK : C.K = X.K) (hz : Zc cls d oe) (hf : ∃ vs, oe.data = .fields vs) (hx : C.B.x = ⟨a, d, cls⟩) (hff : ∀ c n, ff c n = true → XfC X.K (He.ga X.K c) ∧ PySem.W.findIn X.K (.ref (He.ga X.K c)) n = some none)
    (hN : X.N[i]? = some x) (hv : Vis X.env.scope x) (hd : (x == ("__debug__" : Str)) = false) (hcd : (x == ("__classdict__" : Str)) = false) :
    PE (X.suite a ((a, oe) :: pn)) (.Attribute (.Name x p1) n pos) (tD C (dFldE ff i n)) := by
  by_cases hc : ∃ c, cls = .ref (He.ga X.K c) ∧ ff c n = true
  · obtain ⟨c, ec, hb⟩ := hc
    obtain ⟨F1, F2⟩ := hff c n hb
    subst ec
    have hv1 : PE (X.suite a ((a, oe) :: pn)) (.Name x p1) (tVar i) := pe_var hN hv hd hcd
    refine (pe_xf F1 F2 hz hf hv1).imp fun σ H Q ⟨G, m, env, st, R, h⟩ => ?_
    unfold dFldE at h
    split at h
    · rename_i c' fs he
      obtain ⟨v, h1, h2, h3, h4⟩ := R.slot i _ he
      rw [hx] at h2 h3 h4
      subst h2
      split at h
      · obtain ⟨z, hz2, h5⟩ := h.opt
        refine ⟨.ref a, h1, rfl, rfl, ?_⟩
        rcases h4 with ⟨e, _⟩ | ⟨dx, fvs, y1, y2, y3, y4, y5⟩
        · subst e; cases hz2
        · obtain ⟨v, hv, rv⟩ := look_rep y4 y5 hz2
          exact ⟨dx, fvs, v, y1, y3, hv, h5.here R v rv⟩
      · exact h.elim
    · exact h.elim
  · refine ⟨fun pins s σ H Q I ⟨G, m, env, st, R, h⟩ => ?_⟩
    exfalso
    unfold dFldE at h
    split at h
    · rename_i c' fs he
      obtain ⟨v, h1, h2, h3, h4⟩ := R.slot i _ he
      rw [hx] at h3
      split at h
      · rename_i hb
        exact hc ⟨c', by rw [← hK]; exact h3, hb⟩
      · exact h
    · exact h
end
end
end DI


/-! DI18: told(lambda: ..) -/
namespace DI
open PySem PySem.Spec PyProof.Rows L2

def spR (T : List (Addr × Str)) (K : PySem.W.Frag) (G : Hp) (m : List Addr) (H : Hp) (r : Res D) (Q : VK) (E : XK) : Prop := match r with
  | .ok d st' => ∀ G' m' H' v, Ext G m H G' m' H' → W0 T K st' G' m' H' → Rep K G' m' v d → Q v H'
  | .ex c fs st' => ∀ G' m' H' cls dd, Ext G m H G' m' H' → W0 T K st' G' m' H' → ExAt K G' m' H' c fs cls dd → E cls dd H'
  | .stuck => False
abbrev Told := Res D → Res D
def TTd (T : List (Addr × Str)) (K : PySem.W.Frag) (td : Told) : (XK → Hp → VK → Prop) → Hp → VK → Prop := fun tl H Q => ∃ G m st r, W0 T K st G m H ∧ (∀ E Q', spR T K G m H r Q' E → tl E H Q') ∧ spR T K G m H (td r) Q (fun _ _ _ => False)
def dTell (td : Told) (f : DF) : DF := fun env st => match td (f env st) with
  | .ok d st => .ok d st
  | _ => .stuck
theorem ext_N {G H H1 : Hp} {m : List Addr} (e : LamX.ExtN H H1) : Ext G m H G m H1 := ⟨Same.refl _, fun a o h _ t => e a o h t, fun a ⟨o, h, t⟩ => ⟨o, e a o h t, t⟩, fun _ _ => rfl, ⟨[], by simp⟩, fun _ h => .inl h⟩
theorem w0_N {T : List (Addr × Str)} {K : PySem.W.Frag} {st : Store} {G H H1 : Hp} {m : List Addr} (w : W0 T K st G m H) (e : LamX.ExtN H H1) (t : LamX.Tabs T H1) : W0 T K st G m H1 :=
  ⟨fun a u h => e a u (w.gh a u h) (fun ps z => w.nt a ps (by rw [h, z])), w.nt, w.len, w.nd, fun i o a h1 h2 => by
    have x := w.store i o a h1 h2
    cases o with
    | lst es =>
      obtain ⟨g, us, h, r⟩ := x
      exact ⟨g, us, e _ _ h (fun _ z => by cases z), r⟩
    | ins Cn fs =>
      obtain ⟨g, dx, fvs, h, g2, n2, h2, h3, r⟩ := x
      exact ⟨g, dx, fvs, e _ _ h (fun _ z => by cases z), g2, n2, e _ _ h2 (fun _ z => by cases z), h3, r⟩, t⟩
section
variable {C : Ct} {X : Cx} {f : DF} {td : Told}
theorem told_read {H : Hp} {σ : L2.St} {Q : VK} (h : tD C (dTell td f) σ H Q) : LamX.tLam C.T (TTd C.T C.K td) (fun E => tD ⟨C.B, C.T, C.K, E⟩ f) σ H Q := by
  obtain ⟨G, m, env, st, R, h⟩ := h
  refine ⟨R.w.tabs, fun H1 eN T1 => ?_⟩
  have E1 : Ext G m H G m H1 := ext_N eN
  have w1 := w0_N R.w eN T1
  have R1 := R.ext E1 w1
  refine ⟨G, m, st, f env st, w1, fun E Q' hs => ⟨G, m, env, st, R1, ?_⟩, ?_⟩
  · cases hr : f env st with
    | stuck => rw [hr] at hs; exact hs
    | ex c fs st' => rw [hr] at hs; exact fun G' m' H' cls dd e R' x => hs G' m' H' cls dd e R'.w x
    | ok d st' => rw [hr] at hs; exact fun G' m' H' e R' v rv => hs G' m' H' v e R'.w rv
  · have h2 := Aft.frm h E1
    unfold dTell at h2
    cases hr : td (f env st) with
    | stuck => rw [hr] at h2; exact h2.elim
    | ex c fs st' => rw [hr] at h2; exact h2.elim
    | ok d st' => rw [hr] at h2; exact fun G' m' H' v e w rv => h2 G' m' H' e (R1.ext e w) v rv
/-- told(lambda: body) -/
theorem e_told {x a : Str} {g c P : Addr} {k : Nat} {pg : Arguments} {bg : List Stmt} {sg : Scope} {fd : FuncData} {Ng : List Str} {params : Arguments} {body : Expr} {scope : Scope} {p lpos pos : Pos}
    (hm : X.mg x = some (.ref g)) (F0 : FunD X.K x x pg bg sg [] [] g fd) (hb : L2.Binds X.K fd [a] []) (Sg : FnScope Ng [a] sg) (hNg : Ng[0]? = some a) (hva : Vis sg a)
    (hG : LamX.GivesTo X Ng x sg g (fd.code) bg a (X.env.qual ++ "<lambda>") (TTd C.T C.K td))
    (TB : LamX.TabB X.base X.mg c P) (hcode : X.env.code = .ref c) (hmT : (P, X.env.qual ++ "<lambda>") ∈ C.T) (hu : ∀ p ∈ C.T, p.1 = P → p.2 = X.env.qual ++ "<lambda>") (hr : Room (k + 2) X.A) (L : LamX.LamS X.env.scope scope) (hdef : defaultsOf params X.env = ([], []))
    (hbind : ∀ (q : Str) (cl : List (Str × Addr)) (pm cv ctv : Value), bindArgs (PySem.W.kla_fn "<lambda>" q params body scope cl pm cv ctv) ⟨[], []⟩ = pure [])
    (hbody : ∀ (A : Around) (outer : List Env) (s : Shared) (H : Hp) (E : XK) (f' c' : Addr), Room k (A.deeper (LamX.lamEnv X scope s.heap.objs.size f' c')) → PE (LamX.lamCx X A outer s H E scope f' c') body (tD ⟨C.B, C.T, C.K, E⟩ f))
    (hg : Gl X x := by rfl) (hdb : (x == ("__debug__" : Str)) = false := by rfl) (hd : (a == ("__debug__" : Str)) = false := by rfl) (hcd : (a == ("__classdict__" : Str)) = false := by rfl) :
    PE X (.Call (.Name x p) [.Lambda params body scope lpos] [] pos) (tD C (dTell td f)) := by
  obtain ⟨oc, od, dV, kV, doc, pm, an, cdv, ct, osl, efd, lk, hcg, _, _⟩ := F0.ex
  subst efd
  exact (LamX.pe_lamcall hg hm F0.kp lk hcg hb Sg hNg hva hG TB hcode hmT hu hr L hdef hbind hbody hdb hd hcd).imp fun σ H Q h => told_read h
end

/-! #### the defs that call what they get -/
def runS (N : Nat) (body : DS) (env : DEnv) (st : Store) : Res D := (body env st).bind fun fl st => match fl with
  | .rt d => .ok d st
  | _ => .stuck
def envS (N i : Nat) (c : Str) (fs : List (Str × D)) : DEnv := (List.replicate N none).set i (some (.exc c fs))
/-- try: return work() / except FE as e: suite -/
def tdA (sb : SubT) (FE : Str) (N i : Nat) (suite : DS) : Told := fun r => match r with
  | .ok d st => .ok d st
  | .ex c fs st => match sb c FE with
    | some true => runS N suite (envS N i c fs) st
    | _ => .stuck
  | .stuck => .stuck
/-- try: work() / except FE as e: suite; rest -/
def tdB (sb : SubT) (FE : Str) (N i : Nat) (suite rest : DS) : Told := fun r => match r with
  | .ok _ st => runS N rest (List.replicate N none) st
  | .ex c fs st => match sb c FE with
    | some true => runS N suite (envS N i c fs) st
    | _ => .stuck
  | .stuck => .stuck
theorem takes_len {X : Cx} {W : WX} (t : Takes X W) : Takes X (fun cls d σ H => (σ : List (Option V)).length = X.N.length → W cls d σ H) := fun u s' x => by
  obtain ⟨a, B, sI, pins, σ, H, cls, d, e, I, nb, up, sky, na, os, ag, w⟩ := x
  exact t u s' ⟨a, B, sI, pins, σ, H, cls, d, e, I, nb, up, sky, na, os, ag, w I.len⟩
theorem rel_none {B : Bs} {T : List (Addr × Str)} {K : PySem.W.Frag} {st : Store} {G H : Hp} {m : List Addr} {σ : L2.St} {n : Nat} (w : W0 T K st G m H) (e : Ext B.G B.m B.H G m H) (hl : (σ : List (Option V)).length = n) : Rel B T K (List.replicate n none) st G m σ H := by
  have no : ∀ (i : Nat) (s : Slot), (List.replicate n (none : Option Slot))[i]? ≠ some (some s) := fun i s h => by
    rw [List.getElem?_replicate] at h
    split at h <;> cases h
  exact ⟨w, e, fun i s h => absurd h (no i s), fun i j d e a h => absurd h (no i _), fun i d a h => absurd h (no i _), by rw [List.length_replicate, hl]⟩
theorem rel_exc {B : Bs} {T : List (Addr × Str)} {K : PySem.W.Frag} {st : Store} {G H : Hp} {m : List Addr} {σ : L2.St} {n i : Nat} {c : Str} {fs : List (Str × D)} (w : W0 T K st G m H) (e : Ext B.G B.m B.H G m H) (hl : (σ : List (Option V)).length = n)
    (hc : B.x.c = .ref (He.ga K c)) (hx : XcAt K G m H fs B.x.d) : Rel B T K (envS n i c fs) st G m ((σ : List (Option V)).set i (some (.ref B.x.a))) H := by
  have R := (rel_none (T := T) (K := K) w e hl).put i (v := .ref B.x.a) (s := .exc c fs) ⟨rfl, hc, hx⟩ (fun _ _ z => by cases z)
  exact R
section
variable {X : Cx} {T : List (Addr × Str)} {Ng : List Str} {x a n FE q : Str} {sg : Scope} {g : Addr} {cdg : Value} {i : Nat} {np p1 p2 p3 p4 p5 pos pos' : Pos} {b0 : Stmt} {suite rest : List Stmt} {sb : SubT} {ds dr : DS}
theorem gives_A (hN : Ng.Nodup) (hi : Ng[i]? = some n) (hln : sg.names.lookup n = some .local) (h0 : i ≠ 0) (hgF : sg.names.lookup FE = some .globalImplicit) (hdF : (FE == ("__debug__" : Str)) = false) (hmF : X.mg FE = some (.ref (He.ga X.K FE)))
    (hsx : ∀ c, sb c FE = some true → PySem.W.exmOne X.K (.ref (He.ga X.K c)) (.ref (He.ga X.K FE)) = some true) (hst : ∀ f : Addr, (L2.start Ng [V.ref f])[0]? = some (some (V.ref f))) (hlen : ∀ f : Addr, (L2.start Ng [V.ref f] : List (Option V)).length = Ng.length)
    (hsu : ∀ (s : Shared) (H : Hp) (B : Bs) (aa : Addr) (oe : Obj) (cls : Value) (d : Option Addr) (pn : List (Addr × Obj)), Zc cls d oe → (∃ vs, oe.data = .fields vs) → B.x = ⟨aa, d, cls⟩ →
      PSs ((cxOf C8.CX0 X.prog X.w X.K X.mg X.base Ng x sg g cdg X.A X.stack s H C8.E0).nox.suite aa ((aa, oe) :: pn)) (b0 :: suite) (tS ⟨B, T, X.K, fun _ _ _ => False⟩ ds)) :
    LamX.GivesTo X Ng x sg g cdg [.Try [.Return (some (.Call (.Name a p1) [] [] p2)) p3] [.ExceptHandler (some (.Name FE np)) (some n) (b0 :: suite) pos'] [] [] pos] a q (TTd T X.K (tdA sb FE Ng.length i ds)) := by
  intro f c' s H Q tl act hc hTT
  obtain ⟨G, m, st, r, w, htl, hsp⟩ := hTT
  refine ⟨_, pss_one (ps_try_as (X := (cxOf C8.CX0 X.prog X.w X.K X.mg X.base Ng x sg g cdg X.A X.stack s H C8.E0).nox) (c := .ref (He.ga X.K FE)) (Wout := fun _ _ _ _ => False)
    (tb := fun W D σ H' => ∃ Ech : XK, (∀ cls d σ' H', Ech cls d H' → (σ' : List (Option V)).length = Ng.length → W cls d σ' H') ∧ σ[0]? = some (some (.ref f)) ∧ H' c' = some (LamX.CodeO c' q) ∧ tl Ech H' D.rt)
    (ts := fun aa cls d => tS ⟨⟨G, m, H, ⟨aa, d, cls⟩⟩, T, X.K, fun _ _ _ => False⟩ ds) rfl rfl hN hi hln ⟨hgF, hdF, .inl hmF⟩ LamX.takes0 (fun W pn xe tk _ => ?_) (fun aa oe cls d pn hz hf => hsu s H _ aa oe cls d pn hz hf rfl)), ?_⟩
  · refine ⟨fun pins s' σ H' D I h' => ?_⟩
    obtain ⟨Ech, hW, h1, h2, h3⟩ := h'
    have hp := act _ pn xe Ech p1 p2 (takes_len tk) (fun cls d σ' H' e hl => hW cls d σ' H' e hl)
    exact (pss_one (ps_ret (pos := p3) hp)).run pins s' σ H' D I ⟨h1, h2, h3⟩
  · refine ⟨fun cls d H' => ∀ σ' : L2.St, (σ' : List (Option V)).length = Ng.length → wAs X.K (.ref (He.ga X.K FE)) i (fun aa cls d => tS ⟨⟨G, m, H, ⟨aa, d, cls⟩⟩, T, X.K, fun _ _ _ => False⟩ ds) (fun _ _ _ _ => False) { nx := fun _ H' => Q .non H', rt := Q } cls d σ' H',
      fun cls d σ' H' h hl => h σ' hl, hst f, hc, htl _ _ ?_⟩
    cases r with
    | stuck => exact hsp.elim
    | ok d st' => exact hsp
    | ex c fs st' =>
      intro G' m' H' cls dd e w' x σ' hl
      unfold tdA at hsp
      dsimp only at hsp
      split at hsp
      · rename_i hsb
        obtain ⟨ec, hx⟩ := x
        refine ⟨true, by rw [ec]; exact hsx c hsb, fun _ aa ha => ?_, fun z => by cases z⟩
        refine ⟨G', m', _, st', rel_exc (B := ⟨G, m, H, ⟨aa, dd, cls⟩⟩) w' e hl ec hx, ?_⟩
        unfold runS at hsp
        cases hr : ds (envS Ng.length i c fs) st' with
        | stuck => rw [hr] at hsp; exact hsp.elim
        | ex c2 fs2 st2 => rw [hr] at hsp; exact fun G2 m2 H2 cls2 dd2 e2 x2 => hsp G2 m2 H2 cls2 dd2 e2.2 e2.1 x2
        | ok fl st2 =>
          rw [hr] at hsp
          cases fl with
          | rt d => exact fun G2 m2 H2 v e2 rv => hsp G2 m2 H2 v e2.2 e2.1 rv
          | _ => exact hsp.elim
      · exact hsp.elim
theorem gives_B (hN : Ng.Nodup) (hi : Ng[i]? = some n) (hln : sg.names.lookup n = some .local) (h0 : i ≠ 0) (hgF : sg.names.lookup FE = some .globalImplicit) (hdF : (FE == ("__debug__" : Str)) = false) (hmF : X.mg FE = some (.ref (He.ga X.K FE)))
    (hsx : ∀ c, sb c FE = some true → PySem.W.exmOne X.K (.ref (He.ga X.K c)) (.ref (He.ga X.K FE)) = some true) (hst : ∀ f : Addr, (L2.start Ng [V.ref f])[0]? = some (some (V.ref f))) (hlen : ∀ f : Addr, (L2.start Ng [V.ref f] : List (Option V)).length = Ng.length)
    (hsu : ∀ (s : Shared) (H : Hp) (B : Bs) (aa : Addr) (oe : Obj) (cls : Value) (d : Option Addr) (pn : List (Addr × Obj)), Zc cls d oe → (∃ vs, oe.data = .fields vs) → B.x = ⟨aa, d, cls⟩ →
      PSs ((cxOf C8.CX0 X.prog X.w X.K X.mg X.base Ng x sg g cdg X.A X.stack s H C8.E0).nox.suite aa ((aa, oe) :: pn)) (b0 :: suite) (tS ⟨B, T, X.K, fun _ _ _ => False⟩ ds))
    (hre : ∀ (s : Shared) (H : Hp) (B : Bs), PSs (cxOf C8.CX0 X.prog X.w X.K X.mg X.base Ng x sg g cdg X.A X.stack s H C8.E0).nox rest (tS ⟨B, T, X.K, fun _ _ _ => False⟩ dr)) :
    LamX.GivesTo X Ng x sg g cdg (.Try [.Expr (.Call (.Name a p1) [] [] p2) p3] [.ExceptHandler (some (.Name FE np)) (some n) (b0 :: suite) pos'] [] [] pos :: rest) a q (TTd T X.K (tdB sb FE Ng.length i ds dr)) := by
  intro f c' s H Q tl act hc hTT
  obtain ⟨G, m, st, r, w, htl, hsp⟩ := hTT
  refine ⟨_, pss_cons (ps_try_as (X := (cxOf C8.CX0 X.prog X.w X.K X.mg X.base Ng x sg g cdg X.A X.stack s H C8.E0).nox) (c := .ref (He.ga X.K FE)) (Wout := fun _ _ _ _ => False)
    (tb := fun W D σ H' => ∃ Ech : XK, (∀ cls d σ' H', Ech cls d H' → (σ' : List (Option V)).length = Ng.length → W cls d σ' H') ∧ σ[0]? = some (some (.ref f)) ∧ H' c' = some (LamX.CodeO c' q) ∧ tl Ech H' (fun _ H1 => D.nx σ H1))
    (ts := fun aa cls d => tS ⟨⟨G, m, H, ⟨aa, d, cls⟩⟩, T, X.K, fun _ _ _ => False⟩ ds) rfl rfl hN hi hln ⟨hgF, hdF, .inl hmF⟩ LamX.takes0 (fun W pn xe tk _ => ?_) (fun aa oe cls d pn hz hf => hsu s H _ aa oe cls d pn hz hf rfl)) (hre s H ⟨G, m, H, {}⟩), ?_⟩
  · refine ⟨fun pins s' σ H' D I h' => ?_⟩
    obtain ⟨Ech, hW, h1, h2, h3⟩ := h'
    have hp := act _ pn xe Ech p1 p2 (takes_len tk) (fun cls d σ' H' e hl => hW cls d σ' H' e hl)
    exact (pss_one (ps_expr (pos := p3) hp)).run pins s' σ H' D I ⟨h1, h2, h3⟩
  · let D0 : Ends := { nx := fun _ H' => Q .non H', rt := Q }
    refine ⟨fun cls d H' => ∀ σ' : L2.St, (σ' : List (Option V)).length = Ng.length → wAs X.K (.ref (He.ga X.K FE)) i (fun aa cls d => tS ⟨⟨G, m, H, ⟨aa, d, cls⟩⟩, T, X.K, fun _ _ _ => False⟩ ds) (fun _ _ _ _ => False) { D0 with nx := tS ⟨⟨G, m, H, {}⟩, T, X.K, fun _ _ _ => False⟩ dr D0 } cls d σ' H',
      fun cls d σ' H' h hl => h σ' hl, hst f, hc, htl _ _ ?_⟩
    cases r with
    | stuck => exact hsp.elim
    | ok d st' =>
      intro G' m' H' v e w' rv
      refine ⟨G', m', _, st', rel_none (B := ⟨G, m, H, {}⟩) w' e (hlen f), ?_⟩
      unfold tdB runS at hsp
      dsimp only at hsp
      cases hr : dr (List.replicate Ng.length none) st' with
      | stuck => rw [hr] at hsp; exact hsp.elim
      | ex c2 fs2 st2 => rw [hr] at hsp; exact fun G2 m2 H2 cls2 dd2 e2 x2 => hsp G2 m2 H2 cls2 dd2 e2.2 e2.1 x2
      | ok fl st2 =>
        rw [hr] at hsp
        cases fl with
        | rt d => exact fun G2 m2 H2 v e2 rv => hsp G2 m2 H2 v e2.2 e2.1 rv
        | _ => exact hsp.elim
    | ex c fs st' =>
      intro G' m' H' cls dd e w' x σ' hl
      unfold tdB at hsp
      dsimp only at hsp
      split at hsp
      · rename_i hsb
        obtain ⟨ec, hx⟩ := x
        refine ⟨true, by rw [ec]; exact hsx c hsb, fun _ aa ha => ?_, fun z => by cases z⟩
        refine ⟨G', m', _, st', rel_exc (B := ⟨G, m, H, ⟨aa, dd, cls⟩⟩) w' e hl ec hx, ?_⟩
        unfold runS at hsp
        cases hr : ds (envS Ng.length i c fs) st' with
        | stuck => rw [hr] at hsp; exact hsp.elim
        | ex c2 fs2 st2 => rw [hr] at hsp; exact fun G2 m2 H2 cls2 dd2 e2 x2 => hsp G2 m2 H2 cls2 dd2 e2.2 e2.1 x2
        | ok fl st2 =>
          rw [hr] at hsp
          cases fl with
          | rt d => exact fun G2 m2 H2 v e2 rv => hsp G2 m2 H2 v e2.2 e2.1 rv
          | _ => exact hsp.elim
      · exact hsp.elim
end
end DI


/-! DI19: lists for the store, tables of classes, a law's end -/
namespace DI
open PySem PySem.Spec PyProof.Rows L2

section
variable {P : Program} {w : World} {K : PySem.W.Frag} {mg : Str → Option Value} {base : Heap} {T : List (Addr × Str)}
/-- fn_di, the code object known -/
theorem fn_diC {CX : CXT} {x qual : Str} {params : Arguments} {body : List Stmt} {scope : Scope} {f : Addr} {fd : FuncData} {N ps : List Str} {k : Nat} {d : DS} (F : FunD K x qual params body scope [] [] f fd) (S : FnScope N ps scope)
    (hb : ∀ (A : Around) (outer : List Env) (s : Shared) (H : Hp) (E : XK) (B : Bs), Room k (A.deeper (envOfC qual scope s.heap.objs.size f fd.code)) → PSs (cxOf CX P w K mg base N qual scope f fd.code A outer s H E) body (tS ⟨B, T, K, E⟩ d)) :
    FnOk P w K mg base CX (k + 1) f fd ps (spD T K (runD N.length ps.length d)) := by
  have hlen : ∀ vs H Q E, spD T K (runD N.length ps.length d) vs H Q E → vs.length = ps.length := fun vs H Q E ⟨G, m, st, ds, w0, r, h⟩ => by
    rw [r.length]
    refine runD_len (N := N.length) (body := d) (st := st) fun z => ?_
    rw [z] at h
    exact h
  obtain ⟨oc, od, dV, kV, doc, pm, an, cdv, ct, osl, rfl, lk, hcd, _, _⟩ := F.ex
  refine fn_of lk hcd S hlen fun A outer s H vs Q E hr h => ?_
  have hl := hlen vs H Q E h
  obtain ⟨G, m, st, ds, w0, r, h⟩ := h
  have hN : ps.length ≤ N.length := by have := congrArg List.length S.pre; rw [List.length_take] at this; omega
  refine ⟨_, hb A outer s H E ⟨G, m, H, {}⟩ hr, G, m, _, st, rel_start hN (by rw [← r.length]; exact hl) w0 r, ?_⟩
  unfold runD at h
  rw [if_pos (by rw [← r.length]; exact hl)] at h
  cases hr : d (env0 N.length ps.length ds) st with
  | stuck => rw [hr] at h; exact h
  | ex c fs st' => rw [hr] at h; exact fun G' m' H' cls dd e => h G' m' H' cls dd e.2 e.1
  | ok fl st' =>
    rw [hr] at h
    cases fl with
    | nx e => exact fun G' m' σ' H' _ R => h G' m' H' .non R.base R.w .non
    | rt d => exact fun G' m' H' v e rv => h G' m' H' v e.2 e.1 rv
    | bk e => exact h.elim
    | ct e => exact h.elim
end
/-- name = a new list that is the store's from now on -/
def sNew (i : Nat) (f : DF) : DS := fun env st => (f env st).bind fun d st => match d with
  | .lst ds => .ok (.nx (env.set i (some (.sh (.obj st.length))))) (st ++ [.lst ds])
  | _ => .stuck
section
variable {C : Ct} {X : Cx} {pos : Pos} {e : Expr} {f : DF}
theorem s_new {i : Nat} {x : Str} {p : Pos} (hN : X.N.Nodup) (hi : X.N[i]? = some x) (hx : L2.Loc X.env.scope x) (he : PE X e (tF C f)) (hs : swapsWith e (some (.Name x p)) pos.line X.env = pure false) (hf : X.fn x = true ∨ X.env.scope.names.lookup x = some .local) :
    PS X (.Assign [.Name x p] e pos) (tS C (sNew i f)) := (ps_set hN hi hx he hs hf).imp fun D σ H ⟨G, m, env, st, R, h⟩ =>
  ⟨G, m, env, st, R, (SAft.aft h).imp fun d st' G' m' H' E' R' h1 a ha o => by
    cases d with
    | lst ds =>
      obtain ⟨g, n, vs, hv, r⟩ := o
      have hm : ∃ t, m' ++ [a] = m' ++ t := ⟨[a], rfl⟩
      have w2 : W0 C.T C.K (st' ++ [.lst ds]) G' (m' ++ [a]) H' := by
        refine ⟨R'.w.gh, R'.w.nt, by rw [List.length_append, List.length_append, R'.w.len]; rfl, ?_, fun k ob b h1 h2 => ?_, R'.w.tabs⟩
        · rw [List.nodup_append]
          exact ⟨R'.w.nd, by simp, fun x hx y hy e => n (by simp at hy; rw [← hy, ← e]; exact hx)⟩
        · have lift : ∀ {b : Addr} {ob : DObj}, ObjAt C.K G' m' H' b ob → b ≠ a → (∀ dx, H' dx = some (.own b) → dx ≠ a) → ObjAt C.K G' (m' ++ [a]) H' b ob := fun {b ob} x hb hdx => by
            cases ob with
            | lst es =>
              obtain ⟨g, us, h, r⟩ := x
              exact ⟨g, us, h, r.mono (Same.refl _) hm⟩
            | ins Cn fs =>
              obtain ⟨g, dx, fvs, h, g2, n2, h2, h3, r⟩ := x
              refine ⟨g, dx, fvs, h, g2, fun z => ?_, h2, h3, r.mono (Same.refl _) hm⟩
              rcases List.mem_append.mp z with z | z
              · exact n2 z
              · exact hdx dx h2 (by simpa using z)
          by_cases hk : k < st'.length
          · rw [List.getElem?_append_left hk] at h1
            rw [List.getElem?_append_left (by rw [R'.w.len]; exact hk)] at h2
            refine lift (R'.w.store k ob b h1 h2) (fun z => n (z ▸ List.mem_of_getElem? h2)) (fun dx h z => ?_)
            rw [z, hv] at h
            cases h
          · rw [List.getElem?_append_right (by omega)] at h1
            rw [List.getElem?_append_right (by rw [R'.w.len]; omega), R'.w.len] at h2
            cases hz : k - st'.length with
            | zero =>
              rw [hz] at h1 h2
              cases h1
              cases h2
              exact ⟨g, vs, hv, r.mono (Same.refl _) hm⟩
            | succ j => rw [hz] at h1; simp at h1
      have gx : Gx G' m' G' (m' ++ [a]) := ⟨Same.refl _, hm⟩
      have E2 : Ext C.B.G C.B.m C.B.H G' (m' ++ [a]) H' := by
        refine ⟨R'.base.gg, R'.base.hh, R'.base.th, R'.base.new, ?_, fun x hx => ?_⟩
        · obtain ⟨t, e⟩ := R'.base.mm
          exact ⟨t ++ [a], by rw [e, List.append_assoc]⟩
        · rcases List.mem_append.mp hx with z | z
          · exact R'.base.mn x z
          · have e : x = a := by simpa using z
            subst e
            exact .inr fun z => ha (R.base.th x z)
      -- the own lists are other ones
      have R2 : Rel C.B C.T C.K env (st' ++ [.lst ds]) G' (m' ++ [a]) σ H' := by
        refine ⟨w2, E2, fun j s h => ?_, R'.sep, R'.own, R'.len⟩
        obtain ⟨v, h1, h2⟩ := R'.slot j s h
        refine ⟨v, h1, ?_⟩
        cases s with
        | sh d => obtain ⟨x, h3, r⟩ := h2; exact ⟨x, h3, r.mono (Same.refl _) hm⟩
        | ow d =>
          obtain ⟨b, e2, o⟩ := h2
          refine ⟨b, e2, ?_⟩
          have hb : b ≠ a := fun z => by
            obtain ⟨v0, h3, h4⟩ := R.slot j _ h
            rw [h1] at h3
            cases h3
            obtain ⟨b', e3, o'⟩ := h4
            rw [e2] at e3
            cases e3
            exact ha (z ▸ o'.there)
          cases d with
          | lst es =>
            obtain ⟨g, n2, us, hu, r⟩ := o
            refine ⟨g, fun z => ?_, us, hu, r.mono (Same.refl _) hm⟩
            rcases List.mem_append.mp z with z | z
            · exact n2 z
            · exact hb (by simpa using z)
          | _ => exact False.elim o
        | exc c fs =>
          obtain ⟨e1, hc, x⟩ := h2
          refine ⟨e1, hc, ?_⟩
          rcases x with x | ⟨dx, fvs, y1, y2, y3, y4, y5⟩
          · exact .inl x
          · refine .inr ⟨dx, fvs, y1, fun z => ?_, y3, y4, y5.mono (Same.refl _) hm⟩
            rcases List.mem_append.mp z with z | z
            · exact y2 z
            · have e : dx = a := by simpa using z
              rw [e, hv] at y3
              cases y3
      have R3 := R2.putSh i (v := .ref a) (d := .obj st'.length) (.obj (by
        rw [List.getElem?_append_right (by rw [R'.w.len]; exact Nat.le_refl _), R'.w.len, Nat.sub_self]
        rfl))
      exact h1 G' (m' ++ [a]) _ H' gx R3
    | _ => exact h1.elim⟩
end

/-! #### tables of classes -/
def sbOf (l : List ((Str × Str) × Bool)) : SubT := fun c T => (l.find? fun e => e.1.1 == c && e.1.2 == T).map (·.2)
def ffOf (l : List (Str × Str)) : Str → Str → Bool := fun c n => l.any fun e => e.1 == c && e.2 == n
def excCB (K : PySem.W.Frag) (D : Addr) : Bool :=
  decide (PySem.W.findIn K (.ref D) "__getattribute__" = some (some (.builtin "BaseException.__getattribute__"))) && (decide (PySem.W.findIn K (.ref D) "__getattr__" = some none) && (decide (PySem.W.subIn K (.ref D) (.type "BaseException") = some true) && (PySem.W.hasDictIn K D &&
  (decide (PySem.W.findIn K (.ref D) "__class__" = some (some (.builtin "object.__class__"))) && (decide (PySem.W.specialIn K (.builtin "object.__class__") "__get__" = some (some (.builtin "getset_descriptor.__get__"))) && (decide (PySem.W.takesIn K (.builtin "object.__class__") = some true) && decide (PySem.W.mroIn K D (.type "object") = some true)))))))
theorem excCB_ok {K : PySem.W.Frag} {D : Addr} (h : excCB K D = true) : ExcC K D := by
  unfold excCB at h
  simp only [Bool.and_eq_true, decide_eq_true_eq] at h
  obtain ⟨h1, h2, h3, h4, h5, h6, h7, h8⟩ := h
  exact ⟨h1, h2, h3, h4, h5, h6, h7, h8⟩
def sbB (K : PySem.W.Frag) (l : List ((Str × Str) × Bool)) : Bool := l.all fun e => excCB K (He.ga K e.1.1) && decide (PySem.W.kitOne K (.ref (He.ga K e.1.1)) (.ref (He.ga K e.1.2)) = some e.2)
theorem sb_ok {K : PySem.W.Frag} {l : List ((Str × Str) × Bool)} (h : sbB K l = true) : ∀ c T b, sbOf l c T = some b → ExcC K (He.ga K c) ∧ PySem.W.kitOne K (.ref (He.ga K c)) (.ref (He.ga K T)) = some b := fun c T b hb => by
  obtain ⟨e, he, rfl⟩ := Option.map_eq_some_iff.mp hb
  have hm := List.mem_of_find?_eq_some he
  have hp := List.find?_some he
  simp only [Bool.and_eq_true] at hp
  have e1 := eq_of_beq hp.1
  have e2 := eq_of_beq hp.2
  have z := List.all_eq_true.mp h e hm
  simp only [Bool.and_eq_true, decide_eq_true_eq] at z
  rw [e1, e2] at z
  exact ⟨excCB_ok z.1, z.2⟩
def ffB (K : PySem.W.Frag) (l : List (Str × Str)) : Bool := l.all fun e => xfB K (He.ga K e.1) && decide (PySem.W.findIn K (.ref (He.ga K e.1)) e.2 = some none)
theorem ff_ok {K : PySem.W.Frag} {l : List (Str × Str)} (h : ffB K l = true) : ∀ c n, ffOf l c n = true → XfC K (He.ga K c) ∧ PySem.W.findIn K (.ref (He.ga K c)) n = some none := fun c n hb => by
  obtain ⟨e, hm, hp⟩ := List.any_eq_true.mp hb
  simp only [Bool.and_eq_true] at hp
  have e1 := eq_of_beq hp.1
  have e2 := eq_of_beq hp.2
  have z := List.all_eq_true.mp h e hm
  simp only [Bool.and_eq_true, decide_eq_true_eq] at z
  rw [e1, e2] at z
  exact ⟨xfB_ok z.1, z.2⟩
def exmB (K : PySem.W.Frag) (l : List ((Str × Str) × Bool)) (FE : Str) : Bool := l.all fun e => !(e.1.2 == FE && e.2) || decide (PySem.W.exmOne K (.ref (He.ga K e.1.1)) (.ref (He.ga K FE)) = some true)
theorem exm_ok {K : PySem.W.Frag} {l : List ((Str × Str) × Bool)} {FE : Str} (h : exmB K l FE = true) : ∀ c, sbOf l c FE = some true → PySem.W.exmOne K (.ref (He.ga K c)) (.ref (He.ga K FE)) = some true := fun c hb => by
  obtain ⟨e, he, h2⟩ := Option.map_eq_some_iff.mp hb
  have hm := List.mem_of_find?_eq_some he
  have hp := List.find?_some he
  simp only [Bool.and_eq_true] at hp
  have e1 := eq_of_beq hp.1
  have e2 := eq_of_beq hp.2
  have z := List.all_eq_true.mp h e hm
  rw [h2, e2, e1] at z
  simpa using z
end DI
namespace DI
open PySem PySem.Spec PyProof.Rows L2
theorem lam_passes {X : Cx} {A : Around} {outer : List Env} {s : Shared} {H : Hp} {E : XK} {scope : Scope} {f c' : Addr} : Passes (L2.CX X.prog X.w) (LamX.lamCx X A outer s H E scope f c') E :=
  passes_call (takes_of (X := LamX.lamCx X A outer s H E scope f c') rfl rfl rfl rfl) (fun _ _ _ _ h => h)
end DI


/-! DI20: what the head tells of the classes; the Hook -/
namespace DI
open PySem PySem.Spec PyProof.Rows L2

def oexB (K : PySem.W.Frag) (C : Addr) : Bool := (match K.lookup C with
  | some ⟨.type "type", _, .cls cd, sl⟩ => (match cd.mro, sl.toList with
    | .ref C' :: bm, [_, _, _, _, some (.builtin n), _] => C' == C && (n == "ValueError.__new__" && (!cd.hasDel && (cd.hasDict && PySem.HandSPX.refsVE bm)))
    | _, _ => false)
  | _ => false) && (He.eqO (PySem.W.findIn K (.ref C) "__setattr__") (some (some (.builtin "object.__setattr__"))) && (decide (PySem.W.subIn K (.ref C) (.type "BaseException") = some true) && (decide (PySem.W.typeIn K (.ref C) = some (.type "type")) && PySem.W.keepIn K (.ref C))))
theorem oexB_ok {K : PySem.W.Frag} {C : Addr} (h : oexB K C = true) : OexC K C := by
  unfold oexB at h
  simp only [Bool.and_eq_true, decide_eq_true_eq] at h
  obtain ⟨h1, h2, h3, h4, h5⟩ := h
  refine ⟨?_, He.eqO_ok h2, h3, h4, h5⟩
  split at h1
  · rename_i dd cd sl ho
    split at h1
    · rename_i C' bm k0 k1 k2 k3 n k5 hm hs
      simp only [Bool.and_eq_true, beq_iff_eq, Bool.not_eq_true'] at h1
      obtain ⟨rfl, rfl, hdel, hd, hv⟩ := h1
      obtain ⟨nm, bs, mro, ns, qn, hd', sn, sub, ab, col, del⟩ := cd
      dsimp only at hm hdel hd
      subst hm hdel hd
      have hsl : sl = #[k0, k1, k2, k3, some (.builtin "ValueError.__new__"), k5] := by
        obtain ⟨l⟩ := sl
        simp only at hs
        rw [hs]
      subst hsl
      exact ⟨nm, qn, ns, bs, bm, sn, sub, ab, col, dd, k0, k1, k2, k3, k5, ho, hv⟩
    · cases h1
  · cases h1
/-- a class of the text with its own __init__ that says super() -/
structure SupD where
  cls : Str
  fs : List Str
  params : Arguments
  body : List Stmt
  scope : Scope
abbrev FnS : Type := Option (Str × Str × Arguments × FuncBody × Scope × Addr × List Str × Addr)
def iniA (K : PySem.W.Frag) (x : Str) : Addr := He.ma K (He.ga K x) "__init__"
def fnS (K : PySem.W.Frag) (x : Str) : FnS := match K.lookup (iniA K x) with
  | some ⟨_, _, .func fd, _⟩ => some (fd.name, fd.qualname, fd.params, fd.body, fd.scope, fd.globals, fd.closure.map (·.1), fd.builtins)
  | _ => none
def SupD.q (d : SupD) : Str := d.cls ++ ".__init__"
def SupD.val (d : SupD) : FnS := some ("__init__", d.q, d.params, .stmts d.body, d.scope, mainGlobals, [("__class__" : Str)], builtinsNs)
def cfB (P : Program) (K : PySem.W.Frag) (c : Value) : Bool := match c with
  | .ref c => (match K.lookup c with
    | some ⟨_, _, .fields vs, _⟩ => (match (vs[2]? : Option Value) with
      | some (.str file _) => ((P.main.file : Str) == file)
      | _ => false)
    | _ => false)
  | _ => false
theorem cfB_ok {P : Program} {K : PySem.W.Frag} {v : Value} (h : cfB P K v = true) : ∃ c ccl cdd vs ccs file tf, v = .ref c ∧ K.lookup c = some ⟨ccl, cdd, .fields vs, ccs⟩ ∧ vs[2]? = some (.str file tf) ∧ ((P.main.file : Str) == file) = true := by
  unfold cfB at h
  split at h
  · rename_i c
    split at h
    · rename_i a b vs d lk
      split at h
      · rename_i file tf hvs
        exact ⟨c, a, b, vs, d, file, tf, rfl, lk, hvs, h⟩
      · cases h
    · cases h
  · cases h
def clB (K : PySem.W.Frag) (C : Addr) (cl : List (Str × Addr)) : Bool := match cl with
  | [(_, cc)] => (match K.lookup cc with
    | some ⟨_, _, .cell (some (.ref C')), _⟩ => C' == C
    | _ => false)
  | _ => false
theorem clB_ok {K : PySem.W.Frag} {C : Addr} {cl : List (Str × Addr)} (h : clB K C cl = true) : ∃ n cc a b d, cl = [(n, cc)] ∧ K.lookup cc = some ⟨a, b, .cell (some (.ref C)), d⟩ := by
  unfold clB at h
  split at h
  · rename_i n cc
    split at h
    · rename_i a b C' d lk
      have e : C' = C := by simpa using h
      subst e
      exact ⟨n, cc, a, b, d, rfl, lk⟩
    · cases h
  · cases h
def fdB (P : Program) (K : PySem.W.Frag) (C : Addr) (q : Str) (fd : FuncData) : Bool := decide (fd.defaults = .none) && (PySem.W.codeIn K fd.code q && (cfB P K fd.code && clB K C fd.closure))
def fnB (P : Program) (K : PySem.W.Frag) (C a : Addr) (q : Str) : Bool := match K.lookup a with
  | some ⟨_, _, .func fd, _⟩ => fdB P K C q fd
  | _ => false
def supB (P : Program) (K : PySem.W.Frag) (d : SupD) : Bool := oexB K (He.ga K d.cls) && (fnB P K (He.ga K d.cls) (iniA K d.cls) d.q && ((PySem.W.clsIn K (He.ga K d.cls)).isSome && (decide (PySem.W.mroIn K (He.ga K d.cls) (.ref (He.ga K d.cls)) = some true) && (decide (PySem.W.ks_superIn K (He.ga K d.cls) (He.ga K d.cls) "__init__" = some (some (.builtin "ValueError.__init__"))) &&
    (decide (PySem.W.subIn K (.ref (He.ga K d.cls)) (.type "ValueError") = some true) && (decide (PySem.W.nsIn K cStatics "thirdparty.any" = some none) && (He.eqO (PySem.W.findIn K (.ref (He.ga K d.cls)) "__init__") (some (some (.ref (iniA K d.cls)))) &&
    (decide (PySem.W.typeIn K (.ref (iniA K d.cls)) = some (.type "function")) && d.fs.all fun f => decide (PySem.W.findIn K (.ref (He.ga K d.cls)) f = some none)))))))))
theorem sup_of {P : Program} {K : PySem.W.Frag} {d : SupD} (e : fnS K d.cls = d.val) (h : supB P K d = true) :
    OexC K (He.ga K d.cls) ∧ (∃ (fd : FuncData) (F : NdefX.NF), F.body = d.body ∧ F.scope = d.scope ∧ fd.params = d.params ∧ SupC P K (He.ga K d.cls) (iniA K d.cls) fd F d.params) ∧
      PySem.W.findIn K (.ref (He.ga K d.cls)) "__init__" = some (some (.ref (iniA K d.cls))) ∧ PySem.W.typeIn K (.ref (iniA K d.cls)) = some (.type "function") ∧ ∀ f ∈ d.fs, PySem.W.findIn K (.ref (He.ga K d.cls)) f = some none := by
  unfold supB at h
  simp only [Bool.and_eq_true, decide_eq_true_eq] at h
  obtain ⟨h1, h2, h3, h4, h5, h6, h7, h8, h9, h10⟩ := h
  refine ⟨oexB_ok h1, ?_, He.eqO_ok h8, h9, fun f hf => of_decide_eq_true (List.all_eq_true.mp h10 f hf)⟩
  unfold fnS at e
  unfold fnB at h2
  cases q : K.lookup (iniA K d.cls) with
  | none =>
    rw [q] at h2
    cases h2
  | some o =>
    obtain ⟨oc, od, dt, osl⟩ := o
    rw [q] at h2 e
    cases dt with
    | func fd =>
      have c2 : fdB P K (He.ga K d.cls) d.q fd = true := h2
      unfold fdB at c2
      simp only [Bool.and_eq_true, decide_eq_true_eq] at c2
      obtain ⟨c0, c3, c4, c5⟩ := c2
      obtain ⟨c, ccl, cdd, vs, ccs, file, tf, ec, lkc, hvs, hf⟩ := cfB_ok c4
      obtain ⟨nm, cc, a, b, dd, ecl, lkcc⟩ := clB_ok c5
      obtain ⟨n1, n2, n3, n4, n5, n6, n7, n8, n9, n10, n11, n12, n13, n14, n15⟩ := fd
      dsimp only at ec ecl c3 c0
      subst ec ecl c0
      have e2 : (some (n1, n2, n3, n4, n5, n6, [nm], n15) : FnS) = some (("__init__" : Str), d.q, d.params, FuncBody.stmts d.body, d.scope, mainGlobals, [("__class__" : Str)], builtinsNs) := e
      simp only [Option.some.injEq, Prod.mk.injEq, List.cons.injEq, and_true] at e2
      obtain ⟨y1, y2, y3, y4, y5, y6, y7, y8⟩ := e2
      subst y1 y2 y3 y4 y5 y6 y7 y8
      exact ⟨_, ⟨"__init__", d.q, d.params, d.body, d.scope, [(("__class__" : Str), cc)], c⟩, rfl, rfl, rfl, ⟨⟨oc, od, osl, n9, n10, n11, n12, n14, rfl, q⟩, c3, ⟨ccl, cdd, vs, ccs, file, tf, lkc, hvs, hf⟩, ⟨cc, a, b, dd, rfl, lkcc⟩, Option.isSome_iff_exists.mp h3, h4, h5, h6, h7⟩⟩
    | _ => cases h2

/-! #### the Hook -/
open He in
structure SaysZ (P : Program) (fa : List Fa) (fn : List DefD) (sd : List SupD) (tf : List Defn) (ex : PySem.W.Frag → Bool) (h : Heap) (K : PySem.W.Frag) : Prop where
  d : SaysD fa fn K
  more : ex K = true
  sup : sd.map (fun d => fnS K d.cls) = sd.map SupD.val
  supB : ∀ d ∈ sd, supB P K d = true
  hd : ∀ p ∈ tf, PySem.W.codeHdIn K (cT K p).1 (cT K p).2 = true
  out : ∀ p ∈ tf, K.lookup (cT K p).2 = none
  empty : ∀ p ∈ tf, h.get? (cT K p).2 = some { cls := .none, data := .fields #[] }
abbrev AlZ : Type := He.AlD × (List FnS × Bool)
/-- what is looked at -/
def KZ (n : Nat) (g : Addr → Option Obj) : PySem.W.Frag := He.frT g (He.asD g n ++ [cStatics])
def obsZ (P : Program) (n : Nat) (fa : List He.Fa) (fn : List He.DefD) (sd : List SupD) (tf : List He.Defn) (ex : PySem.W.Frag → Bool) (g : Addr → Option Obj) : AlZ :=
  (He.obsD fa fn (KZ n g), (sd.map fun d => fnS (KZ n g) d.cls, (ex (KZ n g) && (sd.all fun d => supB P (KZ n g) d)) && He.tabsB g tf (KZ n g)))
def valZ (fn : List He.DefD) (sd : List SupD) : AlZ := (He.valD fn, (sd.map SupD.val, true))
theorem saysZ_of {P : Program} {n : Nat} {fa : List He.Fa} {fn : List He.DefD} {sd : List SupD} {tf : List He.Defn} {ex : PySem.W.Frag → Bool} {h : Heap} (e : obsZ P n fa fn sd tf ex h.get? = valZ fn sd) : SaysZ P fa fn sd tf ex h (KZ n h.get?) := by
  have e1 : He.obsD fa fn (KZ n h.get?) = He.valD fn := congrArg (fun z : AlZ => z.1) e
  have e2 : sd.map (fun d => fnS (KZ n h.get?) d.cls) = sd.map SupD.val := congrArg (fun z : AlZ => z.2.1) e
  have e3 : ((ex (KZ n h.get?) && (sd.all fun d => supB P (KZ n h.get?) d)) && He.tabsB h.get? tf (KZ n h.get?)) = true := congrArg (fun z : AlZ => z.2.2) e
  obtain ⟨h1, h2⟩ := He.ba e3
  obtain ⟨h3, h4⟩ := He.ba h1
  have key : ∀ p ∈ tf, PySem.W.codeHdIn (KZ n h.get?) (He.cT (KZ n h.get?) p).1 (He.cT (KZ n h.get?) p).2 = true ∧ ∃ o, h.get? (He.cT (KZ n h.get?) p).2 = some o ∧ He.emptyTab o = true := fun p hp => by
    obtain ⟨h5, h6⟩ := He.ba (List.all_eq_true.mp h2 p hp)
    refine ⟨h5, ?_⟩
    cases q : h.get? (He.cT (KZ n h.get?) p).2 with
    | none =>
      rw [q] at h6
      cases h6
    | some o =>
      rw [q] at h6
      exact ⟨o, rfl, h6⟩
  exact ⟨e1, h3, e2, fun d hd => List.all_eq_true.mp h4 d hd, fun p hp => (key p hp).1, fun p hp => by
    obtain ⟨_, o, q, z⟩ := key p hp
    exact He.frT_none q z, fun p hp => by
    obtain ⟨_, o, q, z⟩ := key p hp
    rw [q, He.emptyTab_eq z]⟩
def hookZ (P : Program) (n : Nat) (fa : List He.Fa) (fn : List He.DefD) (sd : List SupD) (tf : List He.Defn) (ex : PySem.W.Frag → Bool) : PySem.W.Hook where
  α := AlZ
  obs := fun s => obsZ P n fa fn sd tf ex s.heap.get?
  val := fun _ => valZ fn sd
  says := fun _ h => ∃ K : PySem.W.Frag, K.In h ∧ SaysZ P fa fn sd tf ex h K
  of := fun _ _ e => ⟨_, He.frT_in, saysZ_of e⟩
  keeps := fun _ _ _ ⟨K, hK, c⟩ k => ⟨K, PySem.W.Frag.In.keeps hK k, ⟨c.d, c.more, c.sup, c.supB, c.hd, c.out, fun p hp => k _ _ (c.empty p hp)⟩⟩
theorem obsZ_eq {P : Program} {n : Nat} {fa : List He.Fa} {fn : List He.DefD} {sd : List SupD} {tf : List He.Defn} {ex : PySem.W.Frag → Bool} {g : Addr → Option Obj} {s : Shared} (h : ∀ a, g a = s.heap.get? a) : obsZ P n fa fn sd tf ex g = (hookZ P n fa fn sd tf ex).obs s := by
  have e : g = s.heap.get? := funext h
  rw [e] <;> rfl
end DI


namespace My
open PySem PySem.Spec PyProof.Rows L2 DI
def top (i : Nat) : Stmt := PySem.Challenge.pw_shieldforms_k16_texts_refused.main.body.getD i (.Pass ⟨0, 0, 0, 0⟩)
theorem ty_str_split : typeOf (.builtin "str.split") = pure (.type "method_descriptor") := by show builtinType _ = _; rw [builtinType_eq_fast]; kernel_rfl
theorem ty_str_join : typeOf (.builtin "str.join") = pure (.type "method_descriptor") := by show builtinType _ = _; rw [builtinType_eq_fast]; kernel_rfl
theorem ty_str_count : typeOf (.builtin "str.count") = pure (.type "method_descriptor") := by show builtinType _ = _; rw [builtinType_eq_fast]; kernel_rfl
theorem ty_str_index : typeOf (.builtin "str.index") = pure (.type "method_descriptor") := by show builtinType _ = _; rw [builtinType_eq_fast]; kernel_rfl
theorem ty_list_index : typeOf (.builtin "list.index") = pure (.type "method_descriptor") := by show builtinType _ = _; rw [builtinType_eq_fast]; kernel_rfl
theorem ty_list_count : typeOf (.builtin "list.count") = pure (.type "method_descriptor") := by show builtinType _ = _; rw [builtinType_eq_fast]; kernel_rfl

def c_RULES : D := .tup [.str [97, 104, 101, 97, 100], .str [99, 97, 108, 109], .str [102, 108, 97, 116], .str [105, 100, 108, 101], .str [106, 111, 105, 110, 101, 100], .str [110, 111, 110, 101], .str [112, 117, 108, 108, 101, 100], .str [114, 101, 115, 116], .str [115, 104, 105, 101, 108, 100, 115], .str [116, 117, 114, 110, 101, 100]]
def c_NUMBERS : D := .tup [.str [50], .str [51], .str [52], .str [53], .str [54], .str [55], .str [56], .str [57], .str [49, 48], .str [49, 49], .str [49, 50]]
section
variable {P : Program} {w : World} {K : PySem.W.Frag} {mg : Str → Option Value} {base : Heap} {T : List (Addr × Str)} {k : Nat}
def sbL : List ((Str × Str) × Bool) := [((("FormError" : Str), ("FormError" : Str)), true), ((("FormError" : Str), ("InvalidText" : Str)), false), ((("FormError" : Str), ("NotText" : Str)), false), ((("FormError" : Str), ("BadPlan" : Str)), false), ((("FormError" : Str), ("BadRow" : Str)), false), ((("FormError" : Str), ("BadPaper" : Str)), false), ((("BadPlan" : Str), ("FormError" : Str)), true), ((("BadPlan" : Str), ("InvalidText" : Str)), false), ((("BadPlan" : Str), ("NotText" : Str)), false), ((("BadPlan" : Str), ("BadPlan" : Str)), true), ((("BadPlan" : Str), ("BadRow" : Str)), false), ((("BadPlan" : Str), ("BadPaper" : Str)), false), ((("BadRow" : Str), ("FormError" : Str)), true), ((("BadRow" : Str), ("InvalidText" : Str)), false), ((("BadRow" : Str), ("NotText" : Str)), false), ((("BadRow" : Str), ("BadPlan" : Str)), false), ((("BadRow" : Str), ("BadRow" : Str)), true), ((("BadRow" : Str), ("BadPaper" : Str)), false), ((("BadPaper" : Str), ("FormError" : Str)), true), ((("BadPaper" : Str), ("InvalidText" : Str)), false), ((("BadPaper" : Str), ("NotText" : Str)), false), ((("BadPaper" : Str), ("BadPlan" : Str)), false), ((("BadPaper" : Str), ("BadRow" : Str)), false), ((("BadPaper" : Str), ("BadPaper" : Str)), true), ((("NotText" : Str), ("FormError" : Str)), true), ((("NotText" : Str), ("InvalidText" : Str)), false), ((("NotText" : Str), ("NotText" : Str)), true), ((("NotText" : Str), ("BadPlan" : Str)), false), ((("NotText" : Str), ("BadRow" : Str)), false), ((("NotText" : Str), ("BadPaper" : Str)), false), ((("InvalidText" : Str), ("FormError" : Str)), true), ((("InvalidText" : Str), ("InvalidText" : Str)), true), ((("InvalidText" : Str), ("NotText" : Str)), false), ((("InvalidText" : Str), ("BadPlan" : Str)), false), ((("InvalidText" : Str), ("BadRow" : Str)), false), ((("InvalidText" : Str), ("BadPaper" : Str)), false)]
def ffL : List (Str × Str) := [(("InvalidText" : Str), ("line" : Str)), (("InvalidText" : Str), ("word" : Str))]
def sbT : SubT := sbOf sbL
def ffT : Str → Str → Bool := ffOf ffL
def N__law_told : List Str := ["_law_work", "e", "_law_known"]
theorem sc__law_told : FnScope N__law_told ["_law_work"] (defScope (top 47)) := ⟨rfl, rfl, rfl, by decide +kernel, rfl, by decide +kernel, by decide +kernel⟩
def ds__law_told : DS := sSeq (sIf (dTest (dIsE sbT 1 "InvalidText")) (sRet (dTup (dCons (dFldE ffT 1 "line") (dCons (dFldE ffT 1 "word") (dNil))))) (sNil)) (sSeq (sSet 2 (dLst (dCons (dIsE sbT 1 "NotText") (dCons (dIsE sbT 1 "BadPlan") (dCons (dIsE sbT 1 "BadRow") (dCons (dIsE sbT 1 "BadPaper") (dNil))))))) (sRet (dIf (dTest (dBin (gCmp .Eq) (dM1 "list" gCountL (dVar 2) (dK (.bl true))) (dK (.int 1)))) (dSub (dLst (dCons (dK (.str [116, 101, 120, 116])) (dCons (dK (.str [112, 108, 97, 110])) (dCons (dK (.str [114, 111, 119])) (dCons (dK (.str [112, 97, 112, 101, 114])) (dNil)))))) (dM1 "list" gIndexL (dVar 2) (dK (.bl true)))) (dK (.str [111, 116, 104, 101, 114])))))
def dr__law_told : DS := sRet (dK (.str []))
def td__law_told : Told := tdB sbT "FormError" 3 1 ds__law_told dr__law_told
theorem gv__law_told {X : Cx} {g : Addr} {cdg : Value} {q : Str} (hmF : X.mg "FormError" = some (.ref (He.ga X.K "FormError"))) (hsx : ∀ c, sbT c "FormError" = some true → PySem.W.exmOne X.K (.ref (He.ga X.K c)) (.ref (He.ga X.K "FormError")) = some true) (hu0 : X.A.units + 100 < cLine) (hsb : ∀ c T b, sbT c T = some b → ExcC X.K (He.ga X.K c) ∧ PySem.W.kitOne X.K (.ref (He.ga X.K c)) (.ref (He.ga X.K T)) = some b) (hff : ∀ c n, ffT c n = true → XfC X.K (He.ga X.K c) ∧ PySem.W.findIn X.K (.ref (He.ga X.K c)) n = some none) (f_isinstance : X.mg "isinstance" = none) (g_InvalidText : X.mg "InvalidText" = some (.ref (He.ga X.K "InvalidText"))) (g_BadPaper : X.mg "BadPaper" = some (.ref (He.ga X.K "BadPaper"))) (g_BadRow : X.mg "BadRow" = some (.ref (He.ga X.K "BadRow"))) (g_BadPlan : X.mg "BadPlan" = some (.ref (He.ga X.K "BadPlan"))) (g_NotText : X.mg "NotText" = some (.ref (He.ga X.K "NotText"))) :
    LamX.GivesTo X N__law_told "_law_told" (defScope (top 47)) g cdg (defBody (top 47)) "_law_work" q (TTd T X.K td__law_told) :=
  gives_B sc__law_told.nd rfl rfl (by decide) rfl rfl hmF hsx (fun f => rfl) (fun f => rfl) (fun s H B aa oe cls d pn hz hf hBx => by
    have hu : ((cxOf C8.CX0 X.prog X.w X.K X.mg X.base N__law_told "_law_told" (defScope (top 47)) g cdg X.A X.stack s H C8.E0).nox.suite aa ((aa, oe) :: pn)).A.units + 65 < cLine := by
      show X.A.units + 3 + 65 < cLine
      omega
    have hN := sc__law_told.nd
    exact (ss_cons (s_if (t_val (e_isE rfl hz hf hBx hsb f_isinstance g_InvalidText rfl (vis_of rfl) rfl rfl) rfl) (ss_one (s_ret (e_tup (a_cons (e_fldE rfl hz hf hBx hff rfl (vis_of rfl) rfl rfl) (a_cons (e_fldE rfl hz hf hBx hff rfl (vis_of rfl) rfl rfl) a_nil rfl) rfl)))) ss_nil) (ss_cons (s_set hN rfl (loc_of rfl) (dOfF (e_lst (a_cons (e_isE rfl hz hf hBx hsb f_isinstance g_NotText rfl (vis_of rfl) rfl rfl) (a_cons (e_isE rfl hz hf hBx hsb f_isinstance g_BadPlan rfl (vis_of rfl) rfl rfl) (a_cons (e_isE rfl hz hf hBx hsb f_isinstance g_BadRow rfl (vis_of rfl) rfl rfl) (a_cons (e_isE rfl hz hf hBx hsb f_isinstance g_BadPaper rfl (vis_of rfl) rfl rfl) a_nil rfl) rfl) rfl) rfl))) rfl (by first | exact .inr rfl | exact .inl rfl)) (ss_one (s_ret (e_if (t_cmp (o_cmp rfl hu .Eq) (bOfD (e_meth rfl F.plainAttrs_list F.slot_list_count ty_list_count (m_countL rfl hu) (bOfD (e_var rfl (vis_of rfl) rfl rfl)) (bOfD e_bl) rfl rfl rfl)) (bOfD e_int) rfl) (e_sub rfl (bOfD (dOfF (e_lst (a_cons (e_strK (by kernel_rfl) (by decide)) (a_cons (e_strK (by kernel_rfl) (by decide)) (a_cons (e_strK (by kernel_rfl) (by decide)) (a_cons (e_strK (by kernel_rfl) (by decide)) a_nil rfl) rfl) rfl) rfl)))) (e_meth rfl F.plainAttrs_list F.slot_list_index ty_list_index (m_indexL rfl hu) (bOfD (e_var rfl (vis_of rfl) rfl rfl)) (bOfD e_bl) rfl rfl rfl) rfl) (e_strK (by kernel_rfl) (by decide)))))))) (fun s H B => by
    have hN := sc__law_told.nd
    exact (ss_one (s_ret (e_strK (by kernel_rfl) (by decide)))))
def d_is_integer (c : Nat → DFn) : DS := sRet (dOfT (dAndT (dTest (dC1 (gIsi "int") (dVar 0))) (dNotT (dTest (dC1 (gIsi "bool") (dVar 0))))))
def N_is_integer : List Str := ["value"]
theorem sc_is_integer : FnScope N_is_integer ["value"] (defScope (top 8)) := ⟨rfl, rfl, rfl, by decide +kernel, rfl, by decide +kernel, by decide +kernel⟩
theorem p_is_integer (hk2 : 2 ≤ k) {c : Nat → DFn} {f : Addr} {fd : FuncData} (F0 : FunD K "is_integer" "is_integer" (defArgs (top 8)) (defBody (top 8)) (defScope (top 8)) [] [] f fd) (f_isinstance : mg "isinstance" = none) (f_int : mg "int" = none) (f_bool : mg "bool" = none) :
    FnOk P w K mg base (L2.CX P w) (k + 1) f fd ["value"] (spD T K (runD 1 1 (d_is_integer c))) := fn_di F0 sc_is_integer fun cdv A outer s H E B hr => by
  have hN := sc_is_integer.nd
  have hu := huR hr
  have tk : Takes (cxOf (L2.CX P w) P w K mg base N_is_integer "is_integer" (defScope (top 8)) f cdv A outer s H E) (fun cls d _ H => E cls d H) := takes_of rfl rfl rfl rfl
  have hx : Passes (L2.CX P w) (cxOf (L2.CX P w) P w K mg base N_is_integer "is_integer" (defScope (top 8)) f cdv A outer s H E) E := passes_call tk (fun _ _ _ _ h => h)
  exact (ss_one (s_ret (e_and (e_ofTest (e_isi rfl rfl rfl f_isinstance rfl f_int (by decide +kernel) (bOfD (e_var rfl (vis_of rfl) rfl rfl)) rfl (by decide) rfl)) (pe_one (e_not (e_ofTest (e_isi rfl rfl rfl f_isinstance rfl f_bool (by decide +kernel) (bOfD (e_var rfl (vis_of rfl) rfl rfl)) rfl (by decide) rfl)))))))
def d_is_in (c : Nat → DFn) : DS := sRet (dOfT (dAndT (dTest (dCall (c 0) (dCons (dVar 0) (dNil)))) (dTest (dChain (gCmp .LtE) (gCmp .LtE) (dVar 1) (dVar 0) (dVar 2)))))
def N_is_in : List Str := ["value", "least", "most"]
theorem sc_is_in : FnScope N_is_in ["value", "least", "most"] (defScope (top 9)) := ⟨rfl, rfl, rfl, by decide +kernel, rfl, by decide +kernel, by decide +kernel⟩
theorem p_is_in (hk2 : 2 ≤ k) {c : Nat → DFn} {f : Addr} {fd : FuncData} (F0 : FunD K "is_in" "is_in" (defArgs (top 9)) (defBody (top 9)) (defScope (top 9)) [] [] f fd) (h_is_integer : OkF P w K mg base T k "is_integer" ["value"] (c 0)) :
    FnOk P w K mg base (L2.CX P w) (k + 1) f fd ["value", "least", "most"] (spD T K (runD 3 3 (d_is_in c))) := fn_di F0 sc_is_in fun cdv A outer s H E B hr => by
  have hN := sc_is_in.nd
  have hu := huR hr
  have tk : Takes (cxOf (L2.CX P w) P w K mg base N_is_in "is_in" (defScope (top 9)) f cdv A outer s H E) (fun cls d _ H => E cls d H) := takes_of rfl rfl rfl rfl
  have hx : Passes (L2.CX P w) (cxOf (L2.CX P w) P w K mg base N_is_in "is_in" (defScope (top 9)) f cdv A outer s H E) E := passes_call tk (fun _ _ _ _ h => h)
  exact (ss_one (s_ret (e_and (e_ofTest (e_callO h_is_integer rfl hr hx (a_cons (e_var rfl (vis_of rfl) rfl rfl) a_nil rfl))) (pe_one (e_ofTest (e_chain (o_cmp rfl hu .LtE) (o_cmp rfl hu .LtE) (bOfD (e_var rfl (vis_of rfl) rfl rfl)) (bOfD (e_var rfl (vis_of rfl) rfl rfl)) (bOfD (e_var rfl (vis_of rfl) rfl rfl)) rfl))))))
def d_is_list (c : Nat → DFn) : DS := sRet (dOfT (dAndT (dTest (dC1 (gIsi "tuple") (dVar 0))) (dTest (dChain (gCmp .LtE) (gCmp .LtE) (dVar 1) (dC1 gLen (dVar 0)) (dVar 2)))))
def N_is_list : List Str := ["value", "least", "most"]
theorem sc_is_list : FnScope N_is_list ["value", "least", "most"] (defScope (top 10)) := ⟨rfl, rfl, rfl, by decide +kernel, rfl, by decide +kernel, by decide +kernel⟩
theorem p_is_list (hk2 : 2 ≤ k) {c : Nat → DFn} {f : Addr} {fd : FuncData} (F0 : FunD K "is_list" "is_list" (defArgs (top 10)) (defBody (top 10)) (defScope (top 10)) [] [] f fd) (f_isinstance : mg "isinstance" = none) (f_tuple : mg "tuple" = none) (f_len : mg "len" = none) :
    FnOk P w K mg base (L2.CX P w) (k + 1) f fd ["value", "least", "most"] (spD T K (runD 3 3 (d_is_list c))) := fn_di F0 sc_is_list fun cdv A outer s H E B hr => by
  have hN := sc_is_list.nd
  have hu := huR hr
  have tk : Takes (cxOf (L2.CX P w) P w K mg base N_is_list "is_list" (defScope (top 10)) f cdv A outer s H E) (fun cls d _ H => E cls d H) := takes_of rfl rfl rfl rfl
  have hx : Passes (L2.CX P w) (cxOf (L2.CX P w) P w K mg base N_is_list "is_list" (defScope (top 10)) f cdv A outer s H E) E := passes_call tk (fun _ _ _ _ h => h)
  exact (ss_one (s_ret (e_and (e_ofTest (e_isi rfl rfl rfl f_isinstance rfl f_tuple (by decide +kernel) (bOfD (e_var rfl (vis_of rfl) rfl rfl)) rfl (by decide) rfl)) (pe_one (e_ofTest (e_chain (o_cmp rfl hu .LtE) (o_cmp rfl hu .LtE) (bOfD (e_var rfl (vis_of rfl) rfl rfl)) (bOfD (e_callB (c_len rfl) rfl f_len (by decide +kernel) (bOfD (e_var rfl (vis_of rfl) rfl rfl)) rfl (by decide) rfl)) (bOfD (e_var rfl (vis_of rfl) rfl rfl)) rfl))))))
def d_is_plan (c : Nat → DFn) : DS := sSeq (sIf (dOrT (dTest (dBin (gCmp .Eq) (dVar 1) (dK (.int 0)))) (dOrT (dNotT (dTest (dCall (c 2) (dCons (dVar 0) (dCons (dK (.int 1)) (dCons (dBin gAdd (dK (.int 12)) (dK (.int 1))) (dNil))))))) (dNotT (dTest (dC1 (gIsi "str") (dSub (dVar 0) (dK (.int 0)))))))) (sRet (dK (.bl false))) (sNil)) (sSeq (sPar 2 3 false (dSub (dVar 0) (dK (.int 0))) false (dSl (dVar 0) (some (dK (.int 1))) none)) (sSeq (sIf (dTest (dBin (gCmp .Eq) (dVar 2) (dK (.str [114, 101, 115, 116])))) (sRet (dBin (gCmp .Eq) (dVar 3) (dTup (dNil)))) (sNil)) (sSeq (sIf (dTest (dBin (gCmp .Eq) (dVar 2) (dK (.str [115, 97, 121])))) (sRet (dOfT (dAndT (dTest (dBin (gCmp .Eq) (dC1 gLen (dVar 3)) (dK (.int 1)))) (dTest (dCall (c 1) (dCons (dSub (dVar 3) (dK (.int 0))) (dCons (dK (.int 0)) (dCons (dBin gSub (dK (.int 8)) (dK (.int 1))) (dNil))))))))) (sNil)) (sSeq (sIf (dTest (dBin (gCmp .In) (dVar 2) (dTup (dCons (dK (.str [116, 104, 101, 110])) (dCons (dK (.str [98, 111, 116, 104])) (dNil)))))) (sRet (dOfT (dAndT (dTest (dBin (gCmp .Gt) (dC1 gLen (dVar 3)) (dK (.int 1)))) (dTest (dC1 gAll (dComp (iSeq (dVar 3)) (gN 4) [4] (dYes) (dCall (c 3) (dCons (dVar 4) (dCons (dBin gSub (dVar 1) (dK (.int 1))) (dNil)))))))))) (sNil)) (sSeq (sIf (dTest (dBin (gCmp .Eq) (dVar 2) (dK (.str [108, 97, 115, 116])))) (sRet (dOfT (dAndT (dTest (dBin (gCmp .Eq) (dC1 gLen (dVar 3)) (dK (.int 2)))) (dAndT (dTest (dCall (c 3) (dCons (dSub (dVar 3) (dK (.int 0))) (dCons (dBin gSub (dVar 1) (dK (.int 1))) (dNil))))) (dTest (dCall (c 3) (dCons (dSub (dVar 3) (dK (.int 1))) (dCons (dBin gSub (dVar 1) (dK (.int 1))) (dNil))))))))) (sNil)) (sRet (dOfT (dAndT (dTest (dBin (gCmp .Eq) (dVar 2) (dK (.str [115, 104, 105, 101, 108, 100])))) (dAndT (dTest (dBin (gCmp .Eq) (dC1 gLen (dVar 3)) (dK (.int 1)))) (dTest (dCall (c 3) (dCons (dSub (dVar 3) (dK (.int 0))) (dCons (dBin gSub (dVar 1) (dK (.int 1))) (dNil))))))))))))))
def N_is_plan : List Str := ["plan", "deep", "kind", "rest", "part"]
theorem sc_is_plan : FnScope N_is_plan ["plan", "deep"] (defScope (top 15)) := ⟨rfl, rfl, rfl, by decide +kernel, rfl, by decide +kernel, by decide +kernel⟩
theorem p_is_plan (hk2 : 2 ≤ k) {c : Nat → DFn} {f : Addr} {fd : FuncData} (F0 : FunD K "is_plan" "is_plan" (defArgs (top 15)) (defBody (top 15)) (defScope (top 15)) [] [] f fd) (h_is_list : OkF P w K mg base T k "is_list" ["value", "least", "most"] (c 2)) (h_is_in : OkF P w K mg base T k "is_in" ["value", "least", "most"] (c 1)) (h_is_plan : OkF P w K mg base T k "is_plan" ["plan", "deep"] (c 3)) (g_MOST_LEAVES : ∃ t, mg "MOST_LEAVES" = some (.int 12 t)) (f_isinstance : mg "isinstance" = none) (f_str : mg "str" = none) (f_len : mg "len" = none) (g_MOST_WORDS : ∃ t, mg "MOST_WORDS" = some (.int 8 t)) (f_all : mg "all" = none) :
    FnOk P w K mg base (L2.CX P w) (k + 1) f fd ["plan", "deep"] (spD T K (runD 5 2 (d_is_plan c))) := fn_di F0 sc_is_plan fun cdv A outer s H E B hr => by
  have hN := sc_is_plan.nd
  have hu := huR hr
  have tk : Takes (cxOf (L2.CX P w) P w K mg base N_is_plan "is_plan" (defScope (top 15)) f cdv A outer s H E) (fun cls d _ H => E cls d H) := takes_of rfl rfl rfl rfl
  have hx : Passes (L2.CX P w) (cxOf (L2.CX P w) P w K mg base N_is_plan "is_plan" (defScope (top 15)) f cdv A outer s H E) E := passes_call tk (fun _ _ _ _ h => h)
  exact (ss_cons (s_if (PW.pt (w_or (t_cmp (o_cmp rfl hu .Eq) (bOfD (e_var rfl (vis_of rfl) rfl rfl)) (bOfD e_int) rfl) (w_or (t_not (t_val (e_callO h_is_list rfl hr hx (a_cons (e_var rfl (vis_of rfl) rfl rfl) (a_cons e_int (a_cons (e_bin (o_bin rfl (op := .Add) rfl) (bOfD (e_globI g_MOST_LEAVES)) (bOfD e_int)) a_nil rfl) rfl) rfl)) rfl)) (pw_or1 (t_not (t_val (e_isi rfl rfl rfl f_isinstance rfl f_str (by decide +kernel) (bOfD (e_sub rfl (bOfD (e_var rfl (vis_of rfl) rfl rfl)) e_int rfl)) rfl (by decide) rfl) rfl)))))) (ss_one (s_ret e_bl)) ss_nil) (ss_cons (s_par rfl hN rfl rfl (by decide) rfl rfl (m_sh (e_sub rfl (bOfD (e_var rfl (vis_of rfl) rfl rfl)) e_int rfl)) (m_sh (e_slice rfl (bOfD (e_var rfl (vis_of rfl) rfl rfl)) (p_some e_int) p_none)) rfl rfl rfl rfl) (ss_cons (s_if (t_cmp (o_cmp rfl hu .Eq) (bOfD (e_var rfl (vis_of rfl) rfl rfl)) (bOfD (e_strK (by kernel_rfl) (by decide))) rfl) (ss_one (s_ret (e_cmp (o_cmp rfl hu .Eq) (bOfD (e_var rfl (vis_of rfl) rfl rfl)) (bOfD (e_tup a_nil)) rfl))) ss_nil) (ss_cons (s_if (t_cmp (o_cmp rfl hu .Eq) (bOfD (e_var rfl (vis_of rfl) rfl rfl)) (bOfD (e_strK (by kernel_rfl) (by decide))) rfl) (ss_one (s_ret (e_and (e_ofTest (e_cmp (o_cmp rfl hu .Eq) (bOfD (e_callB (c_len rfl) rfl f_len (by decide +kernel) (bOfD (e_var rfl (vis_of rfl) rfl rfl)) rfl (by decide) rfl)) (bOfD e_int) rfl)) (pe_one (e_ofTest (e_callO h_is_in rfl hr hx (a_cons (e_sub rfl (bOfD (e_var rfl (vis_of rfl) rfl rfl)) e_int rfl) (a_cons e_int (a_cons (e_bin (o_bin rfl (op := .Sub) rfl) (bOfD (e_globI g_MOST_WORDS)) (bOfD e_int)) a_nil rfl) rfl) rfl))))))) ss_nil) (ss_cons (s_if (t_cmp (o_cmp rfl hu .In) (bOfD (e_var rfl (vis_of rfl) rfl rfl)) (bOfD (e_tup (a_cons (e_strK (by kernel_rfl) (by decide)) (a_cons (e_strK (by kernel_rfl) (by decide)) a_nil rfl) rfl))) rfl) (ss_one (s_ret (e_and (e_ofTest (e_cmp (o_cmp rfl hu .Gt) (bOfD (e_callB (c_len rfl) rfl f_len (by decide +kernel) (bOfD (e_var rfl (vis_of rfl) rfl rfl)) rfl (by decide) rfl)) (bOfD e_int) rfl)) (pe_one (e_ofTest (e_callB (c_all rfl) rfl f_all (by decide +kernel) (bOfD (dOfF (e_comp (own := [("part", 4)]) rfl hN (i_seq rfl (e_var rfl (vis_of rfl) rfl rfl)) (blk_of rfl) (fun _ _ _ _ _ => (g_name hN rfl (loc_of rfl) (by first | exact .inr rfl | exact .inl rfl))) (fun _ _ _ _ _ => pts_yes) (fun _ _ _ _ _ => (e_callO h_is_plan rfl hr passL (a_cons (e_var rfl (vis_of rfl) rfl rfl) (a_cons (e_bin (o_bin rfl (op := .Sub) rfl) (bOfD (e_var rfl (vis_of rfl) rfl rfl)) (bOfD e_int)) a_nil rfl) rfl))) (fun _ => rfl) (by decide)))) rfl (by decide) rfl)))))) ss_nil) (ss_cons (s_if (t_cmp (o_cmp rfl hu .Eq) (bOfD (e_var rfl (vis_of rfl) rfl rfl)) (bOfD (e_strK (by kernel_rfl) (by decide))) rfl) (ss_one (s_ret (e_and (e_ofTest (e_cmp (o_cmp rfl hu .Eq) (bOfD (e_callB (c_len rfl) rfl f_len (by decide +kernel) (bOfD (e_var rfl (vis_of rfl) rfl rfl)) rfl (by decide) rfl)) (bOfD e_int) rfl)) (e_and (e_ofTest (e_callO h_is_plan rfl hr hx (a_cons (e_sub rfl (bOfD (e_var rfl (vis_of rfl) rfl rfl)) e_int rfl) (a_cons (e_bin (o_bin rfl (op := .Sub) rfl) (bOfD (e_var rfl (vis_of rfl) rfl rfl)) (bOfD e_int)) a_nil rfl) rfl))) (pe_one (e_ofTest (e_callO h_is_plan rfl hr hx (a_cons (e_sub rfl (bOfD (e_var rfl (vis_of rfl) rfl rfl)) e_int rfl) (a_cons (e_bin (o_bin rfl (op := .Sub) rfl) (bOfD (e_var rfl (vis_of rfl) rfl rfl)) (bOfD e_int)) a_nil rfl) rfl)))))))) ss_nil) (ss_one (s_ret (e_and (e_ofTest (e_cmp (o_cmp rfl hu .Eq) (bOfD (e_var rfl (vis_of rfl) rfl rfl)) (bOfD (e_strK (by kernel_rfl) (by decide))) rfl)) (e_and (e_ofTest (e_cmp (o_cmp rfl hu .Eq) (bOfD (e_callB (c_len rfl) rfl f_len (by decide +kernel) (bOfD (e_var rfl (vis_of rfl) rfl rfl)) rfl (by decide) rfl)) (bOfD e_int) rfl)) (pe_one (e_ofTest (e_callO h_is_plan rfl hr hx (a_cons (e_sub rfl (bOfD (e_var rfl (vis_of rfl) rfl rfl)) e_int rfl) (a_cons (e_bin (o_bin rfl (op := .Sub) rfl) (bOfD (e_var rfl (vis_of rfl) rfl rfl)) (bOfD e_int)) a_nil rfl) rfl))))))))))))))
def d_parts_of (c : Nat → DFn) : DS := sRet (dIf (dTest (dBin (gCmp .In) (dSub (dVar 0) (dK (.int 0))) (dTup (dCons (dK (.str [114, 101, 115, 116])) (dCons (dK (.str [115, 97, 121])) (dNil)))))) (dTup (dNil)) (dSl (dVar 0) (some (dK (.int 1))) none))
def N_parts_of : List Str := ["plan"]
theorem sc_parts_of : FnScope N_parts_of ["plan"] (defScope (top 16)) := ⟨rfl, rfl, rfl, by decide +kernel, rfl, by decide +kernel, by decide +kernel⟩
theorem p_parts_of (hk2 : 2 ≤ k) {c : Nat → DFn} {f : Addr} {fd : FuncData} (F0 : FunD K "parts_of" "parts_of" (defArgs (top 16)) (defBody (top 16)) (defScope (top 16)) [] [] f fd)  :
    FnOk P w K mg base (L2.CX P w) (k + 1) f fd ["plan"] (spD T K (runD 1 1 (d_parts_of c))) := fn_di F0 sc_parts_of fun cdv A outer s H E B hr => by
  have hN := sc_parts_of.nd
  have hu := huR hr
  have tk : Takes (cxOf (L2.CX P w) P w K mg base N_parts_of "parts_of" (defScope (top 16)) f cdv A outer s H E) (fun cls d _ H => E cls d H) := takes_of rfl rfl rfl rfl
  have hx : Passes (L2.CX P w) (cxOf (L2.CX P w) P w K mg base N_parts_of "parts_of" (defScope (top 16)) f cdv A outer s H E) E := passes_call tk (fun _ _ _ _ h => h)
  exact (ss_one (s_ret (e_if (t_cmp (o_cmp rfl hu .In) (bOfD (e_sub rfl (bOfD (e_var rfl (vis_of rfl) rfl rfl)) e_int rfl)) (bOfD (e_tup (a_cons (e_strK (by kernel_rfl) (by decide)) (a_cons (e_strK (by kernel_rfl) (by decide)) a_nil rfl) rfl))) rfl) (e_tup a_nil) (e_slice rfl (bOfD (e_var rfl (vis_of rfl) rfl rfl)) (p_some e_int) p_none))))
def d_leaves_in (c : Nat → DFn) : DS := sSeq (sIf (dTest (dBin (gCmp .Eq) (dCall (c 4) (dCons (dVar 0) (dNil))) (dTup (dNil)))) (sRet (dLst (dCons (dVar 0) (dNil)))) (sNil)) (sSeq (sSetF 1 (dLst (dNil))) (sSeq (sFor (iSeq (dCall (c 4) (dCons (dVar 0) (dNil)))) (gN 2) (sExt 1 (dCall (c 5) (dCons (dVar 2) (dNil))))) (sSeq (sFrz 1) (sRet (dVar 1)))))
def N_leaves_in : List Str := ["plan", "found", "part"]
theorem sc_leaves_in : FnScope N_leaves_in ["plan"] (defScope (top 17)) := ⟨rfl, rfl, rfl, by decide +kernel, rfl, by decide +kernel, by decide +kernel⟩
theorem p_leaves_in (hk2 : 2 ≤ k) {c : Nat → DFn} {f : Addr} {fd : FuncData} (F0 : FunD K "leaves_in" "leaves_in" (defArgs (top 17)) (defBody (top 17)) (defScope (top 17)) [] [] f fd) (h_parts_of : OkF P w K mg base T k "parts_of" ["plan"] (c 4)) (h_leaves_in : OkF P w K mg base T k "leaves_in" ["plan"] (c 5)) :
    FnOk P w K mg base (L2.CX P w) (k + 1) f fd ["plan"] (spD T K (runD 3 1 (d_leaves_in c))) := fn_di F0 sc_leaves_in fun cdv A outer s H E B hr => by
  have hN := sc_leaves_in.nd
  have hu := huR hr
  have tk : Takes (cxOf (L2.CX P w) P w K mg base N_leaves_in "leaves_in" (defScope (top 17)) f cdv A outer s H E) (fun cls d _ H => E cls d H) := takes_of rfl rfl rfl rfl
  have hx : Passes (L2.CX P w) (cxOf (L2.CX P w) P w K mg base N_leaves_in "leaves_in" (defScope (top 17)) f cdv A outer s H E) E := passes_call tk (fun _ _ _ _ h => h)
  exact (ss_cons (s_if (t_cmp (o_cmp rfl hu .Eq) (bOfD (e_callO h_parts_of rfl hr hx (a_cons (e_var rfl (vis_of rfl) rfl rfl) a_nil rfl))) (bOfD (e_tup a_nil)) rfl) (ss_one (s_ret (dOfF (e_lst (a_cons (e_var rfl (vis_of rfl) rfl rfl) a_nil rfl))))) ss_nil) (ss_cons (s_setF hN rfl (loc_of rfl) (e_lst a_nil) rfl (by first | exact .inr rfl | exact .inl rfl)) (ss_cons (s_for (passes_of rfl) rfl (i_seq rfl (e_callO h_parts_of rfl hr hx (a_cons (e_var rfl (vis_of rfl) rfl rfl) a_nil rfl))) (g_name hN rfl (loc_of rfl) (by first | exact .inr rfl | exact .inl rfl)) (ss_one (s_ext rfl rfl (vis_of rfl) rfl rfl (e_callO h_leaves_in rfl hr hx (a_cons (e_var rfl (vis_of rfl) rfl rfl) a_nil rfl)) rfl rfl)) (fun _ => rfl)) (ss_frz (ss_one (s_ret (e_var rfl (vis_of rfl) rfl rfl)))))))
def d_need_plan (c : Nat → DFn) : DS := sIf (dOrT (dNotT (dTest (dCall (c 3) (dCons (dVar 0) (dCons (dK (.int 40)) (dNil)))))) (dTest (dBin (gCmp .Gt) (dC1 gLen (dCall (c 5) (dCons (dVar 0) (dNil)))) (dK (.int 12))))) (sRaise0 "BadPlan") (sNil)
def N_need_plan : List Str := ["plan"]
theorem sc_need_plan : FnScope N_need_plan ["plan"] (defScope (top 18)) := ⟨rfl, rfl, rfl, by decide +kernel, rfl, by decide +kernel, by decide +kernel⟩
theorem p_need_plan (hk2 : 2 ≤ k) {c : Nat → DFn} {f : Addr} {fd : FuncData} (F0 : FunD K "need_plan" "need_plan" (defArgs (top 18)) (defBody (top 18)) (defScope (top 18)) [] [] f fd) (h_is_plan : OkF P w K mg base T k "is_plan" ["plan", "deep"] (c 3)) (h_leaves_in : OkF P w K mg base T k "leaves_in" ["plan"] (c 5)) (g_MOST_DEEP : ∃ t, mg "MOST_DEEP" = some (.int 40 t)) (f_len : mg "len" = none) (g_MOST_LEAVES : ∃ t, mg "MOST_LEAVES" = some (.int 12 t)) (g_BadPlan : mg "BadPlan" = some (.ref (He.ga K "BadPlan")) ∧ (He.Fa.exc "BadPlan").ok K = true) :
    FnOk P w K mg base (L2.CX P w) (k + 1) f fd ["plan"] (spD T K (runD 1 1 (d_need_plan c))) := fn_di F0 sc_need_plan fun cdv A outer s H E B hr => by
  have hN := sc_need_plan.nd
  have hu := huR hr
  have tk : Takes (cxOf (L2.CX P w) P w K mg base N_need_plan "need_plan" (defScope (top 18)) f cdv A outer s H E) (fun cls d _ H => E cls d H) := takes_of rfl rfl rfl rfl
  have hx : Passes (L2.CX P w) (cxOf (L2.CX P w) P w K mg base N_need_plan "need_plan" (defScope (top 18)) f cdv A outer s H E) E := passes_call tk (fun _ _ _ _ h => h)
  exact (ss_one (s_if (PW.pt (w_or (t_not (t_val (e_callO h_is_plan rfl hr hx (a_cons (e_var rfl (vis_of rfl) rfl rfl) (a_cons (e_globI g_MOST_DEEP) a_nil rfl) rfl)) rfl)) (pw_or1 (t_cmp (o_cmp rfl hu .Gt) (bOfD (e_callB (c_len rfl) rfl f_len (by decide +kernel) (bOfD (e_callO h_leaves_in rfl hr hx (a_cons (e_var rfl (vis_of rfl) rfl rfl) a_nil rfl))) rfl (by decide) rfl)) (bOfD (e_globI g_MOST_LEAVES)) rfl)))) (ss_one (s_raise0 rfl tk (g_BadPlan).1 (g_BadPlan).2)) ss_nil))
def d_need_paper (c : Nat → DFn) : DS := sSeq (sIf (dNotT (dTest (dCall (c 2) (dCons (dVar 0) (dCons (dK (.int 0)) (dCons (dK (.int 300)) (dNil))))))) (sRaise "BadPaper" ["index"] (dCons (dK .non) (dNil))) (sNil)) (sFor (iEnu (dVar 0)) (gT (gC (gN 1) (gC (gN 2) (gNils)))) (sSeq (sIf (dOrT (dNotT (dTest (dCall (c 2) (dCons (dVar 2) (dCons (dK (.int 2)) (dCons (dK (.int 2)) (dNil))))))) (dOrT (dNotT (dTest (dCall (c 2) (dCons (dSub (dVar 2) (dK (.int 0))) (dCons (dK (.int 0)) (dCons (dK (.int 40)) (dNil))))))) (dNotT (dTest (dC1 (gIsi "str") (dSub (dVar 2) (dK (.int 1)))))))) (sRaise "BadPaper" ["index"] (dCons (dVar 1) (dNil))) (sNil)) (sIf (dOrT (dTest (dBin (gCmp .NotIn) (dSub (dVar 2) (dK (.int 1))) (dK c_RULES))) (dNotT (dTest (dC1 gAll (dComp (iSeq (dSub (dVar 2) (dK (.int 0)))) (gN 3) [3] (dYes) (dCall (c 1) (dCons (dVar 3) (dCons (dK (.int 0)) (dCons (dBin gSub (dK (.int 12)) (dK (.int 1))) (dNil)))))))))) (sRaise "BadPaper" ["index"] (dCons (dVar 1) (dNil))) (sNil))))
def N_need_paper : List Str := ["paper", "index", "line", "at"]
theorem sc_need_paper : FnScope N_need_paper ["paper"] (defScope (top 22)) := ⟨rfl, rfl, rfl, by decide +kernel, rfl, by decide +kernel, by decide +kernel⟩
theorem p_need_paper (hk2 : 2 ≤ k) {c : Nat → DFn} {f : Addr} {fd : FuncData} (F0 : FunD K "need_paper" "need_paper" (defArgs (top 22)) (defBody (top 22)) (defScope (top 22)) [] [] f fd) (h_is_list : OkF P w K mg base T k "is_list" ["value", "least", "most"] (c 2)) (h_is_in : OkF P w K mg base T k "is_in" ["value", "least", "most"] (c 1)) (g_MOST_STEPS : ∃ t, mg "MOST_STEPS" = some (.int 300 t)) (f_enumerate : mg "enumerate" = none) (g_MOST_DEEP : ∃ t, mg "MOST_DEEP" = some (.int 40 t)) (f_isinstance : mg "isinstance" = none) (f_str : mg "str" = none) (g_RULES : mg "RULES" = some (.ref (He.ga K "RULES")) ∧ ∀ G m, Rep K G m (.ref (He.ga K "RULES")) c_RULES) (g_MOST_LEAVES : ∃ t, mg "MOST_LEAVES" = some (.int 12 t)) (f_all : mg "all" = none) (R_BadPaper : SupOk P w K mg base "BadPaper" ["index"]) :
    FnOk P w K mg base (L2.CX P w) (k + 1) f fd ["paper"] (spD T K (runD 4 1 (d_need_paper c))) := fn_di F0 sc_need_paper fun cdv A outer s H E B hr => by
  have hN := sc_need_paper.nd
  have hu := huR hr
  have tk : Takes (cxOf (L2.CX P w) P w K mg base N_need_paper "need_paper" (defScope (top 22)) f cdv A outer s H E) (fun cls d _ H => E cls d H) := takes_of rfl rfl rfl rfl
  have hx : Passes (L2.CX P w) (cxOf (L2.CX P w) P w K mg base N_need_paper "need_paper" (defScope (top 22)) f cdv A outer s H E) E := passes_call tk (fun _ _ _ _ h => h)
  exact (ss_cons (s_if (t_not (t_val (e_callO h_is_list rfl hr hx (a_cons (e_var rfl (vis_of rfl) rfl rfl) (a_cons e_int (a_cons (e_globI g_MOST_STEPS) a_nil rfl) rfl) rfl)) rfl)) (ss_one (s_raise rfl tk (hr.mono hk2) R_BadPaper (a_cons e_non a_nil rfl))) ss_nil) (ss_one (s_for (passes_of rfl) rfl (i_enum rfl rfl f_enumerate (e_var rfl (vis_of rfl) rfl rfl) rfl) (g_tup rfl rfl (gs_cons (g_name hN rfl (loc_of rfl) (by first | exact .inr rfl | exact .inl rfl)) (gs_cons (g_name hN rfl (loc_of rfl) (by first | exact .inr rfl | exact .inl rfl)) gs_nil rfl) rfl) (takes_cons (takes_cons takes_nil)) rfl rfl) (ss_cons (s_if (PW.pt (w_or (t_not (t_val (e_callO h_is_list rfl hr hx (a_cons (e_var rfl (vis_of rfl) rfl rfl) (a_cons e_int (a_cons e_int a_nil rfl) rfl) rfl)) rfl)) (w_or (t_not (t_val (e_callO h_is_list rfl hr hx (a_cons (e_sub rfl (bOfD (e_var rfl (vis_of rfl) rfl rfl)) e_int rfl) (a_cons e_int (a_cons (e_globI g_MOST_DEEP) a_nil rfl) rfl) rfl)) rfl)) (pw_or1 (t_not (t_val (e_isi rfl rfl rfl f_isinstance rfl f_str (by decide +kernel) (bOfD (e_sub rfl (bOfD (e_var rfl (vis_of rfl) rfl rfl)) e_int rfl)) rfl (by decide) rfl) rfl)))))) (ss_one (s_raise rfl tk (hr.mono hk2) R_BadPaper (a_cons (e_var rfl (vis_of rfl) rfl rfl) a_nil rfl))) ss_nil) (ss_one (s_if (PW.pt (w_or (t_cmp (o_cmp rfl hu .NotIn) (bOfD (e_sub rfl (bOfD (e_var rfl (vis_of rfl) rfl rfl)) e_int rfl)) (bOfD (e_globR g_RULES.1 g_RULES.2)) rfl) (pw_or1 (t_not (t_val (e_callB (c_all rfl) rfl f_all (by decide +kernel) (bOfD (dOfF (e_comp (own := [("at", 3)]) rfl hN (i_seq rfl (e_sub rfl (bOfD (e_var rfl (vis_of rfl) rfl rfl)) e_int rfl)) (blk_of rfl) (fun _ _ _ _ _ => (g_name hN rfl (loc_of rfl) (by first | exact .inr rfl | exact .inl rfl))) (fun _ _ _ _ _ => pts_yes) (fun _ _ _ _ _ => (e_callO h_is_in rfl hr passL (a_cons (e_var rfl (vis_of rfl) rfl rfl) (a_cons e_int (a_cons (e_bin (o_bin rfl (op := .Sub) rfl) (bOfD (e_globI g_MOST_LEAVES)) (bOfD e_int)) a_nil rfl) rfl) rfl))) (fun _ => rfl) (by decide)))) rfl (by decide) rfl) rfl))))) (ss_one (s_raise rfl tk (hr.mono hk2) R_BadPaper (a_cons (e_var rfl (vis_of rfl) rfl rfl) a_nil rfl))) ss_nil))) (fun _ => rfl))))
def d_need_row (c : Nat → DFn) : DS := sSeq (sIf (dNotT (dTest (dCall (c 2) (dCons (dVar 0) (dCons (dK (.int 0)) (dCons (dK (.int 20)) (dNil))))))) (sRaise "BadRow" ["index"] (dCons (dK .non) (dNil))) (sNil)) (sFor (iEnu (dVar 0)) (gT (gC (gN 1) (gC (gN 2) (gNils)))) (sIf (dTest (dC1 (gIsi "str") (dVar 2))) (sIf (dOrT (dTest (dBin (gCmp .NotEq) (dVar 2) (dK (.str [111, 102, 102])))) (dTest (dBin (gCmp .In) (dK (.str [111, 102, 102])) (dSl (dVar 0) none (some (dVar 1)))))) (sRaise "BadRow" ["index"] (dCons (dVar 1) (dNil))) (sNil)) (sIf (dNotT (dTest (dCall (c 1) (dCons (dVar 2) (dCons (dK (.int 0)) (dCons (dBin gSub (dK (.int 8)) (dK (.int 1))) (dNil))))))) (sRaise "BadRow" ["index"] (dCons (dVar 1) (dNil))) (sNil))))
def N_need_row : List Str := ["row", "index", "label"]
theorem sc_need_row : FnScope N_need_row ["row"] (defScope (top 25)) := ⟨rfl, rfl, rfl, by decide +kernel, rfl, by decide +kernel, by decide +kernel⟩
theorem p_need_row (hk2 : 2 ≤ k) {c : Nat → DFn} {f : Addr} {fd : FuncData} (F0 : FunD K "need_row" "need_row" (defArgs (top 25)) (defBody (top 25)) (defScope (top 25)) [] [] f fd) (h_is_list : OkF P w K mg base T k "is_list" ["value", "least", "most"] (c 2)) (h_is_in : OkF P w K mg base T k "is_in" ["value", "least", "most"] (c 1)) (g_MOST_ROW : ∃ t, mg "MOST_ROW" = some (.int 20 t)) (f_enumerate : mg "enumerate" = none) (f_isinstance : mg "isinstance" = none) (f_str : mg "str" = none) (g_MOST_WORDS : ∃ t, mg "MOST_WORDS" = some (.int 8 t)) (R_BadRow : SupOk P w K mg base "BadRow" ["index"]) :
    FnOk P w K mg base (L2.CX P w) (k + 1) f fd ["row"] (spD T K (runD 3 1 (d_need_row c))) := fn_di F0 sc_need_row fun cdv A outer s H E B hr => by
  have hN := sc_need_row.nd
  have hu := huR hr
  have tk : Takes (cxOf (L2.CX P w) P w K mg base N_need_row "need_row" (defScope (top 25)) f cdv A outer s H E) (fun cls d _ H => E cls d H) := takes_of rfl rfl rfl rfl
  have hx : Passes (L2.CX P w) (cxOf (L2.CX P w) P w K mg base N_need_row "need_row" (defScope (top 25)) f cdv A outer s H E) E := passes_call tk (fun _ _ _ _ h => h)
  exact (ss_cons (s_if (t_not (t_val (e_callO h_is_list rfl hr hx (a_cons (e_var rfl (vis_of rfl) rfl rfl) (a_cons e_int (a_cons (e_globI g_MOST_ROW) a_nil rfl) rfl) rfl)) rfl)) (ss_one (s_raise rfl tk (hr.mono hk2) R_BadRow (a_cons e_non a_nil rfl))) ss_nil) (ss_one (s_for (passes_of rfl) rfl (i_enum rfl rfl f_enumerate (e_var rfl (vis_of rfl) rfl rfl) rfl) (g_tup rfl rfl (gs_cons (g_name hN rfl (loc_of rfl) (by first | exact .inr rfl | exact .inl rfl)) (gs_cons (g_name hN rfl (loc_of rfl) (by first | exact .inr rfl | exact .inl rfl)) gs_nil rfl) rfl) (takes_cons (takes_cons takes_nil)) rfl rfl) (ss_one (s_if (t_val (e_isi rfl rfl rfl f_isinstance rfl f_str (by decide +kernel) (bOfD (e_var rfl (vis_of rfl) rfl rfl)) rfl (by decide) rfl) rfl) (ss_one (s_if (PW.pt (w_or (t_cmp (o_cmp rfl hu .NotEq) (bOfD (e_var rfl (vis_of rfl) rfl rfl)) (bOfD (e_strK (by kernel_rfl) (by decide))) rfl) (pw_or1 (t_cmp (o_cmp rfl hu .In) (bOfD (e_strK (by kernel_rfl) (by decide))) (bOfD (e_slice rfl (bOfD (e_var rfl (vis_of rfl) rfl rfl)) p_none (p_some (e_var rfl (vis_of rfl) rfl rfl)))) rfl)))) (ss_one (s_raise rfl tk (hr.mono hk2) R_BadRow (a_cons (e_var rfl (vis_of rfl) rfl rfl) a_nil rfl))) ss_nil)) (ss_one (s_if (t_not (t_val (e_callO h_is_in rfl hr hx (a_cons (e_var rfl (vis_of rfl) rfl rfl) (a_cons e_int (a_cons (e_bin (o_bin rfl (op := .Sub) rfl) (bOfD (e_globI g_MOST_WORDS)) (bOfD e_int)) a_nil rfl) rfl) rfl)) rfl)) (ss_one (s_raise rfl tk (hr.mono hk2) R_BadRow (a_cons (e_var rfl (vis_of rfl) rfl rfl) a_nil rfl))) ss_nil)))) (fun _ => rfl))))
def d_need_text (c : Nat → DFn) : DS := sIf (dNotT (dTest (dC1 (gIsi "str") (dVar 0)))) (sRaise0 "NotText") (sNil)
def N_need_text : List Str := ["text"]
theorem sc_need_text : FnScope N_need_text ["text"] (defScope (top 30)) := ⟨rfl, rfl, rfl, by decide +kernel, rfl, by decide +kernel, by decide +kernel⟩
theorem p_need_text (hk2 : 2 ≤ k) {c : Nat → DFn} {f : Addr} {fd : FuncData} (F0 : FunD K "need_text" "need_text" (defArgs (top 30)) (defBody (top 30)) (defScope (top 30)) [] [] f fd) (f_isinstance : mg "isinstance" = none) (f_str : mg "str" = none) (g_NotText : mg "NotText" = some (.ref (He.ga K "NotText")) ∧ (He.Fa.exc "NotText").ok K = true) :
    FnOk P w K mg base (L2.CX P w) (k + 1) f fd ["text"] (spD T K (runD 1 1 (d_need_text c))) := fn_di F0 sc_need_text fun cdv A outer s H E B hr => by
  have hN := sc_need_text.nd
  have hu := huR hr
  have tk : Takes (cxOf (L2.CX P w) P w K mg base N_need_text "need_text" (defScope (top 30)) f cdv A outer s H E) (fun cls d _ H => E cls d H) := takes_of rfl rfl rfl rfl
  have hx : Passes (L2.CX P w) (cxOf (L2.CX P w) P w K mg base N_need_text "need_text" (defScope (top 30)) f cdv A outer s H E) E := passes_call tk (fun _ _ _ _ h => h)
  exact (ss_one (s_if (t_not (t_val (e_isi rfl rfl rfl f_isinstance rfl f_str (by decide +kernel) (bOfD (e_var rfl (vis_of rfl) rfl rfl)) rfl (by decide) rfl) rfl)) (ss_one (s_raise0 rfl tk (g_NotText).1 (g_NotText).2)) ss_nil))
def d_words_of (c : Nat → DFn) : DS := sRet (dComp (iSeq (dM1 "str" gSplit (dVar 0) (dK (.str [32])))) (gN 1) [1] (dTest (dBin (gCmp .NotEq) (dVar 1) (dK (.str [])))) (dVar 1))
def N_words_of : List Str := ["text", "word"]
theorem sc_words_of : FnScope N_words_of ["text"] (defScope (top 31)) := ⟨rfl, rfl, rfl, by decide +kernel, rfl, by decide +kernel, by decide +kernel⟩
theorem p_words_of (hk2 : 2 ≤ k) {c : Nat → DFn} {f : Addr} {fd : FuncData} (F0 : FunD K "words_of" "words_of" (defArgs (top 31)) (defBody (top 31)) (defScope (top 31)) [] [] f fd)  :
    FnOk P w K mg base (L2.CX P w) (k + 1) f fd ["text"] (spD T K (runD 2 1 (d_words_of c))) := fn_di F0 sc_words_of fun cdv A outer s H E B hr => by
  have hN := sc_words_of.nd
  have hu := huR hr
  have tk : Takes (cxOf (L2.CX P w) P w K mg base N_words_of "words_of" (defScope (top 31)) f cdv A outer s H E) (fun cls d _ H => E cls d H) := takes_of rfl rfl rfl rfl
  have hx : Passes (L2.CX P w) (cxOf (L2.CX P w) P w K mg base N_words_of "words_of" (defScope (top 31)) f cdv A outer s H E) E := passes_call tk (fun _ _ _ _ h => h)
  exact (ss_one (s_ret (dOfF (e_comp (own := [("word", 1)]) rfl hN (i_seq rfl (e_meth rfl F.plainAttrs_str F.slot_str_split ty_str_split (m_split) (bOfD (e_var rfl (vis_of rfl) rfl rfl)) (bOfD (e_strK (by kernel_rfl) (by decide))) rfl rfl rfl)) (blk_of rfl) (fun _ _ _ _ _ => (g_name hN rfl (loc_of rfl) (by first | exact .inr rfl | exact .inl rfl))) (fun _ _ _ _ _ => (pts_one (t_cmp (o_cmp rfl hu .NotEq) (bOfD (e_var rfl (vis_of rfl) rfl rfl)) (bOfD (e_strK (by kernel_rfl) (by decide))) rfl))) (fun _ _ _ _ _ => (e_var rfl (vis_of rfl) rfl rfl)) (fun _ => rfl) (by decide)))))
def d_plan_words (c : Nat → DFn) : DS := sSeq (sIf (dTest (dBin (gCmp .Eq) (dSub (dVar 0) (dK (.int 0))) (dK (.str [114, 101, 115, 116])))) (sRet (dLst (dCons (dK (.str [114, 101, 115, 116])) (dNil)))) (sNil)) (sSeq (sIf (dTest (dBin (gCmp .Eq) (dSub (dVar 0) (dK (.int 0))) (dK (.str [115, 97, 121])))) (sRet (dLst (dCons (dSub (dK (.str [97, 98, 99, 100, 101, 102, 103, 104])) (dSub (dVar 0) (dK (.int 1)))) (dNil)))) (sNil)) (sSeq (sSetF 1 (dLst (dCons (dBin gAdd (dSub (dVar 0) (dK (.int 0))) (dIf (dTest (dBin (gCmp .In) (dSub (dVar 0) (dK (.int 0))) (dTup (dCons (dK (.str [116, 104, 101, 110])) (dCons (dK (.str [98, 111, 116, 104])) (dNil)))))) (dC1 gStr (dBin gSub (dC1 gLen (dVar 0)) (dK (.int 1)))) (dK (.str [])))) (dNil)))) (sSeq (sFor (iSeq (dSl (dVar 0) (some (dK (.int 1))) none)) (gN 2) (sExt 1 (dCall (c 11) (dCons (dVar 2) (dNil))))) (sSeq (sFrz 1) (sRet (dVar 1))))))
def N_plan_words : List Str := ["plan", "found", "part"]
theorem sc_plan_words : FnScope N_plan_words ["plan"] (defScope (top 32)) := ⟨rfl, rfl, rfl, by decide +kernel, rfl, by decide +kernel, by decide +kernel⟩
theorem p_plan_words (hk2 : 2 ≤ k) {c : Nat → DFn} {f : Addr} {fd : FuncData} (F0 : FunD K "plan_words" "plan_words" (defArgs (top 32)) (defBody (top 32)) (defScope (top 32)) [] [] f fd) (h_plan_words : OkF P w K mg base T k "plan_words" ["plan"] (c 11)) (g_WORDS : ∃ t, mg "WORDS" = some (.str "abcdefgh" t)) (f_len : mg "len" = none) (f_str : mg "str" = none) :
    FnOk P w K mg base (L2.CX P w) (k + 1) f fd ["plan"] (spD T K (runD 3 1 (d_plan_words c))) := fn_di F0 sc_plan_words fun cdv A outer s H E B hr => by
  have hN := sc_plan_words.nd
  have hu := huR hr
  have tk : Takes (cxOf (L2.CX P w) P w K mg base N_plan_words "plan_words" (defScope (top 32)) f cdv A outer s H E) (fun cls d _ H => E cls d H) := takes_of rfl rfl rfl rfl
  have hx : Passes (L2.CX P w) (cxOf (L2.CX P w) P w K mg base N_plan_words "plan_words" (defScope (top 32)) f cdv A outer s H E) E := passes_call tk (fun _ _ _ _ h => h)
  exact (ss_cons (s_if (t_cmp (o_cmp rfl hu .Eq) (bOfD (e_sub rfl (bOfD (e_var rfl (vis_of rfl) rfl rfl)) e_int rfl)) (bOfD (e_strK (by kernel_rfl) (by decide))) rfl) (ss_one (s_ret (dOfF (e_lst (a_cons (e_strK (by kernel_rfl) (by decide)) a_nil rfl))))) ss_nil) (ss_cons (s_if (t_cmp (o_cmp rfl hu .Eq) (bOfD (e_sub rfl (bOfD (e_var rfl (vis_of rfl) rfl rfl)) e_int rfl)) (bOfD (e_strK (by kernel_rfl) (by decide))) rfl) (ss_one (s_ret (dOfF (e_lst (a_cons (e_sub rfl (bOfD (e_globS g_WORDS (by kernel_rfl) (by decide))) (e_sub rfl (bOfD (e_var rfl (vis_of rfl) rfl rfl)) e_int rfl) rfl) a_nil rfl))))) ss_nil) (ss_cons (s_setF hN rfl (loc_of rfl) (e_lst (a_cons (e_bin (o_bin rfl (op := .Add) rfl) (bOfD (e_sub rfl (bOfD (e_var rfl (vis_of rfl) rfl rfl)) e_int rfl)) (bOfD (e_if (t_cmp (o_cmp rfl hu .In) (bOfD (e_sub rfl (bOfD (e_var rfl (vis_of rfl) rfl rfl)) e_int rfl)) (bOfD (e_tup (a_cons (e_strK (by kernel_rfl) (by decide)) (a_cons (e_strK (by kernel_rfl) (by decide)) a_nil rfl) rfl))) rfl) (e_callTy (c_str) rfl f_str (by decide +kernel) (bOfD (e_bin (o_bin rfl (op := .Sub) rfl) (bOfD (e_callB (c_len rfl) rfl f_len (by decide +kernel) (bOfD (e_var rfl (vis_of rfl) rfl rfl)) rfl (by decide) rfl)) (bOfD e_int))) rfl (by decide) rfl) (e_strK (by kernel_rfl) (by decide))))) a_nil rfl)) rfl (by first | exact .inr rfl | exact .inl rfl)) (ss_cons (s_for (passes_of rfl) rfl (i_seq rfl (e_slice rfl (bOfD (e_var rfl (vis_of rfl) rfl rfl)) (p_some e_int) p_none)) (g_name hN rfl (loc_of rfl) (by first | exact .inr rfl | exact .inl rfl)) (ss_one (s_ext rfl rfl (vis_of rfl) rfl rfl (e_callO h_plan_words rfl hr hx (a_cons (e_var rfl (vis_of rfl) rfl rfl) a_nil rfl)) rfl rfl)) (fun _ => rfl)) (ss_frz (ss_one (s_ret (e_var rfl (vis_of rfl) rfl rfl))))))))
def d_write_plan (c : Nat → DFn) : DS := sSeq (sExpr (dCall (c 6) (dCons (dVar 0) (dNil)))) (sRet (dM1 "str" gJoin (dK (.str [32])) (dCall (c 11) (dCons (dVar 0) (dNil)))))
def N_write_plan : List Str := ["plan"]
theorem sc_write_plan : FnScope N_write_plan ["plan"] (defScope (top 33)) := ⟨rfl, rfl, rfl, by decide +kernel, rfl, by decide +kernel, by decide +kernel⟩
theorem p_write_plan (hk2 : 2 ≤ k) {c : Nat → DFn} {f : Addr} {fd : FuncData} (F0 : FunD K "write_plan" "write_plan" (defArgs (top 33)) (defBody (top 33)) (defScope (top 33)) [] [] f fd) (h_need_plan : OkF P w K mg base T k "need_plan" ["plan"] (c 6)) (h_plan_words : OkF P w K mg base T k "plan_words" ["plan"] (c 11)) :
    FnOk P w K mg base (L2.CX P w) (k + 1) f fd ["plan"] (spD T K (runD 1 1 (d_write_plan c))) := fn_di F0 sc_write_plan fun cdv A outer s H E B hr => by
  have hN := sc_write_plan.nd
  have hu := huR hr
  have tk : Takes (cxOf (L2.CX P w) P w K mg base N_write_plan "write_plan" (defScope (top 33)) f cdv A outer s H E) (fun cls d _ H => E cls d H) := takes_of rfl rfl rfl rfl
  have hx : Passes (L2.CX P w) (cxOf (L2.CX P w) P w K mg base N_write_plan "write_plan" (defScope (top 33)) f cdv A outer s H E) E := passes_call tk (fun _ _ _ _ h => h)
  exact (ss_cons (s_expr (e_callO h_need_plan rfl hr hx (a_cons (e_var rfl (vis_of rfl) rfl rfl) a_nil rfl)) rfl) (ss_one (s_ret (e_meth rfl F.plainAttrs_str F.slot_str_join ty_str_join (m_join rfl) (bOfD (e_strK (by kernel_rfl) (by decide))) (bOfD (e_callO h_plan_words rfl hr hx (a_cons (e_var rfl (vis_of rfl) rfl rfl) a_nil rfl))) rfl rfl rfl))))
def d_head_of (c : Nat → DFn) : DS := sSeq (sIf (dTest (dBin (gCmp .Eq) (dVar 0) (dK (.str [114, 101, 115, 116])))) (sRet (dTup (dCons (dTup (dCons (dK (.str [114, 101, 115, 116])) (dNil))) (dCons (dK (.int 0)) (dNil))))) (sNil)) (sSeq (sIf (dAndT (dTest (dBin (gCmp .Eq) (dC1 gLen (dVar 0)) (dK (.int 1)))) (dTest (dBin (gCmp .In) (dVar 0) (dK (.str [97, 98, 99, 100, 101, 102, 103, 104]))))) (sRet (dTup (dCons (dTup (dCons (dK (.str [115, 97, 121])) (dCons (dM1 "str" gIndexS (dK (.str [97, 98, 99, 100, 101, 102, 103, 104])) (dVar 0)) (dNil)))) (dCons (dK (.int 0)) (dNil))))) (sNil)) (sSeq (sFor (iSeq (dTup (dCons (dK (.str [116, 104, 101, 110])) (dCons (dK (.str [98, 111, 116, 104])) (dNil))))) (gN 1) (sIf (dAndT (dTest (dBin (gCmp .Eq) (dSl (dVar 0) none (some (dC1 gLen (dVar 1)))) (dVar 1))) (dTest (dBin (gCmp .In) (dSl (dVar 0) (some (dC1 gLen (dVar 1))) none) (dK c_NUMBERS)))) (sRet (dTup (dCons (dTup (dCons (dVar 1) (dNil))) (dCons (dC1 gInt (dSl (dVar 0) (some (dC1 gLen (dVar 1))) none)) (dNil))))) (sNil))) (sRet (dGetS [([108, 97, 115, 116], dTup (dCons (dTup (dCons (dK (.str [108, 97, 115, 116])) (dNil))) (dCons (dK (.int 2)) (dNil)))), ([115, 104, 105, 101, 108, 100], dTup (dCons (dTup (dCons (dK (.str [115, 104, 105, 101, 108, 100])) (dNil))) (dCons (dK (.int 1)) (dNil))))] (dVar 0)))))
def N_head_of : List Str := ["word", "kind"]
theorem sc_head_of : FnScope N_head_of ["word"] (defScope (top 34)) := ⟨rfl, rfl, rfl, by decide +kernel, rfl, by decide +kernel, by decide +kernel⟩
theorem p_head_of (hk2 : 2 ≤ k) {c : Nat → DFn} {f : Addr} {fd : FuncData} (F0 : FunD K "head_of" "head_of" (defArgs (top 34)) (defBody (top 34)) (defScope (top 34)) [] [] f fd) (f_len : mg "len" = none) (g_WORDS : ∃ t, mg "WORDS" = some (.str "abcdefgh" t)) (g_NUMBERS : mg "NUMBERS" = some (.ref (He.ga K "NUMBERS")) ∧ ∀ G m, Rep K G m (.ref (He.ga K "NUMBERS")) c_NUMBERS) (f_int : mg "int" = none) :
    FnOk P w K mg base (L2.CX P w) (k + 1) f fd ["word"] (spD T K (runD 2 1 (d_head_of c))) := fn_di F0 sc_head_of fun cdv A outer s H E B hr => by
  have hN := sc_head_of.nd
  have hu := huR hr
  have tk : Takes (cxOf (L2.CX P w) P w K mg base N_head_of "head_of" (defScope (top 34)) f cdv A outer s H E) (fun cls d _ H => E cls d H) := takes_of rfl rfl rfl rfl
  have hx : Passes (L2.CX P w) (cxOf (L2.CX P w) P w K mg base N_head_of "head_of" (defScope (top 34)) f cdv A outer s H E) E := passes_call tk (fun _ _ _ _ h => h)
  exact (ss_cons (s_if (t_cmp (o_cmp rfl hu .Eq) (bOfD (e_var rfl (vis_of rfl) rfl rfl)) (bOfD (e_strK (by kernel_rfl) (by decide))) rfl) (ss_one (s_ret (e_tup (a_cons (e_tup (a_cons (e_strK (by kernel_rfl) (by decide)) a_nil rfl)) (a_cons e_int a_nil rfl) rfl)))) ss_nil) (ss_cons (s_if (PW.pt (w_and (t_cmp (o_cmp rfl hu .Eq) (bOfD (e_callB (c_len rfl) rfl f_len (by decide +kernel) (bOfD (e_var rfl (vis_of rfl) rfl rfl)) rfl (by decide) rfl)) (bOfD e_int) rfl) (pw_and1 (t_cmp (o_cmp rfl hu .In) (bOfD (e_var rfl (vis_of rfl) rfl rfl)) (bOfD (e_globS g_WORDS (by kernel_rfl) (by decide))) rfl)))) (ss_one (s_ret (e_tup (a_cons (e_tup (a_cons (e_strK (by kernel_rfl) (by decide)) (a_cons (e_meth rfl F.plainAttrs_str F.slot_str_index ty_str_index (m_indexS) (bOfD (e_globS g_WORDS (by kernel_rfl) (by decide))) (bOfD (e_var rfl (vis_of rfl) rfl rfl)) rfl rfl rfl) a_nil rfl) rfl)) (a_cons e_int a_nil rfl) rfl)))) ss_nil) (ss_cons (s_for (passes_of rfl) rfl (i_seq rfl (e_tup (a_cons (e_strK (by kernel_rfl) (by decide)) (a_cons (e_strK (by kernel_rfl) (by decide)) a_nil rfl) rfl))) (g_name hN rfl (loc_of rfl) (by first | exact .inr rfl | exact .inl rfl)) (ss_one (s_if (PW.pt (w_and (t_cmp (o_cmp rfl hu .Eq) (bOfD (e_slice rfl (bOfD (e_var rfl (vis_of rfl) rfl rfl)) p_none (p_some (e_callB (c_len rfl) rfl f_len (by decide +kernel) (bOfD (e_var rfl (vis_of rfl) rfl rfl)) rfl (by decide) rfl)))) (bOfD (e_var rfl (vis_of rfl) rfl rfl)) rfl) (pw_and1 (t_cmp (o_cmp rfl hu .In) (bOfD (e_slice rfl (bOfD (e_var rfl (vis_of rfl) rfl rfl)) (p_some (e_callB (c_len rfl) rfl f_len (by decide +kernel) (bOfD (e_var rfl (vis_of rfl) rfl rfl)) rfl (by decide) rfl)) p_none)) (bOfD (e_globR g_NUMBERS.1 g_NUMBERS.2)) rfl)))) (ss_one (s_ret (e_tup (a_cons (e_tup (a_cons (e_var rfl (vis_of rfl) rfl rfl) a_nil rfl)) (a_cons (e_callTy (c_int) rfl f_int (by decide +kernel) (bOfD (e_slice rfl (bOfD (e_var rfl (vis_of rfl) rfl rfl)) (p_some (e_callB (c_len rfl) rfl f_len (by decide +kernel) (bOfD (e_var rfl (vis_of rfl) rfl rfl)) rfl (by decide) rfl)) p_none)) rfl (by decide) rfl) a_nil rfl) rfl)))) ss_nil)) (fun _ => rfl)) (ss_one (s_ret (e_dgetS (hu1 hu) (pps_cons (e_strK (by kernel_rfl) (by decide)) (e_tup (a_cons (e_tup (a_cons (e_strK (by kernel_rfl) (by decide)) a_nil rfl)) (a_cons e_int a_nil rfl) rfl)) (pps_cons (e_strK (by kernel_rfl) (by decide)) (e_tup (a_cons (e_tup (a_cons (e_strK (by kernel_rfl) (by decide)) a_nil rfl)) (a_cons e_int a_nil rfl) rfl)) pps_nil)) (e_var rfl (vis_of rfl) rfl rfl) rfl rfl rfl (by simp) (by decide) rfl))))))
def d_plan_at (c : Nat → DFn) : DS := sSeq (sSet 4 (dIf (dAndT (dTest (dBin (gCmp .Lt) (dVar 1) (dC1 gLen (dVar 0)))) (dTest (dBin (gCmp .Gt) (dVar 2) (dK (.int 0))))) (dCall (c 13) (dCons (dSub (dVar 0) (dVar 1)) (dNil))) (dK .non))) (sSeq (sIf (dOrT (dTest (dBin (gCmp .Is) (dVar 4) (dK .non))) (dAndT (dTest (dBin (gCmp .Eq) (dSub (dVar 4) (dK (.int 1))) (dK (.int 0)))) (dTest (dBin (gCmp .Eq) (dVar 3) (dK (.int 12)))))) (sRaise "InvalidText" ["line", "word"] (dCons (dK (.int 1)) (dCons (dBin gAdd (dVar 1) (dK (.int 1))) (dNil)))) (sNil)) (sSeq (sAsg (dVar 4) (gT (gC (gN 5) (gC (gN 6) (gNils))))) (sSeq (sPar 7 3 false (dBin gAdd (dVar 1) (dK (.int 1))) false (dBin gAdd (dVar 3) (dC1 gInt (dBin (gCmp .Eq) (dVar 6) (dK (.int 0)))))) (sSeq (sFor (iRng (dVar 6)) (gN 8) (sSeq (sAsg (dCall (c 14) (dCons (dVar 0) (dCons (dVar 7) (dCons (dBin gSub (dVar 2) (dK (.int 1))) (dCons (dVar 3) (dNil)))))) (gT (gC (gN 9) (gC (gN 7) (gC (gN 3) (gNils)))))) (sSet 5 (dTup (dStar (dVar 5) (dCons (dVar 9) (dNil))))))) (sRet (dTup (dCons (dVar 5) (dCons (dVar 7) (dCons (dVar 3) (dNil))))))))))
def N_plan_at : List Str := ["words", "at", "deep", "leaves", "head", "found", "many", "place", "turn", "part"]
theorem sc_plan_at : FnScope N_plan_at ["words", "at", "deep", "leaves"] (defScope (top 35)) := ⟨rfl, rfl, rfl, by decide +kernel, rfl, by decide +kernel, by decide +kernel⟩
theorem p_plan_at (hk2 : 2 ≤ k) {c : Nat → DFn} {f : Addr} {fd : FuncData} (F0 : FunD K "plan_at" "plan_at" (defArgs (top 35)) (defBody (top 35)) (defScope (top 35)) [] [] f fd) (h_head_of : OkF P w K mg base T k "head_of" ["word"] (c 13)) (h_plan_at : OkF P w K mg base T k "plan_at" ["words", "at", "deep", "leaves"] (c 14)) (f_len : mg "len" = none) (g_MOST_LEAVES : ∃ t, mg "MOST_LEAVES" = some (.int 12 t)) (f_int : mg "int" = none) (f_range : mg "range" = none) (R_InvalidText : SupOk P w K mg base "InvalidText" ["line", "word"]) :
    FnOk P w K mg base (L2.CX P w) (k + 1) f fd ["words", "at", "deep", "leaves"] (spD T K (runD 10 4 (d_plan_at c))) := fn_di F0 sc_plan_at fun cdv A outer s H E B hr => by
  have hN := sc_plan_at.nd
  have hu := huR hr
  have tk : Takes (cxOf (L2.CX P w) P w K mg base N_plan_at "plan_at" (defScope (top 35)) f cdv A outer s H E) (fun cls d _ H => E cls d H) := takes_of rfl rfl rfl rfl
  have hx : Passes (L2.CX P w) (cxOf (L2.CX P w) P w K mg base N_plan_at "plan_at" (defScope (top 35)) f cdv A outer s H E) E := passes_call tk (fun _ _ _ _ h => h)
  exact (ss_cons (s_set hN rfl (loc_of rfl) (e_if (PW.pt (w_and (t_cmp (o_cmp rfl hu .Lt) (bOfD (e_var rfl (vis_of rfl) rfl rfl)) (bOfD (e_callB (c_len rfl) rfl f_len (by decide +kernel) (bOfD (e_var rfl (vis_of rfl) rfl rfl)) rfl (by decide) rfl)) rfl) (pw_and1 (t_cmp (o_cmp rfl hu .Gt) (bOfD (e_var rfl (vis_of rfl) rfl rfl)) (bOfD e_int) rfl)))) (e_callO h_head_of rfl hr hx (a_cons (e_sub rfl (bOfD (e_var rfl (vis_of rfl) rfl rfl)) (e_var rfl (vis_of rfl) rfl rfl) rfl) a_nil rfl)) e_non) rfl (by first | exact .inr rfl | exact .inl rfl)) (ss_cons (s_if (PW.pt (w_or (t_cmp (o_cmp rfl hu .Is) (bOfD (e_var rfl (vis_of rfl) rfl rfl)) (bOfD e_non) rfl) (pw_or1 (PW.pt (w_and (t_cmp (o_cmp rfl hu .Eq) (bOfD (e_sub rfl (bOfD (e_var rfl (vis_of rfl) rfl rfl)) e_int rfl)) (bOfD e_int) rfl) (pw_and1 (t_cmp (o_cmp rfl hu .Eq) (bOfD (e_var rfl (vis_of rfl) rfl rfl)) (bOfD (e_globI g_MOST_LEAVES)) rfl))))))) (ss_one (s_raise rfl tk (hr.mono hk2) R_InvalidText (a_cons e_int (a_cons (e_bin (o_bin rfl (op := .Add) rfl) (bOfD (e_var rfl (vis_of rfl) rfl rfl)) (bOfD e_int)) a_nil rfl) rfl))) ss_nil) (ss_cons (s_asg (e_var rfl (vis_of rfl) rfl rfl) (g_tup rfl rfl (gs_cons (g_name hN rfl (loc_of rfl) (by first | exact .inr rfl | exact .inl rfl)) (gs_cons (g_name hN rfl (loc_of rfl) (by first | exact .inr rfl | exact .inl rfl)) gs_nil rfl) rfl) (takes_cons (takes_cons takes_nil)) rfl rfl) rfl rfl rfl) (ss_cons (s_par rfl hN rfl rfl (by decide) rfl rfl (m_sh (e_bin (o_bin rfl (op := .Add) rfl) (bOfD (e_var rfl (vis_of rfl) rfl rfl)) (bOfD e_int))) (m_sh (e_bin (o_bin rfl (op := .Add) rfl) (bOfD (e_var rfl (vis_of rfl) rfl rfl)) (bOfD (e_callTy (c_int) rfl f_int (by decide +kernel) (bOfD (e_cmp (o_cmp rfl hu .Eq) (bOfD (e_var rfl (vis_of rfl) rfl rfl)) (bOfD e_int) rfl)) rfl (by decide) rfl)))) rfl rfl rfl rfl) (ss_cons (s_for (passes_of rfl) rfl (i_range1 rfl f_range (e_var rfl (vis_of rfl) rfl rfl) rfl) (g_name hN rfl (loc_of rfl) (by first | exact .inr rfl | exact .inl rfl)) (ss_cons (s_asg (e_callO h_plan_at rfl hr hx (a_cons (e_var rfl (vis_of rfl) rfl rfl) (a_cons (e_var rfl (vis_of rfl) rfl rfl) (a_cons (e_bin (o_bin rfl (op := .Sub) rfl) (bOfD (e_var rfl (vis_of rfl) rfl rfl)) (bOfD e_int)) (a_cons (e_var rfl (vis_of rfl) rfl rfl) a_nil rfl) rfl) rfl) rfl)) (g_tup rfl rfl (gs_cons (g_name hN rfl (loc_of rfl) (by first | exact .inr rfl | exact .inl rfl)) (gs_cons (g_name hN rfl (loc_of rfl) (by first | exact .inr rfl | exact .inl rfl)) (gs_cons (g_name hN rfl (loc_of rfl) (by first | exact .inr rfl | exact .inl rfl)) gs_nil rfl) rfl) rfl) (takes_cons (takes_cons (takes_cons takes_nil))) rfl rfl) rfl rfl rfl) (ss_one (s_set hN rfl (loc_of rfl) (e_tup (a_star rfl (bOfD (e_var rfl (vis_of rfl) rfl rfl)) (a_cons (e_var rfl (vis_of rfl) rfl rfl) a_nil rfl))) rfl (by first | exact .inr rfl | exact .inl rfl)))) (fun _ => rfl)) (ss_one (s_ret (e_tup (a_cons (e_var rfl (vis_of rfl) rfl rfl) (a_cons (e_var rfl (vis_of rfl) rfl rfl) (a_cons (e_var rfl (vis_of rfl) rfl rfl) a_nil rfl) rfl) rfl)))))))))
def d_read_plan (c : Nat → DFn) : DS := sSeq (sExpr (dCall (c 9) (dCons (dVar 0) (dNil)))) (sSeq (sSet 1 (dCall (c 10) (dCons (dVar 0) (dNil)))) (sSeq (sAsg (dCall (c 14) (dCons (dVar 1) (dCons (dK (.int 0)) (dCons (dK (.int 40)) (dCons (dK (.int 0)) (dNil)))))) (gT (gC (gN 2) (gC (gN 3) (gC (gN 4) (gNils)))))) (sSeq (sIf (dTest (dBin (gCmp .Lt) (dVar 3) (dC1 gLen (dVar 1)))) (sRaise "InvalidText" ["line", "word"] (dCons (dK (.int 1)) (dCons (dBin gAdd (dVar 3) (dK (.int 1))) (dNil)))) (sNil)) (sRet (dVar 2)))))
def N_read_plan : List Str := ["text", "words", "plan", "place", "leaves"]
theorem sc_read_plan : FnScope N_read_plan ["text"] (defScope (top 36)) := ⟨rfl, rfl, rfl, by decide +kernel, rfl, by decide +kernel, by decide +kernel⟩
theorem p_read_plan (hk2 : 2 ≤ k) {c : Nat → DFn} {f : Addr} {fd : FuncData} (F0 : FunD K "read_plan" "read_plan" (defArgs (top 36)) (defBody (top 36)) (defScope (top 36)) [] [] f fd) (h_need_text : OkF P w K mg base T k "need_text" ["text"] (c 9)) (h_words_of : OkF P w K mg base T k "words_of" ["text"] (c 10)) (h_plan_at : OkF P w K mg base T k "plan_at" ["words", "at", "deep", "leaves"] (c 14)) (g_MOST_DEEP : ∃ t, mg "MOST_DEEP" = some (.int 40 t)) (f_len : mg "len" = none) (R_InvalidText : SupOk P w K mg base "InvalidText" ["line", "word"]) :
    FnOk P w K mg base (L2.CX P w) (k + 1) f fd ["text"] (spD T K (runD 5 1 (d_read_plan c))) := fn_di F0 sc_read_plan fun cdv A outer s H E B hr => by
  have hN := sc_read_plan.nd
  have hu := huR hr
  have tk : Takes (cxOf (L2.CX P w) P w K mg base N_read_plan "read_plan" (defScope (top 36)) f cdv A outer s H E) (fun cls d _ H => E cls d H) := takes_of rfl rfl rfl rfl
  have hx : Passes (L2.CX P w) (cxOf (L2.CX P w) P w K mg base N_read_plan "read_plan" (defScope (top 36)) f cdv A outer s H E) E := passes_call tk (fun _ _ _ _ h => h)
  exact (ss_cons (s_expr (e_callO h_need_text rfl hr hx (a_cons (e_var rfl (vis_of rfl) rfl rfl) a_nil rfl)) rfl) (ss_cons (s_set hN rfl (loc_of rfl) (e_callO h_words_of rfl hr hx (a_cons (e_var rfl (vis_of rfl) rfl rfl) a_nil rfl)) rfl (by first | exact .inr rfl | exact .inl rfl)) (ss_cons (s_asg (e_callO h_plan_at rfl hr hx (a_cons (e_var rfl (vis_of rfl) rfl rfl) (a_cons e_int (a_cons (e_globI g_MOST_DEEP) (a_cons e_int a_nil rfl) rfl) rfl) rfl)) (g_tup rfl rfl (gs_cons (g_name hN rfl (loc_of rfl) (by first | exact .inr rfl | exact .inl rfl)) (gs_cons (g_name hN rfl (loc_of rfl) (by first | exact .inr rfl | exact .inl rfl)) (gs_cons (g_name hN rfl (loc_of rfl) (by first | exact .inr rfl | exact .inl rfl)) gs_nil rfl) rfl) rfl) (takes_cons (takes_cons (takes_cons takes_nil))) rfl rfl) rfl rfl rfl) (ss_cons (s_if (t_cmp (o_cmp rfl hu .Lt) (bOfD (e_var rfl (vis_of rfl) rfl rfl)) (bOfD (e_callB (c_len rfl) rfl f_len (by decide +kernel) (bOfD (e_var rfl (vis_of rfl) rfl rfl)) rfl (by decide) rfl)) rfl) (ss_one (s_raise rfl tk (hr.mono hk2) R_InvalidText (a_cons e_int (a_cons (e_bin (o_bin rfl (op := .Add) rfl) (bOfD (e_var rfl (vis_of rfl) rfl rfl)) (bOfD e_int)) a_nil rfl) rfl))) ss_nil) (ss_one (s_ret (e_var rfl (vis_of rfl) rfl rfl)))))))
def d_write_row (c : Nat → DFn) : DS := sSeq (sExpr (dCall (c 8) (dCons (dVar 0) (dNil)))) (sRet (dM1 "str" gJoin (dK (.str [32])) (dComp (iSeq (dVar 0)) (gN 1) [1] (dYes) (dIf (dTest (dBin (gCmp .Eq) (dVar 1) (dK (.str [111, 102, 102])))) (dVar 1) (dSub (dK (.str [97, 98, 99, 100, 101, 102, 103, 104])) (dVar 1))))))
def N_write_row : List Str := ["row", "label"]
theorem sc_write_row : FnScope N_write_row ["row"] (defScope (top 37)) := ⟨rfl, rfl, rfl, by decide +kernel, rfl, by decide +kernel, by decide +kernel⟩
theorem p_write_row (hk2 : 2 ≤ k) {c : Nat → DFn} {f : Addr} {fd : FuncData} (F0 : FunD K "write_row" "write_row" (defArgs (top 37)) (defBody (top 37)) (defScope (top 37)) [] [] f fd) (h_need_row : OkF P w K mg base T k "need_row" ["row"] (c 8)) (g_WORDS : ∃ t, mg "WORDS" = some (.str "abcdefgh" t)) :
    FnOk P w K mg base (L2.CX P w) (k + 1) f fd ["row"] (spD T K (runD 2 1 (d_write_row c))) := fn_di F0 sc_write_row fun cdv A outer s H E B hr => by
  have hN := sc_write_row.nd
  have hu := huR hr
  have tk : Takes (cxOf (L2.CX P w) P w K mg base N_write_row "write_row" (defScope (top 37)) f cdv A outer s H E) (fun cls d _ H => E cls d H) := takes_of rfl rfl rfl rfl
  have hx : Passes (L2.CX P w) (cxOf (L2.CX P w) P w K mg base N_write_row "write_row" (defScope (top 37)) f cdv A outer s H E) E := passes_call tk (fun _ _ _ _ h => h)
  exact (ss_cons (s_expr (e_callO h_need_row rfl hr hx (a_cons (e_var rfl (vis_of rfl) rfl rfl) a_nil rfl)) rfl) (ss_one (s_ret (e_meth rfl F.plainAttrs_str F.slot_str_join ty_str_join (m_join rfl) (bOfD (e_strK (by kernel_rfl) (by decide))) (bOfD (dOfF (e_comp (own := [("label", 1)]) rfl hN (i_seq rfl (e_var rfl (vis_of rfl) rfl rfl)) (blk_of rfl) (fun _ _ _ _ _ => (g_name hN rfl (loc_of rfl) (by first | exact .inr rfl | exact .inl rfl))) (fun _ _ _ _ _ => pts_yes) (fun _ _ _ _ _ => (e_if (t_cmp (o_cmp rfl hu .Eq) (bOfD (e_var rfl (vis_of rfl) rfl rfl)) (bOfD (e_strK (by kernel_rfl) (by decide))) rfl) (e_var rfl (vis_of rfl) rfl rfl) (e_sub rfl (bOfD (e_globS g_WORDS (by kernel_rfl) (by decide))) (e_var rfl (vis_of rfl) rfl rfl) rfl))) (fun _ => rfl) (by decide)))) rfl rfl rfl))))
def d_read_row (c : Nat → DFn) : DS := sSeq (sExpr (dCall (c 9) (dCons (dVar 0) (dNil)))) (sSeq (sSetF 1 (dLst (dNil))) (sSeq (sFor (iEnu (dCall (c 10) (dCons (dVar 0) (dNil)))) (gT (gC (gN 2) (gC (gN 3) (gNils)))) (sSeq (sIf (dOrT (dTest (dBin (gCmp .Eq) (dVar 2) (dK (.int 20)))) (dAndT (dTest (dBin (gCmp .Eq) (dVar 3) (dK (.str [111, 102, 102])))) (dTest (dBin (gCmp .In) (dK (.str [111, 102, 102])) (dVarB 1))))) (sRaise "InvalidText" ["line", "word"] (dCons (dK (.int 1)) (dCons (dBin gAdd (dVar 2) (dK (.int 1))) (dNil)))) (sNil)) (sSeq (sIf (dAndT (dTest (dBin (gCmp .NotEq) (dVar 3) (dK (.str [111, 102, 102])))) (dOrT (dTest (dBin (gCmp .NotEq) (dC1 gLen (dVar 3)) (dK (.int 1)))) (dTest (dBin (gCmp .NotIn) (dVar 3) (dK (.str [97, 98, 99, 100, 101, 102, 103, 104])))))) (sRaise "InvalidText" ["line", "word"] (dCons (dK (.int 1)) (dCons (dBin gAdd (dVar 2) (dK (.int 1))) (dNil)))) (sNil)) (sApp 1 (dIf (dTest (dBin (gCmp .Eq) (dVar 3) (dK (.str [111, 102, 102])))) (dK (.str [111, 102, 102])) (dM1 "str" gIndexS (dK (.str [97, 98, 99, 100, 101, 102, 103, 104])) (dVar 3))))))) (sRet (dC1 gTuple (dVarB 1)))))
def N_read_row : List Str := ["text", "found", "at", "word"]
theorem sc_read_row : FnScope N_read_row ["text"] (defScope (top 38)) := ⟨rfl, rfl, rfl, by decide +kernel, rfl, by decide +kernel, by decide +kernel⟩
theorem p_read_row (hk2 : 2 ≤ k) {c : Nat → DFn} {f : Addr} {fd : FuncData} (F0 : FunD K "read_row" "read_row" (defArgs (top 38)) (defBody (top 38)) (defScope (top 38)) [] [] f fd) (h_need_text : OkF P w K mg base T k "need_text" ["text"] (c 9)) (h_words_of : OkF P w K mg base T k "words_of" ["text"] (c 10)) (f_enumerate : mg "enumerate" = none) (g_MOST_ROW : ∃ t, mg "MOST_ROW" = some (.int 20 t)) (f_len : mg "len" = none) (g_WORDS : ∃ t, mg "WORDS" = some (.str "abcdefgh" t)) (f_tuple : mg "tuple" = none) (R_InvalidText : SupOk P w K mg base "InvalidText" ["line", "word"]) :
    FnOk P w K mg base (L2.CX P w) (k + 1) f fd ["text"] (spD T K (runD 4 1 (d_read_row c))) := fn_di F0 sc_read_row fun cdv A outer s H E B hr => by
  have hN := sc_read_row.nd
  have hu := huR hr
  have tk : Takes (cxOf (L2.CX P w) P w K mg base N_read_row "read_row" (defScope (top 38)) f cdv A outer s H E) (fun cls d _ H => E cls d H) := takes_of rfl rfl rfl rfl
  have hx : Passes (L2.CX P w) (cxOf (L2.CX P w) P w K mg base N_read_row "read_row" (defScope (top 38)) f cdv A outer s H E) E := passes_call tk (fun _ _ _ _ h => h)
  exact (ss_cons (s_expr (e_callO h_need_text rfl hr hx (a_cons (e_var rfl (vis_of rfl) rfl rfl) a_nil rfl)) rfl) (ss_cons (s_setF hN rfl (loc_of rfl) (e_lst a_nil) rfl (by first | exact .inr rfl | exact .inl rfl)) (ss_cons (s_for (passes_of rfl) rfl (i_enum rfl rfl f_enumerate (e_callO h_words_of rfl hr hx (a_cons (e_var rfl (vis_of rfl) rfl rfl) a_nil rfl)) rfl) (g_tup rfl rfl (gs_cons (g_name hN rfl (loc_of rfl) (by first | exact .inr rfl | exact .inl rfl)) (gs_cons (g_name hN rfl (loc_of rfl) (by first | exact .inr rfl | exact .inl rfl)) gs_nil rfl) rfl) (takes_cons (takes_cons takes_nil)) rfl rfl) (ss_cons (s_if (PW.pt (w_or (t_cmp (o_cmp rfl hu .Eq) (bOfD (e_var rfl (vis_of rfl) rfl rfl)) (bOfD (e_globI g_MOST_ROW)) rfl) (pw_or1 (PW.pt (w_and (t_cmp (o_cmp rfl hu .Eq) (bOfD (e_var rfl (vis_of rfl) rfl rfl)) (bOfD (e_strK (by kernel_rfl) (by decide))) rfl) (pw_and1 (t_cmp (o_cmp rfl hu .In) (bOfD (e_strK (by kernel_rfl) (by decide))) (e_varB rfl (vis_of rfl) rfl rfl) rfl))))))) (ss_one (s_raise rfl tk (hr.mono hk2) R_InvalidText (a_cons e_int (a_cons (e_bin (o_bin rfl (op := .Add) rfl) (bOfD (e_var rfl (vis_of rfl) rfl rfl)) (bOfD e_int)) a_nil rfl) rfl))) ss_nil) (ss_cons (s_if (PW.pt (w_and (t_cmp (o_cmp rfl hu .NotEq) (bOfD (e_var rfl (vis_of rfl) rfl rfl)) (bOfD (e_strK (by kernel_rfl) (by decide))) rfl) (pw_and1 (PW.pt (w_or (t_cmp (o_cmp rfl hu .NotEq) (bOfD (e_callB (c_len rfl) rfl f_len (by decide +kernel) (bOfD (e_var rfl (vis_of rfl) rfl rfl)) rfl (by decide) rfl)) (bOfD e_int) rfl) (pw_or1 (t_cmp (o_cmp rfl hu .NotIn) (bOfD (e_var rfl (vis_of rfl) rfl rfl)) (bOfD (e_globS g_WORDS (by kernel_rfl) (by decide))) rfl))))))) (ss_one (s_raise rfl tk (hr.mono hk2) R_InvalidText (a_cons e_int (a_cons (e_bin (o_bin rfl (op := .Add) rfl) (bOfD (e_var rfl (vis_of rfl) rfl rfl)) (bOfD e_int)) a_nil rfl) rfl))) ss_nil) (ss_one (s_app rfl rfl (vis_of rfl) rfl rfl (e_if (t_cmp (o_cmp rfl hu .Eq) (bOfD (e_var rfl (vis_of rfl) rfl rfl)) (bOfD (e_strK (by kernel_rfl) (by decide))) rfl) (e_strK (by kernel_rfl) (by decide)) (e_meth rfl F.plainAttrs_str F.slot_str_index ty_str_index (m_indexS) (bOfD (e_globS g_WORDS (by kernel_rfl) (by decide))) (bOfD (e_var rfl (vis_of rfl) rfl rfl)) rfl rfl rfl)) rfl rfl)))) (fun _ => rfl)) (ss_one (s_ret (e_callTy (c_tuple rfl) rfl f_tuple (by decide +kernel) (e_varB rfl (vis_of rfl) rfl rfl) rfl (by decide) rfl))))))
def d_place_text (c : Nat → DFn) : DS := sRet (dIf (dTest (dBin (gCmp .NotEq) (dVar 0) (dTup (dNil)))) (dM1 "str" gJoin (dK (.str [46])) (dComp (iSeq (dVar 0)) (gN 1) [1] (dYes) (dC1 gStr (dVar 1)))) (dK (.str [45])))
def N_place_text : List Str := ["place", "at"]
theorem sc_place_text : FnScope N_place_text ["place"] (defScope (top 39)) := ⟨rfl, rfl, rfl, by decide +kernel, rfl, by decide +kernel, by decide +kernel⟩
theorem p_place_text (hk2 : 2 ≤ k) {c : Nat → DFn} {f : Addr} {fd : FuncData} (F0 : FunD K "place_text" "place_text" (defArgs (top 39)) (defBody (top 39)) (defScope (top 39)) [] [] f fd) (f_str : mg "str" = none) :
    FnOk P w K mg base (L2.CX P w) (k + 1) f fd ["place"] (spD T K (runD 2 1 (d_place_text c))) := fn_di F0 sc_place_text fun cdv A outer s H E B hr => by
  have hN := sc_place_text.nd
  have hu := huR hr
  have tk : Takes (cxOf (L2.CX P w) P w K mg base N_place_text "place_text" (defScope (top 39)) f cdv A outer s H E) (fun cls d _ H => E cls d H) := takes_of rfl rfl rfl rfl
  have hx : Passes (L2.CX P w) (cxOf (L2.CX P w) P w K mg base N_place_text "place_text" (defScope (top 39)) f cdv A outer s H E) E := passes_call tk (fun _ _ _ _ h => h)
  exact (ss_one (s_ret (e_if (t_cmp (o_cmp rfl hu .NotEq) (bOfD (e_var rfl (vis_of rfl) rfl rfl)) (bOfD (e_tup a_nil)) rfl) (e_meth rfl F.plainAttrs_str F.slot_str_join ty_str_join (m_join rfl) (bOfD (e_strK (by kernel_rfl) (by decide))) (bOfD (dOfF (e_comp (own := [("at", 1)]) rfl hN (i_seq rfl (e_var rfl (vis_of rfl) rfl rfl)) (blk_of rfl) (fun _ _ _ _ _ => (g_name hN rfl (loc_of rfl) (by first | exact .inr rfl | exact .inl rfl))) (fun _ _ _ _ _ => pts_yes) (fun _ _ _ _ _ => (e_callTy (c_str) rfl f_str (by decide +kernel) (bOfD (e_var rfl (vis_of rfl) rfl rfl)) rfl (by decide) rfl)) (fun _ => rfl) (by decide)))) rfl rfl rfl) (e_strK (by kernel_rfl) (by decide)))))
def d_write_paper (c : Nat → DFn) : DS := sSeq (sExpr (dCall (c 7) (dCons (dVar 0) (dNil)))) (sRet (dM1 "str" gJoin (dK (.str [32])) (dComp (iSeq (dVar 0)) (gT (gC (gN 1) (gC (gN 2) (gNils)))) [1, 2] (dYes) (dBin gAdd (dBin gAdd (dCall (c 18) (dCons (dVar 1) (dNil))) (dK (.str [58]))) (dVar 2)))))
def N_write_paper : List Str := ["paper", "place", "rule"]
theorem sc_write_paper : FnScope N_write_paper ["paper"] (defScope (top 40)) := ⟨rfl, rfl, rfl, by decide +kernel, rfl, by decide +kernel, by decide +kernel⟩
theorem p_write_paper (hk2 : 2 ≤ k) {c : Nat → DFn} {f : Addr} {fd : FuncData} (F0 : FunD K "write_paper" "write_paper" (defArgs (top 40)) (defBody (top 40)) (defScope (top 40)) [] [] f fd) (h_need_paper : OkF P w K mg base T k "need_paper" ["paper"] (c 7)) (h_place_text : OkF P w K mg base T k "place_text" ["place"] (c 18)) :
    FnOk P w K mg base (L2.CX P w) (k + 1) f fd ["paper"] (spD T K (runD 3 1 (d_write_paper c))) := fn_di F0 sc_write_paper fun cdv A outer s H E B hr => by
  have hN := sc_write_paper.nd
  have hu := huR hr
  have tk : Takes (cxOf (L2.CX P w) P w K mg base N_write_paper "write_paper" (defScope (top 40)) f cdv A outer s H E) (fun cls d _ H => E cls d H) := takes_of rfl rfl rfl rfl
  have hx : Passes (L2.CX P w) (cxOf (L2.CX P w) P w K mg base N_write_paper "write_paper" (defScope (top 40)) f cdv A outer s H E) E := passes_call tk (fun _ _ _ _ h => h)
  exact (ss_cons (s_expr (e_callO h_need_paper rfl hr hx (a_cons (e_var rfl (vis_of rfl) rfl rfl) a_nil rfl)) rfl) (ss_one (s_ret (e_meth rfl F.plainAttrs_str F.slot_str_join ty_str_join (m_join rfl) (bOfD (e_strK (by kernel_rfl) (by decide))) (bOfD (dOfF (e_comp (own := [("place", 1), ("rule", 2)]) rfl hN (i_seq rfl (e_var rfl (vis_of rfl) rfl rfl)) (blk_of rfl) (fun _ _ _ _ _ => (g_tup rfl rfl (gs_cons (g_name hN rfl (loc_of rfl) (by first | exact .inr rfl | exact .inl rfl)) (gs_cons (g_name hN rfl (loc_of rfl) (by first | exact .inr rfl | exact .inl rfl)) gs_nil rfl) rfl) (takes_cons (takes_cons takes_nil)) rfl rfl)) (fun _ _ _ _ _ => pts_yes) (fun _ _ _ _ _ => (e_bin (o_bin rfl (op := .Add) rfl) (bOfD (e_bin (o_bin rfl (op := .Add) rfl) (bOfD (e_callO h_place_text rfl hr passL (a_cons (e_var rfl (vis_of rfl) rfl rfl) a_nil rfl))) (bOfD (e_strK (by kernel_rfl) (by decide))))) (bOfD (e_var rfl (vis_of rfl) rfl rfl)))) (fun _ => rfl) (by decide)))) rfl rfl rfl))))
def d_number_of (c : Nat → DFn) : DS := sSeq (sIf (dOrT (dTest (dBin (gCmp .Eq) (dVar 0) (dK (.str [])))) (dOrT (dNotT (dTest (dC1 gAll (dComp (iSeq (dVar 0)) (gN 1) [1] (dYes) (dBin (gCmp .In) (dVar 1) (dK (.str [48, 49, 50, 51, 52, 53, 54, 55, 56, 57]))))))) (dTest (dBin (gCmp .Gt) (dC1 gLen (dVar 0)) (dK (.int 2)))))) (sRet (dK .non)) (sNil)) (sRet (dIf (dAndT (dTest (dBin (gCmp .Eq) (dC1 gStr (dC1 gInt (dVar 0))) (dVar 0))) (dTest (dBin (gCmp .Lt) (dC1 gInt (dVar 0)) (dK (.int 12))))) (dC1 gInt (dVar 0)) (dK .non)))
def N_number_of : List Str := ["word", "figure"]
theorem sc_number_of : FnScope N_number_of ["word"] (defScope (top 41)) := ⟨rfl, rfl, rfl, by decide +kernel, rfl, by decide +kernel, by decide +kernel⟩
theorem p_number_of (hk2 : 2 ≤ k) {c : Nat → DFn} {f : Addr} {fd : FuncData} (F0 : FunD K "number_of" "number_of" (defArgs (top 41)) (defBody (top 41)) (defScope (top 41)) [] [] f fd) (g_FIGURES : ∃ t, mg "FIGURES" = some (.str "0123456789" t)) (f_all : mg "all" = none) (f_len : mg "len" = none) (f_int : mg "int" = none) (f_str : mg "str" = none) (g_MOST_LEAVES : ∃ t, mg "MOST_LEAVES" = some (.int 12 t)) :
    FnOk P w K mg base (L2.CX P w) (k + 1) f fd ["word"] (spD T K (runD 2 1 (d_number_of c))) := fn_di F0 sc_number_of fun cdv A outer s H E B hr => by
  have hN := sc_number_of.nd
  have hu := huR hr
  have tk : Takes (cxOf (L2.CX P w) P w K mg base N_number_of "number_of" (defScope (top 41)) f cdv A outer s H E) (fun cls d _ H => E cls d H) := takes_of rfl rfl rfl rfl
  have hx : Passes (L2.CX P w) (cxOf (L2.CX P w) P w K mg base N_number_of "number_of" (defScope (top 41)) f cdv A outer s H E) E := passes_call tk (fun _ _ _ _ h => h)
  exact (ss_cons (s_if (PW.pt (w_or (t_cmp (o_cmp rfl hu .Eq) (bOfD (e_var rfl (vis_of rfl) rfl rfl)) (bOfD (e_strK (by kernel_rfl) (by decide))) rfl) (w_or (t_not (t_val (e_callB (c_all rfl) rfl f_all (by decide +kernel) (bOfD (dOfF (e_comp (own := [("figure", 1)]) rfl hN (i_seq rfl (e_var rfl (vis_of rfl) rfl rfl)) (blk_of rfl) (fun _ _ _ _ _ => (g_name hN rfl (loc_of rfl) (by first | exact .inr rfl | exact .inl rfl))) (fun _ _ _ _ _ => pts_yes) (fun _ _ _ _ _ => (e_cmp (o_cmp rfl hu .In) (bOfD (e_var rfl (vis_of rfl) rfl rfl)) (bOfD (e_globS g_FIGURES (by kernel_rfl) (by decide))) rfl)) (fun _ => rfl) (by decide)))) rfl (by decide) rfl) rfl)) (pw_or1 (t_cmp (o_cmp rfl hu .Gt) (bOfD (e_callB (c_len rfl) rfl f_len (by decide +kernel) (bOfD (e_var rfl (vis_of rfl) rfl rfl)) rfl (by decide) rfl)) (bOfD e_int) rfl))))) (ss_one (s_ret e_non)) ss_nil) (ss_one (s_ret (e_if (PW.pt (w_and (t_cmp (o_cmp rfl hu .Eq) (bOfD (e_callTy (c_str) rfl f_str (by decide +kernel) (bOfD (e_callTy (c_int) rfl f_int (by decide +kernel) (bOfD (e_var rfl (vis_of rfl) rfl rfl)) rfl (by decide) rfl)) rfl (by decide) rfl)) (bOfD (e_var rfl (vis_of rfl) rfl rfl)) rfl) (pw_and1 (t_cmp (o_cmp rfl hu .Lt) (bOfD (e_callTy (c_int) rfl f_int (by decide +kernel) (bOfD (e_var rfl (vis_of rfl) rfl rfl)) rfl (by decide) rfl)) (bOfD (e_globI g_MOST_LEAVES)) rfl)))) (e_callTy (c_int) rfl f_int (by decide +kernel) (bOfD (e_var rfl (vis_of rfl) rfl rfl)) rfl (by decide) rfl) e_non))))
def d_step_of (c : Nat → DFn) : DS := sSeq (sIf (dTest (dBin (gCmp .NotEq) (dM1 "str" gCountS (dVar 0) (dK (.str [58]))) (dK (.int 1)))) (sRet (dK .non)) (sNil)) (sSeq (sAsg (dM1 "str" gSplit (dVar 0) (dK (.str [58]))) (gT (gC (gN 1) (gC (gN 2) (gNils))))) (sSeq (sSet 3 (dIf (dTest (dBin (gCmp .NotEq) (dVar 1) (dK (.str [45])))) (dComp (iSeq (dM1 "str" gSplit (dVar 1) (dK (.str [46])))) (gN 4) [4] (dYes) (dCall (c 20) (dCons (dVar 4) (dNil)))) (dLst (dNil)))) (sSeq (sIf (dOrT (dTest (dBin (gCmp .NotIn) (dVar 2) (dK c_RULES))) (dOrT (dTest (dBin (gCmp .In) (dK .non) (dVar 3))) (dTest (dBin (gCmp .Gt) (dC1 gLen (dVar 3)) (dK (.int 40)))))) (sRet (dK .non)) (sNil)) (sRet (dTup (dCons (dC1 gTuple (dVar 3)) (dCons (dVar 2) (dNil))))))))
def N_step_of : List Str := ["word", "head", "rule", "place", "part"]
theorem sc_step_of : FnScope N_step_of ["word"] (defScope (top 42)) := ⟨rfl, rfl, rfl, by decide +kernel, rfl, by decide +kernel, by decide +kernel⟩
theorem p_step_of (hk2 : 2 ≤ k) {c : Nat → DFn} {f : Addr} {fd : FuncData} (F0 : FunD K "step_of" "step_of" (defArgs (top 42)) (defBody (top 42)) (defScope (top 42)) [] [] f fd) (h_number_of : OkF P w K mg base T k "number_of" ["word"] (c 20)) (g_RULES : mg "RULES" = some (.ref (He.ga K "RULES")) ∧ ∀ G m, Rep K G m (.ref (He.ga K "RULES")) c_RULES) (f_len : mg "len" = none) (g_MOST_DEEP : ∃ t, mg "MOST_DEEP" = some (.int 40 t)) (f_tuple : mg "tuple" = none) :
    FnOk P w K mg base (L2.CX P w) (k + 1) f fd ["word"] (spD T K (runD 5 1 (d_step_of c))) := fn_di F0 sc_step_of fun cdv A outer s H E B hr => by
  have hN := sc_step_of.nd
  have hu := huR hr
  have tk : Takes (cxOf (L2.CX P w) P w K mg base N_step_of "step_of" (defScope (top 42)) f cdv A outer s H E) (fun cls d _ H => E cls d H) := takes_of rfl rfl rfl rfl
  have hx : Passes (L2.CX P w) (cxOf (L2.CX P w) P w K mg base N_step_of "step_of" (defScope (top 42)) f cdv A outer s H E) E := passes_call tk (fun _ _ _ _ h => h)
  exact (ss_cons (s_if (t_cmp (o_cmp rfl hu .NotEq) (bOfD (e_meth rfl F.plainAttrs_str F.slot_str_count ty_str_count (m_countS) (bOfD (e_var rfl (vis_of rfl) rfl rfl)) (bOfD (e_strK (by kernel_rfl) (by decide))) rfl rfl rfl)) (bOfD e_int) rfl) (ss_one (s_ret e_non)) ss_nil) (ss_cons (s_asg (e_meth rfl F.plainAttrs_str F.slot_str_split ty_str_split (m_split) (bOfD (e_var rfl (vis_of rfl) rfl rfl)) (bOfD (e_strK (by kernel_rfl) (by decide))) rfl rfl rfl) (g_tup rfl rfl (gs_cons (g_name hN rfl (loc_of rfl) (by first | exact .inr rfl | exact .inl rfl)) (gs_cons (g_name hN rfl (loc_of rfl) (by first | exact .inr rfl | exact .inl rfl)) gs_nil rfl) rfl) (takes_cons (takes_cons takes_nil)) rfl rfl) rfl rfl rfl) (ss_cons (s_set hN rfl (loc_of rfl) (e_if (t_cmp (o_cmp rfl hu .NotEq) (bOfD (e_var rfl (vis_of rfl) rfl rfl)) (bOfD (e_strK (by kernel_rfl) (by decide))) rfl) (dOfF (e_comp (own := [("part", 4)]) rfl hN (i_seq rfl (e_meth rfl F.plainAttrs_str F.slot_str_split ty_str_split (m_split) (bOfD (e_var rfl (vis_of rfl) rfl rfl)) (bOfD (e_strK (by kernel_rfl) (by decide))) rfl rfl rfl)) (blk_of rfl) (fun _ _ _ _ _ => (g_name hN rfl (loc_of rfl) (by first | exact .inr rfl | exact .inl rfl))) (fun _ _ _ _ _ => pts_yes) (fun _ _ _ _ _ => (e_callO h_number_of rfl hr passL (a_cons (e_var rfl (vis_of rfl) rfl rfl) a_nil rfl))) (fun _ => rfl) (by decide))) (dOfF (e_lst a_nil))) rfl (by first | exact .inr rfl | exact .inl rfl)) (ss_cons (s_if (PW.pt (w_or (t_cmp (o_cmp rfl hu .NotIn) (bOfD (e_var rfl (vis_of rfl) rfl rfl)) (bOfD (e_globR g_RULES.1 g_RULES.2)) rfl) (w_or (t_cmp (o_cmp rfl hu .In) (bOfD e_non) (bOfD (e_var rfl (vis_of rfl) rfl rfl)) rfl) (pw_or1 (t_cmp (o_cmp rfl hu .Gt) (bOfD (e_callB (c_len rfl) rfl f_len (by decide +kernel) (bOfD (e_var rfl (vis_of rfl) rfl rfl)) rfl (by decide) rfl)) (bOfD (e_globI g_MOST_DEEP)) rfl))))) (ss_one (s_ret e_non)) ss_nil) (ss_one (s_ret (e_tup (a_cons (e_callTy (c_tuple rfl) rfl f_tuple (by decide +kernel) (bOfD (e_var rfl (vis_of rfl) rfl rfl)) rfl (by decide) rfl) (a_cons (e_var rfl (vis_of rfl) rfl rfl) a_nil rfl) rfl))))))))
def d_read_paper (c : Nat → DFn) : DS := sSeq (sExpr (dCall (c 9) (dCons (dVar 0) (dNil)))) (sSeq (sSetF 1 (dLst (dNil))) (sSeq (sFor (iEnu (dCall (c 10) (dCons (dVar 0) (dNil)))) (gT (gC (gN 2) (gC (gN 3) (gNils)))) (sSeq (sSet 4 (dCall (c 21) (dCons (dVar 3) (dNil)))) (sSeq (sIf (dOrT (dTest (dBin (gCmp .Is) (dVar 4) (dK .non))) (dTest (dBin (gCmp .Eq) (dVar 2) (dK (.int 300))))) (sRaise "InvalidText" ["line", "word"] (dCons (dK (.int 1)) (dCons (dBin gAdd (dVar 2) (dK (.int 1))) (dNil)))) (sNil)) (sApp 1 (dVar 4))))) (sRet (dC1 gTuple (dVarB 1)))))
def N_read_paper : List Str := ["text", "found", "at", "word", "line"]
theorem sc_read_paper : FnScope N_read_paper ["text"] (defScope (top 43)) := ⟨rfl, rfl, rfl, by decide +kernel, rfl, by decide +kernel, by decide +kernel⟩
theorem p_read_paper (hk2 : 2 ≤ k) {c : Nat → DFn} {f : Addr} {fd : FuncData} (F0 : FunD K "read_paper" "read_paper" (defArgs (top 43)) (defBody (top 43)) (defScope (top 43)) [] [] f fd) (h_need_text : OkF P w K mg base T k "need_text" ["text"] (c 9)) (h_words_of : OkF P w K mg base T k "words_of" ["text"] (c 10)) (h_step_of : OkF P w K mg base T k "step_of" ["word"] (c 21)) (f_enumerate : mg "enumerate" = none) (g_MOST_STEPS : ∃ t, mg "MOST_STEPS" = some (.int 300 t)) (f_tuple : mg "tuple" = none) (R_InvalidText : SupOk P w K mg base "InvalidText" ["line", "word"]) :
    FnOk P w K mg base (L2.CX P w) (k + 1) f fd ["text"] (spD T K (runD 5 1 (d_read_paper c))) := fn_di F0 sc_read_paper fun cdv A outer s H E B hr => by
  have hN := sc_read_paper.nd
  have hu := huR hr
  have tk : Takes (cxOf (L2.CX P w) P w K mg base N_read_paper "read_paper" (defScope (top 43)) f cdv A outer s H E) (fun cls d _ H => E cls d H) := takes_of rfl rfl rfl rfl
  have hx : Passes (L2.CX P w) (cxOf (L2.CX P w) P w K mg base N_read_paper "read_paper" (defScope (top 43)) f cdv A outer s H E) E := passes_call tk (fun _ _ _ _ h => h)
  exact (ss_cons (s_expr (e_callO h_need_text rfl hr hx (a_cons (e_var rfl (vis_of rfl) rfl rfl) a_nil rfl)) rfl) (ss_cons (s_setF hN rfl (loc_of rfl) (e_lst a_nil) rfl (by first | exact .inr rfl | exact .inl rfl)) (ss_cons (s_for (passes_of rfl) rfl (i_enum rfl rfl f_enumerate (e_callO h_words_of rfl hr hx (a_cons (e_var rfl (vis_of rfl) rfl rfl) a_nil rfl)) rfl) (g_tup rfl rfl (gs_cons (g_name hN rfl (loc_of rfl) (by first | exact .inr rfl | exact .inl rfl)) (gs_cons (g_name hN rfl (loc_of rfl) (by first | exact .inr rfl | exact .inl rfl)) gs_nil rfl) rfl) (takes_cons (takes_cons takes_nil)) rfl rfl) (ss_cons (s_set hN rfl (loc_of rfl) (e_callO h_step_of rfl hr hx (a_cons (e_var rfl (vis_of rfl) rfl rfl) a_nil rfl)) rfl (by first | exact .inr rfl | exact .inl rfl)) (ss_cons (s_if (PW.pt (w_or (t_cmp (o_cmp rfl hu .Is) (bOfD (e_var rfl (vis_of rfl) rfl rfl)) (bOfD e_non) rfl) (pw_or1 (t_cmp (o_cmp rfl hu .Eq) (bOfD (e_var rfl (vis_of rfl) rfl rfl)) (bOfD (e_globI g_MOST_STEPS)) rfl)))) (ss_one (s_raise rfl tk (hr.mono hk2) R_InvalidText (a_cons e_int (a_cons (e_bin (o_bin rfl (op := .Add) rfl) (bOfD (e_var rfl (vis_of rfl) rfl rfl)) (bOfD e_int)) a_nil rfl) rfl))) ss_nil) (ss_one (s_app rfl rfl (vis_of rfl) rfl rfl (e_var rfl (vis_of rfl) rfl rfl) rfl rfl)))) (fun _ => rfl)) (ss_one (s_ret (e_callTy (c_tuple rfl) rfl f_tuple (by decide +kernel) (e_varB rfl (vis_of rfl) rfl rfl) rfl (by decide) rfl))))))
def d__law_taken (c : Nat → DFn) : DS := sSeq (sIf (dTest (dBin (gCmp .Gt) (dSub (dVar 0) (dK (.int 3))) (dK (.int 0)))) (sSeq (sSet 2 (dBin gMod (dC1 gInt (dSub (dVar 0) (dK (.int 3)))) (dVar 1))) (sSeq (sPut (dVar 0) (dK (.int 3)) (dBin gDiv (dSub (dVar 0) (dK (.int 3))) (dVar 1))) (sRet (dVar 2)))) (sNil)) (sSeq (sPut (dVar 0) (dK (.int 1)) (dBin gAdd (dSub (dVar 0) (dK (.int 1))) (dK (.int 1)))) (sSeq (sIf (dTest (dBin (gCmp .Gt) (dSub (dVar 0) (dK (.int 1))) (dC1 gLen (dSub (dVar 0) (dK (.int 0)))))) (sSeq (sPut (dVar 0) (dK (.int 2)) (dBin gMod (dC1 gInt (dBin gAdd (dBin gMul (dSub (dVar 0) (dK (.int 2))) (dK (.int 48271))) (dK (.int 11)))) (dK (.int 2147483647)))) (sRet (dBin gMod (dC1 gInt (dBin gDiv (dSub (dVar 0) (dK (.int 2))) (dK (.int 7)))) (dVar 1)))) (sNil)) (sSeq (sSet 3 (dSub (dSub (dVar 0) (dK (.int 0))) (dBin gSub (dSub (dVar 0) (dK (.int 1))) (dK (.int 1))))) (sSeq (sPut (dVar 0) (dK (.int 2)) (dBin gMod (dC1 gInt (dBin gAdd (dBin gAdd (dBin gMul (dSub (dVar 0) (dK (.int 2))) (dK (.int 48271))) (dVar 3)) (dK (.int 11)))) (dK (.int 2147483647)))) (sSeq (sIf (dTest (dBin (gCmp .GtE) (dVar 3) (dBin gPow (dK (.int 10)) (dK (.int 18))))) (sPut (dVar 0) (dK (.int 3)) (dBin gDiv (dVar 3) (dVar 1))) (sNil)) (sRet (dBin gMod (dC1 gInt (dVar 3)) (dVar 1))))))))
def N__law_taken : List Str := ["_law_row", "_law_many", "_law_found", "_law_cell"]
theorem sc__law_taken : FnScope N__law_taken ["_law_row", "_law_many"] (defScope (top 45)) := ⟨rfl, rfl, rfl, by decide +kernel, rfl, by decide +kernel, by decide +kernel⟩
theorem p__law_taken (hk2 : 2 ≤ k) {c : Nat → DFn} {f : Addr} {fd : FuncData} (F0 : FunD K "_law_taken" "_law_taken" (defArgs (top 45)) (defBody (top 45)) (defScope (top 45)) [] [] f fd) (f_int : mg "int" = none) (f_len : mg "len" = none) :
    FnOk P w K mg base (L2.CX P w) (k + 1) f fd ["_law_row", "_law_many"] (spD T K (runD 4 2 (d__law_taken c))) := fn_di F0 sc__law_taken fun cdv A outer s H E B hr => by
  have hN := sc__law_taken.nd
  have hu := huR hr
  have tk : Takes (cxOf (L2.CX P w) P w K mg base N__law_taken "_law_taken" (defScope (top 45)) f cdv A outer s H E) (fun cls d _ H => E cls d H) := takes_of rfl rfl rfl rfl
  have hx : Passes (L2.CX P w) (cxOf (L2.CX P w) P w K mg base N__law_taken "_law_taken" (defScope (top 45)) f cdv A outer s H E) E := passes_call tk (fun _ _ _ _ h => h)
  exact (ss_cons (s_if (t_cmp (o_cmp rfl hu .Gt) (bOfD (e_sub rfl (bOfD (e_var rfl (vis_of rfl) rfl rfl)) e_int rfl)) (bOfD e_int) rfl) (ss_cons (s_set hN rfl (loc_of rfl) (e_bin (o_bin rfl (op := .Mod) rfl) (bOfD (e_callTy (c_int) rfl f_int (by decide +kernel) (bOfD (e_sub rfl (bOfD (e_var rfl (vis_of rfl) rfl rfl)) e_int rfl)) rfl (by decide) rfl)) (bOfD (e_var rfl (vis_of rfl) rfl rfl))) rfl (by first | exact .inr rfl | exact .inl rfl)) (ss_cons (s_put (e_var rfl (vis_of rfl) rfl rfl) e_int (e_bin (o_bin rfl (op := .FloorDiv) rfl) (bOfD (e_sub rfl (bOfD (e_var rfl (vis_of rfl) rfl rfl)) e_int rfl)) (bOfD (e_var rfl (vis_of rfl) rfl rfl))) (fun _ => rfl) rfl rfl rfl) (ss_one (s_ret (e_var rfl (vis_of rfl) rfl rfl))))) ss_nil) (ss_cons (s_put (e_var rfl (vis_of rfl) rfl rfl) e_int (e_bin (o_bin rfl (op := .Add) rfl) (bOfD (e_sub rfl (bOfD (e_var rfl (vis_of rfl) rfl rfl)) e_int rfl)) (bOfD e_int)) (fun _ => rfl) rfl rfl rfl) (ss_cons (s_if (t_cmp (o_cmp rfl hu .Gt) (bOfD (e_sub rfl (bOfD (e_var rfl (vis_of rfl) rfl rfl)) e_int rfl)) (bOfD (e_callB (c_len rfl) rfl f_len (by decide +kernel) (bOfD (e_sub rfl (bOfD (e_var rfl (vis_of rfl) rfl rfl)) e_int rfl)) rfl (by decide) rfl)) rfl) (ss_cons (s_put (e_var rfl (vis_of rfl) rfl rfl) e_int (e_bin (o_bin rfl (op := .Mod) rfl) (bOfD (e_callTy (c_int) rfl f_int (by decide +kernel) (bOfD (e_bin (o_bin rfl (op := .Add) rfl) (bOfD (e_bin (o_bin rfl (op := .Mult) rfl) (bOfD (e_sub rfl (bOfD (e_var rfl (vis_of rfl) rfl rfl)) e_int rfl)) (bOfD e_int))) (bOfD e_int))) rfl (by decide) rfl)) (bOfD e_int)) (fun _ => rfl) rfl rfl rfl) (ss_one (s_ret (e_bin (o_bin rfl (op := .Mod) rfl) (bOfD (e_callTy (c_int) rfl f_int (by decide +kernel) (bOfD (e_bin (o_bin rfl (op := .FloorDiv) rfl) (bOfD (e_sub rfl (bOfD (e_var rfl (vis_of rfl) rfl rfl)) e_int rfl)) (bOfD e_int))) rfl (by decide) rfl)) (bOfD (e_var rfl (vis_of rfl) rfl rfl)))))) ss_nil) (ss_cons (s_set hN rfl (loc_of rfl) (e_sub rfl (bOfD (e_sub rfl (bOfD (e_var rfl (vis_of rfl) rfl rfl)) e_int rfl)) (e_bin (o_bin rfl (op := .Sub) rfl) (bOfD (e_sub rfl (bOfD (e_var rfl (vis_of rfl) rfl rfl)) e_int rfl)) (bOfD e_int)) rfl) rfl (by first | exact .inr rfl | exact .inl rfl)) (ss_cons (s_put (e_var rfl (vis_of rfl) rfl rfl) e_int (e_bin (o_bin rfl (op := .Mod) rfl) (bOfD (e_callTy (c_int) rfl f_int (by decide +kernel) (bOfD (e_bin (o_bin rfl (op := .Add) rfl) (bOfD (e_bin (o_bin rfl (op := .Add) rfl) (bOfD (e_bin (o_bin rfl (op := .Mult) rfl) (bOfD (e_sub rfl (bOfD (e_var rfl (vis_of rfl) rfl rfl)) e_int rfl)) (bOfD e_int))) (bOfD (e_var rfl (vis_of rfl) rfl rfl)))) (bOfD e_int))) rfl (by decide) rfl)) (bOfD e_int)) (fun _ => rfl) rfl rfl rfl) (ss_cons (s_if (t_cmp (o_cmp rfl hu .GtE) (bOfD (e_var rfl (vis_of rfl) rfl rfl)) (bOfD (e_bin (o_bin rfl (op := .Pow) rfl) (bOfD e_int) (bOfD e_int))) rfl) (ss_one (s_put (e_var rfl (vis_of rfl) rfl rfl) e_int (e_bin (o_bin rfl (op := .FloorDiv) rfl) (bOfD (e_var rfl (vis_of rfl) rfl rfl)) (bOfD (e_var rfl (vis_of rfl) rfl rfl))) (fun _ => rfl) rfl rfl rfl)) ss_nil) (ss_one (s_ret (e_bin (o_bin rfl (op := .Mod) rfl) (bOfD (e_callTy (c_int) rfl f_int (by decide +kernel) (bOfD (e_var rfl (vis_of rfl) rfl rfl)) rfl (by decide) rfl)) (bOfD (e_var rfl (vis_of rfl) rfl rfl)))))))))))
def d__law_pick (c : Nat → DFn) : DS := sRet (dSub (dVar 1) (dCall (c 23) (dCons (dVar 0) (dCons (dC1 gLen (dVar 1)) (dNil)))))
def N__law_pick : List Str := ["_law_row", "_law_kinds"]
theorem sc__law_pick : FnScope N__law_pick ["_law_row", "_law_kinds"] (defScope (top 46)) := ⟨rfl, rfl, rfl, by decide +kernel, rfl, by decide +kernel, by decide +kernel⟩
theorem p__law_pick (hk2 : 2 ≤ k) {c : Nat → DFn} {f : Addr} {fd : FuncData} (F0 : FunD K "_law_pick" "_law_pick" (defArgs (top 46)) (defBody (top 46)) (defScope (top 46)) [] [] f fd) (h__law_taken : OkF P w K mg base T k "_law_taken" ["_law_row", "_law_many"] (c 23)) (f_len : mg "len" = none) :
    FnOk P w K mg base (L2.CX P w) (k + 1) f fd ["_law_row", "_law_kinds"] (spD T K (runD 2 2 (d__law_pick c))) := fn_di F0 sc__law_pick fun cdv A outer s H E B hr => by
  have hN := sc__law_pick.nd
  have hu := huR hr
  have tk : Takes (cxOf (L2.CX P w) P w K mg base N__law_pick "_law_pick" (defScope (top 46)) f cdv A outer s H E) (fun cls d _ H => E cls d H) := takes_of rfl rfl rfl rfl
  have hx : Passes (L2.CX P w) (cxOf (L2.CX P w) P w K mg base N__law_pick "_law_pick" (defScope (top 46)) f cdv A outer s H E) E := passes_call tk (fun _ _ _ _ h => h)
  exact (ss_one (s_ret (e_sub rfl (bOfD (e_var rfl (vis_of rfl) rfl rfl)) (e_callO h__law_taken rfl hr hx (a_cons (e_var rfl (vis_of rfl) rfl rfl) (a_cons (e_callB (c_len rfl) rfl f_len (by decide +kernel) (bOfD (e_var rfl (vis_of rfl) rfl rfl)) rfl (by decide) rfl) a_nil rfl) rfl)) rfl)))
def d_law (c : Nat → DFn) : DS := sSeq (sNew 1 (dLst (dCons (dVar 0) (dCons (dK (.int 0)) (dCons (dK (.int 10616)) (dCons (dK (.int 0)) (dNil))))))) (sSeq (sSet 2 (dLst (dCons (dTup (dCons (dK (.str [])) (dCons (dK (.int 1)) (dNil)))) (dCons (dTup (dCons (dK (.str [105])) (dCons (dK (.int 1)) (dNil)))) (dCons (dTup (dCons (dK (.str [116, 104, 101, 110])) (dCons (dK (.int 1)) (dNil)))) (dCons (dTup (dCons (dK (.str [116, 104, 101, 110, 50, 32, 97])) (dCons (dK (.int 3)) (dNil)))) (dCons (dTup (dCons (dK (.str [116, 104, 101, 110, 49, 51, 32, 97, 32, 97])) (dCons (dK (.int 1)) (dNil)))) (dCons (dTup (dCons (dK (.str [98, 111, 116, 104, 49, 32, 97])) (dCons (dK (.int 1)) (dNil)))) (dCons (dTup (dCons (dK (.str [98, 111, 116, 104, 48, 50, 32, 97, 32, 97])) (dCons (dK (.int 1)) (dNil)))) (dCons (dTup (dCons (dK (.str [108, 97, 115, 116, 32, 97])) (dCons (dK (.int 3)) (dNil)))) (dNil))))))))))) (sSeq (sSet 2 (dBin gAdd (dVar 2) (dLst (dCons (dTup (dCons (dK (.str [115, 104, 105, 101, 108, 100])) (dCons (dK (.int 2)) (dNil)))) (dCons (dTup (dCons (dK (.str [114, 101, 115, 116, 32, 114, 101, 115, 116])) (dCons (dK (.int 2)) (dNil)))) (dCons (dTup (dCons (dK (.str [97, 32, 98])) (dCons (dK (.int 2)) (dNil)))) (dCons (dTup (dCons (dK (.str [98, 111, 116, 104, 50, 32, 97, 32, 82, 101, 115, 116])) (dCons (dK (.int 3)) (dNil)))) (dNil)))))))) (sSeq (sSet 2 (dBin gAdd (dVar 2) (dLst (dCons (dTup (dCons (dK (.str [115, 97, 121, 32, 97])) (dCons (dK (.int 1)) (dNil)))) (dCons (dTup (dCons (dK (.str [116, 104, 101, 110, 50, 32, 97, 32, 98, 32, 99])) (dCons (dK (.int 4)) (dNil)))) (dCons (dTup (dCons (dBin gAdd (dBin gMul (dK (.str [115, 104, 105, 101, 108, 100, 32])) (dK (.int 40))) (dK (.str [97]))) (dCons (dK (.int 41)) (dNil)))) (dCons (dTup (dCons (dK (.str [108, 97, 115, 116, 50, 32, 97, 32, 98])) (dCons (dK (.int 1)) (dNil)))) (dCons (dTup (dCons (dK (.str [119])) (dCons (dK (.int 1)) (dNil)))) (dNil))))))))) (sSeq (sSet 2 (dBin gAdd (dVar 2) (dLst (dCons (dTup (dCons (dK (.str [98, 111, 116, 104, 51, 32, 98, 111, 116, 104, 51, 32, 97, 32, 97, 32, 97, 32, 98, 111, 116, 104, 51, 32, 97, 32, 97, 32, 97, 32, 98, 111, 116, 104, 51, 32, 97, 32, 97])) (dCons (dK (.int 13)) (dNil)))) (dNil))))) (sSeq (sSet 2 (dBin gAdd (dVar 2) (dLst (dCons (dTup (dCons (dK (.str [116, 104, 101, 110, 51, 32, 116, 104, 101, 110, 51, 32, 97, 32, 98, 32, 99, 32, 116, 104, 101, 110, 51, 32, 100, 32, 101, 32, 102, 32, 116, 104, 101, 110, 51, 32, 116, 104, 101, 110, 51, 32, 103, 32, 104, 32, 97, 32, 116, 104, 101, 110, 51, 32, 98, 32, 99, 32, 100, 32, 101])) (dCons (dK (.int 19)) (dNil)))) (dCons (dTup (dCons (dK (.str [119, 105, 116, 104, 105, 110, 49, 32, 97])) (dCons (dK (.int 1)) (dNil)))) (dCons (dTup (dCons (dK (.str [102, 105, 114, 115, 116, 50, 32, 97, 32, 98])) (dCons (dK (.int 1)) (dNil)))) (dNil))))))) (sSeq (sFor (iRng (dK (.int 7))) (gN 3) (sSeq (sAsg (dCall (c 24) (dCons (dVar 1) (dCons (dVar 2) (dNil)))) (gT (gC (gN 4) (gC (gN 5) (gNils))))) (sIf (dTest (dBin (gCmp .NotEq) (dTell td__law_told (dCall (c 15) (dCons (dVar 4) (dNil)))) (dTup (dCons (dK (.int 1)) (dCons (dVar 5) (dNil)))))) (sRet (dK (.bl false))) (sNil)))) (sSeq (sSet 2 (dLst (dCons (dTup (dCons (dK (.str [97, 32, 105])) (dCons (dK (.int 2)) (dNil)))) (dCons (dTup (dCons (dK (.str [111, 102, 102, 32, 111, 102, 102])) (dCons (dK (.int 2)) (dNil)))) (dCons (dTup (dCons (dK (.str [79, 102, 102])) (dCons (dK (.int 1)) (dNil)))) (dCons (dTup (dCons (dK (.str [97, 32, 98, 32, 97, 97])) (dCons (dK (.int 3)) (dNil)))) (dCons (dTup (dCons (dK (.str [97, 44, 32, 98])) (dCons (dK (.int 1)) (dNil)))) (dCons (dTup (dCons (dBin gAdd (dBin gMul (dK (.str [97, 32])) (dK (.int 20))) (dK (.str [97]))) (dCons (dK (.int 21)) (dNil)))) (dCons (dTup (dCons (dK (.str [111, 102, 102, 32, 97, 32, 111, 102, 102])) (dCons (dK (.int 3)) (dNil)))) (dNil)))))))))) (sSeq (sFor (iRng (dK (.int 3))) (gN 3) (sSeq (sAsg (dCall (c 24) (dCons (dVar 1) (dCons (dVar 2) (dNil)))) (gT (gC (gN 4) (gC (gN 5) (gNils))))) (sIf (dTest (dBin (gCmp .NotEq) (dTell td__law_told (dCall (c 17) (dCons (dVar 4) (dNil)))) (dTup (dCons (dK (.int 1)) (dCons (dVar 5) (dNil)))))) (sRet (dK (.bl false))) (sNil)))) (sSeq (sSet 2 (dLst (dCons (dTup (dCons (dK (.str [102, 108, 97, 116])) (dCons (dK (.int 1)) (dNil)))) (dCons (dTup (dCons (dK (.str [45, 58, 70, 108, 97, 116])) (dCons (dK (.int 1)) (dNil)))) (dCons (dTup (dCons (dK (.str [58, 102, 108, 97, 116])) (dCons (dK (.int 1)) (dNil)))) (dCons (dTup (dCons (dK (.str [48, 58, 102, 108, 97, 116, 32, 49, 50, 58, 102, 108, 97, 116])) (dCons (dK (.int 2)) (dNil)))) (dCons (dTup (dCons (dK (.str [48, 48, 58, 102, 108, 97, 116])) (dCons (dK (.int 1)) (dNil)))) (dCons (dTup (dCons (dK (.str [48, 46, 58, 102, 108, 97, 116])) (dCons (dK (.int 1)) (dNil)))) (dCons (dTup (dCons (dK (.str [48, 46, 49, 58, 102, 108, 97, 116, 32, 120])) (dCons (dK (.int 2)) (dNil)))) (dNil)))))))))) (sSeq (sSet 2 (dBin gAdd (dVar 2) (dLst (dCons (dTup (dCons (dK (.str [45, 58, 102, 108, 97, 116, 58, 114, 101, 115, 116])) (dCons (dK (.int 1)) (dNil)))) (dCons (dTup (dCons (dK (.str [48, 44, 49, 58, 102, 108, 97, 116])) (dCons (dK (.int 1)) (dNil)))) (dCons (dTup (dCons (dK (.str [45, 45, 58, 102, 108, 97, 116])) (dCons (dK (.int 1)) (dNil)))) (dCons (dTup (dCons (dBin gAdd (dBin gMul (dK (.str [45, 58, 102, 108, 97, 116, 32])) (dK (.int 300))) (dK (.str [45, 58, 102, 108, 97, 116]))) (dCons (dK (.int 301)) (dNil)))) (dNil)))))))) (sSeq (sFor (iRng (dK (.int 4))) (gN 3) (sSeq (sAsg (dCall (c 24) (dCons (dVar 1) (dCons (dVar 2) (dNil)))) (gT (gC (gN 4) (gC (gN 5) (gNils))))) (sIf (dTest (dBin (gCmp .NotEq) (dTell td__law_told (dCall (c 22) (dCons (dVar 4) (dNil)))) (dTup (dCons (dK (.int 1)) (dCons (dVar 5) (dNil)))))) (sRet (dK (.bl false))) (sNil)))) (sSeq (sSet 6 (dCall (c 24) (dCons (dVar 1) (dCons (dLst (dCons (dK .non) (dCons (dK (.int 5)) (dCons (dLst (dCons (dK (.str [97])) (dNil))) (dCons (dTup (dCons (dK (.str [114, 101, 115, 116])) (dNil))) (dNil)))))) (dNil))))) (sSeq (sSetF 7 (dLst (dCons (dTell td__law_told (dCall (c 15) (dCons (dVar 6) (dNil)))) (dNil)))) (sSeq (sApp 7 (dTell td__law_told (dCall (c 17) (dCons (dVar 6) (dNil))))) (sSeq (sApp 7 (dTell td__law_told (dCall (c 22) (dCons (dVar 6) (dNil))))) (sSeq (sApp 7 (dTell td__law_told (dCall (c 12) (dCons (dCall (c 24) (dCons (dVar 1) (dCons (dLst (dCons (dK .non) (dCons (dTup (dCons (dK (.str [115, 97, 121])) (dNil))) (dCons (dTup (dCons (dK (.str [119, 97, 105, 116])) (dCons (dK (.int 0)) (dNil)))) (dCons (dK (.str [97])) (dNil)))))) (dNil)))) (dNil))))) (sSeq (sApp 7 (dTell td__law_told (dCall (c 16) (dCons (dTup (dCons (dK (.int 0)) (dCons (dK (.str [111, 110])) (dNil)))) (dNil))))) (sSeq (sApp 7 (dTell td__law_told (dCall (c 19) (dCons (dTup (dCons (dTup (dCons (dTup (dCons (dK (.int 0)) (dNil))) (dCons (dK (.str [102, 108, 97, 116])) (dNil)))) (dCons (dTup (dCons (dTup (dNil)) (dCons (dK (.str [98, 97, 114, 101])) (dNil)))) (dNil)))) (dNil))))) (sRet (dBin (gCmp .Eq) (dVarB 7) (dLst (dCons (dK (.str [116, 101, 120, 116])) (dCons (dK (.str [116, 101, 120, 116])) (dCons (dK (.str [116, 101, 120, 116])) (dCons (dK (.str [112, 108, 97, 110])) (dCons (dK (.str [114, 111, 119])) (dCons (dK (.str [112, 97, 112, 101, 114])) (dNil))))))))))))))))))))))))))))
def N_law : List Str := ["_law_script", "_law_row", "_law_tries", "_law_turn", "_law_text", "_law_word", "_law_none", "_law_found"]
theorem sc_law : FnScope N_law ["_law_script"] (defScope (top 48)) := ⟨rfl, rfl, rfl, by decide +kernel, rfl, by decide +kernel, by decide +kernel⟩
theorem p_law (hk2 : 2 ≤ k) {c : Nat → DFn} {f : Addr} {fd : FuncData} (F0 : FunD K "law" "law" (defArgs (top 48)) (defBody (top 48)) (defScope (top 48)) [] [] f fd) (h__law_pick : OkF P w K mg base T k "_law_pick" ["_law_row", "_law_kinds"] (c 24)) (h_read_plan : OkF P w K mg base T k "read_plan" ["text"] (c 15)) (h_read_row : OkF P w K mg base T k "read_row" ["text"] (c 17)) (h_read_paper : OkF P w K mg base T k "read_paper" ["text"] (c 22)) (h_write_plan : OkF P w K mg base T k "write_plan" ["plan"] (c 12)) (h_write_row : OkF P w K mg base T k "write_row" ["row"] (c 16)) (h_write_paper : OkF P w K mg base T k "write_paper" ["paper"] (c 19)) (f_range : mg "range" = none) {fd__law_told : FuncData} (m__law_told : mg "_law_told" = some (.ref (He.ga K "_law_told"))) (F__law_told : FunD K "_law_told" "_law_told" (defArgs (top 47)) (defBody (top 47)) (defScope (top 47)) [] [] (He.ga K "_law_told") fd__law_told) (gt0__law_told : ∀ X : Cx, X.mg = mg → X.K = K → X.A.units + 100 < cLine → LamX.GivesTo X N__law_told "_law_told" (defScope (top 47)) (He.ga K "_law_told") fd__law_told.code (defBody (top 47)) "_law_work" (X.env.qual ++ "<lambda>") (TTd T X.K td__law_told)) {cL Pt : Addr} (TB : LamX.TabB base mg cL Pt) (hcode0 : fd.code = .ref cL) (hT0 : T = [(Pt, ((("law" : Str) ++ ".<locals>.") ++ "<lambda>"))]) :
    FnOk P w K mg base (L2.CX P w) (k + 3) f fd ["_law_script"] (spD T K (runD 8 1 (d_law c))) := fn_diC F0 sc_law fun A outer s H E B hr0 => by
  have hN := sc_law.nd
  have hr := hr0.mono (show k ≤ k + 2 by omega)
  have hu := huR hr0
  have gt__law_told : ∀ k : Unit, LamX.GivesTo (cxOf (L2.CX P w) P w K mg base N_law "law" (defScope (top 48)) f fd.code A outer s H E) N__law_told "_law_told" (defScope (top 47)) (He.ga K "_law_told") fd__law_told.code (defBody (top 47)) "_law_work" ((cxOf (L2.CX P w) P w K mg base N_law "law" (defScope (top 48)) f fd.code A outer s H E).env.qual ++ "<lambda>") (TTd T K td__law_told) := fun _ => gt0__law_told _ rfl rfl (by have := hr0.un; show (A.deeper (envOfC "law" (defScope (top 48)) s.heap.objs.size f fd.code)).units + 100 < cLine; omega)
  have hcode : (cxOf (L2.CX P w) P w K mg base N_law "law" (defScope (top 48)) f fd.code A outer s H E).env.code = .ref cL := hcode0
  have hmT : (Pt, (cxOf (L2.CX P w) P w K mg base N_law "law" (defScope (top 48)) f fd.code A outer s H E).env.qual ++ "<lambda>") ∈ T := by rw [hT0]; exact List.mem_singleton.mpr rfl
  have huT : ∀ p ∈ T, p.1 = Pt → p.2 = (cxOf (L2.CX P w) P w K mg base N_law "law" (defScope (top 48)) f fd.code A outer s H E).env.qual ++ "<lambda>" := fun p hp _ => by rw [hT0] at hp; rw [List.mem_singleton.mp hp]; rfl
  have tk : Takes (cxOf (L2.CX P w) P w K mg base N_law "law" (defScope (top 48)) f fd.code A outer s H E) (fun cls d _ H => E cls d H) := takes_of rfl rfl rfl rfl
  have hx : Passes (L2.CX P w) (cxOf (L2.CX P w) P w K mg base N_law "law" (defScope (top 48)) f fd.code A outer s H E) E := passes_call tk (fun _ _ _ _ h => h)
  have key__law_told : ∀ (scope : Scope) (hL : LamX.lamSB (defScope (top 48)) scope = true) (params : Arguments) (hdef : defaultsOf params (cxOf (L2.CX P w) P w K mg base N_law "law" (defScope (top 48)) f fd.code A outer s H E).env = ([], [])) (hbd : ∀ (q : Str) (cl : List (Str × Addr)) (pm cv ctv : Value) (body : Expr), bindArgs (PySem.W.kla_fn "<lambda>" q params body scope cl pm cv ctv) ⟨[], []⟩ = pure []) (body : Expr) (fb : DF) (p1 p2 p3 : Pos)
      (hb : ∀ (A2 : Around) (outer2 : List Env) (s2 : Shared) (H2 : Hp) (E2 : XK) (f2 c2 : Addr), Room k (A2.deeper (LamX.lamEnv (cxOf (L2.CX P w) P w K mg base N_law "law" (defScope (top 48)) f fd.code A outer s H E) scope s2.heap.objs.size f2 c2)) → Passes (L2.CX P w) (LamX.lamCx (cxOf (L2.CX P w) P w K mg base N_law "law" (defScope (top 48)) f fd.code A outer s H E) A2 outer2 s2 H2 E2 scope f2 c2) E2 → PE (LamX.lamCx (cxOf (L2.CX P w) P w K mg base N_law "law" (defScope (top 48)) f fd.code A outer s H E) A2 outer2 s2 H2 E2 scope f2 c2) body (tD ⟨B, T, K, E2⟩ fb)),
      PE (cxOf (L2.CX P w) P w K mg base N_law "law" (defScope (top 48)) f fd.code A outer s H E) (.Call (.Name "_law_told" p1) [.Lambda params body scope p2] [] p3) (tD ⟨B, T, K, E⟩ (dTell td__law_told fb)) := fun scope hL params hdef hbd body fb p1 p2 p3 hb =>
      e_told m__law_told F__law_told (F__law_told.bindsN fun _ _ _ _ _ _ us hl => match us, hl with | [_], _ => rfl) sc__law_told rfl (vis_of rfl) (gt__law_told ()) TB hcode hmT huT hr0 (LamX.lamS_by hL) hdef (fun q cl pm cv ctv => hbd q cl pm cv ctv body) (fun A2 outer2 s2 H2 E2 f2 c2 hr2 => hb A2 outer2 s2 H2 E2 f2 c2 hr2 (lam_passes (X := (cxOf (L2.CX P w) P w K mg base N_law "law" (defScope (top 48)) f fd.code A outer s H E)) (A := A2) (outer := outer2) (s := s2) (H := H2) (E := E2) (scope := scope) (f := f2) (c' := c2)))
  exact (ss_cons (s_new hN rfl (loc_of rfl) (e_lst (a_cons (e_var rfl (vis_of rfl) rfl rfl) (a_cons e_int (a_cons e_int (a_cons e_int a_nil rfl) rfl) rfl) rfl)) rfl (by first | exact .inr rfl | exact .inl rfl)) (ss_cons (s_set hN rfl (loc_of rfl) (dOfF (e_lst (a_cons (e_tup (a_cons (e_strK (by kernel_rfl) (by decide)) (a_cons e_int a_nil rfl) rfl)) (a_cons (e_tup (a_cons (e_strK (by kernel_rfl) (by decide)) (a_cons e_int a_nil rfl) rfl)) (a_cons (e_tup (a_cons (e_strK (by kernel_rfl) (by decide)) (a_cons e_int a_nil rfl) rfl)) (a_cons (e_tup (a_cons (e_strK (by kernel_rfl) (by decide)) (a_cons e_int a_nil rfl) rfl)) (a_cons (e_tup (a_cons (e_strK (by kernel_rfl) (by decide)) (a_cons e_int a_nil rfl) rfl)) (a_cons (e_tup (a_cons (e_strK (by kernel_rfl) (by decide)) (a_cons e_int a_nil rfl) rfl)) (a_cons (e_tup (a_cons (e_strK (by kernel_rfl) (by decide)) (a_cons e_int a_nil rfl) rfl)) (a_cons (e_tup (a_cons (e_strK (by kernel_rfl) (by decide)) (a_cons e_int a_nil rfl) rfl)) a_nil rfl) rfl) rfl) rfl) rfl) rfl) rfl) rfl))) rfl (by first | exact .inr rfl | exact .inl rfl)) (ss_cons (s_set hN rfl (loc_of rfl) (e_bin (o_bin rfl (op := .Add) rfl) (bOfD (e_var rfl (vis_of rfl) rfl rfl)) (bOfD (dOfF (e_lst (a_cons (e_tup (a_cons (e_strK (by kernel_rfl) (by decide)) (a_cons e_int a_nil rfl) rfl)) (a_cons (e_tup (a_cons (e_strK (by kernel_rfl) (by decide)) (a_cons e_int a_nil rfl) rfl)) (a_cons (e_tup (a_cons (e_strK (by kernel_rfl) (by decide)) (a_cons e_int a_nil rfl) rfl)) (a_cons (e_tup (a_cons (e_strK (by kernel_rfl) (by decide)) (a_cons e_int a_nil rfl) rfl)) a_nil rfl) rfl) rfl) rfl))))) rfl (by first | exact .inr rfl | exact .inl rfl)) (ss_cons (s_set hN rfl (loc_of rfl) (e_bin (o_bin rfl (op := .Add) rfl) (bOfD (e_var rfl (vis_of rfl) rfl rfl)) (bOfD (dOfF (e_lst (a_cons (e_tup (a_cons (e_strK (by kernel_rfl) (by decide)) (a_cons e_int a_nil rfl) rfl)) (a_cons (e_tup (a_cons (e_strK (by kernel_rfl) (by decide)) (a_cons e_int a_nil rfl) rfl)) (a_cons (e_tup (a_cons (e_bin (o_bin rfl (op := .Add) rfl) (bOfD (e_bin (o_bin rfl (op := .Mult) rfl) (bOfD (e_strK (by kernel_rfl) (by decide))) (bOfD e_int))) (bOfD (e_strK (by kernel_rfl) (by decide)))) (a_cons e_int a_nil rfl) rfl)) (a_cons (e_tup (a_cons (e_strK (by kernel_rfl) (by decide)) (a_cons e_int a_nil rfl) rfl)) (a_cons (e_tup (a_cons (e_strK (by kernel_rfl) (by decide)) (a_cons e_int a_nil rfl) rfl)) a_nil rfl) rfl) rfl) rfl) rfl))))) rfl (by first | exact .inr rfl | exact .inl rfl)) (ss_cons (s_set hN rfl (loc_of rfl) (e_bin (o_bin rfl (op := .Add) rfl) (bOfD (e_var rfl (vis_of rfl) rfl rfl)) (bOfD (dOfF (e_lst (a_cons (e_tup (a_cons (e_strK (by kernel_rfl) (by decide)) (a_cons e_int a_nil rfl) rfl)) a_nil rfl))))) rfl (by first | exact .inr rfl | exact .inl rfl)) (ss_cons (s_set hN rfl (loc_of rfl) (e_bin (o_bin rfl (op := .Add) rfl) (bOfD (e_var rfl (vis_of rfl) rfl rfl)) (bOfD (dOfF (e_lst (a_cons (e_tup (a_cons (e_strK (by kernel_rfl) (by decide)) (a_cons e_int a_nil rfl) rfl)) (a_cons (e_tup (a_cons (e_strK (by kernel_rfl) (by decide)) (a_cons e_int a_nil rfl) rfl)) (a_cons (e_tup (a_cons (e_strK (by kernel_rfl) (by decide)) (a_cons e_int a_nil rfl) rfl)) a_nil rfl) rfl) rfl))))) rfl (by first | exact .inr rfl | exact .inl rfl)) (ss_cons (s_for (passes_of rfl) rfl (i_range1 rfl f_range e_int rfl) (g_name hN rfl (loc_of rfl) (by first | exact .inr rfl | exact .inl rfl)) (ss_cons (s_asg (e_callO h__law_pick rfl hr hx (a_cons (e_var rfl (vis_of rfl) rfl rfl) (a_cons (e_var rfl (vis_of rfl) rfl rfl) a_nil rfl) rfl)) (g_tup rfl rfl (gs_cons (g_name hN rfl (loc_of rfl) (by first | exact .inr rfl | exact .inl rfl)) (gs_cons (g_name hN rfl (loc_of rfl) (by first | exact .inr rfl | exact .inl rfl)) gs_nil rfl) rfl) (takes_cons (takes_cons takes_nil)) rfl rfl) rfl rfl rfl) (ss_one (s_if (t_cmp (o_cmp rfl hu .NotEq) (bOfD (key__law_told _ (by decide +kernel) _ rfl (fun _ _ _ _ _ _ => rfl) _ _ _ _ _ (fun A2 outer2 s2 H2 E2 f2 c2 hr2 hx2 => by
    have hu2 := huR hr2
    exact (e_callO h_read_plan rfl hr2 hx2 (a_cons (e_var rfl (vis_of rfl) rfl rfl) a_nil rfl))))) (bOfD (e_tup (a_cons e_int (a_cons (e_var rfl (vis_of rfl) rfl rfl) a_nil rfl) rfl))) rfl) (ss_one (s_ret e_bl)) ss_nil))) (fun _ => rfl)) (ss_cons (s_set hN rfl (loc_of rfl) (dOfF (e_lst (a_cons (e_tup (a_cons (e_strK (by kernel_rfl) (by decide)) (a_cons e_int a_nil rfl) rfl)) (a_cons (e_tup (a_cons (e_strK (by kernel_rfl) (by decide)) (a_cons e_int a_nil rfl) rfl)) (a_cons (e_tup (a_cons (e_strK (by kernel_rfl) (by decide)) (a_cons e_int a_nil rfl) rfl)) (a_cons (e_tup (a_cons (e_strK (by kernel_rfl) (by decide)) (a_cons e_int a_nil rfl) rfl)) (a_cons (e_tup (a_cons (e_strK (by kernel_rfl) (by decide)) (a_cons e_int a_nil rfl) rfl)) (a_cons (e_tup (a_cons (e_bin (o_bin rfl (op := .Add) rfl) (bOfD (e_bin (o_bin rfl (op := .Mult) rfl) (bOfD (e_strK (by kernel_rfl) (by decide))) (bOfD e_int))) (bOfD (e_strK (by kernel_rfl) (by decide)))) (a_cons e_int a_nil rfl) rfl)) (a_cons (e_tup (a_cons (e_strK (by kernel_rfl) (by decide)) (a_cons e_int a_nil rfl) rfl)) a_nil rfl) rfl) rfl) rfl) rfl) rfl) rfl))) rfl (by first | exact .inr rfl | exact .inl rfl)) (ss_cons (s_for (passes_of rfl) rfl (i_range1 rfl f_range e_int rfl) (g_name hN rfl (loc_of rfl) (by first | exact .inr rfl | exact .inl rfl)) (ss_cons (s_asg (e_callO h__law_pick rfl hr hx (a_cons (e_var rfl (vis_of rfl) rfl rfl) (a_cons (e_var rfl (vis_of rfl) rfl rfl) a_nil rfl) rfl)) (g_tup rfl rfl (gs_cons (g_name hN rfl (loc_of rfl) (by first | exact .inr rfl | exact .inl rfl)) (gs_cons (g_name hN rfl (loc_of rfl) (by first | exact .inr rfl | exact .inl rfl)) gs_nil rfl) rfl) (takes_cons (takes_cons takes_nil)) rfl rfl) rfl rfl rfl) (ss_one (s_if (t_cmp (o_cmp rfl hu .NotEq) (bOfD (key__law_told _ (by decide +kernel) _ rfl (fun _ _ _ _ _ _ => rfl) _ _ _ _ _ (fun A2 outer2 s2 H2 E2 f2 c2 hr2 hx2 => by
    have hu2 := huR hr2
    exact (e_callO h_read_row rfl hr2 hx2 (a_cons (e_var rfl (vis_of rfl) rfl rfl) a_nil rfl))))) (bOfD (e_tup (a_cons e_int (a_cons (e_var rfl (vis_of rfl) rfl rfl) a_nil rfl) rfl))) rfl) (ss_one (s_ret e_bl)) ss_nil))) (fun _ => rfl)) (ss_cons (s_set hN rfl (loc_of rfl) (dOfF (e_lst (a_cons (e_tup (a_cons (e_strK (by kernel_rfl) (by decide)) (a_cons e_int a_nil rfl) rfl)) (a_cons (e_tup (a_cons (e_strK (by kernel_rfl) (by decide)) (a_cons e_int a_nil rfl) rfl)) (a_cons (e_tup (a_cons (e_strK (by kernel_rfl) (by decide)) (a_cons e_int a_nil rfl) rfl)) (a_cons (e_tup (a_cons (e_strK (by kernel_rfl) (by decide)) (a_cons e_int a_nil rfl) rfl)) (a_cons (e_tup (a_cons (e_strK (by kernel_rfl) (by decide)) (a_cons e_int a_nil rfl) rfl)) (a_cons (e_tup (a_cons (e_strK (by kernel_rfl) (by decide)) (a_cons e_int a_nil rfl) rfl)) (a_cons (e_tup (a_cons (e_strK (by kernel_rfl) (by decide)) (a_cons e_int a_nil rfl) rfl)) a_nil rfl) rfl) rfl) rfl) rfl) rfl) rfl))) rfl (by first | exact .inr rfl | exact .inl rfl)) (ss_cons (s_set hN rfl (loc_of rfl) (e_bin (o_bin rfl (op := .Add) rfl) (bOfD (e_var rfl (vis_of rfl) rfl rfl)) (bOfD (dOfF (e_lst (a_cons (e_tup (a_cons (e_strK (by kernel_rfl) (by decide)) (a_cons e_int a_nil rfl) rfl)) (a_cons (e_tup (a_cons (e_strK (by kernel_rfl) (by decide)) (a_cons e_int a_nil rfl) rfl)) (a_cons (e_tup (a_cons (e_strK (by kernel_rfl) (by decide)) (a_cons e_int a_nil rfl) rfl)) (a_cons (e_tup (a_cons (e_bin (o_bin rfl (op := .Add) rfl) (bOfD (e_bin (o_bin rfl (op := .Mult) rfl) (bOfD (e_strK (by kernel_rfl) (by decide))) (bOfD e_int))) (bOfD (e_strK (by kernel_rfl) (by decide)))) (a_cons e_int a_nil rfl) rfl)) a_nil rfl) rfl) rfl) rfl))))) rfl (by first | exact .inr rfl | exact .inl rfl)) (ss_cons (s_for (passes_of rfl) rfl (i_range1 rfl f_range e_int rfl) (g_name hN rfl (loc_of rfl) (by first | exact .inr rfl | exact .inl rfl)) (ss_cons (s_asg (e_callO h__law_pick rfl hr hx (a_cons (e_var rfl (vis_of rfl) rfl rfl) (a_cons (e_var rfl (vis_of rfl) rfl rfl) a_nil rfl) rfl)) (g_tup rfl rfl (gs_cons (g_name hN rfl (loc_of rfl) (by first | exact .inr rfl | exact .inl rfl)) (gs_cons (g_name hN rfl (loc_of rfl) (by first | exact .inr rfl | exact .inl rfl)) gs_nil rfl) rfl) (takes_cons (takes_cons takes_nil)) rfl rfl) rfl rfl rfl) (ss_one (s_if (t_cmp (o_cmp rfl hu .NotEq) (bOfD (key__law_told _ (by decide +kernel) _ rfl (fun _ _ _ _ _ _ => rfl) _ _ _ _ _ (fun A2 outer2 s2 H2 E2 f2 c2 hr2 hx2 => by
    have hu2 := huR hr2
    exact (e_callO h_read_paper rfl hr2 hx2 (a_cons (e_var rfl (vis_of rfl) rfl rfl) a_nil rfl))))) (bOfD (e_tup (a_cons e_int (a_cons (e_var rfl (vis_of rfl) rfl rfl) a_nil rfl) rfl))) rfl) (ss_one (s_ret e_bl)) ss_nil))) (fun _ => rfl)) (ss_cons (s_set hN rfl (loc_of rfl) (e_callO h__law_pick rfl hr hx (a_cons (e_var rfl (vis_of rfl) rfl rfl) (a_cons (dOfF (e_lst (a_cons e_non (a_cons e_int (a_cons (dOfF (e_lst (a_cons (e_strK (by kernel_rfl) (by decide)) a_nil rfl))) (a_cons (e_tup (a_cons (e_strK (by kernel_rfl) (by decide)) a_nil rfl)) a_nil rfl) rfl) rfl) rfl))) a_nil rfl) rfl)) rfl (by first | exact .inr rfl | exact .inl rfl)) (ss_cons (s_setF hN rfl (loc_of rfl) (e_lst (a_cons (key__law_told _ (by decide +kernel) _ rfl (fun _ _ _ _ _ _ => rfl) _ _ _ _ _ (fun A2 outer2 s2 H2 E2 f2 c2 hr2 hx2 => by
    have hu2 := huR hr2
    exact (e_callO h_read_plan rfl hr2 hx2 (a_cons (e_var rfl (vis_of rfl) rfl rfl) a_nil rfl)))) a_nil rfl)) rfl (by first | exact .inr rfl | exact .inl rfl)) (ss_cons (s_app rfl rfl (vis_of rfl) rfl rfl (key__law_told _ (by decide +kernel) _ rfl (fun _ _ _ _ _ _ => rfl) _ _ _ _ _ (fun A2 outer2 s2 H2 E2 f2 c2 hr2 hx2 => by
    have hu2 := huR hr2
    exact (e_callO h_read_row rfl hr2 hx2 (a_cons (e_var rfl (vis_of rfl) rfl rfl) a_nil rfl)))) rfl rfl) (ss_cons (s_app rfl rfl (vis_of rfl) rfl rfl (key__law_told _ (by decide +kernel) _ rfl (fun _ _ _ _ _ _ => rfl) _ _ _ _ _ (fun A2 outer2 s2 H2 E2 f2 c2 hr2 hx2 => by
    have hu2 := huR hr2
    exact (e_callO h_read_paper rfl hr2 hx2 (a_cons (e_var rfl (vis_of rfl) rfl rfl) a_nil rfl)))) rfl rfl) (ss_cons (s_app rfl rfl (vis_of rfl) rfl rfl (key__law_told _ (by decide +kernel) _ rfl (fun _ _ _ _ _ _ => rfl) _ _ _ _ _ (fun A2 outer2 s2 H2 E2 f2 c2 hr2 hx2 => by
    have hu2 := huR hr2
    exact (e_callO h_write_plan rfl hr2 hx2 (a_cons (e_callO h__law_pick rfl hr2 hx2 (a_cons (e_var rfl (vis_of rfl) rfl rfl) (a_cons (dOfF (e_lst (a_cons e_non (a_cons (e_tup (a_cons (e_strK (by kernel_rfl) (by decide)) a_nil rfl)) (a_cons (e_tup (a_cons (e_strK (by kernel_rfl) (by decide)) (a_cons e_int a_nil rfl) rfl)) (a_cons (e_strK (by kernel_rfl) (by decide)) a_nil rfl) rfl) rfl) rfl))) a_nil rfl) rfl)) a_nil rfl)))) rfl rfl) (ss_cons (s_app rfl rfl (vis_of rfl) rfl rfl (key__law_told _ (by decide +kernel) _ rfl (fun _ _ _ _ _ _ => rfl) _ _ _ _ _ (fun A2 outer2 s2 H2 E2 f2 c2 hr2 hx2 => by
    have hu2 := huR hr2
    exact (e_callO h_write_row rfl hr2 hx2 (a_cons (e_tup (a_cons e_int (a_cons (e_strK (by kernel_rfl) (by decide)) a_nil rfl) rfl)) a_nil rfl)))) rfl rfl) (ss_cons (s_app rfl rfl (vis_of rfl) rfl rfl (key__law_told _ (by decide +kernel) _ rfl (fun _ _ _ _ _ _ => rfl) _ _ _ _ _ (fun A2 outer2 s2 H2 E2 f2 c2 hr2 hx2 => by
    have hu2 := huR hr2
    exact (e_callO h_write_paper rfl hr2 hx2 (a_cons (e_tup (a_cons (e_tup (a_cons (e_tup (a_cons e_int a_nil rfl)) (a_cons (e_strK (by kernel_rfl) (by decide)) a_nil rfl) rfl)) (a_cons (e_tup (a_cons (e_tup a_nil) (a_cons (e_strK (by kernel_rfl) (by decide)) a_nil rfl) rfl)) a_nil rfl) rfl)) a_nil rfl)))) rfl rfl) (ss_one (s_ret (e_cmp (o_cmp rfl hu .Eq) (e_varB rfl (vis_of rfl) rfl rfl) (bOfD (dOfF (e_lst (a_cons (e_strK (by kernel_rfl) (by decide)) (a_cons (e_strK (by kernel_rfl) (by decide)) (a_cons (e_strK (by kernel_rfl) (by decide)) (a_cons (e_strK (by kernel_rfl) (by decide)) (a_cons (e_strK (by kernel_rfl) (by decide)) (a_cons (e_strK (by kernel_rfl) (by decide)) a_nil rfl) rfl) rfl) rfl) rfl) rfl)))) rfl))))))))))))))))))))))
end
end My

namespace My
open PySem PySem.Spec PyProof.Rows L2 DI
def ini (i : Nat) : Stmt := match top i with
  | .ClassDef (body := b) .. => b.getD 0 (.Pass ⟨0, 0, 0, 0⟩)
  | _ => .Pass ⟨0, 0, 0, 0⟩
def fn_0 : List He.DefD := [⟨("is_integer", none), "is_integer", "is_integer", defArgs (top 8), defBody (top 8), defScope (top 8), [], []⟩, ⟨("is_in", none), "is_in", "is_in", defArgs (top 9), defBody (top 9), defScope (top 9), [], []⟩, ⟨("is_list", none), "is_list", "is_list", defArgs (top 10), defBody (top 10), defScope (top 10), [], []⟩, ⟨("is_plan", none), "is_plan", "is_plan", defArgs (top 15), defBody (top 15), defScope (top 15), [], []⟩, ⟨("parts_of", none), "parts_of", "parts_of", defArgs (top 16), defBody (top 16), defScope (top 16), [], []⟩, ⟨("leaves_in", none), "leaves_in", "leaves_in", defArgs (top 17), defBody (top 17), defScope (top 17), [], []⟩, ⟨("need_plan", none), "need_plan", "need_plan", defArgs (top 18), defBody (top 18), defScope (top 18), [], []⟩, ⟨("need_paper", none), "need_paper", "need_paper", defArgs (top 22), defBody (top 22), defScope (top 22), [], []⟩, ⟨("need_row", none), "need_row", "need_row", defArgs (top 25), defBody (top 25), defScope (top 25), [], []⟩, ⟨("need_text", none), "need_text", "need_text", defArgs (top 30), defBody (top 30), defScope (top 30), [], []⟩, ⟨("words_of", none), "words_of", "words_of", defArgs (top 31), defBody (top 31), defScope (top 31), [], []⟩, ⟨("plan_words", none), "plan_words", "plan_words", defArgs (top 32), defBody (top 32), defScope (top 32), [], []⟩, ⟨("write_plan", none), "write_plan", "write_plan", defArgs (top 33), defBody (top 33), defScope (top 33), [], []⟩, ⟨("head_of", none), "head_of", "head_of", defArgs (top 34), defBody (top 34), defScope (top 34), [], []⟩, ⟨("plan_at", none), "plan_at", "plan_at", defArgs (top 35), defBody (top 35), defScope (top 35), [], []⟩, ⟨("read_plan", none), "read_plan", "read_plan", defArgs (top 36), defBody (top 36), defScope (top 36), [], []⟩, ⟨("write_row", none), "write_row", "write_row", defArgs (top 37), defBody (top 37), defScope (top 37), [], []⟩, ⟨("read_row", none), "read_row", "read_row", defArgs (top 38), defBody (top 38), defScope (top 38), [], []⟩, ⟨("place_text", none), "place_text", "place_text", defArgs (top 39), defBody (top 39), defScope (top 39), [], []⟩, ⟨("write_paper", none), "write_paper", "write_paper", defArgs (top 40), defBody (top 40), defScope (top 40), [], []⟩, ⟨("number_of", none), "number_of", "number_of", defArgs (top 41), defBody (top 41), defScope (top 41), [], []⟩, ⟨("step_of", none), "step_of", "step_of", defArgs (top 42), defBody (top 42), defScope (top 42), [], []⟩, ⟨("read_paper", none), "read_paper", "read_paper", defArgs (top 43), defBody (top 43), defScope (top 43), [], []⟩, ⟨("_law_taken", none), "_law_taken", "_law_taken", defArgs (top 45), defBody (top 45), defScope (top 45), [], []⟩, ⟨("_law_pick", none), "_law_pick", "_law_pick", defArgs (top 46), defBody (top 46), defScope (top 46), [], []⟩]
def fn_1 : List He.DefD := [⟨("_law_told", none), "_law_told", "_law_told", defArgs (top 47), defBody (top 47), defScope (top 47), [], []⟩, ⟨("law", none), "law", "law", defArgs (top 48), defBody (top 48), defScope (top 48), [], []⟩]
def fn : List He.DefD := fn_0 ++ fn_1
def fa_0 : List He.Fa := [.glo "is_integer", .glo "is_in", .glo "is_list", .glo "is_plan", .glo "parts_of", .glo "leaves_in", .glo "need_plan", .glo "need_paper", .glo "need_row", .glo "need_text", .glo "words_of", .glo "plan_words", .glo "write_plan", .glo "head_of", .glo "plan_at", .glo "read_plan", .glo "write_row", .glo "read_row", .glo "place_text", .glo "write_paper", .glo "number_of", .glo "step_of", .glo "read_paper", .glo "_law_taken", .glo "_law_pick"]
def fa_1 : List He.Fa := [.glo "_law_told", .glo "law", .glo "FormError", .glo "BadPlan", .glo "BadRow", .glo "BadPaper", .glo "NotText", .glo "InvalidText", .free "isinstance", .free "int", .free "bool", .free "tuple", .free "len", .free "str", .free "all", .free "enumerate", .free "range", .free "super", .int "MOST_WORDS" 8, .int "MOST_DEEP" 40, .int "MOST_LEAVES" 12, .glo "RULES", .int "MOST_STEPS" 300, .int "MOST_ROW" 20, .str "WORDS" "abcdefgh"]
def fa_2 : List He.Fa := [.str "FIGURES" "0123456789", .glo "NUMBERS", .exc "FormError", .exc "BadPlan", .exc "NotText"]
def fa : List He.Fa := fa_0 ++ fa_1 ++ fa_2
def sd : List SupD := [
  ⟨"BadRow", ["index"], defArgs (ini 3), defBody (ini 3), defScope (ini 3)⟩,
  ⟨"BadPaper", ["index"], defArgs (ini 4), defBody (ini 4), defScope (ini 4)⟩,
  ⟨"InvalidText", ["line", "word"], defArgs (ini 6), defBody (ini 6), defScope (ini 6)⟩]
def exf (K : PySem.W.Frag) : Bool := (He.tupB K "RULES" [.str "ahead", .str "calm", .str "flat", .str "idle", .str "joined", .str "none", .str "pulled", .str "rest", .str "shields", .str "turned"] && (He.tupB K "NUMBERS" [.str "2", .str "3", .str "4", .str "5", .str "6", .str "7", .str "8", .str "9", .str "10", .str "11", .str "12"] && (sbB K sbL && (ffB K ffL && (exmB K sbL "FormError" && true)))))
def tf : List He.Defn := [("law", none)]
def loose_0 : List Str := ["__name__", "FormError", "BadPlan", "BadRow", "BadPaper", "NotText", "InvalidText", "is_integer", "is_in", "is_list", "MOST_WORDS", "MOST_DEEP", "MOST_LEAVES", "is_plan", "parts_of", "leaves_in", "need_plan", "RULES", "MOST_STEPS", "need_paper", "MOST_ROW", "need_row", "WORDS", "FIGURES", "NUMBERS"]
def loose_1 : List Str := ["need_text", "words_of", "plan_words", "write_plan", "head_of", "plan_at", "read_plan", "write_row", "read_row", "place_text", "write_paper", "number_of", "step_of", "read_paper", "_law_taken", "_law_pick", "_law_told"]
def loose : List Str := loose_0 ++ loose_1
abbrev R : PySem.W.OpenRow := PySem.W.OpenLaw.row PySem.Challenge.rw_shieldforms_k16_texts_refused
abbrev hk : PySem.W.Hook := hookZ R.prog 5 fa fn sd tf exf
def ob (s : PySem.W.SharedT) : AlZ := obsZ R.prog 5 fa fn sd tf exf (HandSHeadRun.getT s)
theorem ob_eq (s : PySem.W.SharedT) : ob s = hk.obs s.abs := obsZ_eq (HandSHeadRun.getT_eq s)
theorem run (w : World) : HandSHeadRun.RunEq R (PySem.W.view R.prog [48]) hk ob 4000 loose w := by
  intro os
  kernel_rfl
end My

namespace My
open PySem PySem.Spec PyProof.Rows L2 DI
/-! the meanings of the defs, by the depth of calls -/
def tblF (c : Nat → DFn) : Nat → DFn
  | 0 => runD 1 1 (d_is_integer c)
  | 1 => runD 3 3 (d_is_in c)
  | 2 => runD 3 3 (d_is_list c)
  | 3 => runD 5 2 (d_is_plan c)
  | 4 => runD 1 1 (d_parts_of c)
  | 5 => runD 3 1 (d_leaves_in c)
  | 6 => runD 1 1 (d_need_plan c)
  | 7 => runD 4 1 (d_need_paper c)
  | 8 => runD 3 1 (d_need_row c)
  | 9 => runD 1 1 (d_need_text c)
  | 10 => runD 2 1 (d_words_of c)
  | 11 => runD 3 1 (d_plan_words c)
  | 12 => runD 1 1 (d_write_plan c)
  | 13 => runD 2 1 (d_head_of c)
  | 14 => runD 10 4 (d_plan_at c)
  | 15 => runD 5 1 (d_read_plan c)
  | 16 => runD 2 1 (d_write_row c)
  | 17 => runD 4 1 (d_read_row c)
  | 18 => runD 2 1 (d_place_text c)
  | 19 => runD 3 1 (d_write_paper c)
  | 20 => runD 2 1 (d_number_of c)
  | 21 => runD 5 1 (d_step_of c)
  | 22 => runD 5 1 (d_read_paper c)
  | 23 => runD 4 2 (d__law_taken c)
  | 24 => runD 2 2 (d__law_pick c)
  | _ => fun _ _ => .stuck
def callN : Nat → Nat → DFn
  | 0 => fun _ _ _ => .stuck
  | n + 1 => tblF (callN n)
theorem rep_strz {K : PySem.W.Frag} {G : Hp} {m : List Addr} {z : Str} {s : List Nat} (hz : z = mkS s) (hs : s.all (· < 0x110000) = true) : Rep K G m (.str z) (.str s) := by
  subst hz
  exact .str s hs
theorem sup_at {P : Program} {h : Heap} {K : PySem.W.Frag} {fa : List He.Fa} {fn : List He.DefD} {sd : List SupD} {tf : List He.Defn} {ex : PySem.W.Frag → Bool} (c : SaysZ P fa fn sd tf ex h K) (i : Nat) {d : SupD} (hi : sd[i]? = some d) : fnS K d.cls = d.val ∧ supB P K d = true := by
  have e := congrArg (fun l : List FnS => l[i]?) c.sup
  simp only [List.getElem?_map, hi, Option.map_some] at e
  exact ⟨Option.some.inj e, c.supB d (List.mem_of_getElem? hi)⟩
theorem ok_zero {P : Program} {w : World} {K : PySem.W.Frag} {mg : Str → Option Value} {base : Heap} {T : List (Addr × Str)} {x : Str} {f : Addr} {fd : FuncData} {ps : List Str} {k : Nat} : FnOk P w K mg base (L2.CX P w) k f fd ps (spD T K fun _ _ => .stuck) :=
  ⟨fun vs H Q E ⟨_, _, _, _, _, _, h⟩ => h.elim, fun A outer s H args us vs Q E _ _ _ _ ⟨_, _, _, _, _, _, h⟩ => h.elim⟩
section
variable {w : World} {K : PySem.W.Frag} {mg : Str → Option Value} {base h : Heap} {T : List (Addr × Str)}
theorem R_BadRow (X : K.In h) (G : h.Ns mainGlobals mg) (c : SaysZ R.prog fa fn sd tf exf h K) : SupOk R.prog w K mg base "BadRow" ["index"] := by
  obtain ⟨e1, e2⟩ := sup_at c 0 (d := ⟨"BadRow", ["index"], defArgs (ini 3), defBody (ini 3), defScope (ini 3)⟩) rfl
  obtain ⟨O, ⟨fd, F, hb, hs, hp, S⟩, hi, ht, hf⟩ := sup_of e1 e2
  refine ⟨⟨_, fd, ["self", "index"], fn_sup1 (k := 0) S O (hf "index" (by simp)) (by rw [hs]; exact NdefX.nscope_by (by decide +kernel)) rfl rfl hb (by rw [hs]; rfl) (by kernel_rfl) (He.free_ok X G (c.d.fact 42 (f := .free "super") rfl)) (fun env => rfl), ?_, hi, ht⟩, He.glo_ok X G (c.d.fact 29 (f := .glo "BadRow") rfl), O⟩
  obtain ⟨oc, od, osl, kV, doc, pm, an, ct, efd, lk⟩ := S.lk
  rw [efd]
  exact L2.Binds.all fun us hl => match us, hl with | [_, _], _ => rfl
theorem R_BadPaper (X : K.In h) (G : h.Ns mainGlobals mg) (c : SaysZ R.prog fa fn sd tf exf h K) : SupOk R.prog w K mg base "BadPaper" ["index"] := by
  obtain ⟨e1, e2⟩ := sup_at c 1 (d := ⟨"BadPaper", ["index"], defArgs (ini 4), defBody (ini 4), defScope (ini 4)⟩) rfl
  obtain ⟨O, ⟨fd, F, hb, hs, hp, S⟩, hi, ht, hf⟩ := sup_of e1 e2
  refine ⟨⟨_, fd, ["self", "index"], fn_sup1 (k := 0) S O (hf "index" (by simp)) (by rw [hs]; exact NdefX.nscope_by (by decide +kernel)) rfl rfl hb (by rw [hs]; rfl) (by kernel_rfl) (He.free_ok X G (c.d.fact 42 (f := .free "super") rfl)) (fun env => rfl), ?_, hi, ht⟩, He.glo_ok X G (c.d.fact 30 (f := .glo "BadPaper") rfl), O⟩
  obtain ⟨oc, od, osl, kV, doc, pm, an, ct, efd, lk⟩ := S.lk
  rw [efd]
  exact L2.Binds.all fun us hl => match us, hl with | [_, _], _ => rfl
theorem R_InvalidText (X : K.In h) (G : h.Ns mainGlobals mg) (c : SaysZ R.prog fa fn sd tf exf h K) : SupOk R.prog w K mg base "InvalidText" ["line", "word"] := by
  obtain ⟨e1, e2⟩ := sup_at c 2 (d := ⟨"InvalidText", ["line", "word"], defArgs (ini 6), defBody (ini 6), defScope (ini 6)⟩) rfl
  obtain ⟨O, ⟨fd, F, hb, hs, hp, S⟩, hi, ht, hf⟩ := sup_of e1 e2
  refine ⟨⟨_, fd, ["self", "line", "word"], fn_sup2 (k := 0) S O (hf "line" (by simp)) (hf "word" (by simp)) (by rw [hs]; exact NdefX.nscope_by (by decide +kernel)) rfl rfl hb (by rw [hs]; rfl) (by kernel_rfl) (He.free_ok X G (c.d.fact 42 (f := .free "super") rfl)) (fun env => rfl), ?_, hi, ht⟩, He.glo_ok X G (c.d.fact 32 (f := .glo "InvalidText") rfl), O⟩
  obtain ⟨oc, od, osl, kV, doc, pm, an, ct, efd, lk⟩ := S.lk
  rw [efd]
  exact L2.Binds.all fun us hl => match us, hl with | [_, _, _], _ => rfl
theorem tu_RULES (X : K.In h) (G : h.Ns mainGlobals mg) (c : SaysZ R.prog fa fn sd tf exf h K) : mg "RULES" = some (.ref (He.ga K "RULES")) ∧ ∀ G m, Rep K G m (.ref (He.ga K "RULES")) c_RULES :=
  ⟨He.glo_ok X G (c.d.fact 46 (f := .glo "RULES") rfl), fun G m => .tup (He.tupB_ok (He.ba c.more).1 G) (.cons (rep_strz (by kernel_rfl) (by decide)) (.cons (rep_strz (by kernel_rfl) (by decide)) (.cons (rep_strz (by kernel_rfl) (by decide)) (.cons (rep_strz (by kernel_rfl) (by decide)) (.cons (rep_strz (by kernel_rfl) (by decide)) (.cons (rep_strz (by kernel_rfl) (by decide)) (.cons (rep_strz (by kernel_rfl) (by decide)) (.cons (rep_strz (by kernel_rfl) (by decide)) (.cons (rep_strz (by kernel_rfl) (by decide)) (.cons (rep_strz (by kernel_rfl) (by decide)) .nil))))))))))⟩
theorem tu_NUMBERS (X : K.In h) (G : h.Ns mainGlobals mg) (c : SaysZ R.prog fa fn sd tf exf h K) : mg "NUMBERS" = some (.ref (He.ga K "NUMBERS")) ∧ ∀ G m, Rep K G m (.ref (He.ga K "NUMBERS")) c_NUMBERS :=
  ⟨He.glo_ok X G (c.d.fact 51 (f := .glo "NUMBERS") rfl), fun G m => .tup (He.tupB_ok (He.ba (He.ba c.more).2).1 G) (.cons (rep_strz (by kernel_rfl) (by decide)) (.cons (rep_strz (by kernel_rfl) (by decide)) (.cons (rep_strz (by kernel_rfl) (by decide)) (.cons (rep_strz (by kernel_rfl) (by decide)) (.cons (rep_strz (by kernel_rfl) (by decide)) (.cons (rep_strz (by kernel_rfl) (by decide)) (.cons (rep_strz (by kernel_rfl) (by decide)) (.cons (rep_strz (by kernel_rfl) (by decide)) (.cons (rep_strz (by kernel_rfl) (by decide)) (.cons (rep_strz (by kernel_rfl) (by decide)) (.cons (rep_strz (by kernel_rfl) (by decide)) .nil)))))))))))⟩
structure All (w : World) (K : PySem.W.Frag) (mg : Str → Option Value) (base : Heap) (T : List (Addr × Str)) (n : Nat) : Prop where
  q_is_integer : OkF R.prog w K mg base T (n + 2) "is_integer" ["value"] (callN n 0)
  q_is_in : OkF R.prog w K mg base T (n + 2) "is_in" ["value", "least", "most"] (callN n 1)
  q_is_list : OkF R.prog w K mg base T (n + 2) "is_list" ["value", "least", "most"] (callN n 2)
  q_is_plan : OkF R.prog w K mg base T (n + 2) "is_plan" ["plan", "deep"] (callN n 3)
  q_parts_of : OkF R.prog w K mg base T (n + 2) "parts_of" ["plan"] (callN n 4)
  q_leaves_in : OkF R.prog w K mg base T (n + 2) "leaves_in" ["plan"] (callN n 5)
  q_need_plan : OkF R.prog w K mg base T (n + 2) "need_plan" ["plan"] (callN n 6)
  q_need_paper : OkF R.prog w K mg base T (n + 2) "need_paper" ["paper"] (callN n 7)
  q_need_row : OkF R.prog w K mg base T (n + 2) "need_row" ["row"] (callN n 8)
  q_need_text : OkF R.prog w K mg base T (n + 2) "need_text" ["text"] (callN n 9)
  q_words_of : OkF R.prog w K mg base T (n + 2) "words_of" ["text"] (callN n 10)
  q_plan_words : OkF R.prog w K mg base T (n + 2) "plan_words" ["plan"] (callN n 11)
  q_write_plan : OkF R.prog w K mg base T (n + 2) "write_plan" ["plan"] (callN n 12)
  q_head_of : OkF R.prog w K mg base T (n + 2) "head_of" ["word"] (callN n 13)
  q_plan_at : OkF R.prog w K mg base T (n + 2) "plan_at" ["words", "at", "deep", "leaves"] (callN n 14)
  q_read_plan : OkF R.prog w K mg base T (n + 2) "read_plan" ["text"] (callN n 15)
  q_write_row : OkF R.prog w K mg base T (n + 2) "write_row" ["row"] (callN n 16)
  q_read_row : OkF R.prog w K mg base T (n + 2) "read_row" ["text"] (callN n 17)
  q_place_text : OkF R.prog w K mg base T (n + 2) "place_text" ["place"] (callN n 18)
  q_write_paper : OkF R.prog w K mg base T (n + 2) "write_paper" ["paper"] (callN n 19)
  q_number_of : OkF R.prog w K mg base T (n + 2) "number_of" ["word"] (callN n 20)
  q_step_of : OkF R.prog w K mg base T (n + 2) "step_of" ["word"] (callN n 21)
  q_read_paper : OkF R.prog w K mg base T (n + 2) "read_paper" ["text"] (callN n 22)
  q__law_taken : OkF R.prog w K mg base T (n + 2) "_law_taken" ["_law_row", "_law_many"] (callN n 23)
  q__law_pick : OkF R.prog w K mg base T (n + 2) "_law_pick" ["_law_row", "_law_kinds"] (callN n 24)
theorem all_ok (X : K.In h) (G : h.Ns mainGlobals mg) (c : SaysZ R.prog fa fn sd tf exf h K) : ∀ n, All w K mg base T n
  | 0 => {
    q_is_integer := ⟨⟨_, ok_zero (x := "is_integer"), ((c.d.def_ 0 rfl).choose_spec.bindsN fun _ _ _ _ _ _ us hl => match us, hl with | [_], _ => rfl)⟩, (c.d.def_ 0 rfl).choose_spec.kp, He.glo_ok X G (c.d.fact 0 (f := .glo "is_integer") rfl)⟩
    q_is_in := ⟨⟨_, ok_zero (x := "is_in"), ((c.d.def_ 1 rfl).choose_spec.bindsN fun _ _ _ _ _ _ us hl => match us, hl with | [_, _, _], _ => rfl)⟩, (c.d.def_ 1 rfl).choose_spec.kp, He.glo_ok X G (c.d.fact 1 (f := .glo "is_in") rfl)⟩
    q_is_list := ⟨⟨_, ok_zero (x := "is_list"), ((c.d.def_ 2 rfl).choose_spec.bindsN fun _ _ _ _ _ _ us hl => match us, hl with | [_, _, _], _ => rfl)⟩, (c.d.def_ 2 rfl).choose_spec.kp, He.glo_ok X G (c.d.fact 2 (f := .glo "is_list") rfl)⟩
    q_is_plan := ⟨⟨_, ok_zero (x := "is_plan"), ((c.d.def_ 3 rfl).choose_spec.bindsN fun _ _ _ _ _ _ us hl => match us, hl with | [_, _], _ => rfl)⟩, (c.d.def_ 3 rfl).choose_spec.kp, He.glo_ok X G (c.d.fact 3 (f := .glo "is_plan") rfl)⟩
    q_parts_of := ⟨⟨_, ok_zero (x := "parts_of"), ((c.d.def_ 4 rfl).choose_spec.bindsN fun _ _ _ _ _ _ us hl => match us, hl with | [_], _ => rfl)⟩, (c.d.def_ 4 rfl).choose_spec.kp, He.glo_ok X G (c.d.fact 4 (f := .glo "parts_of") rfl)⟩
    q_leaves_in := ⟨⟨_, ok_zero (x := "leaves_in"), ((c.d.def_ 5 rfl).choose_spec.bindsN fun _ _ _ _ _ _ us hl => match us, hl with | [_], _ => rfl)⟩, (c.d.def_ 5 rfl).choose_spec.kp, He.glo_ok X G (c.d.fact 5 (f := .glo "leaves_in") rfl)⟩
    q_need_plan := ⟨⟨_, ok_zero (x := "need_plan"), ((c.d.def_ 6 rfl).choose_spec.bindsN fun _ _ _ _ _ _ us hl => match us, hl with | [_], _ => rfl)⟩, (c.d.def_ 6 rfl).choose_spec.kp, He.glo_ok X G (c.d.fact 6 (f := .glo "need_plan") rfl)⟩
    q_need_paper := ⟨⟨_, ok_zero (x := "need_paper"), ((c.d.def_ 7 rfl).choose_spec.bindsN fun _ _ _ _ _ _ us hl => match us, hl with | [_], _ => rfl)⟩, (c.d.def_ 7 rfl).choose_spec.kp, He.glo_ok X G (c.d.fact 7 (f := .glo "need_paper") rfl)⟩
    q_need_row := ⟨⟨_, ok_zero (x := "need_row"), ((c.d.def_ 8 rfl).choose_spec.bindsN fun _ _ _ _ _ _ us hl => match us, hl with | [_], _ => rfl)⟩, (c.d.def_ 8 rfl).choose_spec.kp, He.glo_ok X G (c.d.fact 8 (f := .glo "need_row") rfl)⟩
    q_need_text := ⟨⟨_, ok_zero (x := "need_text"), ((c.d.def_ 9 rfl).choose_spec.bindsN fun _ _ _ _ _ _ us hl => match us, hl with | [_], _ => rfl)⟩, (c.d.def_ 9 rfl).choose_spec.kp, He.glo_ok X G (c.d.fact 9 (f := .glo "need_text") rfl)⟩
    q_words_of := ⟨⟨_, ok_zero (x := "words_of"), ((c.d.def_ 10 rfl).choose_spec.bindsN fun _ _ _ _ _ _ us hl => match us, hl with | [_], _ => rfl)⟩, (c.d.def_ 10 rfl).choose_spec.kp, He.glo_ok X G (c.d.fact 10 (f := .glo "words_of") rfl)⟩
    q_plan_words := ⟨⟨_, ok_zero (x := "plan_words"), ((c.d.def_ 11 rfl).choose_spec.bindsN fun _ _ _ _ _ _ us hl => match us, hl with | [_], _ => rfl)⟩, (c.d.def_ 11 rfl).choose_spec.kp, He.glo_ok X G (c.d.fact 11 (f := .glo "plan_words") rfl)⟩
    q_write_plan := ⟨⟨_, ok_zero (x := "write_plan"), ((c.d.def_ 12 rfl).choose_spec.bindsN fun _ _ _ _ _ _ us hl => match us, hl with | [_], _ => rfl)⟩, (c.d.def_ 12 rfl).choose_spec.kp, He.glo_ok X G (c.d.fact 12 (f := .glo "write_plan") rfl)⟩
    q_head_of := ⟨⟨_, ok_zero (x := "head_of"), ((c.d.def_ 13 rfl).choose_spec.bindsN fun _ _ _ _ _ _ us hl => match us, hl with | [_], _ => rfl)⟩, (c.d.def_ 13 rfl).choose_spec.kp, He.glo_ok X G (c.d.fact 13 (f := .glo "head_of") rfl)⟩
    q_plan_at := ⟨⟨_, ok_zero (x := "plan_at"), ((c.d.def_ 14 rfl).choose_spec.bindsN fun _ _ _ _ _ _ us hl => match us, hl with | [_, _, _, _], _ => rfl)⟩, (c.d.def_ 14 rfl).choose_spec.kp, He.glo_ok X G (c.d.fact 14 (f := .glo "plan_at") rfl)⟩
    q_read_plan := ⟨⟨_, ok_zero (x := "read_plan"), ((c.d.def_ 15 rfl).choose_spec.bindsN fun _ _ _ _ _ _ us hl => match us, hl with | [_], _ => rfl)⟩, (c.d.def_ 15 rfl).choose_spec.kp, He.glo_ok X G (c.d.fact 15 (f := .glo "read_plan") rfl)⟩
    q_write_row := ⟨⟨_, ok_zero (x := "write_row"), ((c.d.def_ 16 rfl).choose_spec.bindsN fun _ _ _ _ _ _ us hl => match us, hl with | [_], _ => rfl)⟩, (c.d.def_ 16 rfl).choose_spec.kp, He.glo_ok X G (c.d.fact 16 (f := .glo "write_row") rfl)⟩
    q_read_row := ⟨⟨_, ok_zero (x := "read_row"), ((c.d.def_ 17 rfl).choose_spec.bindsN fun _ _ _ _ _ _ us hl => match us, hl with | [_], _ => rfl)⟩, (c.d.def_ 17 rfl).choose_spec.kp, He.glo_ok X G (c.d.fact 17 (f := .glo "read_row") rfl)⟩
    q_place_text := ⟨⟨_, ok_zero (x := "place_text"), ((c.d.def_ 18 rfl).choose_spec.bindsN fun _ _ _ _ _ _ us hl => match us, hl with | [_], _ => rfl)⟩, (c.d.def_ 18 rfl).choose_spec.kp, He.glo_ok X G (c.d.fact 18 (f := .glo "place_text") rfl)⟩
    q_write_paper := ⟨⟨_, ok_zero (x := "write_paper"), ((c.d.def_ 19 rfl).choose_spec.bindsN fun _ _ _ _ _ _ us hl => match us, hl with | [_], _ => rfl)⟩, (c.d.def_ 19 rfl).choose_spec.kp, He.glo_ok X G (c.d.fact 19 (f := .glo "write_paper") rfl)⟩
    q_number_of := ⟨⟨_, ok_zero (x := "number_of"), ((c.d.def_ 20 rfl).choose_spec.bindsN fun _ _ _ _ _ _ us hl => match us, hl with | [_], _ => rfl)⟩, (c.d.def_ 20 rfl).choose_spec.kp, He.glo_ok X G (c.d.fact 20 (f := .glo "number_of") rfl)⟩
    q_step_of := ⟨⟨_, ok_zero (x := "step_of"), ((c.d.def_ 21 rfl).choose_spec.bindsN fun _ _ _ _ _ _ us hl => match us, hl with | [_], _ => rfl)⟩, (c.d.def_ 21 rfl).choose_spec.kp, He.glo_ok X G (c.d.fact 21 (f := .glo "step_of") rfl)⟩
    q_read_paper := ⟨⟨_, ok_zero (x := "read_paper"), ((c.d.def_ 22 rfl).choose_spec.bindsN fun _ _ _ _ _ _ us hl => match us, hl with | [_], _ => rfl)⟩, (c.d.def_ 22 rfl).choose_spec.kp, He.glo_ok X G (c.d.fact 22 (f := .glo "read_paper") rfl)⟩
    q__law_taken := ⟨⟨_, ok_zero (x := "_law_taken"), ((c.d.def_ 23 rfl).choose_spec.bindsN fun _ _ _ _ _ _ us hl => match us, hl with | [_, _], _ => rfl)⟩, (c.d.def_ 23 rfl).choose_spec.kp, He.glo_ok X G (c.d.fact 23 (f := .glo "_law_taken") rfl)⟩
    q__law_pick := ⟨⟨_, ok_zero (x := "_law_pick"), ((c.d.def_ 24 rfl).choose_spec.bindsN fun _ _ _ _ _ _ us hl => match us, hl with | [_, _], _ => rfl)⟩, (c.d.def_ 24 rfl).choose_spec.kp, He.glo_ok X G (c.d.fact 24 (f := .glo "_law_pick") rfl)⟩
  }
  | n + 1 =>
    have ih := all_ok X G c n
    {
    q_is_integer := ⟨⟨_, p_is_integer (by omega) (c.d.def_ 0 rfl).choose_spec (He.free_ok X G (c.d.fact 33 (f := .free "isinstance") rfl)) (He.free_ok X G (c.d.fact 34 (f := .free "int") rfl)) (He.free_ok X G (c.d.fact 35 (f := .free "bool") rfl)), ((c.d.def_ 0 rfl).choose_spec.bindsN fun _ _ _ _ _ _ us hl => match us, hl with | [_], _ => rfl)⟩, (c.d.def_ 0 rfl).choose_spec.kp, He.glo_ok X G (c.d.fact 0 (f := .glo "is_integer") rfl)⟩
    q_is_in := ⟨⟨_, p_is_in (by omega) (c.d.def_ 1 rfl).choose_spec ih.q_is_integer, ((c.d.def_ 1 rfl).choose_spec.bindsN fun _ _ _ _ _ _ us hl => match us, hl with | [_, _, _], _ => rfl)⟩, (c.d.def_ 1 rfl).choose_spec.kp, He.glo_ok X G (c.d.fact 1 (f := .glo "is_in") rfl)⟩
    q_is_list := ⟨⟨_, p_is_list (by omega) (c.d.def_ 2 rfl).choose_spec (He.free_ok X G (c.d.fact 33 (f := .free "isinstance") rfl)) (He.free_ok X G (c.d.fact 36 (f := .free "tuple") rfl)) (He.free_ok X G (c.d.fact 37 (f := .free "len") rfl)), ((c.d.def_ 2 rfl).choose_spec.bindsN fun _ _ _ _ _ _ us hl => match us, hl with | [_, _, _], _ => rfl)⟩, (c.d.def_ 2 rfl).choose_spec.kp, He.glo_ok X G (c.d.fact 2 (f := .glo "is_list") rfl)⟩
    q_is_plan := ⟨⟨_, p_is_plan (by omega) (c.d.def_ 3 rfl).choose_spec ih.q_is_list ih.q_is_in ih.q_is_plan (He.int_ok X G (c.d.fact 45 (f := .int "MOST_LEAVES" 12) rfl)) (He.free_ok X G (c.d.fact 33 (f := .free "isinstance") rfl)) (He.free_ok X G (c.d.fact 38 (f := .free "str") rfl)) (He.free_ok X G (c.d.fact 37 (f := .free "len") rfl)) (He.int_ok X G (c.d.fact 43 (f := .int "MOST_WORDS" 8) rfl)) (He.free_ok X G (c.d.fact 39 (f := .free "all") rfl)), ((c.d.def_ 3 rfl).choose_spec.bindsN fun _ _ _ _ _ _ us hl => match us, hl with | [_, _], _ => rfl)⟩, (c.d.def_ 3 rfl).choose_spec.kp, He.glo_ok X G (c.d.fact 3 (f := .glo "is_plan") rfl)⟩
    q_parts_of := ⟨⟨_, p_parts_of (by omega) (c.d.def_ 4 rfl).choose_spec , ((c.d.def_ 4 rfl).choose_spec.bindsN fun _ _ _ _ _ _ us hl => match us, hl with | [_], _ => rfl)⟩, (c.d.def_ 4 rfl).choose_spec.kp, He.glo_ok X G (c.d.fact 4 (f := .glo "parts_of") rfl)⟩
    q_leaves_in := ⟨⟨_, p_leaves_in (by omega) (c.d.def_ 5 rfl).choose_spec ih.q_parts_of ih.q_leaves_in, ((c.d.def_ 5 rfl).choose_spec.bindsN fun _ _ _ _ _ _ us hl => match us, hl with | [_], _ => rfl)⟩, (c.d.def_ 5 rfl).choose_spec.kp, He.glo_ok X G (c.d.fact 5 (f := .glo "leaves_in") rfl)⟩
    q_need_plan := ⟨⟨_, p_need_plan (by omega) (c.d.def_ 6 rfl).choose_spec ih.q_is_plan ih.q_leaves_in (He.int_ok X G (c.d.fact 44 (f := .int "MOST_DEEP" 40) rfl)) (He.free_ok X G (c.d.fact 37 (f := .free "len") rfl)) (He.int_ok X G (c.d.fact 45 (f := .int "MOST_LEAVES" 12) rfl)) ⟨He.glo_ok X G (c.d.fact 28 (f := .glo "BadPlan") rfl), (c.d.fact 53 (f := .exc "BadPlan") rfl)⟩, ((c.d.def_ 6 rfl).choose_spec.bindsN fun _ _ _ _ _ _ us hl => match us, hl with | [_], _ => rfl)⟩, (c.d.def_ 6 rfl).choose_spec.kp, He.glo_ok X G (c.d.fact 6 (f := .glo "need_plan") rfl)⟩
    q_need_paper := ⟨⟨_, p_need_paper (by omega) (c.d.def_ 7 rfl).choose_spec ih.q_is_list ih.q_is_in (He.int_ok X G (c.d.fact 47 (f := .int "MOST_STEPS" 300) rfl)) (He.free_ok X G (c.d.fact 40 (f := .free "enumerate") rfl)) (He.int_ok X G (c.d.fact 44 (f := .int "MOST_DEEP" 40) rfl)) (He.free_ok X G (c.d.fact 33 (f := .free "isinstance") rfl)) (He.free_ok X G (c.d.fact 38 (f := .free "str") rfl)) (tu_RULES X G c) (He.int_ok X G (c.d.fact 45 (f := .int "MOST_LEAVES" 12) rfl)) (He.free_ok X G (c.d.fact 39 (f := .free "all") rfl)) (R_BadPaper X G c), ((c.d.def_ 7 rfl).choose_spec.bindsN fun _ _ _ _ _ _ us hl => match us, hl with | [_], _ => rfl)⟩, (c.d.def_ 7 rfl).choose_spec.kp, He.glo_ok X G (c.d.fact 7 (f := .glo "need_paper") rfl)⟩
    q_need_row := ⟨⟨_, p_need_row (by omega) (c.d.def_ 8 rfl).choose_spec ih.q_is_list ih.q_is_in (He.int_ok X G (c.d.fact 48 (f := .int "MOST_ROW" 20) rfl)) (He.free_ok X G (c.d.fact 40 (f := .free "enumerate") rfl)) (He.free_ok X G (c.d.fact 33 (f := .free "isinstance") rfl)) (He.free_ok X G (c.d.fact 38 (f := .free "str") rfl)) (He.int_ok X G (c.d.fact 43 (f := .int "MOST_WORDS" 8) rfl)) (R_BadRow X G c), ((c.d.def_ 8 rfl).choose_spec.bindsN fun _ _ _ _ _ _ us hl => match us, hl with | [_], _ => rfl)⟩, (c.d.def_ 8 rfl).choose_spec.kp, He.glo_ok X G (c.d.fact 8 (f := .glo "need_row") rfl)⟩
    q_need_text := ⟨⟨_, p_need_text (by omega) (c.d.def_ 9 rfl).choose_spec (He.free_ok X G (c.d.fact 33 (f := .free "isinstance") rfl)) (He.free_ok X G (c.d.fact 38 (f := .free "str") rfl)) ⟨He.glo_ok X G (c.d.fact 31 (f := .glo "NotText") rfl), (c.d.fact 54 (f := .exc "NotText") rfl)⟩, ((c.d.def_ 9 rfl).choose_spec.bindsN fun _ _ _ _ _ _ us hl => match us, hl with | [_], _ => rfl)⟩, (c.d.def_ 9 rfl).choose_spec.kp, He.glo_ok X G (c.d.fact 9 (f := .glo "need_text") rfl)⟩
    q_words_of := ⟨⟨_, p_words_of (by omega) (c.d.def_ 10 rfl).choose_spec , ((c.d.def_ 10 rfl).choose_spec.bindsN fun _ _ _ _ _ _ us hl => match us, hl with | [_], _ => rfl)⟩, (c.d.def_ 10 rfl).choose_spec.kp, He.glo_ok X G (c.d.fact 10 (f := .glo "words_of") rfl)⟩
    q_plan_words := ⟨⟨_, p_plan_words (by omega) (c.d.def_ 11 rfl).choose_spec ih.q_plan_words (He.str_ok X G (c.d.fact 49 (f := .str "WORDS" "abcdefgh") rfl)) (He.free_ok X G (c.d.fact 37 (f := .free "len") rfl)) (He.free_ok X G (c.d.fact 38 (f := .free "str") rfl)), ((c.d.def_ 11 rfl).choose_spec.bindsN fun _ _ _ _ _ _ us hl => match us, hl with | [_], _ => rfl)⟩, (c.d.def_ 11 rfl).choose_spec.kp, He.glo_ok X G (c.d.fact 11 (f := .glo "plan_words") rfl)⟩
    q_write_plan := ⟨⟨_, p_write_plan (by omega) (c.d.def_ 12 rfl).choose_spec ih.q_need_plan ih.q_plan_words, ((c.d.def_ 12 rfl).choose_spec.bindsN fun _ _ _ _ _ _ us hl => match us, hl with | [_], _ => rfl)⟩, (c.d.def_ 12 rfl).choose_spec.kp, He.glo_ok X G (c.d.fact 12 (f := .glo "write_plan") rfl)⟩
    q_head_of := ⟨⟨_, p_head_of (by omega) (c.d.def_ 13 rfl).choose_spec (He.free_ok X G (c.d.fact 37 (f := .free "len") rfl)) (He.str_ok X G (c.d.fact 49 (f := .str "WORDS" "abcdefgh") rfl)) (tu_NUMBERS X G c) (He.free_ok X G (c.d.fact 34 (f := .free "int") rfl)), ((c.d.def_ 13 rfl).choose_spec.bindsN fun _ _ _ _ _ _ us hl => match us, hl with | [_], _ => rfl)⟩, (c.d.def_ 13 rfl).choose_spec.kp, He.glo_ok X G (c.d.fact 13 (f := .glo "head_of") rfl)⟩
    q_plan_at := ⟨⟨_, p_plan_at (by omega) (c.d.def_ 14 rfl).choose_spec ih.q_head_of ih.q_plan_at (He.free_ok X G (c.d.fact 37 (f := .free "len") rfl)) (He.int_ok X G (c.d.fact 45 (f := .int "MOST_LEAVES" 12) rfl)) (He.free_ok X G (c.d.fact 34 (f := .free "int") rfl)) (He.free_ok X G (c.d.fact 41 (f := .free "range") rfl)) (R_InvalidText X G c), ((c.d.def_ 14 rfl).choose_spec.bindsN fun _ _ _ _ _ _ us hl => match us, hl with | [_, _, _, _], _ => rfl)⟩, (c.d.def_ 14 rfl).choose_spec.kp, He.glo_ok X G (c.d.fact 14 (f := .glo "plan_at") rfl)⟩
    q_read_plan := ⟨⟨_, p_read_plan (by omega) (c.d.def_ 15 rfl).choose_spec ih.q_need_text ih.q_words_of ih.q_plan_at (He.int_ok X G (c.d.fact 44 (f := .int "MOST_DEEP" 40) rfl)) (He.free_ok X G (c.d.fact 37 (f := .free "len") rfl)) (R_InvalidText X G c), ((c.d.def_ 15 rfl).choose_spec.bindsN fun _ _ _ _ _ _ us hl => match us, hl with | [_], _ => rfl)⟩, (c.d.def_ 15 rfl).choose_spec.kp, He.glo_ok X G (c.d.fact 15 (f := .glo "read_plan") rfl)⟩
    q_write_row := ⟨⟨_, p_write_row (by omega) (c.d.def_ 16 rfl).choose_spec ih.q_need_row (He.str_ok X G (c.d.fact 49 (f := .str "WORDS" "abcdefgh") rfl)), ((c.d.def_ 16 rfl).choose_spec.bindsN fun _ _ _ _ _ _ us hl => match us, hl with | [_], _ => rfl)⟩, (c.d.def_ 16 rfl).choose_spec.kp, He.glo_ok X G (c.d.fact 16 (f := .glo "write_row") rfl)⟩
    q_read_row := ⟨⟨_, p_read_row (by omega) (c.d.def_ 17 rfl).choose_spec ih.q_need_text ih.q_words_of (He.free_ok X G (c.d.fact 40 (f := .free "enumerate") rfl)) (He.int_ok X G (c.d.fact 48 (f := .int "MOST_ROW" 20) rfl)) (He.free_ok X G (c.d.fact 37 (f := .free "len") rfl)) (He.str_ok X G (c.d.fact 49 (f := .str "WORDS" "abcdefgh") rfl)) (He.free_ok X G (c.d.fact 36 (f := .free "tuple") rfl)) (R_InvalidText X G c), ((c.d.def_ 17 rfl).choose_spec.bindsN fun _ _ _ _ _ _ us hl => match us, hl with | [_], _ => rfl)⟩, (c.d.def_ 17 rfl).choose_spec.kp, He.glo_ok X G (c.d.fact 17 (f := .glo "read_row") rfl)⟩
    q_place_text := ⟨⟨_, p_place_text (by omega) (c.d.def_ 18 rfl).choose_spec (He.free_ok X G (c.d.fact 38 (f := .free "str") rfl)), ((c.d.def_ 18 rfl).choose_spec.bindsN fun _ _ _ _ _ _ us hl => match us, hl with | [_], _ => rfl)⟩, (c.d.def_ 18 rfl).choose_spec.kp, He.glo_ok X G (c.d.fact 18 (f := .glo "place_text") rfl)⟩
    q_write_paper := ⟨⟨_, p_write_paper (by omega) (c.d.def_ 19 rfl).choose_spec ih.q_need_paper ih.q_place_text, ((c.d.def_ 19 rfl).choose_spec.bindsN fun _ _ _ _ _ _ us hl => match us, hl with | [_], _ => rfl)⟩, (c.d.def_ 19 rfl).choose_spec.kp, He.glo_ok X G (c.d.fact 19 (f := .glo "write_paper") rfl)⟩
    q_number_of := ⟨⟨_, p_number_of (by omega) (c.d.def_ 20 rfl).choose_spec (He.str_ok X G (c.d.fact 50 (f := .str "FIGURES" "0123456789") rfl)) (He.free_ok X G (c.d.fact 39 (f := .free "all") rfl)) (He.free_ok X G (c.d.fact 37 (f := .free "len") rfl)) (He.free_ok X G (c.d.fact 34 (f := .free "int") rfl)) (He.free_ok X G (c.d.fact 38 (f := .free "str") rfl)) (He.int_ok X G (c.d.fact 45 (f := .int "MOST_LEAVES" 12) rfl)), ((c.d.def_ 20 rfl).choose_spec.bindsN fun _ _ _ _ _ _ us hl => match us, hl with | [_], _ => rfl)⟩, (c.d.def_ 20 rfl).choose_spec.kp, He.glo_ok X G (c.d.fact 20 (f := .glo "number_of") rfl)⟩
    q_step_of := ⟨⟨_, p_step_of (by omega) (c.d.def_ 21 rfl).choose_spec ih.q_number_of (tu_RULES X G c) (He.free_ok X G (c.d.fact 37 (f := .free "len") rfl)) (He.int_ok X G (c.d.fact 44 (f := .int "MOST_DEEP" 40) rfl)) (He.free_ok X G (c.d.fact 36 (f := .free "tuple") rfl)), ((c.d.def_ 21 rfl).choose_spec.bindsN fun _ _ _ _ _ _ us hl => match us, hl with | [_], _ => rfl)⟩, (c.d.def_ 21 rfl).choose_spec.kp, He.glo_ok X G (c.d.fact 21 (f := .glo "step_of") rfl)⟩
    q_read_paper := ⟨⟨_, p_read_paper (by omega) (c.d.def_ 22 rfl).choose_spec ih.q_need_text ih.q_words_of ih.q_step_of (He.free_ok X G (c.d.fact 40 (f := .free "enumerate") rfl)) (He.int_ok X G (c.d.fact 47 (f := .int "MOST_STEPS" 300) rfl)) (He.free_ok X G (c.d.fact 36 (f := .free "tuple") rfl)) (R_InvalidText X G c), ((c.d.def_ 22 rfl).choose_spec.bindsN fun _ _ _ _ _ _ us hl => match us, hl with | [_], _ => rfl)⟩, (c.d.def_ 22 rfl).choose_spec.kp, He.glo_ok X G (c.d.fact 22 (f := .glo "read_paper") rfl)⟩
    q__law_taken := ⟨⟨_, p__law_taken (by omega) (c.d.def_ 23 rfl).choose_spec (He.free_ok X G (c.d.fact 34 (f := .free "int") rfl)) (He.free_ok X G (c.d.fact 37 (f := .free "len") rfl)), ((c.d.def_ 23 rfl).choose_spec.bindsN fun _ _ _ _ _ _ us hl => match us, hl with | [_, _], _ => rfl)⟩, (c.d.def_ 23 rfl).choose_spec.kp, He.glo_ok X G (c.d.fact 23 (f := .glo "_law_taken") rfl)⟩
    q__law_pick := ⟨⟨_, p__law_pick (by omega) (c.d.def_ 24 rfl).choose_spec ih.q__law_taken (He.free_ok X G (c.d.fact 37 (f := .free "len") rfl)), ((c.d.def_ 24 rfl).choose_spec.bindsN fun _ _ _ _ _ _ us hl => match us, hl with | [_, _], _ => rfl)⟩, (c.d.def_ 24 rfl).choose_spec.kp, He.glo_ok X G (c.d.fact 24 (f := .glo "_law_pick") rfl)⟩
    }
end
end My

namespace My
open PySem PySem.Spec PyProof.Rows L2 DI
/-- the plain law -/
def Plain : Prop := ∀ ns : List Int, ns.length ≤ 63 → (∀ z ∈ ns, Builtin.Int.intBits z ≤ 1048576) → ∃ st' : Store, runD 8 1 (d_law (callN 60)) [.fls (ns.map D.int)] [] = .ok (.bl true) st'
theorem rep_ints {K : PySem.W.Frag} {G : Hp} {m : List Addr} : ∀ ns : List Int, RepAll K G m (ns.map V.int) (ns.map D.int)
  | [] => .nil
  | _ :: l => .cons (.int _) (rep_ints l)
def gOf (H : Hp) : Hp := fun b => match H b with
  | some (.tbl _) => none
  | o => o
theorem gOf_same (H : Hp) : Same (gOf H) H := fun b o h => by
  unfold gOf at h
  split at h
  · cases h
  · exact h
theorem gOf_nt (H : Hp) (a : Addr) (ps : Array Value) : gOf H a ≠ some (.tbl ps) := fun h => by
  unfold gOf at h
  split at h
  · cases h
  · rename_i hn
    exact hn _ h
theorem w0_start {K : PySem.W.Frag} {H : Hp} {p : Addr} {q : Str} (h : H p = some (.tbl #[])) : W0 [(p, q)] K [] (gOf H) [] H := by
  refine ⟨gOf_same H, gOf_nt H, rfl, List.nodup_nil, (fun i o a hi _ => nomatch hi), fun z hz => ?_⟩
  rw [List.mem_singleton.mp hz]
  exact LamX.TabS.nil h
theorem seq_start {K : PySem.W.Frag} {H : Hp} {a : Addr} {xs : List V} (h : SqL K H a xs) : SqL K (gOf H) a xs := by
  rcases h with h | h
  · refine .inl ?_
    unfold Rd at h ⊢
    rcases h with h | ⟨o, h⟩
    · exact .inl (by unfold gOf; rw [h])
    · exact .inr ⟨o, by unfold gOf; rw [h]⟩
  · exact .inr h
theorem bind_law {K : PySem.W.Frag} {f : Addr} {fd : FuncData} (F : FunD K "law" "law" (defArgs (top 48)) (defBody (top 48)) (defScope (top 48)) [] [] f fd) (s : Shared) (u : Value) : BindsTo s fd ⟨[u], []⟩ [("_law_script", u)] :=
  FunD.bindsA (ps := ["_law_script"]) F (fun _ _ _ _ _ _ us hl => match us, hl with | [_], _ => rfl) s [u] rfl
theorem lawAt (hp : Plain) {w : World} {K : PySem.W.Frag} {mg : Str → Option Value} {h : Heap} {fl : Addr} (X : K.In h) (G : h.Ns mainGlobals mg) (hfa : mg ("law" : Str) = some (.ref fl)) (c : SaysZ R.prog fa fn sd tf exf h K) :
    LamX.LawAtS PySem.Challenge.rw_shieldforms_k16_texts_refused w K (L2.CX R.prog w) 65 63 "_law_script" mg fl h := by
  have e := hfa.symm.trans (He.glo_ok X G (c.d.fact 26 (f := .glo "law") rfl))
  cases e
  obtain ⟨fd, F⟩ := c.d.def_ 26 (d := ⟨("law", none), "law", "law", defArgs (top 48), defBody (top 48), defScope (top 48), [], []⟩) rfl
  obtain ⟨fdt, Ft⟩ := c.d.def_ 25 (d := ⟨("_law_told", none), "_law_told", "_law_told", defArgs (top 47), defBody (top 47), defScope (top 47), [], []⟩) rfl
  have hcode : fd.code = .ref (He.codeOf K ("law", none)) := by
    obtain ⟨oc, od, dV, kV, doc, pm, an, cdv, ct, osl, hfd, lk, hcd, _, _⟩ := F.ex
    obtain ⟨c1, hc1⟩ := He.codeIn_ref hcd
    have e1 : fd.code = .ref c1 := by rw [hfd]; exact hc1
    rw [He.codeOf_eq (p := ("law", none)) lk e1]
    exact e1
  have hm : ((("law" : Str), (none : Option Str)) : He.Defn) ∈ tf := List.mem_singleton.mpr rfl
  have hex := c.more
  unfold exf at hex
  simp only [Bool.and_eq_true] at hex
  obtain ⟨_, _, hsb, hff, hxm, _⟩ := hex
  have gs : ∀ i x, fa[i]? = some (He.Fa.glo x) → mg x = some (.ref (He.ga K x)) := fun i x hi => He.glo_ok X G (c.d.fact i (f := .glo x) hi)
  refine ⟨fd, [He.cT K ("law", none)], spD [((He.cT K ("law", none)).2, (("law" : Str) ++ ".<locals>.") ++ "<lambda>")] K (runD 8 1 (d_law (callN 60))), ?_, ?_, ?_, bind_law F, ?_, ?_⟩
  · intro p hpm
    rw [List.mem_singleton.mp hpm]
    exact c.empty _ hm
  · intro p hpm
    rw [List.mem_singleton.mp hpm]
    exact c.out _ hm
  · intro p hpm
    rw [List.mem_singleton.mp hpm]
    exact PySem.W.codeHd_of_K X (c.hd _ hm)
  · intro H a ns hl hb hH hS
    obtain ⟨st', hr⟩ := hp ns hl hb
    refine ⟨gOf H, [], [], [.fls (ns.map D.int)], w0_start (hH _ (List.mem_singleton.mpr rfl)), .cons (.fls (seq_start hS) (rep_ints ns)) .nil, ?_⟩
    rw [hr]
    intro G' m' H' v _ _ hv
    cases hv
    rfl
  · intro base KB GB hTB
    have TB := hTB _ (List.mem_singleton.mpr rfl)
    have A := all_ok (w := w) (base := base) (T := [((He.cT K ("law", none)).2, (("law" : Str) ++ ".<locals>.") ++ "<lambda>")]) X G c 60
    exact p_law (by omega) F A.q__law_pick A.q_read_plan A.q_read_row A.q_read_paper A.q_write_plan A.q_write_row A.q_write_paper (He.free_ok X G (c.d.fact 41 (f := .free "range") rfl)) (gs 25 "_law_told" rfl) Ft
      (fun Y hmg hK hu => by
        subst hmg hK
        exact gv__law_told (gs 27 "FormError" rfl) (exm_ok hxm) hu (sb_ok hsb) (ff_ok hff) (He.free_ok X G (c.d.fact 33 (f := .free "isinstance") rfl)) (gs 32 "InvalidText" rfl) (gs 30 "BadPaper" rfl) (gs 29 "BadRow" rfl) (gs 28 "BadPlan" rfl) (gs 31 "NotText" rfl))
      TB hcode rfl
end My


namespace My
open PySem PySem.Spec PyProof.Rows L2 DI
def S (ns : List Int) (i s c : Int) : Store := [.lst [.fls (ns.map D.int), .int i, .int s, .int c]]
section
variable {env e1 : DEnv} {st s1 s2 s3 : Store} {f g : DS} {b : DFB} {fa fb fc : DF} {x y z : D} {op : D → D → Option D}
theorem u_seq (h : f env st = .ok (.nx e1) s1) : sSeq f g env st = g e1 s1 := by unfold sSeq; rw [h]; rfl
theorem u_seqR (h : f env st = .ok (.rt x) s1) : sSeq f g env st = .ok (.rt x) s1 := by unfold sSeq; rw [h]; rfl
theorem u_ifT (h : b env st = .ok true s1) : sIf b f g env st = f env s1 := by unfold sIf; rw [h]; rfl
theorem u_ifF (h : b env st = .ok false s1) : sIf b f g env st = g env s1 := by unfold sIf; rw [h]; rfl
theorem u_bin (h1 : fa env st = .ok x s1) (h2 : fb env s1 = .ok y s2) (h3 : op x y = some z) : dBin op fa fb env st = .ok z s2 := by unfold dBin; rw [h1]; show (fb env s1).bind _ = _; rw [h2]; show Res.opt (op x y) s2 = _; rw [h3]; rfl
theorem u_sub (h1 : fa env st = .ok x s1) (h2 : fb env s1 = .ok y s2) (h3 : subD s2 x y = some z) : dSub fa fb env st = .ok z s2 := by unfold dSub; rw [h1]; show (fb env s1).bind _ = _; rw [h2]; show Res.opt (subD s2 x y) s2 = _; rw [h3]; rfl
theorem u_c1 {g1 : D → Option D} (h1 : fa env st = .ok x s1) (h3 : g1 x = some z) : dC1 g1 fa env st = .ok z s1 := by unfold dC1; rw [h1]; show Res.opt (g1 x) s1 = _; rw [h3]; rfl
theorem u_test {k : Bool} (h1 : fa env st = .ok (.bl k) s1) : dTest fa env st = .ok k s1 := by unfold dTest; rw [h1]; rfl
theorem u_set {i : Nat} (h1 : fa env st = .ok x s1) : sSet i fa env st = .ok (.nx (env.set i (some (.sh x)))) s1 := by unfold sSet; rw [h1]; rfl
theorem u_ret (h1 : fa env st = .ok x s1) : sRet fa env st = .ok (.rt x) s1 := by unfold sRet; rw [h1]; rfl
theorem u_put {k n : Nat} {j : Int} {ds : List D} (h1 : fc env st = .ok x s1) (h2 : fa env s1 = .ok (.obj k) s2) (h3 : fb env s2 = .ok (.int j) s3) (h4 : s3[k]? = some (.lst ds)) (h5 : ixN ds.length j = some n) : sPut fa fb fc env st = .ok (.nx env) (s3.set k (.lst (ds.set n x))) := by
  unfold sPut
  rw [h1]
  show (fa env s1).bind _ = _
  rw [h2]
  show (fb env s2).bind _ = _
  rw [h3]
  show (match s3[k]? with | some (.lst ds) => _ | _ => _) = _
  rw [h4]
  show (match ixN ds.length j with | some n => _ | none => _) = _
  rw [h5]
theorem u_run {N n : Nat} {ds : List D} (hl : ds.length = n) (h : f (env0 N n ds) st = .ok (.rt x) s1) : runD N n f ds st = .ok x s1 := by unfold runD; rw [if_pos hl, h]; rfl
end
theorem u_mod {a m : Int} (h : 0 < m) : gMod (.int a) (.int m) = some (.int (a % m)) := by simp [gMod, gI, cMod, h]
theorem u_div {a m : Int} (h : 0 < m) (h2 : m < 1073741824) : gDiv (.int a) (.int m) = some (.int (a / m)) := by simp [gDiv, gI, cDiv, h, h2]
theorem u_mul {a : Int} : gMul (.int a) (.int 48271) = some (.int (a * 48271)) := by
  have : cMul a 48271 = true := decide_eq_true (.inr (by decide))
  simp [gMul, gMulI, gI, this]
theorem u_add {a b : Int} : gAdd (.int a) (.int b) = some (.int (a + b)) := by simp [gAdd, gAddI, gI]
theorem u_minus {a b : Int} : DI.gSub (.int a) (.int b) = some (.int (a - b)) := by simp [DI.gSub, gI]
theorem u_gtT {a b : Int} (h : b < a) : gCmp .Gt (.int a) (.int b) = some (.bl true) := by simp [gCmp, gGt, gI, h]
theorem u_gtF {a b : Int} (h : ¬ b < a) : gCmp .Gt (.int a) (.int b) = some (.bl false) := by
  show some (D.bl (decide (b < a))) = _
  rw [decide_eq_false h]
theorem u_modK {a : Int} : gMod (.int a) (.int 2147483647) = some (.int (a % 2147483647)) := u_mod (by decide)
theorem u_divK {a : Int} : gDiv (.int a) (.int 7) = some (.int (a / 7)) := u_div (by decide) (by decide)
theorem tr {a b c : Res Fl} (h1 : a = b) (h2 : b = c) : a = c := h1.trans h2
theorem u_geT {a b : Int} (h : b ≤ a) : gCmp .GtE (.int a) (.int b) = some (.bl true) := by
  show some (D.bl (decide (b ≤ a))) = _
  rw [decide_eq_true h]
theorem u_geF {a b : Int} (h : ¬ b ≤ a) : gCmp .GtE (.int a) (.int b) = some (.bl false) := by
  show some (D.bl (decide (b ≤ a))) = _
  rw [decide_eq_false h]
theorem u_at {l : List D} {i : Int} {d : D} (h0 : 0 ≤ i) (h : l[i.toNat]? = some d) : atI l i = some d := by
  have h1 : i.toNat < l.length := (List.getElem?_eq_some_iff.mp h).1
  unfold atI ixN
  rw [if_pos h0, if_pos (by omega)]
  exact h
theorem taken (cc : Nat → DFn) (ns : List Int) (i s c m : Int) (hi : 0 ≤ i) (hm : 0 < m) (hm2 : m < 1073741824) :
    ∃ k i' s' c' : Int, 0 ≤ k ∧ k < m ∧ 0 ≤ i' ∧ runD 4 2 (d__law_taken cc) [.obj 0, .int m] (S ns i s c) = .ok (.int k) (S ns i' s' c') := by
  by_cases hc : 0 < c
  · refine ⟨c % m, i, s, c / m, Int.emod_nonneg _ (by omega), Int.emod_lt_of_pos _ hm, hi, u_run rfl ?_⟩
    unfold d__law_taken
    refine u_seqR (tr (u_ifT (u_test (u_bin (u_sub rfl rfl rfl) rfl (u_gtT hc)))) ?_)
    refine tr (u_seq (u_set (u_bin (u_c1 (u_sub rfl rfl rfl) rfl) rfl (u_mod hm)))) ?_
    exact tr (u_seq (u_put (u_bin (u_sub rfl rfl rfl) rfl (u_div hm hm2)) rfl rfl rfl rfl)) (u_ret rfl)
  · by_cases hl : (((ns.map D.int).length : Nat) : Int) < i + 1
    · refine ⟨((s * 48271 + 11) % 2147483647 / 7) % m, i + 1, (s * 48271 + 11) % 2147483647, c, Int.emod_nonneg _ (by omega), Int.emod_lt_of_pos _ hm, by omega, u_run rfl ?_⟩
      unfold d__law_taken
      refine tr (u_seq (tr (u_ifF (u_test (u_bin (u_sub rfl rfl rfl) rfl (u_gtF hc)))) rfl)) ?_
      refine tr (u_seq (u_put (u_bin (u_sub rfl rfl rfl) rfl u_add) rfl rfl rfl rfl)) ?_
      refine u_seqR (tr (u_ifT (u_test (u_bin (u_sub rfl rfl rfl) (u_c1 (u_sub rfl rfl rfl) rfl) (u_gtT hl)))) ?_)
      refine tr (u_seq (u_put (u_bin (u_c1 (u_bin (u_bin (u_sub rfl rfl rfl) rfl u_mul) rfl u_add) rfl) rfl u_modK) rfl rfl rfl rfl)) ?_
      exact u_ret (u_bin (u_c1 (u_bin (u_sub rfl rfl rfl) rfl u_divK) rfl) rfl (u_mod hm))
    · have hx : i.toNat < ns.length := by rw [List.length_map] at hl; omega
      have hat : subD (S ns (i + 1) s c) (.fls (ns.map D.int)) (.int (i + 1 - 1)) = some (.int ns[i.toNat]) := by
        show atI (ns.map D.int) (i + 1 - 1) = _
        have e : i + 1 - 1 = i := by omega
        rw [e]
        exact u_at hi (by rw [List.getElem?_map, List.getElem?_eq_getElem hx]; rfl)
      generalize ns[i.toNat] = z at hat
      have pre : ∀ (r : Res Fl), sSeq (sPut (dVar 0) (dK (.int 2)) (dBin gMod (dC1 gInt (dBin gAdd (dBin gAdd (dBin gMul (dSub (dVar 0) (dK (.int 2))) (dK (.int 48271))) (dVar 3)) (dK (.int 11)))) (dK (.int 2147483647)))) (sSeq (sIf (dTest (dBin (gCmp .GtE) (dVar 3) (dBin gPow (dK (.int 10)) (dK (.int 18))))) (sPut (dVar 0) (dK (.int 3)) (dBin gDiv (dVar 3) (dVar 1))) (sNil)) (sRet (dBin gMod (dC1 gInt (dVar 3)) (dVar 1)))) [some (.sh (.obj 0)), some (.sh (.int m)), none, some (.sh (.int z))] (S ns (i + 1) s c) = r → d__law_taken cc (env0 4 2 [.obj 0, .int m]) (S ns i s c) = r := fun r hr => by
        unfold d__law_taken
        refine tr (u_seq (tr (u_ifF (u_test (u_bin (u_sub rfl rfl rfl) rfl (u_gtF hc)))) rfl)) ?_
        refine tr (u_seq (u_put (u_bin (u_sub rfl rfl rfl) rfl u_add) rfl rfl rfl rfl)) ?_
        refine tr (u_seq (tr (u_ifF (u_test (u_bin (u_sub rfl rfl rfl) (u_c1 (u_sub rfl rfl rfl) rfl) (u_gtF hl)))) rfl)) ?_
        exact tr (u_seq (u_set (u_sub (u_sub rfl rfl rfl) (u_bin (u_sub rfl rfl rfl) rfl u_minus) hat))) hr
      by_cases hz : (10 : Int) ^ 18 ≤ z
      · refine ⟨z % m, i + 1, (s * 48271 + z + 11) % 2147483647, z / m, Int.emod_nonneg _ (by omega), Int.emod_lt_of_pos _ hm, by omega, u_run rfl (pre _ ?_)⟩
        refine tr (u_seq (u_put (u_bin (u_c1 (u_bin (u_bin (u_bin (u_sub rfl rfl rfl) rfl u_mul) rfl u_add) rfl u_add) rfl) rfl u_modK) rfl rfl rfl rfl)) ?_
        refine tr (u_seq (tr (u_ifT (u_test (u_bin rfl (u_bin rfl rfl rfl) (u_geT hz)))) (u_put (u_bin rfl rfl (u_div hm hm2)) rfl rfl rfl rfl))) ?_
        exact u_ret (u_bin (u_c1 rfl rfl) rfl (u_mod hm))
      · refine ⟨z % m, i + 1, (s * 48271 + z + 11) % 2147483647, c, Int.emod_nonneg _ (by omega), Int.emod_lt_of_pos _ hm, by omega, u_run rfl (pre _ ?_)⟩
        refine tr (u_seq (u_put (u_bin (u_c1 (u_bin (u_bin (u_bin (u_sub rfl rfl rfl) rfl u_mul) rfl u_add) rfl u_add) rfl) rfl u_modK) rfl rfl rfl rfl)) ?_
        refine tr (u_seq (tr (u_ifF (u_test (u_bin rfl (u_bin rfl rfl rfl) (u_geF hz)))) rfl)) ?_
        exact u_ret (u_bin (u_c1 rfl rfl) rfl (u_mod hm))
end My


namespace My
open PySem PySem.Spec PyProof.Rows L2 DI
section
variable {env e1 : DEnv} {st s1 s2 s3 : Store} {f g : DS} {b : DFB} {fa fb fc : DF} {x y z : D} {op : D → D → Option D}
theorem u_call {r : DFn} {fl : DFL} {ds : List D} {q : Res D} (h : fl env st = .ok ds s1) (h2 : r ds s1 = q) : dCall r fl env st = q := by unfold dCall; rw [h]; exact h2
theorem u_asg {t : DTg} (h : fa env st = .ok x s1) (h2 : t x env = some e1) : sAsg fa t env st = .ok (.nx e1) s1 := by unfold sAsg; rw [h]; show Res.bind (Res.opt (t x env) s1) _ = _; rw [h2]; rfl
theorem u_tell {td : Told} (h : td (fa env st) = .ok x s1) : dTell td fa env st = .ok x s1 := by unfold dTell; rw [h]
end
theorem pick (ns : List Int) (i s c : Int) (hi : 0 ≤ i) (kinds : List D) (h0 : 0 < kinds.length) (hl : kinds.length < 1000) :
    ∃ d, d ∈ kinds ∧ ∃ i' s' c' : Int, 0 ≤ i' ∧ callN 60 24 [.obj 0, .lst kinds] (S ns i s c) = .ok d (S ns i' s' c') := by
  obtain ⟨k, i', s', c', hk0, hk1, hi', hr⟩ := taken (callN 58) ns i s c (kinds.length : Int) hi (by omega) (by omega)
  have hx : k.toNat < kinds.length := by omega
  refine ⟨kinds[k.toNat], List.getElem_mem hx, i', s', c', hi', ?_⟩
  have e : callN 60 24 = runD 2 2 (d__law_pick (callN 59)) := rfl
  rw [e]
  refine u_run rfl ?_
  unfold d__law_pick
  refine u_ret (u_sub rfl (u_call rfl hr) ?_)
  show atI kinds k = _
  exact u_at hk0 (List.getElem?_eq_getElem hx)
abbrev E (a b : D) (x3 x4 x5 : Option Slot) : DEnv := [some (.sh a), some (.sh (.obj 0)), some (.sh b), x3, x4, x5, none, none]
def bodyL (k : Nat) : DS := sSeq (sAsg (dCall (callN 60 24) (dCons (dVar 1) (dCons (dVar 2) (dNil)))) (gT (gC (gN 4) (gC (gN 5) (gNils))))) (sIf (dTest (dBin (gCmp .NotEq) (dTell td__law_told (dCall (callN 60 k) (dCons (dVar 4) (dNil)))) (dTup (dCons (dK (.int 1)) (dCons (dVar 5) (dNil)))))) (sRet (dK (.bl false))) (sNil))
def GoodM (k : Nat) (d : D) : Prop := ∃ t w, d = .tup [.str t, .int w] ∧ (∀ st : Store, td__law_told (callN 60 k [.str t] st) = .ok (.tup [.int 1, .int w]) st) ∧ gCmp .NotEq (.tup [.int 1, .int w]) (.tup [.int 1, .int w]) = some (.bl false)
theorem loop (k : Nat) (a : D) (menu : List D) (h0 : 0 < menu.length) (hl : menu.length < 1000) (hg : ∀ d ∈ menu, GoodM k d) (ns : List Int) : ∀ (l : List D) (x3 x4 x5 : Option Slot) (i s c : Int), 0 ≤ i →
    ∃ (y3 y4 y5 : Option Slot) (i' s' c' : Int), 0 ≤ i' ∧ loopF (gN 3) (bodyL k) l (E a (.lst menu) x3 x4 x5) (S ns i s c) = .ok (.nx (E a (.lst menu) y3 y4 y5)) (S ns i' s' c')
  | [], x3, x4, x5, i, s, c, hi => ⟨x3, x4, x5, i, s, c, hi, rfl⟩
  | d :: l, x3, x4, x5, i, s, c, hi => by
    obtain ⟨z, hz, i', s', c', hi', hp⟩ := pick ns i s c hi menu h0 hl
    obtain ⟨t, w, rfl, ht, hne⟩ := hg z hz
    obtain ⟨y3, y4, y5, i2, s2, c2, hi2, h2⟩ := loop k a menu h0 hl hg ns l (some (.sh d)) (some (.sh (.str t))) (some (.sh (.int w))) i' s' c' hi'
    refine ⟨y3, y4, y5, i2, s2, c2, hi2, ?_⟩
    have hb : bodyL k (E a (.lst menu) (some (.sh d)) x4 x5) (S ns i s c) = .ok (.nx (E a (.lst menu) (some (.sh d)) (some (.sh (.str t))) (some (.sh (.int w))))) (S ns i' s' c') := by
      unfold bodyL
      refine tr (u_seq (u_asg (u_call rfl hp) rfl)) ?_
      exact tr (u_ifF (u_test (u_bin (u_tell (ht _)) rfl hne))) rfl
    show ((bodyL k (E a (.lst menu) (some (.sh d)) x4 x5) (S ns i s c)).bind _) = _
    rw [hb]
    exact h2
theorem u_for {fi : DFL} {t : DTg} {body : DS} {ds : List D} {env e1 : DEnv} {st s1 s2 : Store} (h : fi env st = .ok ds s1) (h2 : loopF t body ds env s1 = .ok (.nx e1) s2) : sFor fi t body env st = .ok (.nx e1) s2 := by unfold sFor; rw [h]; exact h2
end My


namespace My
open PySem PySem.Spec PyProof.Rows L2 DI
theorem gcons {P : D → Prop} {d : D} {l : List D} (h : P d) (hs : ∀ x ∈ l, P x) : ∀ x ∈ d :: l, P x := List.forall_mem_cons.mpr ⟨h, hs⟩
def t40 : List Nat := (List.replicate 40 [115, 104, 105, 101, 108, 100, 32]).flatten ++ [97]
def t20 : List Nat := (List.replicate 20 [97, 32]).flatten ++ [97]
def t300 : List Nat := (List.replicate 300 [45, 58, 102, 108, 97, 116, 32]).flatten ++ [45, 58, 102, 108, 97, 116]
def m1 : List D := [.tup [.str [], .int 1], .tup [.str [105], .int 1], .tup [.str [116, 104, 101, 110], .int 1], .tup [.str [116, 104, 101, 110, 50, 32, 97], .int 3], .tup [.str [116, 104, 101, 110, 49, 51, 32, 97, 32, 97], .int 1], .tup [.str [98, 111, 116, 104, 49, 32, 97], .int 1], .tup [.str [98, 111, 116, 104, 48, 50, 32, 97, 32, 97], .int 1], .tup [.str [108, 97, 115, 116, 32, 97], .int 3], .tup [.str [115, 104, 105, 101, 108, 100], .int 2], .tup [.str [114, 101, 115, 116, 32, 114, 101, 115, 116], .int 2], .tup [.str [97, 32, 98], .int 2], .tup [.str [98, 111, 116, 104, 50, 32, 97, 32, 82, 101, 115, 116], .int 3], .tup [.str [115, 97, 121, 32, 97], .int 1], .tup [.str [116, 104, 101, 110, 50, 32, 97, 32, 98, 32, 99], .int 4], .tup [.str t40, .int 41], .tup [.str [108, 97, 115, 116, 50, 32, 97, 32, 98], .int 1], .tup [.str [119], .int 1], .tup [.str [98, 111, 116, 104, 51, 32, 98, 111, 116, 104, 51, 32, 97, 32, 97, 32, 97, 32, 98, 111, 116, 104, 51, 32, 97, 32, 97, 32, 97, 32, 98, 111, 116, 104, 51, 32, 97, 32, 97], .int 13], .tup [.str [116, 104, 101, 110, 51, 32, 116, 104, 101, 110, 51, 32, 97, 32, 98, 32, 99, 32, 116, 104, 101, 110, 51, 32, 100, 32, 101, 32, 102, 32, 116, 104, 101, 110, 51, 32, 116, 104, 101, 110, 51, 32, 103, 32, 104, 32, 97, 32, 116, 104, 101, 110, 51, 32, 98, 32, 99, 32, 100, 32, 101], .int 19], .tup [.str [119, 105, 116, 104, 105, 110, 49, 32, 97], .int 1], .tup [.str [102, 105, 114, 115, 116, 50, 32, 97, 32, 98], .int 1]]
theorem g1_0 : GoodM 15 (.tup [.str [], .int 1]) := ⟨_, _, rfl, fun st => by kernel_rfl, by kernel_rfl⟩
theorem g1_1 : GoodM 15 (.tup [.str [105], .int 1]) := ⟨_, _, rfl, fun st => by kernel_rfl, by kernel_rfl⟩
theorem g1_2 : GoodM 15 (.tup [.str [116, 104, 101, 110], .int 1]) := ⟨_, _, rfl, fun st => by kernel_rfl, by kernel_rfl⟩
theorem g1_3 : GoodM 15 (.tup [.str [116, 104, 101, 110, 50, 32, 97], .int 3]) := ⟨_, _, rfl, fun st => by kernel_rfl, by kernel_rfl⟩
theorem g1_4 : GoodM 15 (.tup [.str [116, 104, 101, 110, 49, 51, 32, 97, 32, 97], .int 1]) := ⟨_, _, rfl, fun st => by kernel_rfl, by kernel_rfl⟩
theorem g1_5 : GoodM 15 (.tup [.str [98, 111, 116, 104, 49, 32, 97], .int 1]) := ⟨_, _, rfl, fun st => by kernel_rfl, by kernel_rfl⟩
theorem g1_6 : GoodM 15 (.tup [.str [98, 111, 116, 104, 48, 50, 32, 97, 32, 97], .int 1]) := ⟨_, _, rfl, fun st => by kernel_rfl, by kernel_rfl⟩
theorem g1_7 : GoodM 15 (.tup [.str [108, 97, 115, 116, 32, 97], .int 3]) := ⟨_, _, rfl, fun st => by kernel_rfl, by kernel_rfl⟩
theorem g1_8 : GoodM 15 (.tup [.str [115, 104, 105, 101, 108, 100], .int 2]) := ⟨_, _, rfl, fun st => by kernel_rfl, by kernel_rfl⟩
theorem g1_9 : GoodM 15 (.tup [.str [114, 101, 115, 116, 32, 114, 101, 115, 116], .int 2]) := ⟨_, _, rfl, fun st => by kernel_rfl, by kernel_rfl⟩
theorem g1_10 : GoodM 15 (.tup [.str [97, 32, 98], .int 2]) := ⟨_, _, rfl, fun st => by kernel_rfl, by kernel_rfl⟩
theorem g1_11 : GoodM 15 (.tup [.str [98, 111, 116, 104, 50, 32, 97, 32, 82, 101, 115, 116], .int 3]) := ⟨_, _, rfl, fun st => by kernel_rfl, by kernel_rfl⟩
theorem g1_12 : GoodM 15 (.tup [.str [115, 97, 121, 32, 97], .int 1]) := ⟨_, _, rfl, fun st => by kernel_rfl, by kernel_rfl⟩
theorem g1_13 : GoodM 15 (.tup [.str [116, 104, 101, 110, 50, 32, 97, 32, 98, 32, 99], .int 4]) := ⟨_, _, rfl, fun st => by kernel_rfl, by kernel_rfl⟩
theorem g1_14 : GoodM 15 (.tup [.str t40, .int 41]) := ⟨_, _, rfl, fun st => by kernel_rfl, by kernel_rfl⟩
theorem g1_15 : GoodM 15 (.tup [.str [108, 97, 115, 116, 50, 32, 97, 32, 98], .int 1]) := ⟨_, _, rfl, fun st => by kernel_rfl, by kernel_rfl⟩
theorem g1_16 : GoodM 15 (.tup [.str [119], .int 1]) := ⟨_, _, rfl, fun st => by kernel_rfl, by kernel_rfl⟩
theorem g1_17 : GoodM 15 (.tup [.str [98, 111, 116, 104, 51, 32, 98, 111, 116, 104, 51, 32, 97, 32, 97, 32, 97, 32, 98, 111, 116, 104, 51, 32, 97, 32, 97, 32, 97, 32, 98, 111, 116, 104, 51, 32, 97, 32, 97], .int 13]) := ⟨_, _, rfl, fun st => by kernel_rfl, by kernel_rfl⟩
theorem g1_18 : GoodM 15 (.tup [.str [116, 104, 101, 110, 51, 32, 116, 104, 101, 110, 51, 32, 97, 32, 98, 32, 99, 32, 116, 104, 101, 110, 51, 32, 100, 32, 101, 32, 102, 32, 116, 104, 101, 110, 51, 32, 116, 104, 101, 110, 51, 32, 103, 32, 104, 32, 97, 32, 116, 104, 101, 110, 51, 32, 98, 32, 99, 32, 100, 32, 101], .int 19]) := ⟨_, _, rfl, fun st => by kernel_rfl, by kernel_rfl⟩
theorem g1_19 : GoodM 15 (.tup [.str [119, 105, 116, 104, 105, 110, 49, 32, 97], .int 1]) := ⟨_, _, rfl, fun st => by kernel_rfl, by kernel_rfl⟩
theorem g1_20 : GoodM 15 (.tup [.str [102, 105, 114, 115, 116, 50, 32, 97, 32, 98], .int 1]) := ⟨_, _, rfl, fun st => by kernel_rfl, by kernel_rfl⟩
theorem good1 : ∀ d ∈ m1, GoodM 15 d := gcons g1_0 (gcons g1_1 (gcons g1_2 (gcons g1_3 (gcons g1_4 (gcons g1_5 (gcons g1_6 (gcons g1_7 (gcons g1_8 (gcons g1_9 (gcons g1_10 (gcons g1_11 (gcons g1_12 (gcons g1_13 (gcons g1_14 (gcons g1_15 (gcons g1_16 (gcons g1_17 (gcons g1_18 (gcons g1_19 (gcons g1_20 (fun _ h => nomatch h)))))))))))))))))))))
def m2 : List D := [.tup [.str [97, 32, 105], .int 2], .tup [.str [111, 102, 102, 32, 111, 102, 102], .int 2], .tup [.str [79, 102, 102], .int 1], .tup [.str [97, 32, 98, 32, 97, 97], .int 3], .tup [.str [97, 44, 32, 98], .int 1], .tup [.str t20, .int 21], .tup [.str [111, 102, 102, 32, 97, 32, 111, 102, 102], .int 3]]
theorem g2_0 : GoodM 17 (.tup [.str [97, 32, 105], .int 2]) := ⟨_, _, rfl, fun st => by kernel_rfl, by kernel_rfl⟩
theorem g2_1 : GoodM 17 (.tup [.str [111, 102, 102, 32, 111, 102, 102], .int 2]) := ⟨_, _, rfl, fun st => by kernel_rfl, by kernel_rfl⟩
theorem g2_2 : GoodM 17 (.tup [.str [79, 102, 102], .int 1]) := ⟨_, _, rfl, fun st => by kernel_rfl, by kernel_rfl⟩
theorem g2_3 : GoodM 17 (.tup [.str [97, 32, 98, 32, 97, 97], .int 3]) := ⟨_, _, rfl, fun st => by kernel_rfl, by kernel_rfl⟩
theorem g2_4 : GoodM 17 (.tup [.str [97, 44, 32, 98], .int 1]) := ⟨_, _, rfl, fun st => by kernel_rfl, by kernel_rfl⟩
theorem g2_5 : GoodM 17 (.tup [.str t20, .int 21]) := ⟨_, _, rfl, fun st => by kernel_rfl, by kernel_rfl⟩
theorem g2_6 : GoodM 17 (.tup [.str [111, 102, 102, 32, 97, 32, 111, 102, 102], .int 3]) := ⟨_, _, rfl, fun st => by kernel_rfl, by kernel_rfl⟩
theorem good2 : ∀ d ∈ m2, GoodM 17 d := gcons g2_0 (gcons g2_1 (gcons g2_2 (gcons g2_3 (gcons g2_4 (gcons g2_5 (gcons g2_6 (fun _ h => nomatch h)))))))
def m3 : List D := [.tup [.str [102, 108, 97, 116], .int 1], .tup [.str [45, 58, 70, 108, 97, 116], .int 1], .tup [.str [58, 102, 108, 97, 116], .int 1], .tup [.str [48, 58, 102, 108, 97, 116, 32, 49, 50, 58, 102, 108, 97, 116], .int 2], .tup [.str [48, 48, 58, 102, 108, 97, 116], .int 1], .tup [.str [48, 46, 58, 102, 108, 97, 116], .int 1], .tup [.str [48, 46, 49, 58, 102, 108, 97, 116, 32, 120], .int 2], .tup [.str [45, 58, 102, 108, 97, 116, 58, 114, 101, 115, 116], .int 1], .tup [.str [48, 44, 49, 58, 102, 108, 97, 116], .int 1], .tup [.str [45, 45, 58, 102, 108, 97, 116], .int 1], .tup [.str t300, .int 301]]
theorem g3_0 : GoodM 22 (.tup [.str [102, 108, 97, 116], .int 1]) := ⟨_, _, rfl, fun st => by kernel_rfl, by kernel_rfl⟩
theorem g3_1 : GoodM 22 (.tup [.str [45, 58, 70, 108, 97, 116], .int 1]) := ⟨_, _, rfl, fun st => by kernel_rfl, by kernel_rfl⟩
theorem g3_2 : GoodM 22 (.tup [.str [58, 102, 108, 97, 116], .int 1]) := ⟨_, _, rfl, fun st => by kernel_rfl, by kernel_rfl⟩
theorem g3_3 : GoodM 22 (.tup [.str [48, 58, 102, 108, 97, 116, 32, 49, 50, 58, 102, 108, 97, 116], .int 2]) := ⟨_, _, rfl, fun st => by kernel_rfl, by kernel_rfl⟩
theorem g3_4 : GoodM 22 (.tup [.str [48, 48, 58, 102, 108, 97, 116], .int 1]) := ⟨_, _, rfl, fun st => by kernel_rfl, by kernel_rfl⟩
theorem g3_5 : GoodM 22 (.tup [.str [48, 46, 58, 102, 108, 97, 116], .int 1]) := ⟨_, _, rfl, fun st => by kernel_rfl, by kernel_rfl⟩
theorem g3_6 : GoodM 22 (.tup [.str [48, 46, 49, 58, 102, 108, 97, 116, 32, 120], .int 2]) := ⟨_, _, rfl, fun st => by kernel_rfl, by kernel_rfl⟩
theorem g3_7 : GoodM 22 (.tup [.str [45, 58, 102, 108, 97, 116, 58, 114, 101, 115, 116], .int 1]) := ⟨_, _, rfl, fun st => by kernel_rfl, by kernel_rfl⟩
theorem g3_8 : GoodM 22 (.tup [.str [48, 44, 49, 58, 102, 108, 97, 116], .int 1]) := ⟨_, _, rfl, fun st => by kernel_rfl, by kernel_rfl⟩
theorem g3_9 : GoodM 22 (.tup [.str [45, 45, 58, 102, 108, 97, 116], .int 1]) := ⟨_, _, rfl, fun st => by kernel_rfl, by kernel_rfl⟩
theorem g3_10 : GoodM 22 (.tup [.str t300, .int 301]) := ⟨_, _, rfl, fun st => by kernel_rfl, by kernel_rfl⟩
theorem good3 : ∀ d ∈ m3, GoodM 22 d := gcons g3_0 (gcons g3_1 (gcons g3_2 (gcons g3_3 (gcons g3_4 (gcons g3_5 (gcons g3_6 (gcons g3_7 (gcons g3_8 (gcons g3_9 (gcons g3_10 (fun _ h => nomatch h)))))))))))
end My


namespace My
open PySem PySem.Spec PyProof.Rows L2 DI
def tlc (k : Nat) (d : D) (l : List Nat) : Prop := ∀ st : Store, td__law_told (callN 60 k [d] st) = .ok (.str l) st
def cText : List Nat := [116, 101, 120, 116]
def cPlan : List Nat := [112, 108, 97, 110]
def cRow : List Nat := [114, 111, 119]
def cPaper : List Nat := [112, 97, 112, 101, 114]
def n1 : List D := [.non, .int 5, .lst [.str [97]], .tup [.str [114, 101, 115, 116]]]
def n2 : List D := [.non, .tup [.str [115, 97, 121]], .tup [.str [119, 97, 105, 116], .int 0], .str [97]]
def AllN (d : D) : Prop := tlc 15 d cText ∧ tlc 17 d cText ∧ tlc 22 d cText
theorem alln : ∀ d ∈ n1, AllN d := gcons ⟨fun st => by kernel_rfl, fun st => by kernel_rfl, fun st => by kernel_rfl⟩ (gcons ⟨fun st => by kernel_rfl, fun st => by kernel_rfl, fun st => by kernel_rfl⟩ (gcons ⟨fun st => by kernel_rfl, fun st => by kernel_rfl, fun st => by kernel_rfl⟩ (gcons ⟨fun st => by kernel_rfl, fun st => by kernel_rfl, fun st => by kernel_rfl⟩ (fun _ h => nomatch h))))
theorem alln2 : ∀ d ∈ n2, tlc 12 d cPlan := gcons (fun st => by kernel_rfl) (gcons (fun st => by kernel_rfl) (gcons (fun st => by kernel_rfl) (gcons (fun st => by kernel_rfl) (fun _ h => nomatch h))))
theorem t_row : tlc 16 (.tup [.int 0, .str [111, 110]]) cRow := fun st => by kernel_rfl
theorem t_pap : tlc 19 (.tup [.tup [.tup [.int 0], .str [102, 108, 97, 116]], .tup [.tup [], .str [98, 97, 114, 101]]]) cPaper := fun st => by kernel_rfl
abbrev E7 (a b : D) (x3 x4 x5 : Option Slot) (x6 : D) (x7 : Option Slot) : DEnv := [some (.sh a), some (.sh (.obj 0)), some (.sh b), x3, x4, x5, some (.sh x6), x7]
theorem u_setF {i : Nat} {env : DEnv} {st s1 : Store} {fa : DF} {x : D} (h1 : fa env st = .ok x s1) : sSetF i fa env st = .ok (.nx (env.set i (some (.ow x)))) s1 := by unfold sSetF; rw [h1]; rfl
theorem u_lst1 {env : DEnv} {st s1 : Store} {fa : DF} {x : D} (h1 : fa env st = .ok x s1) : dLst (dCons fa dNil) env st = .ok (.lst [x]) s1 := by
  unfold dLst dCons
  show Res.bind (Res.bind (fa env st) _) _ = _
  rw [h1]
  rfl
theorem u_app {i : Nat} {env : DEnv} {st s1 : Store} {fa : DF} {x : D} {ds : List D} (h0 : env[i]? = some (some (.ow (.lst ds)))) (h1 : fa env st = .ok x s1) (h2 : ds.length < sizeLine) : sApp i fa env st = .ok (.nx (env.set i (some (.ow (.lst (ds ++ [x])))))) s1 := by
  unfold sApp
  rw [h0]
  show Res.bind (fa env st) _ = _
  rw [h1]
  show (if ds.length < sizeLine then _ else _) = _
  rw [if_pos h2]
theorem u_callT {k : Nat} {fl : DFL} {d : D} {l : List Nat} {env : DEnv} {st s1 : Store} (h : fl env st = .ok [d] s1) (ht : tlc k d l) : dTell td__law_told (dCall (callN 60 k) fl) env st = .ok (.str l) s1 := u_tell (by rw [u_call h rfl]; exact ht _)
theorem u_arg {env : DEnv} {st s1 : Store} {fa : DF} {x : D} (h1 : fa env st = .ok x s1) : dCons fa dNil env st = .ok [x] s1 := by
  unfold dCons
  rw [h1]
  rfl
theorem plain : Plain := fun ns _ _ => by
  obtain ⟨y3, y4, y5, i1, s1, c1, hi1, L1⟩ := loop 15 (.fls (ns.map D.int)) m1 (by decide) (by decide) good1 ns ((List.range 7).map fun i => D.int (i : Nat)) none none none 0 10616 0 (by decide)
  obtain ⟨z3, z4, z5, i2, s2, c2, hi2, L2⟩ := loop 17 (.fls (ns.map D.int)) m2 (by decide) (by decide) good2 ns ((List.range 3).map fun i => D.int (i : Nat)) y3 y4 y5 i1 s1 c1 hi1
  obtain ⟨w3, w4, w5, i3, s3, c3, hi3, L3⟩ := loop 22 (.fls (ns.map D.int)) m3 (by decide) (by decide) good3 ns ((List.range 4).map fun i => D.int (i : Nat)) z3 z4 z5 i2 s2 c2 hi2
  obtain ⟨d, hd, i4, s4, c4, hi4, P4⟩ := pick ns i3 s3 c3 hi3 n1 (by decide) (by decide)
  obtain ⟨T1, T2, T3⟩ := alln d hd
  obtain ⟨d2, hd2, i5, s5, c5, hi5, P5⟩ := pick ns i4 s4 c4 hi4 n2 (by decide) (by decide)
  have T4 := alln2 d2 hd2
  refine ⟨S ns i5 s5 c5, u_run rfl ?_⟩
  unfold d_law
  refine tr (u_seq (e1 := [some (.sh (.fls (ns.map D.int))), some (.sh (.obj 0)), none, none, none, none, none, none]) (s1 := S ns 0 10616 0) rfl) ?_
  refine tr (u_seq (e1 := E (.fls (ns.map D.int)) (.lst (m1.take 8)) none none none) (s1 := S ns 0 10616 0) (by kernel_rfl)) ?_
  refine tr (u_seq (e1 := E (.fls (ns.map D.int)) (.lst (m1.take 12)) none none none) (s1 := S ns 0 10616 0) (by kernel_rfl)) ?_
  refine tr (u_seq (e1 := E (.fls (ns.map D.int)) (.lst (m1.take 17)) none none none) (s1 := S ns 0 10616 0) (by kernel_rfl)) ?_
  refine tr (u_seq (e1 := E (.fls (ns.map D.int)) (.lst (m1.take 18)) none none none) (s1 := S ns 0 10616 0) (by kernel_rfl)) ?_
  refine tr (u_seq (e1 := E (.fls (ns.map D.int)) (.lst m1) none none none) (s1 := S ns 0 10616 0) (by kernel_rfl)) ?_
  refine tr (u_seq (u_for rfl L1)) ?_
  refine tr (u_seq (e1 := E (.fls (ns.map D.int)) (.lst m2) y3 y4 y5) (s1 := S ns i1 s1 c1) (by kernel_rfl)) ?_
  refine tr (u_seq (u_for rfl L2)) ?_
  refine tr (u_seq (e1 := E (.fls (ns.map D.int)) (.lst (m3.take 7)) z3 z4 z5) (s1 := S ns i2 s2 c2) (by kernel_rfl)) ?_
  refine tr (u_seq (e1 := E (.fls (ns.map D.int)) (.lst m3) z3 z4 z5) (s1 := S ns i2 s2 c2) (by kernel_rfl)) ?_
  refine tr (u_seq (u_for rfl L3)) ?_
  refine tr (u_seq (u_set (u_call rfl P4))) ?_
  refine tr (u_seq (u_setF (u_lst1 (u_callT rfl T1)))) ?_
  refine tr (u_seq (u_app rfl (u_callT rfl T2) (by decide))) ?_
  refine tr (u_seq (u_app rfl (u_callT rfl T3) (by decide))) ?_
  refine tr (u_seq (u_app rfl (u_callT (u_arg (u_call rfl P5)) T4) (by decide))) ?_
  refine tr (u_seq (u_app rfl (u_callT rfl t_row) (by decide))) ?_
  refine tr (u_seq (u_app rfl (u_callT rfl t_pap) (by decide))) ?_
  kernel_rfl
end My


open PySem PySem.W PySem.Calls PyProof.Rows
theorem cx_none {w : World} {p : Program} {H : L2.Hp} {s : Shared} {e : Value} {s' : Shared} (h : L2.CX p w [] H s (fun _ _ _ => False) e s') : False := by
  obtain ⟨_, _, _, _, _, _, _, _, _, _, _, _, z⟩ := h
  exact z
theorem law_fin (hp : My.Plain) : PySem.Challenge.rw_shieldforms_k16_texts_refused.Holds := by
  w_on; o_law
  refine HandSHeadRun.head_any (r := OpenLaw.row PySem.Challenge.rw_shieldforms_k16_texts_refused) (q := view (OpenLaw.row PySem.Challenge.rw_shieldforms_k16_texts_refused).prog [48]) (H := My.hk) (ob := My.ob) (M := 4000) (loose := My.loose) (d := HandSHeadRun.topDef (OpenLaw.row PySem.Challenge.rw_shieldforms_k16_texts_refused).prog 48) (kwd := []) My.ob_eq
    (by kernel_rfl) (fun s => by kernel_rfl) My.run (by kernel_rfl) (by kernel_rfl) (by kernel_rfl) (by rfl) (by first | assumption | decide +kernel) (by decide +kernel) ⟨rfl, rfl, rfl, rfl, rfl, by decide +kernel⟩ ?hw ?hc
  case hw => w_witness2
  case hc =>
    refine LamX.walk_ofTsE (l := PySem.Challenge.rw_shieldforms_k16_texts_refused) (n := 63) (k := 65) (x := "_law_script") (CX := fun w => L2.CX My.R.prog w) rfl (by decide) (by kernel_rfl) ⟨rfl, by decide, by decide⟩ ?F (fun w H s e s' z => cx_none z)
    intro w mg fa h Y G hmg0
    obtain ⟨K, KX, c⟩ := Y
    have hmg : mg ("law" : PySem.Str) = some (.ref fa) := by
      have e : (HandSHeadRun.topDef (OpenLaw.row PySem.Challenge.rw_shieldforms_k16_texts_refused).prog 48).name = ("law" : PySem.Str) := by kernel_rfl
      rw [← e]
      exact hmg0
    exact ⟨K, KX, My.lawAt hp KX G hmg c⟩


theorem PySem.Challenge.cw_shieldforms_k16_texts_refused_holds : PySem.Challenge.rw_shieldforms_k16_texts_refused.Holds := by
  exact law_fin My.plain
