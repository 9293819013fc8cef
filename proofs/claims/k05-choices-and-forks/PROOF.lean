import PyProof.Rows.All
import Wide.All
import OpenK.AllK
import Wide.FinOn
import HandS.ForMost
import HandS.ForExc
import HandS.Lambda
import HandS.Walk
import HandS.Zip
import HandS.HotCalls
import HandS.ExcField
import KE.KExcIs
import HandS.EndTab
import HandS.HeadWalk
import HandS.TupMul
import HandS.TupAny
import HandS.Gcd
import HandS.IsInst
import HandS.Style
import HandS.ExcInit
import HandS.Conv
import KE.RegKIsAll
import KE.RegKTryMore
import PySem.Challenge.RW_onerests_k05_choices_and_forks
set_option Elab.async false
set_option linter.all false
set_option maxRecDepth 100000
set_option maxHeartbeats 4100000
namespace L3
open PySem PySem.Spec L2
open PyProof.Rows hiding St

/-- the written part, where the classes of the text stand, the exception at hand, the tables of code objects -/
structure KC where
  K : PySem.W.Frag
  cm : Str → Addr
  pn : List (Addr × Obj)
  T : List (Addr × Str)
def cmOf (mg : Str → Option Value) : Str → Addr := fun c => match mg c with
  | some (.ref a) => a
  | _ => 0
abbrev kc (T : List (Addr × Str)) (X : Cx) : KC := ⟨X.K, cmOf X.mg, X.pn, T⟩
theorem cmOf_eq {mg : Str → Option Value} {c : Str} {C : Addr} (h : mg c = some (.ref C)) : cmOf mg c = C := by unfold cmOf; rw [h]
/-- deep data: what a value is, with what it holds; lists by value -/
inductive D where
  | non | bl (b : Bool) | int (i : Int) | str (x : Str)
  | tup (xs : List D) | lst (xs : List D)
  | scr (xs : List Int)
  | dct (kvs : List (Key × D))
  | ins (c : Str) (fs : List (Str × D))
  | pen
  | exc (c : Str) (fs : List (Str × D))

/-- the pen: a dict of the law's own, with the cells and four counters -/
def PenAt (K : KC) (H : Hp) (kvs : List (Key × V)) : Prop := ∃ (c : Addr) (xs : List Int) (i g n f : Int),
  kvs = [(.inr "cells", .ref c), (.inr "at", .int i), (.inr "digits", .int g), (.inr "count", .int n), (.inr "fold", .int f)] ∧
  SqL K.K H c (xs.map V.int) ∧ 0 ≤ i ∧ 0 ≤ g ∧ 0 ≤ f ∧ f < 2147483647

mutual
def Rep (K : KC) (H : Hp) : V → D → Prop
  | v, .non => v = .non
  | v, .bl b => v = .bl b
  | v, .int i => v = .int i
  | v, .str x => v = .str x
  | v, .tup ds => ∃ a vs, v = .ref a ∧ H a = some (.tup vs) ∧ Reps K H vs ds
  | v, .lst ds => ∃ a vs, v = .ref a ∧ H a = some (.lst vs) ∧ Reps K H vs ds
  | v, .scr xs => ∃ a, v = .ref a ∧ SqL K.K H a (xs.map V.int)
  | v, .dct ds => ∃ a kvs, v = .ref a ∧ H a = some (.dK kvs) ∧ kvs.length < 4 ∧ RepK K H kvs ds
  | v, .ins c ds => ∃ a dx fs, v = .ref a ∧ H a = some (.ins (K.cm c) dx fs) ∧ RepF K H fs ds
  | v, .pen => ∃ a kvs, v = .ref a ∧ H a = some (.dK kvs) ∧ PenAt K H kvs
  | v, .exc c ds => ∃ a oe od, v = .ref a ∧ (a, oe) ∈ K.pn ∧ Zc (.ref (K.cm c)) od oe ∧ (∃ vs, oe.data = .fields vs) ∧ ((ds = [] ∧ od = none) ∨ ∃ dd fs, od = some dd ∧ H dd = some (.xd fs) ∧ RepF { K with pn := [] } H fs ds)
def Reps (K : KC) (H : Hp) : List V → List D → Prop
  | vs, [] => vs = []
  | vs, d :: ds => ∃ v r, vs = v :: r ∧ Rep K H v d ∧ Reps K H r ds
def RepK (K : KC) (H : Hp) : List (Key × V) → List (Key × D) → Prop
  | vs, [] => vs = []
  | vs, (k, d) :: ds => ∃ v r, vs = (k, v) :: r ∧ Rep K H v d ∧ RepK K H r ds
def RepF (K : KC) (H : Hp) : List (Str × V) → List (Str × D) → Prop
  | vs, [] => vs = []
  | vs, (k, d) :: ds => ∃ v r, vs = (k, v) :: r ∧ Rep K H v d ∧ RepF K H r ds
end

/-- the shared heap grows; a pen may turn -/
structure Ext (K : KC) (H H' : Hp) : Prop where
  at_ : ∀ a o, H a = some o → H' a = some o ∨ (∃ kvs kvs', o = .dK kvs ∧ kvs.length = 5 ∧ H' a = some (.dK kvs') ∧ kvs'.length = 5 ∧ PenAt K H' kvs') ∨ ∃ ps, o = .tbl ps
  tab : LamX.Tabs K.T H → LamX.Tabs K.T H'
section
variable {K : KC} {H H' H1 H2 : Hp}
theorem Ext.refl (H : Hp) : Ext K H H := ⟨fun _ _ e => .inl e, id⟩
/-- what is neither a pen nor a table stands -/
theorem Ext.keep (x : Ext K H H') {a : Addr} {o : HO} (h : H a = some o) (h1 : ∀ kvs, o = .dK kvs → kvs.length ≠ 5) (h2 : ∀ ps, o ≠ .tbl ps) : H' a = some o := by
  rcases x.at_ a o h with h | ⟨kvs, _, e, l, _⟩ | ⟨ps, e⟩
  · exact h
  · exact absurd l (h1 kvs e)
  · exact absurd e (h2 ps)
theorem Ext.tup (x : Ext K H H') {a : Addr} {vs : List V} (h : H a = some (.tup vs)) : H' a = some (.tup vs) := x.keep h (fun _ z => by cases z) fun _ z => by cases z
theorem Ext.lst (x : Ext K H H') {a : Addr} {vs : List V} (h : H a = some (.lst vs)) : H' a = some (.lst vs) := x.keep h (fun _ z => by cases z) fun _ z => by cases z
theorem Ext.frz (x : Ext K H H') {a : Addr} {o : Obj} {u : HO} (h : H a = some (.frz o u)) : H' a = some (.frz o u) := x.keep h (fun _ z => by cases z) fun _ z => by cases z
theorem Ext.xd (x : Ext K H H') {a : Addr} {fs : List (Str × V)} (h : H a = some (.xd fs)) : H' a = some (.xd fs) := x.keep h (fun _ z => by cases z) fun _ z => by cases z
theorem Ext.ins (x : Ext K H H') {a C dx : Addr} {fs : List (Str × V)} (h : H a = some (.ins C dx fs)) : H' a = some (.ins C dx fs) := x.keep h (fun _ z => by cases z) fun _ z => by cases z
theorem Ext.seqT (x : Ext K H H') {a : Addr} {vs : List V} (h : SqT K.K H a vs) : SqT K.K H' a vs := by
  rcases (h) with (h | ⟨o, h⟩) | h
  · exact .inl (.inl (x.tup h))
  · exact .inl (.inr ⟨o, x.frz h⟩)
  · exact .inr h
theorem Ext.seqL (x : Ext K H H') {a : Addr} {vs : List V} (h : SqL K.K H a vs) : SqL K.K H' a vs := by
  rcases (h) with (h | ⟨o, h⟩) | h
  · exact .inl (.inl (x.lst h))
  · exact .inl (.inr ⟨o, x.frz h⟩)
  · exact .inr h
theorem Ext.penAt (x : Ext K H H') {kvs : List (Key × V)} (h : PenAt K H kvs) : PenAt K H' kvs := by
  obtain ⟨c, xs, i, g, n, f, e, hl, r⟩ := h
  exact ⟨c, xs, i, g, n, f, e, x.seqL hl, r⟩
theorem PenAt.len {kvs : List (Key × V)} (h : PenAt K H kvs) : kvs.length = 5 := by
  obtain ⟨c, xs, i, g, n, f, rfl, _⟩ := h
  rfl
theorem Ext.trans (x : Ext K H H1) (y : Ext K H1 H2) : Ext K H H2 := ⟨fun a o e => by
  rcases x.at_ a o e with e1 | ⟨kvs, kvs', rfl, l0, e1, l1, p1⟩ | ⟨ps, rfl⟩
  · exact y.at_ a o e1
  · rcases y.at_ a _ e1 with e2 | ⟨k1, k2, _, _, e2, l2, p2⟩ | ⟨_, z⟩
    · exact .inr (.inl ⟨_, _, rfl, l0, e2, l1, y.penAt p1⟩)
    · exact .inr (.inl ⟨_, _, rfl, l0, e2, l2, p2⟩)
    · cases z
  · exact .inr (.inr ⟨_, rfl⟩), fun t => y.tab (x.tab t)⟩
theorem Ext.bare (x : Ext K H H') : Ext { K with pn := [] } H H' := ⟨x.at_, x.tab⟩
mutual
theorem Rep.ext {K : KC} (x : Ext K H H') : ∀ (d : D) (v : V), Rep K H v d → Rep K H' v d
  | .non, _, h => by simpa [Rep] using h
  | .bl _, _, h => by simpa [Rep] using h
  | .int _, _, h => by simpa [Rep] using h
  | .str _, _, h => by simpa [Rep] using h
  | .tup ds, v, h => by
    unfold Rep at h ⊢
    obtain ⟨a, vs, e, s, r⟩ := h
    exact ⟨a, vs, e, x.tup s, Reps.ext x ds vs r⟩
  | .lst ds, v, h => by
    unfold Rep at h ⊢
    obtain ⟨a, vs, e, s, r⟩ := h
    exact ⟨a, vs, e, x.lst s, Reps.ext x ds vs r⟩
  | .scr xs, v, h => by
    unfold Rep at h ⊢
    obtain ⟨a, e, s⟩ := h
    exact ⟨a, e, x.seqL s⟩
  | .dct ds, v, h => by
    unfold Rep at h ⊢
    obtain ⟨a, kvs, e, s, l, r⟩ := h
    exact ⟨a, kvs, e, x.keep s (fun k e5 => by cases e5; omega) (fun _ z => by cases z), l, RepK.ext x ds kvs r⟩
  | .ins C ds, v, h => by
    unfold Rep at h ⊢
    obtain ⟨a, dx, fs, e, s, r⟩ := h
    exact ⟨a, dx, fs, e, x.ins s, RepF.ext x ds fs r⟩
  | .pen, v, h => by
    unfold Rep at h ⊢
    obtain ⟨a, kvs, e, s, p⟩ := h
    rcases x.at_ _ _ s with s | ⟨_, k', z, _, s, _, p'⟩ | ⟨_, z⟩
    · exact ⟨a, kvs, e, s, x.penAt p⟩
    · exact ⟨a, k', e, s, p'⟩
    · cases z
  | .exc c ds, v, h => by
    unfold Rep at h ⊢
    obtain ⟨a, oe, od, e, m, z, d, q⟩ := h
    refine ⟨a, oe, od, e, m, z, d, q.imp id ?_⟩
    rintro ⟨dd, fs, e1, e2, r⟩
    exact ⟨dd, fs, e1, x.xd e2, RepF.ext x.bare ds fs r⟩
theorem Reps.ext {K : KC} (x : Ext K H H') : ∀ (ds : List D) (vs : List V), Reps K H vs ds → Reps K H' vs ds
  | [], _, h => by simpa [Reps] using h
  | d :: ds, vs, h => by
    unfold Reps at h ⊢
    obtain ⟨v, r, e, h1, h2⟩ := h
    exact ⟨v, r, e, Rep.ext x d v h1, Reps.ext x ds r h2⟩
theorem RepK.ext {K : KC} (x : Ext K H H') : ∀ (ds : List (Key × D)) (vs : List (Key × V)), RepK K H vs ds → RepK K H' vs ds
  | [], _, h => by simpa [RepK] using h
  | (k, d) :: ds, vs, h => by
    unfold RepK at h ⊢
    obtain ⟨v, r, e, h1, h2⟩ := h
    exact ⟨v, r, e, Rep.ext x d v h1, RepK.ext x ds r h2⟩
theorem RepF.ext {K : KC} (x : Ext K H H') : ∀ (ds : List (Str × D)) (vs : List (Str × V)), RepF K H vs ds → RepF K H' vs ds
  | [], _, h => by simpa [RepF] using h
  | (k, d) :: ds, vs, h => by
    unfold RepF at h ⊢
    obtain ⟨v, r, e, h1, h2⟩ := h
    exact ⟨v, r, e, Rep.ext x d v h1, RepF.ext x ds r h2⟩
end
end

/-! ### two heaps side by side: what is shared, and the rest -/
def jn (F R : Hp) : Hp := fun a => match F a with
  | some o => some o
  | none => R a
/-- no object in both; the rest holds no tables and no code -/
def NT : HO → Prop
  | .tbl _ => False
  | .ext _ => False
  | _ => True
structure Dj (F R : Hp) : Prop where
  dj : ∀ a o, F a = some o → R a = none
  nt : ∀ a o, R a = some o → NT o
instance {F R : Hp} : CoeFun (Dj F R) (fun _ => ∀ a o, F a = some o → R a = none) := ⟨Dj.dj⟩
section
variable {K : KC} {F F' R : Hp} {a : Addr} {o : HO}
theorem jn_l (h : F a = some o) : jn F R a = some o := by unfold jn; rw [h]
theorem jn_r (h : F a = none) : jn F R a = R a := by unfold jn; rw [h]
theorem jn_none (h : jn F R a = none) : F a = none ∧ R a = none := by
  unfold jn at h
  cases e : F a with
  | none => rw [e] at h; exact ⟨rfl, h⟩
  | some o => rw [e] at h; cases h
theorem jn_of_r (dj : Dj F R) (h : R a = some o) : F a = none ∧ jn F R a = some o := by
  have e : F a = none := by
    cases e : F a with
    | none => rfl
    | some u => have := dj _ _ e; rw [h] at this; cases this
  exact ⟨e, (jn_r e).trans h⟩
/-- a new object, shared -/
theorem jn_newF (h : jn F R a = none) : upd (jn F R) a o = jn (upd F a o) R := by
  funext b
  by_cases hb : b = a
  · subst hb; rw [upd_same]; exact (jn_l upd_same).symm
  · rw [upd_ne hb]; unfold jn; rw [upd_ne hb]
theorem Dj.newF (dj : Dj F R) (h : jn F R a = none) : Dj (upd F a o) R := ⟨fun b u e => by
  by_cases hb : b = a
  · subst hb; exact (jn_none h).2
  · rw [upd_ne hb] at e; exact dj b u e, dj.nt⟩
theorem Ext.of (h : ∀ b u, F b = some u → F' b = some u) : Ext K F F' := ⟨fun b u e => .inl (h b u e), fun t => t.ext h⟩
theorem Ext.newF (h : jn F R a = none) : Ext K F (upd F a o) := .of fun b u e => by
  have : b ≠ a := fun z => by subst z; rw [(jn_none h).1] at e; cases e
  rw [upd_ne this]
  exact e
/-- a new object, of the rest; one of the rest written -/
theorem jn_updR (h : F a = none) : upd (jn F R) a o = jn F (upd R a o) := by
  funext b
  by_cases hb : b = a
  · subst hb; rw [upd_same, jn_r h, upd_same]
  · rw [upd_ne hb]; unfold jn; rw [upd_ne hb]
theorem Dj.updR (dj : Dj F R) (h : F a = none) (ho : NT o := by trivial) : Dj F (upd R a o) := ⟨fun b u e => by
  have : b ≠ a := fun z => by subst z; rw [h] at e; cases e
  rw [upd_ne this]; exact dj b u e, fun b ps e => by
  by_cases hb : b = a
  · subst hb; rw [upd_same] at e; rw [← Option.some.inj e]; exact ho
  · rw [upd_ne hb] at e; exact dj.nt b ps e⟩
def dlt (R : Hp) (a : Addr) : Hp := fun b => if b = a then none else R b
theorem dlt_ne {b : Addr} (h : b ≠ a) : dlt R a b = R b := if_neg h
theorem dlt_same : dlt R a a = none := if_pos rfl
/-- an object of the rest becomes shared -/
theorem jn_move (dj : Dj F R) (h : R a = some o) : jn F R = jn (upd F a o) (dlt R a) := by
  funext b
  by_cases hb : b = a
  · subst hb; rw [jn_l upd_same]; exact (jn_of_r dj h).2
  · unfold jn; rw [upd_ne hb, dlt_ne hb]
theorem Dj.move (dj : Dj F R) (h : R a = some o) : Dj (upd F a o) (dlt R a) := ⟨fun b u e => by
  by_cases hb : b = a
  · subst hb; exact dlt_same
  · rw [upd_ne hb] at e; rw [dlt_ne hb]; exact dj b u e, fun b ps e => by
  by_cases hb : b = a
  · subst hb; rw [dlt_same] at e; cases e
  · rw [dlt_ne hb] at e; exact dj.nt b ps e⟩
theorem Ext.move (dj : Dj F R) (h : R a = some o) : Ext K F (upd F a o) := .of fun b u e => by
  have : b ≠ a := fun z => by subst z; rw [(jn_of_r dj h).1] at e; cases e
  rw [upd_ne this]
  exact e
/-- the rest without the object at p -/
theorem dj_down (np : R a = none) (dj : Dj F (upd R a o)) : F a = none ∧ Dj F R := by
  have n : F a = none := by
    cases e : F a with
    | none => rfl
    | some u =>
      have := dj a u e
      rw [upd_same] at this
      cases this
  refine ⟨n, fun b u e => ?_, fun b ps e => ?_⟩
  · have := dj b u e
    by_cases hb : b = a
    · rw [hb]; exact np
    · rw [upd_ne hb] at this; exact this
  · by_cases hb : b = a
    · rw [hb, np] at e; cases e
    · exact dj.nt b ps (by rw [upd_ne hb]; exact e)
end
end L3
namespace L3
open PySem PySem.Spec L2
open PyProof.Rows hiding St
/-- an exception as data -/
structure XD where
  cls : Str
  fs : List (Str × D)
inductive Sl where
  | emp | val (d : D) | own (ds : List D) | obj (c : Str) (a : Addr) (fs : List (Str × D))
abbrev Env3 := List Sl
/-- what a piece of code gives, over data: the wish of its value, the wish of its exception -/
abbrev RG (α : Type) := Env3 → (α → Prop) → (XD → Prop) → Prop
abbrev RE := RG D
abbrev RT := RG Bool
abbrev RA := RG (List D)

def RepX (K : KC) (H : Hp) (cls : Value) (od : Option Addr) (x : XD) : Prop :=
  cls = .ref (K.cm x.cls) ∧ ((x.fs = [] ∧ od = none) ∨ ∃ dd fs, od = some dd ∧ H dd = some (.xd fs) ∧ RepF K H fs x.fs)
theorem RepX.ext {K : KC} {H H' : Hp} {cls : Value} {od : Option Addr} {x : XD} (h : RepX K H cls od x) (e : Ext K H H') : RepX K H' cls od x := by
  obtain ⟨c, h | ⟨dd, fs, ho, hd, r⟩⟩ := h
  · exact ⟨c, .inl h⟩
  · exact ⟨c, .inr ⟨dd, fs, ho, e.xd hd, RepF.ext e _ _ r⟩⟩

/-- what is shared at a def's entry; what the callers own -/
structure Bs where
  F0 : Hp
  Fr : Hp
  T : List (Addr × Str)
/-- the slots hold what is told of them: shared data, or a list of one's own. B: what is shared at the def's entry, and the callers' own -/
structure Wd (K : KC) (B : Bs) (σ : St) (F R : Hp) (ρ : Env3) : Prop where
  tb : LamX.Tabs K.T F
  ex : Ext K B.F0 F
  fr : ∀ a o, B.Fr a = some o → R a = some o
  dj : Dj F R
  len : σ.length = ρ.length
  val : ∀ (i : Nat) (d : D), ρ[i]? = some (.val d) → ∃ v, σ[i]? = some (some v) ∧ Rep K F v d
  own : ∀ (i : Nat) (ds : List D), ρ[i]? = some (.own ds) → ∃ a vs, σ[i]? = some (some (.ref a)) ∧ R a = some (.lst vs) ∧ Reps K F vs ds ∧ B.Fr a = none
  obj : ∀ (i : Nat) (c : Str) (a : Addr) (fs : List (Str × D)), ρ[i]? = some (.obj c a fs) → i = 0 ∧ ∃ dx ws, σ[i]? = some (some (.ref a)) ∧ R a = some (.ins (K.cm c) dx ws) ∧ R dx = some (.own a) ∧ RepF K F ws fs ∧ B.Fr a = none ∧ B.Fr dx = none
  sep : ∀ (i j : Nat) (a : Addr) (di dj : List D), ρ[i]? = some (.own di) → ρ[j]? = some (.own dj) → σ[i]? = some (some (.ref a)) → σ[j]? = some (some (.ref a)) → i = j
theorem Wd.ext {K : KC} {B : Bs} {σ : St} {F F' R : Hp} {ρ : Env3} (w : Wd K B σ F R ρ) (e : Ext K F F') (dj : Dj F' R) : Wd K B σ F' R ρ where
  tb := e.tab w.tb
  ex := w.ex.trans e
  fr := w.fr
  dj := dj
  len := w.len
  val := fun i d h => let ⟨v, a, b⟩ := w.val i d h; ⟨v, a, Rep.ext e _ _ b⟩
  own := fun i ds h => let ⟨a, vs, p, q, r, n⟩ := w.own i ds h; ⟨a, vs, p, q, Reps.ext e _ _ r, n⟩
  obj := fun i c a fs h => let ⟨z, dx, ws, p, q, r, s, t⟩ := w.obj i c a fs h; ⟨z, dx, ws, p, q, r, RepF.ext e _ _ s, t⟩
  sep := w.sep

/-- what is wanted behind, from F on -/
structure Kont {α β : Type} (rep : Hp → β → α → Prop) (K : KC) (W : WX) (σ : St) (Q : β → Hp → Prop) (F R : Hp) (Q' : α → Prop) (E' : XD → Prop) : Prop where
  ok : ∀ v d F', Ext K F F' → Dj F' R → rep F' v d → Q' d → Q v (jn F' R)
  ex : ∀ x cls od F', Ext K F F' → Dj F' R → RepX K F' cls od x → E' x → W cls od σ (jn F' R)
theorem Kont.ext {α β : Type} {rep : Hp → β → α → Prop} {K : KC} {W : WX} {σ : St} {Q : β → Hp → Prop} {F F1 R : Hp} {Q' : α → Prop} {E' : XD → Prop} (k : Kont rep K W σ Q F R Q' E') (e : Ext K F F1) : Kont rep K W σ Q F1 R Q' E' :=
  ⟨fun v d F' x => k.ok v d F' (e.trans x), fun x cls od F' y => k.ex x cls od F' (e.trans y)⟩

def lf {α β : Type} (rep : Hp → β → α → Prop) (K : KC) (B : Bs) (W : WX) (r : RG α) : St → Hp → (β → Hp → Prop) → Prop := fun σ H Q =>
  ∃ F R ρ Q' E', H = jn F R ∧ Wd K B σ F R ρ ∧ r ρ Q' E' ∧ Kont rep K W σ Q F R Q' E'
abbrev repB : Hp → Bool → Bool → Prop := fun _ b c => b = c
abbrev lE (K : KC) (B : Bs) (W : WX) (r : RE) : TE := lf (Rep K) K B W r
abbrev lT (K : KC) (B : Bs) (W : WX) (r : RT) : TT := lf repB K B W r
abbrev lA (K : KC) (B : Bs) (W : WX) (r : RA) : TA := lf (Reps K) K B W r
abbrev DE (B : Bs) (X : Cx) (W : WX) (e : Expr) (r : RE) : Prop := PE X e (lE (kc B.T X) B W r)
abbrev DT (B : Bs) (X : Cx) (W : WX) (e : Expr) (r : RT) : Prop := PT X e (lT (kc B.T X) B W r)
abbrev DA (B : Bs) (X : Cx) (W : WX) (es : List Expr) (r : RA) : Prop := PA X es (lA (kc B.T X) B W r)
/-- one behind the other -/
def rB {α γ : Type} (a : RG α) (k : α → RG γ) : RG γ := fun ρ Q E => a ρ (fun d => k d ρ Q E) E

theorem lf_then {α β γ δ : Type} {rep : Hp → β → α → Prop} {rep2 : Hp → δ → γ → Prop} {K : KC} {B : Bs} {W : WX} {a : RG α} {k : α → RG γ} {σ : St} {H : Hp} {Q : δ → Hp → Prop} {Z : β → Hp → Prop}
    (h : lf rep2 K B W (rB a k) σ H Q)
    (hz : ∀ v d F R ρ Q' E', Wd K B σ F R ρ → rep F v d → k d ρ Q' E' → Kont rep2 K W σ Q F R Q' E' → Z v (jn F R)) : lf rep K B W a σ H Z := by
  obtain ⟨F, R, ρ, Q', E', rfl, w, r, c⟩ := h
  exact ⟨F, R, ρ, _, E', rfl, w, r, fun v d F' x dj rp q => hz v d F' R ρ Q' E' (w.ext x dj) rp q (c.ext x), c.ex⟩
theorem _root_.L2.PE.imp {X : Cx} {e : Expr} {t t' : TE} (h : PE X e t) (i : ∀ σ H Q, t' σ H Q → t σ H Q) : PE X e t' := ⟨fun pins s σ H Q I q => h.run pins s σ H Q I (i σ H Q q)⟩
theorem _root_.L2.PT.imp {X : Cx} {e : Expr} {t t' : TT} (h : PT X e t) (i : ∀ σ H Q, t' σ H Q → t σ H Q) : PT X e t' := ⟨fun pins s σ H Q I q => h.run pins s σ H Q I (i σ H Q q)⟩
theorem _root_.L2.PW.imp {X : Cx} {e : Expr} {t t' : TT} (h : PW X e t) (i : ∀ σ H Q, t' σ H Q → t σ H Q) : PW X e t' := ⟨fun wh pins s σ H Q I q => h.run wh pins s σ H Q I (i σ H Q q)⟩
theorem _root_.L2.PA.imp {X : Cx} {es : List Expr} {t t' : TA} (h : PA X es t) (i : ∀ σ H Q, t' σ H Q → t σ H Q) : PA X es t' := ⟨fun p pins s σ H Q I q => h.run p pins s σ H Q I (i σ H Q q)⟩
theorem _root_.L2.PS.imp {X : Cx} {st : Stmt} {t t' : TS} (h : PS X st t) (i : ∀ D σ H, t' D σ H → t D σ H) : PS X st t' := ⟨fun pins s σ H D I q => h.run pins s σ H D I (i D σ H q)⟩
theorem _root_.L2.PSs.imp {X : Cx} {st : List Stmt} {t t' : TS} (h : PSs X st t) (i : ∀ D σ H, t' D σ H → t D σ H) : PSs X st t' := ⟨fun pins s σ H D I q => h.run pins s σ H D I (i D σ H q)⟩

section
variable {B : Bs} {X : Cx} {W : WX} {a b c e : Expr} {es rest : List Expr} {ra rb rc re : RE} {rt : RT} {rs : RA} {pos : Pos}
/-! ### names, constants -/
def rVar (i : Nat) : RE := fun ρ Q _ => match ρ[i]? with
  | some (.val d) => Q d
  | _ => False
theorem de_name {x : Str} {i : Nat} (h : PE X (.Name x pos) (tVar i)) : DE B X W (.Name x pos) (rVar i) := h.imp fun σ H Q ⟨F, R, ρ, Q', E', e, w, r, k⟩ => by
  subst e
  unfold rVar at r
  split at r
  · rename_i d hd
    obtain ⟨v, hv, rp⟩ := w.val i d hd
    exact ⟨v, hv, k.ok v d F (.refl _) w.dj rp r⟩
  · exact r.elim
/-- a constant -/
def rC {α : Type} (d : α) : RG α := fun _ Q _ => Q d
theorem de_c {v : V} {d : D} (hr : ∀ H, Rep (kc B.T X) H v d) (h : PE X e (tC v)) : DE B X W e (rC d) := h.imp fun σ H Q ⟨F, R, ρ, Q', E', e, w, r, k⟩ => by
  subst e
  exact k.ok v d F (.refl _) w.dj (hr _) r
theorem de_int {i : Int} {j : Nat} : DE B X W (.Constant (.int i) j pos) (rC (.int i)) := de_c (fun _ => by simp [Rep]) pe_int
theorem de_bl {b : Bool} {j : Nat} : DE B X W (.Constant (.bool b) j pos) (rC (.bl b)) := de_c (fun _ => by simp [Rep]) pe_bl
theorem de_non {j : Nat} : DE B X W (.Constant .none j pos) (rC .non) := de_c (fun _ => by simp [Rep]) pe_non
theorem de_str {x : Str} {j : Nat} : DE B X W (.Constant (.str x) j pos) (rC (.str x)) := de_c (fun _ => by simp [Rep]) pe_str

/-! ### operators -/
abbrev G2 := D → D → (D → Prop) → Prop
abbrev G1 := D → (D → Prop) → Prop
/-- what a wish over data asks of a value that is made -/
structure KV1 (K : KC) (F R : Hp) (Q' : D → Prop) (Q : VK) : Prop where
  ok : ∀ v d F', Ext K F F' → Dj F' R → Rep K F' v d → Q' d → Q v (jn F' R)
theorem Kont.kv {K : KC} {σ : St} {Q : VK} {F R : Hp} {Q' : D → Prop} {E' : XD → Prop} (k : Kont (Rep K) K W σ Q F R Q' E') : KV1 K F R Q' Q := ⟨k.ok⟩
theorem KV1.now {K : KC} {F R : Hp} {Q' : D → Prop} {Q : VK} (k : KV1 K F R Q' Q) {v : V} {d : D} (dj : Dj F R) (r : Rep K F v d) (q : Q' d) : Q v (jn F R) := k.ok v d F (.refl _) dj r q
def l2 (K : KC) (g : G2) : R2 := fun x y H Q => ∃ F R d e Q', H = jn F R ∧ Dj F R ∧ Rep K F x d ∧ Rep K F y e ∧ g d e Q' ∧ KV1 K F R Q' Q
def l1 (K : KC) (g : G1) : V → Hp → VK → Prop := fun x H Q => ∃ F R d Q', H = jn F R ∧ Dj F R ∧ Rep K F x d ∧ g d Q' ∧ KV1 K F R Q' Q
abbrev Op2 (X : Cx) (f : Value → Value → Sem Value) (g : G2) : Prop := ∀ T, OpR X f (l2 (kc T X) g)
def rOp (g : G2) (ra rb : RE) : RE := fun ρ Q E => ra ρ (fun d => rb ρ (fun e => g d e Q) E) E
def rUn (g : G1) (ra : RE) : RE := fun ρ Q E => ra ρ (fun d => g d Q) E
theorem lE_op {K : KC} {g : G2} {σ : St} {H : Hp} {Q : VK} (h : lE K B W (rOp g ra rb) σ H Q) : tOp (l2 K g) (lE K B W ra) (lE K B W rb) σ H Q := by
  refine lf_then (k := fun d ρ Q E => rb ρ (fun e => g d e Q) E) h fun v d F R ρ Q' E' w rv q k => ?_
  refine ⟨F, R, ρ, _, E', rfl, w, q, fun u e F' x dj ru q2 => ?_, k.ex⟩
  exact ⟨F', R, d, e, Q', rfl, dj, Rep.ext x _ _ rv, ru, q2, (k.ext x).kv⟩
theorem de_op {op : Operator} {g : G2} (ho : Op2 X (binaryOp op) g) (ha : DE B X W a ra) (hb : DE B X W b rb) : DE B X W (.BinOp a op b pos) (rOp g ra rb) := (pe_op (ho B.T) ha hb).imp fun _ _ _ h => lE_op h
theorem de_cmp {op : CmpOp} {g : G2} (ho : Op2 X (compareOp op) g) (ha : DE B X W a ra) (hb : DE B X W b rb) (hm : behindInMarks op b = false) : DE B X W (.Compare a [op] [b] pos) (rOp g ra rb) :=
  (pe_cmpR (ho B.T) ha hb hm).imp fun _ _ _ h => lE_op h
theorem de_un {op : UnaryOp} {g : G1} (ho : UnR X (unaryOp op) (l1 (kc B.T X) g)) (ha : DE B X W a ra) : DE B X W (.UnaryOp op a pos) (rUn g ra) := (pe_un ho ha).imp fun σ H Q h => by
  refine lf_then (k := fun d _ Q _ => g d Q) h fun v d F R ρ Q' E' w rv q k => ?_
  exact ⟨F, R, d, Q', rfl, w.dj, rv, q, k.kv⟩
/-! ### tests -/
/-- a value that is a bool -/
def toB (Q : Bool → Prop) : D → Prop
  | .bl b => Q b
  | _ => False
def rTV (ra : RE) : RT := fun ρ Q E => ra ρ (toB Q) E
theorem dt_val (h : DE B X W e ra) (he : ∀ whole, isTrue e X.env whole = (do let v ← whole; standAt e.pos; holding [v] (truthy v)) := by intro _; rfl) : DT B X W e (rTV ra) := (pt_val h he).imp fun σ H Q ⟨F, R, ρ, Q', E', e, w, r, k⟩ => by
  subst e
  refine ⟨F, R, ρ, _, E', rfl, w, r, fun v d F' x dj rv q => ?_, k.ex⟩
  cases d with
  | bl b => exact ⟨b, by simpa [Rep] using rv, k.ok b b F' x dj rfl q⟩
  | _ => exact (show False from q).elim
theorem dt_cmp {op : CmpOp} {g : G2} (ho : Op2 X (compareOp op) g) (ha : DE B X W a ra) (hb : DE B X W b rb) (hm : behindInMarks op b = false) : DT B X W (.Compare a [op] [b] pos) (rTV (rOp g ra rb)) :=
  (pt_cmpR (ho B.T) ha hb hm).imp fun σ H Q ⟨F, R, ρ, Q', E', e, w, r, k⟩ => by
    subst e
    show tOp (l2 (kc B.T X) g) (lE (kc B.T X) B W ra) (lE (kc B.T X) B W rb) σ _ _
    refine lE_op ⟨F, R, ρ, _, E', rfl, w, r, fun v d F' x dj rv q => ?_, k.ex⟩
    cases d with
    | bl b => exact ⟨b, by simpa [Rep] using rv, k.ok b b F' x dj rfl q⟩
    | _ => exact (show False from q).elim
def rNot (t : RT) : RT := fun ρ Q E => t ρ (fun b => Q (!b)) E
def rAnd (t u : RT) : RT := fun ρ Q E => t ρ (fun b => match b with | true => u ρ Q E | false => Q false) E
def rOr (t u : RT) : RT := fun ρ Q E => t ρ (fun b => match b with | true => Q true | false => u ρ Q E) E
theorem dt_not (h : DT B X W a rt) : DT B X W (.UnaryOp .Not a pos) (rNot rt) := (pt_not h).imp fun σ H Q ⟨F, R, ρ, Q', E', e, w, r, k⟩ => by
  subst e
  exact ⟨F, R, ρ, _, E', rfl, w, r, fun v d F' x dj rv q => k.ok (!v) (!d) F' x dj (congrArg _ rv) q, k.ex⟩
abbrev DW (B : Bs) (X : Cx) (W : WX) (e : Expr) (r : RT) : Prop := PW X e (lT (kc B.T X) B W r)
variable {ta tb : RT}
theorem dw_and1 (ha : DT B X W a ta) : DW B X W (.BoolOp .And [a] pos) ta := pw_and1 ha
theorem dw_or1 (ha : DT B X W a ta) : DW B X W (.BoolOp .Or [a] pos) ta := pw_or1 ha
theorem dw_and (ha : DT B X W a ta) (hb : DW B X W (.BoolOp .And (b :: rest) pos) tb) : DW B X W (.BoolOp .And (a :: b :: rest) pos) (rAnd ta tb) := (pw_and ha hb).imp fun σ H Q ⟨F, R, ρ, Q', E', e, w, r, k⟩ => by
  subst e
  refine ⟨F, R, ρ, _, E', rfl, w, r, fun v d F' x dj rv q => ?_, k.ex⟩
  cases rv
  cases v with
  | true => exact ⟨F', R, ρ, Q', E', rfl, w.ext x dj, q, k.ext x⟩
  | false => exact k.ok false false F' x dj rfl q
theorem dw_or (ha : DT B X W a ta) (hb : DW B X W (.BoolOp .Or (b :: rest) pos) tb) : DW B X W (.BoolOp .Or (a :: b :: rest) pos) (rOr ta tb) := (pw_or ha hb).imp fun σ H Q ⟨F, R, ρ, Q', E', e, w, r, k⟩ => by
  subst e
  refine ⟨F, R, ρ, _, E', rfl, w, r, fun v d F' x dj rv q => ?_, k.ex⟩
  cases rv
  cases v with
  | false => exact ⟨F', R, ρ, Q', E', rfl, w.ext x dj, q, k.ext x⟩
  | true => exact k.ok true true F' x dj rfl q
theorem dt_w (h : DW B X W e rt) : DT B X W e rt := PW.pt h
/-- a if c else b -/
def rIte {α : Type} (t : RT) (a b : RG α) : RG α := fun ρ Q E => t ρ (fun c => match c with | true => a ρ Q E | false => b ρ Q E) E
theorem de_ite (hc : DT B X W c rt) (ha : DE B X W a ra) (hb : DE B X W b rb) : DE B X W (.IfExp c a b pos) (rIte rt ra rb) := (pe_ifExp hc ha hb).imp fun σ H Q ⟨F, R, ρ, Q', E', e, w, r, k⟩ => by
  subst e
  refine ⟨F, R, ρ, _, E', rfl, w, r, fun v d F' x dj rv q => ?_, k.ex⟩
  cases rv
  cases v with
  | true => exact ⟨F', R, ρ, Q', E', rfl, w.ext x dj, q, k.ext x⟩
  | false => exact ⟨F', R, ρ, Q', E', rfl, w.ext x dj, q, k.ext x⟩
/-- and, or, not as values -/
def rAndV (a b : RE) : RE := fun ρ Q E => a ρ (toB fun c => match c with | true => b ρ Q E | false => Q (.bl false)) E
def rOrV (a b : RE) : RE := fun ρ Q E => a ρ (toB fun c => match c with | true => Q (.bl true) | false => b ρ Q E) E
def rNotV (a : RE) : RE := fun ρ Q E => a ρ (toB fun c => Q (.bl (!c))) E
theorem de_one {op : BoolOp} (h : DE B X W a ra) : DE B X W (.BoolOp op [a] pos) ra := pe_one h
theorem de_and (ha : DE B X W a ra) (hb : DE B X W (.BoolOp .And (b :: rest) pos) rb) : DE B X W (.BoolOp .And (a :: b :: rest) pos) (rAndV ra rb) := (pe_and ha hb).imp fun σ H Q ⟨F, R, ρ, Q', E', e, w, r, k⟩ => by
  subst e
  refine ⟨F, R, ρ, _, E', rfl, w, r, fun v d F' x dj rv q => ?_, k.ex⟩
  cases d with
  | bl c =>
    refine ⟨c, by simpa [Rep] using rv, ?_⟩
    cases c with
    | true => exact ⟨F', R, ρ, Q', E', rfl, w.ext x dj, q, k.ext x⟩
    | false => exact k.ok _ _ F' x dj (by simp [Rep]) q
  | _ => exact (show False from q).elim
theorem de_or (ha : DE B X W a ra) (hb : DE B X W (.BoolOp .Or (b :: rest) pos) rb) : DE B X W (.BoolOp .Or (a :: b :: rest) pos) (rOrV ra rb) := (pe_or ha hb).imp fun σ H Q ⟨F, R, ρ, Q', E', e, w, r, k⟩ => by
  subst e
  refine ⟨F, R, ρ, _, E', rfl, w, r, fun v d F' x dj rv q => ?_, k.ex⟩
  cases d with
  | bl c =>
    refine ⟨c, by simpa [Rep] using rv, ?_⟩
    cases c with
    | false => exact ⟨F', R, ρ, Q', E', rfl, w.ext x dj, q, k.ext x⟩
    | true => exact k.ok _ _ F' x dj (by simp [Rep]) q
  | _ => exact (show False from q).elim
theorem de_not (ha : DE B X W a ra) : DE B X W (.UnaryOp .Not a pos) (rNotV ra) := (pe_not ha).imp fun σ H Q ⟨F, R, ρ, Q', E', e, w, r, k⟩ => by
  subst e
  refine ⟨F, R, ρ, _, E', rfl, w, r, fun v d F' x dj rv q => ?_, k.ex⟩
  cases d with
  | bl c => exact ⟨c, by simpa [Rep] using rv, k.ok _ _ F' x dj (by simp [Rep]) q⟩
  | _ => exact (show False from q).elim
/-! ### argument lists, displays -/
def rNil : RA := fun _ Q _ => Q []
def rCons (ra : RE) (rs : RA) : RA := fun ρ Q E => ra ρ (fun d => rs ρ (fun ds => Q (d :: ds)) E) E
theorem da_nil : DA B X W [] rNil := pa_nil.imp fun σ H Q ⟨F, R, ρ, Q', E', e, w, r, k⟩ => by
  subst e
  exact k.ok [] [] F (.refl _) w.dj (by simp [Reps]) r
theorem Reps.cons {K : KC} {F : Hp} {v : V} {vs : List V} {d : D} {ds : List D} (h : Rep K F v d) (hs : Reps K F vs ds) : Reps K F (v :: vs) (d :: ds) := by
  unfold Reps
  exact ⟨v, vs, rfl, h, hs⟩
theorem da_cons (ha : DE B X W e re) (hr : DA B X W es rs) (hs : starEach (e :: es) X.env = (false, eval e X.env) :: starEach es X.env := by rfl) : DA B X W (e :: es) (rCons re rs) := (pa_cons ha hr hs).imp fun σ H Q h => by
  refine lf_then (k := fun d ρ Q E => rs ρ (fun ds => Q (d :: ds)) E) h fun v d F R ρ Q' E' w rv q k => ?_
  exact ⟨F, R, ρ, _, E', rfl, w, q, fun u e F' x dj ru q2 => k.ok _ _ F' x dj (Reps.cons (Rep.ext x _ _ rv) ru) q2, k.ex⟩
theorem Reps.length {K : KC} {F : Hp} : ∀ {ds : List D} {vs : List V}, Reps K F vs ds → vs.length = ds.length
  | [], _, h => by
    unfold Reps at h
    rw [h]
    rfl
  | d :: ds, _, h => by
    unfold Reps at h
    obtain ⟨v, r, rfl, _, h2⟩ := h
    rw [List.length_cons, List.length_cons, Reps.length h2]
def rTup (rs : RA) : RE := fun ρ Q E => rs ρ (fun ds => ds.length ≤ sizeLine ∧ Q (.tup ds)) E
theorem KV1.tup {K : KC} {F R : Hp} {Q' : D → Prop} {Q : VK} (k : KV1 K F R Q' Q) {vs : List V} {ds : List D} (dj : Dj F R) (r : Reps K F vs ds) (q : Q' (.tup ds)) {p : Addr} (hp : jn F R p = none) : Q (.ref p) (upd (jn F R) p (.tup vs)) := by
  rw [jn_newF hp]
  have e : Ext K F (upd F p (.tup vs)) := Ext.newF hp
  refine k.ok _ (.tup ds) _ e (dj.newF hp) ?_ q
  unfold Rep
  exact ⟨p, vs, rfl, upd_same, Reps.ext e _ _ r⟩
theorem KV1.lst {K : KC} {F R : Hp} {Q' : D → Prop} {Q : VK} (k : KV1 K F R Q' Q) {vs : List V} {ds : List D} (dj : Dj F R) (r : Reps K F vs ds) (q : Q' (.lst ds)) {p : Addr} (hp : jn F R p = none) : Q (.ref p) (upd (jn F R) p (.lst vs)) := by
  rw [jn_newF hp]
  have e : Ext K F (upd F p (.lst vs)) := Ext.newF hp
  refine k.ok _ (.lst ds) _ e (dj.newF hp) ?_ q
  unfold Rep
  exact ⟨p, vs, rfl, upd_same, Reps.ext e _ _ r⟩
theorem de_tup {x1 : Nat} (h : DA B X W es rs) : DE B X W (.Tuple es x1 pos) (rTup rs) := (pe_tup h).imp fun σ H Q ⟨F, R, ρ, Q', E', e, w, r, k⟩ => by
  subst e
  refine ⟨F, R, ρ, _, E', rfl, w, r, fun vs ds F' x dj rv q => ?_, k.ex⟩
  exact ⟨by rw [rv.length]; exact q.1, fun p hp => (k.ext x).kv.tup dj rv q.2 hp⟩
/-! ### new lists -/
/-- a piece of code that gives a new list: wanted of its items -/
def lL (K : KC) (B : Bs) (W : WX) (r : RA) : TE := fun σ H Q =>
  ∃ F R ρ Q' E', H = jn F R ∧ Wd K B σ F R ρ ∧ r ρ Q' E' ∧ (∀ p vs ds F', Ext K F F' → Dj F' R → Reps K F' vs ds → vs.length ≤ sizeLine → Q' ds → jn F' R p = none → Q (.ref p) (upd (jn F' R) p (.lst vs))) ∧
    ∀ x cls od F', Ext K F F' → Dj F' R → RepX K F' cls od x → E' x → W cls od σ (jn F' R)
abbrev FE (B : Bs) (X : Cx) (W : WX) (e : Expr) (r : RA) : Prop := PE X e (lL (kc B.T X) B W r)
def rL (rs : RA) : RE := fun ρ Q E => rs ρ (fun ds => Q (.lst ds)) E
/-- .. shared from the start -/
theorem de_new (h : FE B X W e rs) : DE B X W e (rL rs) := PE.imp h fun σ H Q ⟨F, R, ρ, Q', E', e, w, r, k⟩ => by
  subst e
  refine ⟨F, R, ρ, _, E', rfl, w, r, fun p vs ds F' x dj rv _ q hp => ?_, k.ex⟩
  exact (k.ext x).kv.lst dj rv q hp
def rLst (rs : RA) : RA := fun ρ Q E => rs ρ (fun ds => ds.length ≤ sizeLine ∧ Q ds) E
theorem fe_lst (h : DA B X W es rs) : FE B X W (.List es pos) (rLst rs) := (pe_lst h).imp fun σ H Q ⟨F, R, ρ, Q', E', e, w, r, kk, kx⟩ => by
  subst e
  refine ⟨F, R, ρ, _, E', rfl, w, r, fun vs ds F' x dj rv q => ?_, kx⟩
  exact ⟨by rw [rv.length]; exact q.1, fun p hp => kk p vs ds F' x dj rv (by rw [rv.length]; exact q.1) q.2 hp⟩
end
end L3
namespace L3
open PySem PySem.Spec L2
open PyProof.Rows hiding St
theorem tupMulOne (p : Addr) (its : Array Value) (nn : Nat) (dd : Option Addr) (sl : Array (Option Value)) (x : Int) (u : Tok) (cA : (decide (x < -(2 ^ 63)) || decide (x ≥ 2 ^ 63)) = false) (cB : (its.isEmpty || x == 1) = true) :
    Meets (Builtin.«tuple.__mul__» ⟨[.ref p, .int x u], []⟩) (fun _ R s => s.heap.get? p = some { cls := .type "tuple", dict := dd, data := .seq its nn, slots := sl } ∧ R (.ok (.ret (Value.ref p))) s) :=
  .of_wp fun prog w A R s hh => by
    obtain ⟨h0, g0, d0, k0, o0⟩ := s
    obtain ⟨at0, h⟩ := hh
    have f1 := AutoSeq1.idx_int
    wp_walk using wpAny_loadPart' at0
    repeat (first
      | (refine wpAny_ite_false (decide_eq_false (by rw [cA]; exact Bool.false_ne_true)) ?_; wp_walk using wpAny_loadPart' at0)
      | (refine wpAny_ite_true (decide_eq_true (by rw [cB])) ?_; wp_walk using wpAny_loadPart' at0))
    exact ⟨_, rfl, h⟩
theorem tupMulNone (p : Addr) (its : Array Value) (nn : Nat) (dd : Option Addr) (sl : Array (Option Value)) (x : Int) (u : Tok) (cA : (decide (x < -(2 ^ 63)) || decide (x ≥ 2 ^ 63)) = false) (cB : (its.isEmpty || x == 1) = false) (cC : (decide (x ≤ 0) || its.isEmpty) = true) :
    Meets (Builtin.«tuple.__mul__» ⟨[.ref p, .int x u], []⟩) (fun _ R s => s.heap.get? p = some { cls := .type "tuple", dict := dd, data := .seq its nn, slots := sl } ∧ R (.ok (.ret (Value.ref s.heap.objs.size))) { s with heap := s.heap.push { cls := Value.type "tuple", data := Data.seq #[] } }) :=
  .of_wp fun prog w A R s hh => by
    obtain ⟨h0, g0, d0, k0, o0⟩ := s
    obtain ⟨at0, h⟩ := hh
    have f1 := AutoSeq1.idx_int
    wp_walk using wpAny_loadPart' at0
    repeat (first
      | (refine wpAny_ite_false (decide_eq_false (by rw [cA]; exact Bool.false_ne_true)) ?_; wp_walk using wpAny_loadPart' at0)
      | (refine wpAny_ite_false (decide_eq_false (by rw [cB]; exact Bool.false_ne_true)) ?_; wp_walk using wpAny_loadPart' at0)
      | (refine wpAny_ite_true (decide_eq_true (by rw [cC])) ?_; wp_walk using wpAny_loadPart' at0))
    exact ⟨_, rfl, h⟩
def rRepSm (K : PySem.W.Frag) : R2 := fun x y H Q => ∃ p k xs, x = .ref p ∧ y = .int k ∧ SqT K H p xs ∧ xs ≠ [] ∧ ((k = 1 ∧ Q (.ref p) H) ∨ (k ≤ 0 ∧ -1000 ≤ k ∧ ∀ q, H q = none → Q (.ref q) (upd H q (.tup []))))
section
variable {X : Cx}
theorem op_repSm : OpR X (binaryOp .Mult) (rRepSm X.K) := fun pins s σ H x y v u Q I rx ry ⟨p, k, xs, ex, ey, hT, hne, hq⟩ => by
  subst ex ey
  cases rx
  obtain ⟨t, rfl⟩ := ry
  obtain ⟨zs, r, ⟨⟨cls, dd, data, sl⟩, hat, hc, n, hd⟩, hs⟩ := I.tuple hT
  dsimp only at hc hd
  subst hc hd
  have hi : zs.toArray.isEmpty = false := by
    cases zs with
    | nil => cases r; exact absurd rfl hne
    | cons a b => rfl
  have cA : (decide (k < -(2 ^ 63)) || decide (k ≥ 2 ^ 63)) = false := by
    rcases hq with ⟨rfl, _⟩ | ⟨h1, h2, _⟩
    · decide
    · rw [decide_eq_false (by omega), decide_eq_false (by omega)] <;> rfl
  refine wpAny_binaryOp_repeat_ref (T := "tuple") (U := "int") (by decide) ⟨_, hat, rfl⟩ (fun s' => typeIs_int s' k t) noFill_tuple_mul F.fills_int_mul F.slot_int_rmul repeat_tuple F.slot_int_index.lookup
    (call_meets F.slot_int_rmul (typeIs_int s k t) F.entry_int_rmul (F.args_int_rmul_2 _ _) (int_rmul_tuple k t p zs.toArray n dd sl) ⟨hat, rfl, ⟨_, hat, rfl⟩, ?_⟩)
  rcases hq with ⟨rfl, q⟩ | ⟨h1, h2, q⟩
  · exact call_meets F.slot_tuple_mul ⟨_, hat, rfl⟩ F.entry_tuple_mul (F.args_tuple_mul_2 _ _) (tupMulOne p zs.toArray n dd sl 1 t cA (by rw [hi]; rfl)) ⟨hat, ⟨.ref p, H, I, rfl, q⟩⟩
  · refine call_meets F.slot_tuple_mul ⟨_, hat, rfl⟩ F.entry_tuple_mul (F.args_tuple_mul_2 _ _) (tupMulNone p zs.toArray n dd sl k t cA (by rw [hi, Bool.false_or]; exact beq_eq_false_iff_ne.mpr (by omega)) (by rw [decide_eq_true h1]; rfl)) ⟨hat, ?_⟩
    exact ⟨.ref s.heap.objs.size, _, I.laid (t' := s.toks) (o := .tup []) (fun b ob e => Heap.get?_push_of_some _ e) (Nat.le_refl _) ⟨Nat.zero_le _, [], .nil, IsTup.new _ _⟩, rfl, q _ (I.hok.fresh (Nat.le_refl _))⟩
end
end L3
namespace L3
open PySem PySem.Spec L2
open PyProof.Rows hiding St
/-! ### what data are, by their values -/
section
variable {K : KC} {F : Hp} {v : V}
theorem rep_int {i : Int} (h : Rep K F v (.int i)) : v = .int i := by simpa [Rep] using h
theorem rep_bl {b : Bool} (h : Rep K F v (.bl b)) : v = .bl b := by simpa [Rep] using h
theorem rep_str {x : Str} (h : Rep K F v (.str x)) : v = .str x := by simpa [Rep] using h
theorem rep_non (h : Rep K F v .non) : v = .non := by simpa [Rep] using h
theorem rep_tup {ds : List D} (h : Rep K F v (.tup ds)) : ∃ a vs, v = .ref a ∧ F a = some (.tup vs) ∧ Reps K F vs ds := by unfold Rep at h; exact h
theorem rep_lst {ds : List D} (h : Rep K F v (.lst ds)) : ∃ a vs, v = .ref a ∧ F a = some (.lst vs) ∧ Reps K F vs ds := by unfold Rep at h; exact h
theorem rep_scr {xs : List Int} (h : Rep K F v (.scr xs)) : ∃ a, v = .ref a ∧ SqL K.K F a (xs.map V.int) := by unfold Rep at h; exact h
theorem of_int (i : Int) : Rep K F (.int i) (.int i) := by unfold Rep; rfl
theorem of_bl (b : Bool) : Rep K F (.bl b) (.bl b) := by unfold Rep; rfl
theorem of_str (x : Str) : Rep K F (.str x) (.str x) := by unfold Rep; rfl
theorem of_non : Rep K F .non .non := by unfold Rep; rfl
theorem of_tup {a : Addr} {vs : List V} {ds : List D} (h : F a = some (.tup vs)) (r : Reps K F vs ds) : Rep K F (.ref a) (.tup ds) := by unfold Rep; exact ⟨a, vs, rfl, h, r⟩
theorem of_lst {a : Addr} {vs : List V} {ds : List D} (h : F a = some (.lst vs)) (r : Reps K F vs ds) : Rep K F (.ref a) (.lst ds) := by unfold Rep; exact ⟨a, vs, rfl, h, r⟩
theorem sq_l {R : Hp} {a : Addr} {vs : List V} (h : F a = some (.lst vs)) : SqL K.K (jn F R) a vs := .of (jn_l h)
theorem sq_t {R : Hp} {a : Addr} {vs : List V} (h : F a = some (.tup vs)) : SqT K.K (jn F R) a vs := .of (jn_l h)
theorem sq_s {R : Hp} {a : Addr} {vs : List V} (h : SqL K.K F a vs) : SqL K.K (jn F R) a vs := by
  rcases (h) with (h | ⟨o, h⟩) | h
  · exact .inl (.inl (jn_l h))
  · exact .inl (.inr ⟨o, jn_l h⟩)
  · exact .inr h
theorem Reps.nil : Reps K F [] [] := by unfold Reps; rfl
theorem reps_nil {vs : List V} (h : Reps K F vs []) : vs = [] := by unfold Reps at h; exact h
theorem reps_cons {vs : List V} {d : D} {ds : List D} (h : Reps K F vs (d :: ds)) : ∃ v r, vs = v :: r ∧ Rep K F v d ∧ Reps K F r ds := by unfold Reps at h; exact h
theorem Reps.append : ∀ {ds : List D} {vs : List V} {ws : List V} {es : List D}, Reps K F vs ds → Reps K F ws es → Reps K F (vs ++ ws) (ds ++ es)
  | [], _, _, _, h, g => by rw [reps_nil h]; exact g
  | d :: ds, _, _, _, h, g => by
    obtain ⟨v, r, rfl, h1, h2⟩ := reps_cons h
    exact Reps.cons h1 (Reps.append h2 g)
theorem Reps.take : ∀ {ds : List D} {vs : List V} (n : Nat), Reps K F vs ds → Reps K F (vs.take n) (ds.take n)
  | _, _, 0, _ => by simpa using Reps.nil
  | [], _, n + 1, h => by rw [reps_nil h]; simpa using Reps.nil
  | d :: ds, _, n + 1, h => by
    obtain ⟨v, r, rfl, h1, h2⟩ := reps_cons h
    exact Reps.cons h1 (Reps.take n h2)
theorem Reps.drop : ∀ {ds : List D} {vs : List V} (n : Nat), Reps K F vs ds → Reps K F (vs.drop n) (ds.drop n)
  | _, _, 0, h => by simpa using h
  | [], _, n + 1, h => by rw [reps_nil h]; simpa using Reps.nil
  | d :: ds, _, n + 1, h => by
    obtain ⟨v, r, rfl, h1, h2⟩ := reps_cons h
    exact Reps.drop n h2
theorem Reps.get : ∀ {ds : List D} {vs : List V} {n : Nat} {d : D}, Reps K F vs ds → ds[n]? = some d → ∃ v, vs[n]? = some v ∧ Rep K F v d
  | [], _, _, _, _, e => by simp at e
  | d :: ds, _, 0, _, h, e => by
    obtain ⟨v, r, rfl, h1, h2⟩ := reps_cons h
    simp at e
    subst e
    exact ⟨v, rfl, h1⟩
  | d :: ds, _, n + 1, _, h, e => by
    obtain ⟨v, r, rfl, h1, h2⟩ := reps_cons h
    exact by simpa using Reps.get (n := n) h2 (by simpa using e)
theorem Reps.getV : ∀ {ds : List D} {vs : List V} {n : Nat} {v : V}, Reps K F vs ds → vs[n]? = some v → ∃ d, ds[n]? = some d ∧ Rep K F v d
  | [], _, _, _, h, e => by rw [reps_nil h] at e; simp at e
  | d :: ds, _, 0, _, h, e => by
    obtain ⟨v, r, rfl, h1, h2⟩ := reps_cons h
    simp at e
    subst e
    exact ⟨d, rfl, h1⟩
  | d :: ds, _, n + 1, _, h, e => by
    obtain ⟨v, r, rfl, h1, h2⟩ := reps_cons h
    exact by simpa using Reps.getV (n := n) h2 (by simpa using e)
theorem Reps.set : ∀ {ds : List D} {vs : List V} {d : D} {v : V} (n : Nat), Reps K F vs ds → Rep K F v d → Reps K F (vs.set n v) (ds.set n d)
  | [], _, _, _, _, h, _ => by rw [reps_nil h]; simpa using Reps.nil
  | d :: ds, _, _, _, 0, h, g => by
    obtain ⟨v, r, rfl, h1, h2⟩ := reps_cons h
    exact Reps.cons g h2
  | d :: ds, _, _, _, n + 1, h, g => by
    obtain ⟨v, r, rfl, h1, h2⟩ := reps_cons h
    exact Reps.cons h1 (Reps.set n h2 g)
theorem Reps.eraseIdx : ∀ {ds : List D} {vs : List V} (n : Nat), Reps K F vs ds → Reps K F (vs.eraseIdx n) (ds.eraseIdx n)
  | [], _, _, h => by rw [reps_nil h]; simpa using Reps.nil
  | d :: ds, _, 0, h => by
    obtain ⟨v, r, rfl, h1, h2⟩ := reps_cons h
    exact h2
  | d :: ds, _, n + 1, h => by
    obtain ⟨v, r, rfl, h1, h2⟩ := reps_cons h
    exact Reps.cons h1 (Reps.eraseIdx n h2)
theorem Reps.reverse {ds : List D} {vs : List V} (h : Reps K F vs ds) : Reps K F vs.reverse ds.reverse := by
  induction ds generalizing vs with
  | nil => rw [reps_nil h]; simpa using Reps.nil
  | cons d ds ih =>
    obtain ⟨v, r, rfl, h1, h2⟩ := reps_cons h
    rw [(List.reverse_cons), List.reverse_cons]
    exact Reps.append (ih h2) (Reps.cons h1 Reps.nil)
theorem reps_ints {ns : List Int} : Reps K F (ns.map V.int) (ns.map D.int) := by
  induction ns with
  | nil => exact Reps.nil
  | cons n ns ih => exact Reps.cons (of_int n) ih
end
/-! ### == of data -/
mutual
def pyD : D → PyData
  | .non => .none | .bl b => .bool b | .int i => .int i | .str x => .str x
  | .tup ds => .tuple (pyDs ds) | .lst ds => .list (pyDs ds)
  | .scr xs => .list (xs.map PyData.int)
  | _ => .dict []
def pyDs : List D → List PyData
  | [] => []
  | d :: ds => pyD d :: pyDs ds
end
mutual
theorem dp_of {K : KC} {F R : Hp} : ∀ (d : D) (v : V), Rep K F v d → (pyD d).canLay0 = true → Dp K.K (jn F R) v (pyD d)
  | .non, v, h, _ => by rw [rep_non h]; exact .non
  | .bl b, v, h, _ => by rw [rep_bl h]; exact .bl b
  | .int i, v, h, _ => by rw [rep_int h]; exact .int i
  | .str x, v, h, _ => by rw [rep_str h]; exact .str x
  | .tup ds, v, h, c => by
    obtain ⟨a, vs, rfl, s, r⟩ := rep_tup h
    exact .tup (sq_t s) (dps_of ds vs r (by simpa [pyD, PyData.canLay0] using c))
  | .lst ds, v, h, c => by
    obtain ⟨a, vs, rfl, s, r⟩ := rep_lst h
    exact .lst (sq_l s) (dps_of ds vs r (by simpa [pyD, PyData.canLay0] using c))
  | .scr xs, v, h, c => by
    obtain ⟨a, rfl, s⟩ := rep_scr h
    refine .lst (sq_s s) ?_
    clear s h c
    induction xs with
    | nil => exact .nil
    | cons x xs ih => exact .cons (.int x) ih
  | .dct _, _, _, c => by simp [pyD, PyData.canLay0] at c
  | .ins _ _, _, _, c => by simp [pyD, PyData.canLay0] at c
  | .pen, _, _, c => by simp [pyD, PyData.canLay0] at c
  | .exc _ _, _, _, c => by simp [pyD, PyData.canLay0] at c
theorem dps_of {K : KC} {F R : Hp} : ∀ (ds : List D) (vs : List V), Reps K F vs ds → PyData.canLayAll0 (pyDs ds) = true → DpAll K.K (jn F R) vs (pyDs ds)
  | [], vs, h, _ => by rw [reps_nil h]; exact .nil
  | d :: ds, vs, h, c => by
    obtain ⟨v, r, rfl, h1, h2⟩ := reps_cons h
    have c' : (pyD d).canLay0 = true ∧ PyData.canLayAll0 (pyDs ds) = true := by simpa [pyDs, PyData.canLayAll0] using c
    exact .cons (dp_of d v h1 c'.1) (dps_of ds r h2 c'.2)
end
def okEq (d : D) : Bool := SeqAt.shaped (pyD d)
def eqD (d e : D) : Bool := PyData.eqv (pyD d) (pyD e)
def gEq : G2 := fun d e Q => match d, e with
  | .int i, .int j => Q (.bl (decide (i = j)))
  | .str x, .str y => Q (.bl (decide (x = y)))
  | d, e => okEq d = true ∧ okEq e = true ∧ Q (.bl (eqD d e))
def gNe : G2 := fun d e Q => match d, e with
  | .int i, .int j => Q (.bl (!decide (i = j)))
  | .str x, .str y => Q (.bl (!decide (x = y)))
  | d, e => okEq d = true ∧ okEq e = true ∧ Q (.bl (!eqD d e))
section
variable {X : Cx} {T : List (Addr × Str)}
theorem op2_eq (hu : X.A.units + 64 < cLine) : Op2 X (compareOp .Eq) gEq := fun T pins s σ H x y v u Q I rx ry ⟨F, R, d, e, Q', hH, dj, rd, re, g, k⟩ => by
  subst hH
  unfold gEq at g
  split at g
  · rw [rep_int rd] at rx
    rw [rep_int re] at ry
    exact op_eq pins s σ _ _ _ v u Q I rx ry ⟨rfl, k.now dj (by rw [dec_int, ← Bool.beq_eq_decide_eq]; exact of_bl _) g⟩
  · rw [rep_str rd] at rx
    rw [rep_str re] at ry
    exact op_eq pins s σ _ _ _ v u Q I rx ry ⟨rfl, k.now dj (by rw [dec_str, ← Bool.beq_eq_decide_eq]; exact of_bl _) g⟩
  · obtain ⟨o1, o2, g⟩ := g
    exact op_eqD hu pins s σ _ _ _ v u Q I rx ry ⟨_, _, dp_of _ _ rd (SeqAt.canLay_of_shaped o1), dp_of _ _ re (SeqAt.canLay_of_shaped o2), o1, o2, k.now dj (of_bl _) g⟩
theorem op2_ne (hu : X.A.units + 64 < cLine) : Op2 X (compareOp .NotEq) gNe := fun T pins s σ H x y v u Q I rx ry ⟨F, R, d, e, Q', hH, dj, rd, re, g, k⟩ => by
  subst hH
  unfold gNe at g
  split at g
  · rw [rep_int rd] at rx
    rw [rep_int re] at ry
    exact op_ne pins s σ _ _ _ v u Q I rx ry ⟨rfl, k.now dj (by rw [dec_int, ← Bool.beq_eq_decide_eq]; exact of_bl _) g⟩
  · rw [rep_str rd] at rx
    rw [rep_str re] at ry
    exact op_ne pins s σ _ _ _ v u Q I rx ry ⟨rfl, k.now dj (by rw [dec_str, ← Bool.beq_eq_decide_eq]; exact of_bl _) g⟩
  · obtain ⟨o1, o2, g⟩ := g
    exact op_neD hu pins s σ _ _ _ v u Q I rx ry ⟨_, _, dp_of _ _ rd (SeqAt.canLay_of_shaped o1), dp_of _ _ re (SeqAt.canLay_of_shaped o2), o1, o2, k.now dj (of_bl _) g⟩
/-! ### ints -/
def gI (f : Int → Int → Bool) : G2 := fun d e Q => match d, e with
  | .int i, .int j => Q (.bl (f i j))
  | _, _ => False
theorem op2_I {f : Int → Int → Bool} {op : CmpOp} (h : OpR X (compareOp op) (rI0 fun i j => .bl (f i j))) : Op2 X (compareOp op) (gI f) := fun T pins s σ H x y v u Q I rx ry ⟨F, R, d, e, Q', hH, dj, rd, re, g, k⟩ => by
  subst hH
  unfold gI at g
  split at g
  · rw [rep_int rd] at rx
    rw [rep_int re] at ry
    exact h pins s σ _ _ _ v u Q I rx ry ⟨_, _, rfl, rfl, k.now dj (of_bl _) g⟩
  · exact g.elim
abbrev gLt : G2 := gI fun i j => decide (i < j)
abbrev gLe : G2 := gI fun i j => decide (i ≤ j)
abbrev gGt : G2 := gI fun i j => decide (j < i)
abbrev gGe : G2 := gI fun i j => decide (j ≤ i)
theorem op2_lt : Op2 X (compareOp .Lt) gLt := op2_I op_lt
theorem op2_le : Op2 X (compareOp .LtE) gLe := op2_I op_le
theorem op2_gt : Op2 X (compareOp .Gt) gGt := op2_I op_gt
theorem op2_ge : Op2 X (compareOp .GtE) gGe := op2_I op_ge
def gAdd : G2 := fun d e Q => match d, e with
  | .int i, .int j => Q (.int (i + j))
  | .tup xs, .tup ys => xs.length + ys.length ≤ sizeLine ∧ Q (.tup (xs ++ ys))
  | .lst xs, .lst ys => xs.length + ys.length ≤ sizeLine ∧ Q (.lst (xs ++ ys))
  | .str x, .str y => x.length + y.length ≤ sizeLine ∧ Q (.str (x ++ y))
  | _, _ => False
theorem op2_add : Op2 X (binaryOp .Add) gAdd := fun T pins s σ H x y v u Q I rx ry ⟨F, R, d, e, Q', hH, dj, rd, re, g, k⟩ => by
  subst hH
  unfold gAdd at g
  split at g
  · rw [rep_int rd] at rx
    rw [rep_int re] at ry
    exact op_add pins s σ _ _ _ v u Q I rx ry ⟨_, _, rfl, rfl, k.now dj (of_int _) g⟩
  · obtain ⟨a, vs, rfl, ha, ra⟩ := rep_tup rd
    obtain ⟨b, ws, rfl, hb, rb⟩ := rep_tup re
    refine op_catA pins s σ _ _ _ v u Q I rx ry ⟨a, b, vs, ws, rfl, rfl, sq_t (K := kc T X) ha, sq_t (K := kc T X) hb, by rw [ra.length, rb.length]; exact g.1, fun z => ?_, fun _ z => ?_, fun _ _ p hp => ?_⟩
    · have e0 := ra.length
      rw [z] at e0
      rw [List.eq_nil_of_length_eq_zero e0.symm, List.nil_append] at g
      exact k.now dj re g.2
    · have e0 := rb.length
      rw [z] at e0
      rw [List.eq_nil_of_length_eq_zero e0.symm, List.append_nil] at g
      exact k.now dj rd g.2
    · exact k.tup dj (ra.append rb) g.2 hp
  · obtain ⟨a, vs, rfl, ha, ra⟩ := rep_lst rd
    obtain ⟨b, ws, rfl, hb, rb⟩ := rep_lst re
    exact op_cat pins s σ _ _ _ v u Q I rx ry ⟨a, b, vs, ws, rfl, rfl, jn_l ha, jn_l hb, by rw [ra.length, rb.length]; exact g.1, fun p hp => k.lst dj (ra.append rb) g.2 hp⟩
  · rw [rep_str rd] at rx
    rw [rep_str re] at ry
    exact op_add_str pins s σ _ _ _ v u Q I rx ry ⟨_, _, rfl, rfl, g.1, k.now dj (of_str _) g.2⟩
  · exact g.elim
def gSub : G2 := fun d e Q => match d, e with
  | .int i, .int j => Q (.int (i - j))
  | _, _ => False
theorem op2_sub : Op2 X (binaryOp .Sub) gSub := fun T pins s σ H x y v u Q I rx ry ⟨F, R, d, e, Q', hH, dj, rd, re, g, k⟩ => by
  subst hH
  unfold gSub at g
  split at g
  · rw [rep_int rd] at rx
    rw [rep_int re] at ry
    exact op_sub pins s σ _ _ _ v u Q I rx ry ⟨_, _, rfl, rfl, k.now dj (of_int _) g⟩
  · exact g.elim
/-- ints, under C -/
def gC (C : Int → Int → Prop) (f : Int → Int → Int) : G2 := fun d e Q => match d, e with
  | .int i, .int j => C i j ∧ Q (.int (f i j))
  | _, _ => False
theorem op2_C {C : Int → Int → Prop} {f : Int → Int → Int} {h : Value → Value → Sem Value} (hh : OpR X h (rI C fun i j => .int (f i j))) : Op2 X h (gC C f) := fun T pins s σ H x y v u Q I rx ry ⟨F, R, d, e, Q', hH, dj, rd, re, g, k⟩ => by
  subst hH
  unfold gC at g
  split at g
  · rw [rep_int rd] at rx
    rw [rep_int re] at ry
    exact hh pins s σ _ _ _ v u Q I rx ry ⟨_, _, rfl, rfl, g.1, k.now dj (of_int _) g.2⟩
  · exact g.elim
theorem op_mulF : OpR X (binaryOp .Mult) (rI IntMulOk fun i j => .int (i * j)) := opI fun _ _ _ _ _ _ _ hc q => mul_int q hc
/-- // -/
def DivOk (_ j : Int) : Prop := j ≠ 0 ∧ j.natAbs.log2 < 9000
theorem op_divF : OpR X (binaryOp .FloorDiv) (rI DivOk fun i j => .int (i.fdiv j)) := opI fun _ _ _ _ _ _ _ hc q => floordiv_int hc.1 q (.inl (PyProof.noPylong_of_log2 hc.2))
abbrev gDiv : G2 := gC DivOk Int.fdiv
abbrev gMod : G2 := gC (fun _ j => j ≠ 0) Int.fmod
abbrev gPow : G2 := gC CPow fun i j => i ^ j.toNat
theorem op2_div : Op2 X (binaryOp .FloorDiv) gDiv := op2_C op_divF
theorem op2_mod : Op2 X (binaryOp .Mod) gMod := op2_C op_modN
theorem op2_pow : Op2 X (binaryOp .Pow) gPow := op2_C op_pow
def gMul : G2 := fun d e Q => match d, e with
  | .int i, .int j => IntMulOk i j ∧ Q (.int (i * j))
  | .lst xs, .int k => (-2 ^ 63 ≤ k ∧ k < 2 ^ 63 ∧ xs.length * k.toNat ≤ sizeLine) ∧ Q (.lst (List.replicate k.toNat xs).flatten)
  | .tup xs, .int k => (xs ≠ [] ∧ -1000 ≤ k ∧ k ≤ 1000 ∧ xs.length ≤ 1000) ∧ Q (.tup (List.replicate k.toNat xs).flatten)
  | _, _ => False
theorem Reps.rep {K : KC} {F : Hp} {vs : List V} {ds : List D} (h : Reps K F vs ds) : ∀ n : Nat, Reps K F (List.replicate n vs).flatten (List.replicate n ds).flatten
  | 0 => by simpa using Reps.nil
  | n + 1 => by
    rw [List.replicate_succ, List.flatten_cons, List.replicate_succ, List.flatten_cons]
    exact h.append (h.rep n)
theorem op2_mul : Op2 X (binaryOp .Mult) gMul := fun T pins s σ H x y v u Q I rx ry ⟨F, R, d, e, Q', hH, dj, rd, re, g, k⟩ => by
  subst hH
  unfold gMul at g
  split at g
  · rw [rep_int rd] at rx
    rw [rep_int re] at ry
    exact op_mulF pins s σ _ _ _ v u Q I rx ry ⟨_, _, rfl, rfl, g.1, k.now dj (of_int _) g.2⟩
  · obtain ⟨a, vs, rfl, ha, ra⟩ := rep_lst rd
    rw [rep_int re] at ry
    exact op_rep pins s σ _ _ _ v u Q I rx ry ⟨a, _, vs, rfl, rfl, jn_l ha, g.1.1, g.1.2.1, by rw [ra.length]; exact g.1.2.2, fun p hp => k.lst dj (ra.rep _) g.2 hp⟩
  · rename_i ds kk
    obtain ⟨a, vs, rfl, ha, ra⟩ := rep_tup rd
    rw [rep_int re] at ry
    obtain ⟨⟨g1, g2, g3, g4⟩, g⟩ := g
    have nv : vs ≠ [] := fun z => by
      have e0 := ra.length
      rw [z] at e0
      exact g1 (List.eq_nil_of_length_eq_zero e0.symm)
    by_cases h2 : 2 ≤ kk
    · exact op_repT pins s σ _ _ _ v u Q I rx ry ⟨a, _, vs, rfl, rfl, sq_t (K := kc T X) ha, nv, h2, g3, by rw [ra.length]; exact g4, fun p hp => k.tup dj (ra.rep _) g hp⟩
    · refine op_repSm pins s σ _ _ _ v u Q I rx ry ⟨a, _, vs, rfl, rfl, sq_t (K := kc T X) ha, nv, ?_⟩
      by_cases h1 : kk = 1
      · subst h1
        refine .inl ⟨rfl, k.now dj rd ?_⟩
        have e1 : (List.replicate (1 : Int).toNat ds).flatten = ds := by simp
        rw [e1] at g
        exact g
      · refine .inr ⟨by omega, g2, fun p hp => ?_⟩
        have e1 : (List.replicate kk.toNat ds).flatten = [] := by rw [show kk.toNat = 0 by omega]; rfl
        rw [e1] at g
        exact k.tup dj Reps.nil g hp
  · exact g.elim
def gNeg : G1 := fun d Q => match d with
  | .int i => Q (.int (-i))
  | _ => False
theorem un1_neg : UnR X (unaryOp .USub) (l1 (kc T X) gNeg) := fun pins s σ H x v Q I rx ⟨F, R, d, Q', hH, dj, rd, g, k⟩ => by
  subst hH
  unfold gNeg at g
  split at g
  · rw [rep_int rd] at rx
    exact un_neg pins s σ _ _ v Q I rx ⟨_, rfl, k.now dj (of_int _) g⟩
  · exact g.elim
end
end L3
namespace L3
open PySem PySem.Spec L2
open PyProof.Rows hiding St
section
variable {B : Bs} {T : List (Addr × Str)} {X : Cx} {W : WX} {a b c e : Expr} {es rest : List Expr} {ra rb rc re : RE} {rt : RT} {rs : RA} {pos : Pos}
/-! ### subscripts -/
def gIx : G2 := fun d e Q => match d, e with
  | .tup ds, .int i => match atI ds i with
    | some d => Q d
    | none => False
  | .lst ds, .int i => match atI ds i with
    | some d => Q d
    | none => False
  | .scr xs, .int i => match atI xs i with
    | some n => Q (.int n)
    | none => False
  | _, _ => False
theorem Reps.atI {K : KC} {F : Hp} {ds : List D} {vs : List V} {i : Int} {d : D} (h : Reps K F vs ds) (e : L2.atI ds i = some d) : ∃ v, L2.atI vs i = some v ∧ Rep K F v d := by
  unfold L2.atI at e ⊢
  rw [h.length]
  cases hj : ixN ds.length i with
  | none => rw [hj] at e; cases e
  | some j =>
    rw [hj] at e
    exact h.get e
theorem ix2 : IxR X (l2 (kc T X) gIx) := fun value slice pins s σ H x y v u Q I rx ry ⟨F, R, d, e, Q', hH, dj, rd, re, g, k⟩ hs => by
  subst hH
  unfold gIx at g
  split at g
  · rename_i ds i
    obtain ⟨a, vs, rfl, ha, ra⟩ := rep_tup rd
    rw [rep_int re] at ry
    split at g
    · rename_i d' hd
      obtain ⟨v', h1, h2⟩ := ra.atI hd
      exact ix_tup value slice pins s σ _ _ _ v u Q I rx ry ⟨a, vs, i, v', rfl, rfl, sq_t (K := kc T X) ha, h1, k.now dj h2 g⟩ hs
    · exact g.elim
  · rename_i ds i
    obtain ⟨a, vs, rfl, ha, ra⟩ := rep_lst rd
    rw [rep_int re] at ry
    split at g
    · rename_i d' hd
      obtain ⟨v', h1, h2⟩ := ra.atI hd
      exact ix_list value slice pins s σ _ _ _ v u Q I rx ry ⟨a, vs, i, v', rfl, rfl, sq_l (K := kc T X) ha, h1, k.now dj h2 g⟩ hs
    · exact g.elim
  · rename_i xs i
    obtain ⟨a, rfl, ha⟩ := rep_scr rd
    rw [rep_int re] at ry
    split at g
    · rename_i n hd
      refine ix_list value slice pins s σ _ _ _ v u Q I rx ry ⟨a, xs.map V.int, i, .int n, rfl, rfl, sq_s (K := kc T X) ha, ?_, k.now dj (of_int n) g⟩ hs
      unfold L2.atI at hd ⊢
      rw [List.length_map]
      cases hj : ixN xs.length i with
      | none => rw [hj] at hd; cases hd
      | some j =>
        rw [hj] at hd
        show (xs.map V.int)[j]? = some (V.int n)
        rw [List.getElem?_map, show xs[j]? = some n from hd]
        rfl
    · exact g.elim
  · exact g.elim
theorem de_ix (ha : DE B X W a ra) (hb : DE B X W b rb) (hs : PlainIx b) : DE B X W (.Subscript a b pos) (rOp gIx ra rb) := (pe_ix ix2 ha hb hs).imp fun _ _ _ h => lE_op h
/-! ### slices -/
abbrev RO := RG (Option Int)
abbrev repO : Hp → Option Int → Option Int → Prop := fun _ b c => b = c
abbrev DO (B : Bs) (X : Cx) (W : WX) (e : Option Expr) (r : RO) : Prop := PO X e (lf repO (kc B.T X) B W r)
theorem _root_.L2.PO.imp {X : Cx} {e : Option Expr} {t t' : TO} (h : PO X e t) (i : ∀ σ H Q, t' σ H Q → t σ H Q) : PO X e t' := ⟨fun pins s σ H Q I q => h.run pins s σ H Q I (i σ H Q q)⟩
def rPart (re : RE) : RO := fun ρ Q E => re ρ (fun d => match d with
  | .int i => Q (some i)
  | _ => False) E
theorem do_some (h : DE B X W e re) : DO B X W (some e) (rPart re) := (po_some h).imp fun σ H Q ⟨F, R, ρ, Q', E', hH, w, r, k⟩ => by
  subst hH
  refine ⟨F, R, ρ, _, E', rfl, w, r, fun v d F' x dj rv q => ?_, k.ex⟩
  cases d with
  | int i => exact ⟨i, rep_int rv, k.ok (some i) (some i) F' x dj rfl q⟩
  | _ => exact (show False from q).elim
theorem do_none : DO B X W none (rC none) := po_none.imp fun σ H Q ⟨F, R, ρ, Q', E', hH, w, r, k⟩ => by
  subst hH
  exact k.ok none none F (.refl _) w.dj rfl r
def cutD {α : Type} (xs : List α) (lo hi : Option Int) : List α := List.take (HT.sIx xs.length xs.length hi - HT.sIx xs.length 0 lo) (List.drop (HT.sIx xs.length 0 lo) xs)
theorem Reps.cut {K : KC} {F : Hp} {ds : List D} {vs : List V} (h : Reps K F vs ds) (lo hi : Option Int) : Reps K F (cutV vs lo hi) (cutD ds lo hi) := by
  unfold cutV cutD
  rw [h.length]
  exact Reps.take _ (Reps.drop _ h)
def gSl (d : D) (lo hi : Option Int) (Q : D → Prop) : Prop := match d with
  | .tup ds => Q (.tup (cutD ds lo hi))
  | .lst ds => Q (.lst (cutD ds lo hi))
  | _ => False
theorem sl2 : SlR X (fun x lo hi H Q => ∃ F R d Q', H = jn F R ∧ Dj F R ∧ Rep (kc T X) F x d ∧ gSl d lo hi Q' ∧ KV1 (kc T X) F R Q' Q) := fun pins s σ H x v vl vu lo hi sl Q I rx hs pl pu ⟨F, R, d, Q', hH, dj, rd, g, k⟩ => by
  subst hH
  unfold gSl at g
  split at g
  · rename_i ds
    obtain ⟨a, vs, rfl, ha, ra⟩ := rep_tup rd
    refine sl_tupA pins s σ _ _ v vl vu lo hi sl Q I rx hs pl pu ⟨a, vs, rfl, sq_t (K := kc T X) ha, fun z => ?_, fun _ p hp => k.tup dj (ra.cut lo hi) g hp⟩
    refine k.now dj rd ?_
    have e0 : cutD ds lo hi = ds := by
      unfold cutD
      rw [← ra.length, z.1, z.2, List.drop_zero, Nat.sub_zero, ra.length, List.take_length]
    rw [e0] at g
    exact g
  · obtain ⟨a, vs, rfl, ha, ra⟩ := rep_lst rd
    exact sl_list pins s σ _ _ v vl vu lo hi sl Q I rx hs pl pu ⟨a, vs, rfl, sq_l (K := kc T X) ha, fun p hp => k.lst dj (ra.cut lo hi) g hp⟩
  · exact g.elim
def rSl (re : RE) (rl rh : RO) : RE := fun ρ Q E => re ρ (fun d => rl ρ (fun l => rh ρ (fun h => gSl d l h Q) E) E) E
theorem de_slice {lo hi : Option Expr} {rl rh : RO} {p2 : Pos} (he : DE B X W e re) (hl : DO B X W lo rl) (hh : DO B X W hi rh) : DE B X W (.Subscript e (.Slice lo hi none p2) pos) (rSl re rl rh) := (pe_slice sl2 he hl hh).imp fun σ H Q h => by
  refine lf_then (k := fun d ρ Q E => rl ρ (fun l => rh ρ (fun h => gSl d l h Q) E) E) h fun v d F R ρ Q' E' w rv q k => ?_
  refine ⟨F, R, ρ, _, E', rfl, w, q, fun l l' F1 x1 dj1 e1 q1 => ?_, k.ex⟩
  cases e1
  refine ⟨F1, R, ρ, _, E', rfl, w.ext x1 dj1, q1, fun m m' F2 x2 dj2 e2 q2 => ?_, (k.ext x1).ex⟩
  cases e2
  exact ⟨F2, R, d, Q', rfl, dj2, Rep.ext (x1.trans x2) _ _ rv, q2, ((k.ext x1).ext x2).kv⟩
/-! ### calls of built-ins -/
abbrev GC := List D → (D → Prop) → Prop
def lC (K : KC) (g : GC) : List V → Hp → VK → Prop := fun vs H Q => ∃ F R ds Q', H = jn F R ∧ Dj F R ∧ Reps K F vs ds ∧ g ds Q' ∧ KV1 K F R Q' Q
def rCB (g : GC) (rs : RA) : RE := fun ρ Q E => rs ρ (fun ds => g ds Q) E
theorem lE_cb {K : KC} {g : GC} {σ : St} {H : Hp} {Q : VK} (h : lE K B W (rCB g rs) σ H Q) : tCB (lC K g) (lA K B W rs) σ H Q := by
  refine lf_then (k := fun ds _ Q _ => g ds Q) h fun vs ds F R ρ Q' E' w rv q k => ?_
  exact ⟨F, R, ds, Q', rfl, w.dj, rv, q, k.kv⟩
theorem de_cb {x : Str} {p : Pos} {id : String} {g : GC} (hc : CallR X (.builtin id) (lC (kc B.T X) g)) (hg : Gl X x) (hm : X.mg x = none) (hb : bootBuiltins x = some (.builtin id)) (ha : DA B X W (e :: es) rs) (hn : x ≠ "__name__" := by decide) (hd : (x == ("__debug__" : Str)) = false := by decide)
    (he : starEach (e :: es) X.env = (false, eval e X.env) :: starEach es X.env := by rfl) (hpl : (backTo pos (starEach es X.env)).any (·.1) = false := by rfl) : DE B X W (.Call (.Name x p) (e :: es) [] pos) (rCB g rs) :=
  (pe_callB hc hg hm hb ha hn hd he hpl).imp fun _ _ _ h => lE_cb h
theorem de_ct {x : Str} {p : Pos} {T : String} {g : GC} (hc : CallR X (.type T) (lC (kc B.T X) g)) (hg : Gl X x) (hm : X.mg x = none) (hb : bootBuiltins x = some (.type T)) (ha : DA B X W (e :: es) rs) (hn : x ≠ "__name__" := by decide) (hd : (x == ("__debug__" : Str)) = false := by decide)
    (he : starEach (e :: es) X.env = (false, eval e X.env) :: starEach es X.env := by rfl) (hpl : (backTo pos (starEach es X.env)).any (·.1) = false := by rfl) : DE B X W (.Call (.Name x p) (e :: es) [] pos) (rCB g rs) :=
  (pe_callTy hc hg hm hb ha hn hd he hpl).imp fun _ _ _ h => lE_cb h
/-- a built-in that the module has imported -/
theorem de_cf {x : Str} {p : Pos} {id : String} {g : GC} (hc : CallR X (.builtin id) (lC (kc B.T X) g)) (hg : Gl X x) (hm : X.mg x = some (.builtin id)) (ha : DA B X W (e :: es) rs) (hd : (x == ("__debug__" : Str)) = false := by decide)
    (he : starEach (e :: es) X.env = (false, eval e X.env) :: starEach es X.env := by rfl) (hpl : (backTo pos (starEach es X.env)).any (·.1) = false := by rfl) : DE B X W (.Call (.Name x p) (e :: es) [] pos) (rCB g rs) :=
  (pe_callBfun hc hg hm ha hd he hpl).imp fun _ _ _ h => lE_cb h
def gLen : GC := fun ds Q => match ds with
  | [.tup xs] => Q (.int xs.length)
  | [.lst xs] => Q (.int xs.length)
  | [.scr xs] => Q (.int xs.length)
  | _ => False
theorem reps_one {K : KC} {F : Hp} {vs : List V} {d : D} (h : Reps K F vs [d]) : ∃ v, vs = [v] ∧ Rep K F v d := by
  obtain ⟨v, r, rfl, h1, h2⟩ := reps_cons h
  rw [reps_nil h2]
  exact ⟨v, rfl, h1⟩
theorem reps_two {K : KC} {F : Hp} {vs : List V} {d e : D} (h : Reps K F vs [d, e]) : ∃ v u, vs = [v, u] ∧ Rep K F v d ∧ Rep K F u e := by
  obtain ⟨v, r, rfl, h1, h2⟩ := reps_cons h
  obtain ⟨u, rfl, h3⟩ := reps_one h2
  exact ⟨v, u, rfl, h1, h3⟩
theorem cr_len : CallR X (.builtin "len") (lC (kc T X) gLen) := fun pins s σ H xs us Q I r ⟨F, R, ds, Q', hH, dj, rd, g, k⟩ => by
  subst hH
  unfold gLen at g
  split at g
  · obtain ⟨v, rfl, h⟩ := reps_one rd
    obtain ⟨a, vs, rfl, ha, ra⟩ := rep_tup h
    refine call_len_seq pins s σ _ _ us Q I r ⟨a, vs, rfl, .inr (sq_t (K := kc T X) ha), ?_⟩
    rw [ra.length]
    exact k.now dj (of_int _) g
  · obtain ⟨v, rfl, h⟩ := reps_one rd
    obtain ⟨a, vs, rfl, ha, ra⟩ := rep_lst h
    refine call_len_seq pins s σ _ _ us Q I r ⟨a, vs, rfl, .inl (sq_l (K := kc T X) ha), ?_⟩
    rw [ra.length]
    exact k.now dj (of_int _) g
  · obtain ⟨v, rfl, h⟩ := reps_one rd
    obtain ⟨a, rfl, ha⟩ := rep_scr h
    refine call_len_seq pins s σ _ _ us Q I r ⟨a, _, rfl, .inl (sq_s (K := kc T X) ha), ?_⟩
    rw [List.length_map]
    exact k.now dj (of_int _) g
  · exact g.elim
def gAbs : GC := fun ds Q => match ds with
  | [.int i] => Q (.int (if i < 0 then -i else i))
  | _ => False
theorem cr_abs : CallR X (.builtin "abs") (lC (kc T X) gAbs) := fun pins s σ H xs us Q I r ⟨F, R, ds, Q', hH, dj, rd, g, k⟩ => by
  subst hH
  unfold gAbs at g
  split at g
  · obtain ⟨v, rfl, h⟩ := reps_one rd
    rw [rep_int h] at r
    exact call_abs pins s σ _ _ us Q I r ⟨_, rfl, k.now dj (of_int _) g⟩
  · exact g.elim
def gInt : GC := fun ds Q => match ds with
  | [.int i] => Q (.int i)
  | [.bl b] => Q (.int (if b then 1 else 0))
  | _ => False
theorem cr_int : CallR X (.type "int") (lC (kc T X) gInt) := fun pins s σ H xs us Q I r ⟨F, R, ds, Q', hH, dj, rd, g, k⟩ => by
  subst hH
  unfold gInt at g
  split at g
  · obtain ⟨v, rfl, h⟩ := reps_one rd
    rw [rep_int h] at r
    exact call_int1 pins s σ _ _ us Q I r (.inl ⟨_, rfl, k.now dj (of_int _) g⟩)
  · obtain ⟨v, rfl, h⟩ := reps_one rd
    rw [rep_bl h] at r
    exact call_int1 pins s σ _ _ us Q I r (.inr ⟨_, rfl, k.now dj (of_int _) g⟩)
  · exact g.elim
def gMax2 : GC := fun ds Q => match ds with
  | [.int i, .int j] => Q (.int (if j > i then j else i))
  | _ => False
def gMin2 : GC := fun ds Q => match ds with
  | [.int i, .int j] => Q (.int (if j < i then j else i))
  | _ => False
theorem cr_max2 (hc : X.calm = true) : CallR X (.builtin "max") (lC (kc T X) gMax2) := fun pins s σ H xs us Q I r ⟨F, R, ds, Q', hH, dj, rd, g, k⟩ => by
  subst hH
  unfold gMax2 at g
  split at g
  · obtain ⟨v, u, rfl, h, h'⟩ := reps_two rd
    rw [rep_int h, rep_int h'] at r
    exact call_max2 hc pins s σ _ _ us Q I r ⟨_, _, rfl, k.now dj (of_int _) g⟩
  · exact g.elim
theorem cr_min2 (hc : X.calm = true) : CallR X (.builtin "min") (lC (kc T X) gMin2) := fun pins s σ H xs us Q I r ⟨F, R, ds, Q', hH, dj, rd, g, k⟩ => by
  subst hH
  unfold gMin2 at g
  split at g
  · obtain ⟨v, u, rfl, h, h'⟩ := reps_two rd
    rw [rep_int h, rep_int h'] at r
    exact call_min2 hc pins s σ _ _ us Q I r ⟨_, _, rfl, k.now dj (of_int _) g⟩
  · exact g.elim
def gGcd : GC := fun ds Q => match ds with
  | [.int i, .int j] => Q (.int (i.natAbs.gcd j.natAbs : Nat))
  | _ => False
theorem cr_gcd3 : CallR X (.builtin "math.gcd") (lC (kc T X) gGcd) := fun pins s σ H xs us Q I r ⟨F, R, ds, Q', hH, dj, rd, g, k⟩ => by
  subst hH
  unfold gGcd at g
  split at g
  · obtain ⟨v, u, rfl, h, h'⟩ := reps_two rd
    rw [rep_int h, rep_int h'] at r
    exact cr_gcd pins s σ _ _ us Q I r ⟨_, _, rfl, k.now dj (of_int _) g⟩
  · exact g.elim
def gTuple : GC := fun ds Q => match ds with
  | [.tup xs] => Q (.tup xs)
  | [.lst xs] => Q (.tup xs)
  | _ => False
theorem cr_tuple : CallR X (.type "tuple") (lC (kc T X) gTuple) := fun pins s σ H xs us Q I r ⟨F, R, ds, Q', hH, dj, rd, g, k⟩ => by
  subst hH
  unfold gTuple at g
  split at g
  · obtain ⟨v, rfl, h⟩ := reps_one rd
    obtain ⟨a, vs, rfl, ha, ra⟩ := rep_tup h
    exact call_tuple_of pins s σ _ _ us Q I r ⟨a, vs, rfl, .inr ⟨sq_t (K := kc T X) ha, k.now dj h g⟩⟩
  · obtain ⟨v, rfl, h⟩ := reps_one rd
    obtain ⟨a, vs, rfl, ha, ra⟩ := rep_lst h
    exact call_tuple_of pins s σ _ _ us Q I r ⟨a, vs, rfl, .inl ⟨sq_l (K := kc T X) ha, fun p hp => k.tup dj ra g hp⟩⟩
  · exact g.elim
def blOf : D → Option Bool
  | .bl b => some b
  | _ => none
def allBl : List D → Option (List Bool)
  | [] => some []
  | d :: r => match blOf d, allBl r with
    | some b, some bs => some (b :: bs)
    | _, _ => none
theorem rep_blOf {K : KC} {F : Hp} {v : V} {d : D} {b : Bool} (h : Rep K F v d) (e : blOf d = some b) : v = .bl b := by
  cases d with
  | bl c =>
    cases Option.some.inj e
    exact rep_bl h
  | _ => cases e
theorem reps_bls {K : KC} {F : Hp} : ∀ (ds : List D) {vs : List V} {bs : List Bool}, Reps K F vs ds → allBl ds = some bs → vs = bs.map V.bl
  | [], vs, bs, h, e => by
    have e' : [] = bs := Option.some.inj e
    rw [reps_nil h, ← e']
    rfl
  | d :: r, vs, bs, h, e => by
    obtain ⟨v, r', rfl, h1, h2⟩ := reps_cons h
    unfold allBl at e
    cases h4 : blOf d with
    | none => rw [h4] at e; cases e
    | some b =>
      cases h3 : allBl r with
      | none => rw [h4, h3] at e; cases e
      | some bs' =>
        rw [h4, h3] at e
        have e' : b :: bs' = bs := Option.some.inj e
        rw [← e', rep_blOf h1 h4, reps_bls r h2 h3]
        rfl
def gAll : GC := fun ds Q => match ds with
  | [.lst xs] => match allBl xs with
    | some bs => Q (.bl (bs.all id))
    | none => False
  | _ => False
theorem cr_all3 (hc : X.calm = true) : CallR X (.builtin "all") (lC (kc T X) gAll) := fun pins s σ H xs us Q I r ⟨F, R, ds, Q', hH, dj, rd, g, k⟩ => by
  subst hH
  unfold gAll at g
  split at g
  · split at g
    · rename_i bs hb
      obtain ⟨v, rfl, h⟩ := reps_one rd
      obtain ⟨a, vs, rfl, ha, ra⟩ := rep_lst h
      rw [reps_bls _ ra hb] at ha
      exact cr_all hc pins s σ _ _ us Q I r ⟨a, bs, rfl, sq_l (K := kc T X) ha, k.now dj (of_bl _) g⟩
    · exact g.elim
  · exact g.elim
/-- list(x): a new list -/
def itemsOf : D → Option (List D)
  | .tup xs => some xs
  | .lst xs => some xs
  | .scr xs => some (xs.map D.int)
  | _ => none
def rListOf (re : RE) : RA := fun ρ Q E => re ρ (fun d => match itemsOf d with
  | some ds => ds.length ≤ sizeLine ∧ Q ds
  | none => False) E
theorem items_rep {K : KC} {F R : Hp} {v : V} {d : D} {ds : List D} (h : Rep K F v d) (e : itemsOf d = some ds) : ∃ p vs, v = .ref p ∧ (SqL K.K (jn F R) p vs ∨ SqT K.K (jn F R) p vs) ∧ Reps K F vs ds := by
  cases d with
  | tup xs =>
    cases Option.some.inj e
    obtain ⟨a, vs, rfl, ha, ra⟩ := rep_tup h
    exact ⟨a, vs, rfl, .inr (sq_t ha), ra⟩
  | lst xs =>
    cases Option.some.inj e
    obtain ⟨a, vs, rfl, ha, ra⟩ := rep_lst h
    exact ⟨a, vs, rfl, .inl (sq_l ha), ra⟩
  | scr xs =>
    cases Option.some.inj e
    obtain ⟨a, rfl, ha⟩ := rep_scr h
    exact ⟨a, _, rfl, .inl (sq_s ha), reps_ints⟩
  | _ => cases e
theorem fe_list {p : Pos} (hg : Gl X "list") (hm : X.mg "list" = none) (ha : DE B X W e re) (hs : starEach [e] X.env = [(false, eval e X.env)] := by rfl) (hpl : (backTo pos (starEach [] X.env)).any (·.1) = false := by rfl) : FE B X W (.Call (.Name "list" p) [e] [] pos) (rListOf re) :=
  (pe_callTy call_list_of hg hm (by decide +kernel) (pa_cons ha pa_nil hs) (by decide) (by decide) hs hpl).imp fun σ H Q ⟨F, R, ρ, Q', E', hH, w, r, kk, kx⟩ => by
    subst hH
    refine ⟨F, R, ρ, _, E', rfl, w, r, fun v d F' x dj rv q => ?_, kx⟩
    split at q
    · rename_i ds hd
      obtain ⟨q0, vs, rfl, hsq, hr⟩ := items_rep (R := R) rv hd
      exact ⟨q0, vs, rfl, hsq, fun l hl => kk l vs ds F' x dj hr (by rw [hr.length]; exact q.1) q.2 hl⟩
    · exact q.elim
/-! ### isinstance of a built-in class -/
def tyD : D → String
  | .non => "NoneType" | .bl _ => "bool" | .int _ => "int" | .str _ => "str" | .tup _ => "tuple" | .lst _ => "list" | .scr _ => "list" | .dct _ => "dict" | .pen => "dict" | .ins _ _ => "" | .exc _ _ => ""
def noIns : D → Bool
  | .ins _ _ => false
  | .exc _ _ => false
  | _ => true
def isTy (T : String) (d : D) : Bool := tyD d == T || (T == "int" && tyD d == "bool")
theorem tyx_of {K : KC} {F R : Hp} {v : V} {d : D} (h : Rep K F v d) (hd : noIns d = true) : TyX K.K (jn F R) v (.type (tyD d)) := by
  cases d with
  | non => rw [rep_non h]; exact .base .non
  | bl b => rw [rep_bl h]; exact .base (.bl b)
  | int i => rw [rep_int h]; exact .base (.int i)
  | str x => rw [rep_str h]; exact .base (.str x)
  | tup ds =>
    obtain ⟨a, vs, rfl, ha, _⟩ := rep_tup h
    exact .base (.tup (jn_l ha))
  | lst ds =>
    obtain ⟨a, vs, rfl, ha, _⟩ := rep_lst h
    exact .base (.lst (jn_l ha))
  | scr xs =>
    obtain ⟨a, rfl, ha⟩ := rep_scr h
    rcases sq_s (R := R) ha with (h | ⟨o, h⟩) | ⟨o, its, n, h1, h2, _⟩
    · exact .base (.lst h)
    · exact .base (.frz h)
    · exact .kList h1 h2
  | dct kvs =>
    unfold Rep at h
    obtain ⟨a, kvs, rfl, ha, _⟩ := h
    exact .base (.dK (jn_l ha))
  | pen =>
    unfold Rep at h
    obtain ⟨a, kvs, rfl, ha, _⟩ := h
    exact .base (.dK (jn_l ha))
  | ins _ _ => cases hd
  | exc _ _ => cases hd
def rIs (T : String) (re : RE) : RE := fun ρ Q E => re ρ (fun d => noIns d = true ∧ Q (.bl (isTy T d))) E
def rIs2 (T U : String) (re : RE) : RE := fun ρ Q E => re ρ (fun d => noIns d = true ∧ Q (.bl (isTy T d || isTy U d))) E
def tyNames : List String := ["NoneType", "bool", "int", "str", "tuple", "list", "dict"]
theorem tyD_mem {d : D} (h : noIns d = true) : tyD d ∈ tyNames := by
  cases d with
  | ins _ _ => cases h
  | exc _ _ => cases h
  | _ => simp [tyD, tyNames]
theorem kit_all {T : String} (h : tyNames.all (fun U => kitB U T == some (U == T || (T == "int" && U == "bool"))) = true) {K : PySem.W.Frag} {d : D} (hd : noIns d = true) : PySem.W.kitOne K (.type (tyD d)) (.type T) = some (isTy T d) := by
  have := List.all_eq_true.mp h _ (tyD_mem hd)
  exact kit_ty (beq_iff_eq.mp this)
theorem de_is {p p2 : Pos} {T : String} {x : Str} (hg : Gl X "isinstance") (hm : X.mg "isinstance" = none) (hgx : Gl X x) (hmx : X.mg x = none) (hv : bootBuiltins x = some (.type T)) (ht : tyNames.all (fun U => kitB U T == some (U == T || (T == "int" && U == "bool"))) = true) (ha : DE B X W a ra)
    (hnx : x ≠ "__name__" := by decide) (hdx : (x == ("__debug__" : Str)) = false := by decide)
    (h1 : starEach [a, .Name x p2] X.env = (false, eval a X.env) :: starEach [.Name x p2] X.env := by rfl) (hpl : (backTo pos (starEach [.Name x p2] X.env)).any (·.1) = false := by rfl) :
    DE B X W (.Call (.Name "isinstance" p) [a, .Name x p2] [] pos) (rIs T ra) :=
  (pe_callB call_isi hg hm (by decide +kernel) (pa_cons ha (pa_cons (pe_bltn (v := .ty T) hgx hmx hv rfl hnx hdx) pa_nil) h1) (by decide) (by decide) h1 hpl).imp fun σ H Q ⟨F, R, ρ, Q', E', hH, w, r, k⟩ => by
    subst hH
    refine ⟨F, R, ρ, _, E', rfl, w, r, fun v d F' x dj rv q => ?_, k.ex⟩
    exact ⟨v, .ty T, _, _, _, rfl, .ty T, tyx_of (K := kc B.T X) rv q.1, kit_all ht q.1, k.ok _ _ F' x dj (of_bl _) q.2⟩
theorem de_is2 {p p2 p3 p4 : Pos} {k1 : Nat} {T U : String} {x y : Str} (hg : Gl X "isinstance") (hm : X.mg "isinstance" = none) (hgx : Gl X x) (hmx : X.mg x = none) (hv : bootBuiltins x = some (.type T)) (hgy : Gl X y) (hmy : X.mg y = none) (hvy : bootBuiltins y = some (.type U))
    (ht : tyNames.all (fun Z => kitB Z T == some (Z == T || (T == "int" && Z == "bool"))) = true) (hu : tyNames.all (fun Z => kitB Z U == some (Z == U || (U == "int" && Z == "bool"))) = true) (ha : DE B X W a ra)
    (hnx : x ≠ "__name__" := by decide) (hdx : (x == ("__debug__" : Str)) = false := by decide) (hny : y ≠ "__name__" := by decide) (hdy : (y == ("__debug__" : Str)) = false := by decide)
    (h1 : starEach [a, .Tuple [.Name x p2, .Name y p3] k1 p4] X.env = (false, eval a X.env) :: starEach [.Tuple [.Name x p2, .Name y p3] k1 p4] X.env := by rfl) (hpl : (backTo pos (starEach [.Tuple [.Name x p2, .Name y p3] k1 p4] X.env)).any (·.1) = false := by rfl) :
    DE B X W (.Call (.Name "isinstance" p) [a, .Tuple [.Name x p2, .Name y p3] k1 p4] [] pos) (rIs2 T U ra) :=
  (pe_callB call_isiT hg hm (by decide +kernel) (pa_cons ha (pa_cons (pe_tup (pa_cons (pe_bltn (v := .ty T) hgx hmx hv rfl hnx hdx) (pa_cons (pe_bltn (v := .ty U) hgy hmy hvy rfl hny hdy) pa_nil))) pa_nil) h1) (by decide) (by decide) h1 hpl).imp fun σ H Q ⟨F, R, ρ, Q', E', hH, w, r, k⟩ => by
    subst hH
    refine ⟨F, R, ρ, _, E', rfl, w, r, fun v d F' x dj rv q => ?_, k.ex⟩
    refine ⟨by show 2 ≤ sizeLine; decide, fun t ht' => ?_⟩
    have e0 : Ext (kc B.T X) F' (upd F' t (.tup [.ty T, .ty U])) := Ext.newF ht'
    have eH := jn_newF (o := .tup [.ty T, .ty U]) ht'
    have q' := k.ok (.bl (isTy T d || isTy U d)) _ _ (x.trans e0) (dj.newF ht') (of_bl _) q.2
    rw [eH]
    refine ⟨v, t, _, _, _, _, rfl, jn_l upd_same, .cons (.ty T) (.cons (.ty U) .nil), tyx_of (K := kc B.T X) (Rep.ext e0 _ _ rv) q.1, ?_, q'⟩
    refine kitAny_cons (kit_all ht q.1) (fun e1 => ?_) (fun e1 => by rw [e1]; rfl)
    refine kitAny_cons (kit_all hu q.1) (fun e2 => ?_) (fun e2 => by rw [e1, e2]; rfl)
    rw [e1, e2]
    exact kitAny_nil
/-! ### the text's own defs -/
/-- what a def promises, over data: its arguments, the wish of its value, the wish of its exception -/
abbrev Sp3 := List D → (D → Prop) → (XD → Prop) → Prop
def lSp (K : KC) (n : Nat) (sp : Sp3) : Sp := fun vs H Q E => ∃ F R ds Q' E', H = jn F R ∧ Dj F R ∧ LamX.Tabs K.T F ∧ Reps K F vs ds ∧ vs.length = n ∧ sp ds Q' E' ∧ KV1 K F R Q' Q ∧
  ∀ x cls od F', Ext K F F' → Dj F' R → RepX K F' cls od x → E' x → E cls od (jn F' R)
def rCall (n : Nat) (sp : Sp3) (rs : RA) : RE := fun ρ Q E => rs ρ (fun ds => ds.length = n ∧ sp ds Q E) E
theorem de_call {x : Str} {p : Pos} {k n : Nat} {f : Addr} {fd : FuncData} {ps : List Str} {sp : Sp3} (G : FnOk X.prog X.w X.K X.mg X.base (L2.CX X.prog X.w) k f fd ps (lSp (kc B.T X) n sp)) (hr : Room k X.A) (hg : Gl X x) (hm : X.mg x = some (.ref f)) (hk : PySem.W.keepIn X.K (.ref f) = true) (hb : Binds X.K fd ps []) (tk : Takes X W)
    (ha : DA B X W (e :: es) rs) (hd : (x == ("__debug__" : Str)) = false := by decide)
    (he : starEach (e :: es) X.env = (false, eval e X.env) :: starEach es X.env := by rfl) (hpl : (backTo pos (starEach es X.env)).any (·.1) = false := by rfl) : DE B X W (.Call (.Name x p) (e :: es) [] pos) (rCall n sp rs) :=
  (pe_callS G hr hg hm hk hb (fun σ => passAt tk σ) ha hd he hpl).imp fun σ H Q h => by
    refine lf_then (k := fun ds _ Q E => ds.length = n ∧ sp ds Q E) h fun vs ds F R ρ Q' E' w rv q k => ?_
    exact ⟨F, R, ds, Q', E', rfl, w.dj, w.tb, rv, by rw [rv.length]; exact q.1, q.2, k.kv, k.ex⟩
end
end L3
namespace L3
open PySem PySem.Spec L2
open PyProof.Rows hiding St
/-! ### statements over data -/
structure En3 where
  nx : Env3 → Prop
  rt : D → Prop
  ex : XD → Prop
  bk : Env3 → Prop := fun _ => False
  ct : Env3 → Prop := fun _ => False
abbrev RS := En3 → Env3 → Prop
structure SK (K : KC) (B : Bs) (W : WX) (D : Ends) (N : En3) : Prop where
  nx : ∀ σ F R ρ, Wd K B σ F R ρ → N.nx ρ → D.nx σ (jn F R)
  rt : ∀ v d σ F R ρ, Wd K B σ F R ρ → Rep K F v d → N.rt d → D.rt v (jn F R)
  ex : ∀ x cls od σ F R ρ, Wd K B σ F R ρ → RepX K F cls od x → N.ex x → W cls od σ (jn F R)
  bk : ∀ σ F R ρ, Wd K B σ F R ρ → N.bk ρ → D.bk σ (jn F R)
  ct : ∀ σ F R ρ, Wd K B σ F R ρ → N.ct ρ → D.ct σ (jn F R)
def lS (K : KC) (B : Bs) (W : WX) (r : RS) : TS := fun D σ H => ∃ F R ρ N, H = jn F R ∧ Wd K B σ F R ρ ∧ r N ρ ∧ SK K B W D N
abbrev DS (B : Bs) (X : Cx) (W : WX) (st : Stmt) (r : RS) : Prop := PS X st (lS (kc B.T X) B W r)
abbrev DSs (B : Bs) (X : Cx) (W : WX) (st : List Stmt) (r : RS) : Prop := PSs X st (lS (kc B.T X) B W r)
section
variable {K : KC} {B : Bs} {W : WX} {σ : St} {F R : Hp} {ρ : Env3} {D0 : Ends} {N : En3}
/-- an expression's reading, from a statement's -/
theorem SK.lf {α β : Type} {rep : Hp → β → α → Prop} {r : RG α} {Q' : α → Prop} {Q : β → Hp → Prop} (k : SK K B W D0 N) (w : Wd K B σ F R ρ) (h : r ρ Q' N.ex)
    (hq : ∀ v d F', Ext K F F' → Wd K B σ F' R ρ → rep F' v d → Q' d → Q v (jn F' R)) : lf rep K B W r σ (jn F R) Q :=
  ⟨F, R, ρ, Q', N.ex, rfl, w, h, fun v d F' x dj rv q => hq v d F' x (w.ext x dj) rv q, fun x cls od F' e dj rx q => k.ex x cls od σ F' R ρ (w.ext e dj) rx q⟩
theorem Wd.setV (w : Wd K B σ F R ρ) {v : V} {d : D} (r : Rep K F v d) (i : Nat) : Wd K B (σ.set i (some v)) F R (ρ.set i (.val d)) where
  tb := w.tb
  ex := w.ex
  fr := w.fr
  dj := w.dj
  len := by rw [List.length_set, List.length_set]; exact w.len
  val := fun j e h => by
    by_cases hj : i = j
    · subst hj
      by_cases hl : i < ρ.length
      · rw [List.getElem?_set_self hl] at h
        cases h
        exact ⟨v, List.getElem?_set_self (by rw [w.len]; exact hl), r⟩
      · rw [List.getElem?_eq_none (by rw [List.length_set]; omega)] at h
        cases h
    · rw [List.getElem?_set_ne hj] at h
      rw [List.getElem?_set_ne hj]
      exact w.val j e h
  own := fun j ds h => by
    by_cases hj : i = j
    · subst hj
      by_cases hl : i < ρ.length
      · rw [List.getElem?_set_self hl] at h
        cases h
      · rw [List.getElem?_eq_none (by rw [List.length_set]; omega)] at h
        cases h
    · rw [List.getElem?_set_ne hj] at h
      rw [List.getElem?_set_ne hj]
      exact w.own j ds h
  obj := fun j c a fs h => by
    by_cases hj : i = j
    · subst hj
      by_cases hl : i < ρ.length
      · rw [List.getElem?_set_self hl] at h
        cases h
      · rw [List.getElem?_eq_none (by rw [List.length_set]; omega)] at h
        cases h
    · rw [List.getElem?_set_ne hj] at h
      rw [List.getElem?_set_ne hj]
      exact w.obj j c a fs h
  sep := fun j k a dj dk h1 h2 h3 h4 => by
    have key : ∀ {j : Nat} {ds : List D}, (ρ.set i (.val d))[j]? = some (.own ds) → i ≠ j ∧ ρ[j]? = some (.own ds) := fun {j ds} h => by
      by_cases hj : i = j
      · subst hj
        by_cases hl : i < ρ.length
        · rw [List.getElem?_set_self hl] at h
          cases h
        · rw [List.getElem?_eq_none (by rw [List.length_set]; omega)] at h
          cases h
      · rw [List.getElem?_set_ne hj] at h
        exact ⟨hj, h⟩
    obtain ⟨n1, g1⟩ := key h1
    obtain ⟨n2, g2⟩ := key h2
    rw [List.getElem?_set_ne n1] at h3
    rw [List.getElem?_set_ne n2] at h4
    exact w.sep j k a dj dk g1 g2 h3 h4
/-- a new list of one's own -/
theorem Wd.setN (w : Wd K B σ F R ρ) {vs : List V} {ds : List D} (r : Reps K F vs ds) {p : Addr} (hp : jn F R p = none) (i : Nat) (hi : i < ρ.length) : Wd K B (σ.set i (some (.ref p))) F (upd R p (.lst vs)) (ρ.set i (.own ds)) where
  tb := w.tb
  ex := w.ex
  fr := fun a o h => by
    have : a ≠ p := fun z => by
      have h2 := w.fr a o h
      rw [z, (jn_none hp).2] at h2
      cases h2
    rw [upd_ne this]
    exact w.fr a o h
  dj := w.dj.updR (jn_none hp).1
  len := by rw [List.length_set, List.length_set]; exact w.len
  val := fun j e h => by
    by_cases hj : i = j
    · subst hj
      rw [List.getElem?_set_self hi] at h
      cases h
    · rw [List.getElem?_set_ne hj] at h
      rw [List.getElem?_set_ne hj]
      exact w.val j e h
  own := fun j es h => by
    by_cases hj : i = j
    · subst hj
      rw [List.getElem?_set_self hi] at h
      cases h
      refine ⟨p, vs, List.getElem?_set_self (by rw [w.len]; exact hi), upd_same, r, ?_⟩
      cases e : B.Fr p with
      | none => rfl
      | some o =>
        have h2 := w.fr p o e
        rw [(jn_none hp).2] at h2
        cases h2
    · rw [List.getElem?_set_ne hj] at h
      rw [List.getElem?_set_ne hj]
      obtain ⟨a, us, e1, e2, e3, e4⟩ := w.own j es h
      have : a ≠ p := fun z => by rw [z, (jn_none hp).2] at e2; cases e2
      exact ⟨a, us, e1, by rw [upd_ne this]; exact e2, e3, e4⟩
  obj := fun j c a fs h => by
    by_cases hj : i = j
    · subst hj
      rw [List.getElem?_set_self hi] at h
      cases h
    · rw [List.getElem?_set_ne hj] at h
      rw [List.getElem?_set_ne hj]
      obtain ⟨z, dx, ws, e1, e2, e3, e4⟩ := w.obj j c a fs h
      have n1 : a ≠ p := fun z => by rw [z, (jn_none hp).2] at e2; cases e2
      have n2 : dx ≠ p := fun z => by rw [z, (jn_none hp).2] at e3; cases e3
      exact ⟨z, dx, ws, e1, by rw [upd_ne n1]; exact e2, by rw [upd_ne n2]; exact e3, e4⟩
  sep := fun j k a dj dk h1 h2 h3 h4 => by
    have key : ∀ {j : Nat} {ds' : List D}, (ρ.set i (.own ds))[j]? = some (.own ds') → (σ.set i (some (.ref p)))[j]? = some (some (.ref a)) → (i = j ∧ a = p) ∨ (i ≠ j ∧ ρ[j]? = some (.own ds') ∧ σ[j]? = some (some (.ref a)) ∧ a ≠ p) := fun {j ds'} h h3 => by
      by_cases hj : i = j
      · subst hj
        rw [List.getElem?_set_self (by rw [w.len]; exact hi)] at h3
        cases h3
        exact .inl ⟨rfl, rfl⟩
      · rw [List.getElem?_set_ne hj] at h h3
        obtain ⟨a', us, e1, e2, _⟩ := w.own j ds' h
        rw [h3] at e1
        cases e1
        exact .inr ⟨hj, h, h3, fun z => by rw [z, (jn_none hp).2] at e2; cases e2⟩
    rcases key h1 h3 with ⟨e1, e2⟩ | ⟨n1, g1, g3, z1⟩
    · rcases key h2 h4 with ⟨e3, e4⟩ | ⟨_, _, _, z2⟩
      · rw [← e1, ← e3]
      · exact absurd e2 z2
    · rcases key h2 h4 with ⟨e3, e4⟩ | ⟨n2, g2, g4, _⟩
      · exact absurd e4 z1
      · exact w.sep j k a dj dk g1 g2 g3 g4
/-- a list of one's own changes -/
theorem Wd.chg (w : Wd K B σ F R ρ) {i : Nat} {ds es : List D} (h : ρ[i]? = some (.own ds)) {a : Addr} {us : List V} (ha : σ[i]? = some (some (.ref a))) (r : Reps K F us es) : Wd K B σ F (upd R a (.lst us)) (ρ.set i (.own es)) := by
  obtain ⟨a', vs, e1, e2, e3, e4⟩ := w.own i ds h
  rw [ha] at e1
  cases e1
  have hi : i < ρ.length := (List.getElem?_eq_some_iff.mp h).1
  refine ⟨w.tb, w.ex, fun b o hb => ?_, w.dj.updR (jn_of_r w.dj e2).1, by rw [List.length_set]; exact w.len, fun j e hj => ?_, fun j es' hj => ?_, fun j c b fs hj => ?_, fun j k b dj dk h1 h2 h3 h4 => ?_⟩
  · have : b ≠ a := fun z => by rw [z, e4] at hb; cases hb
    rw [upd_ne this]
    exact w.fr b o hb
  · by_cases q : i = j
    · subst q
      rw [List.getElem?_set_self hi] at hj
      cases hj
    · rw [List.getElem?_set_ne q] at hj
      exact w.val j e hj
  · by_cases q : i = j
    · subst q
      rw [List.getElem?_set_self hi] at hj
      cases hj
      exact ⟨a, us, ha, upd_same, r, e4⟩
    · rw [List.getElem?_set_ne q] at hj
      obtain ⟨b, ws, g1, g2, g3, g4⟩ := w.own j es' hj
      have : b ≠ a := fun z => by
        subst z
        exact q (w.sep i j b _ _ h hj ha g1)
      exact ⟨b, ws, g1, by rw [upd_ne this]; exact g2, g3, g4⟩
  · by_cases q : i = j
    · subst q
      rw [List.getElem?_set_self hi] at hj
      cases hj
    · rw [List.getElem?_set_ne q] at hj
      obtain ⟨z, dx, ws, g1, g2, g3, g4⟩ := w.obj j c b fs hj
      have n1 : b ≠ a := fun z => by rw [z, e2] at g2; cases g2
      have n2 : dx ≠ a := fun z => by rw [z, e2] at g3; cases g3
      exact ⟨z, dx, ws, g1, by rw [upd_ne n1]; exact g2, by rw [upd_ne n2]; exact g3, g4⟩
  · have key : ∀ {j : Nat} {ds' : List D}, (ρ.set i (.own es))[j]? = some (.own ds') → ∃ ds'', ρ[j]? = some (.own ds'') := fun {j ds'} hh => by
      by_cases q : i = j
      · subst q
        exact ⟨ds, h⟩
      · rw [List.getElem?_set_ne q] at hh
        exact ⟨_, hh⟩
    obtain ⟨_, g1⟩ := key h1
    obtain ⟨_, g2⟩ := key h2
    exact w.sep j k b _ _ g1 g2 h3 h4
/-- a list of one's own becomes shared -/
theorem Wd.frz (w : Wd K B σ F R ρ) {i : Nat} {ds : List D} (h : ρ[i]? = some (.own ds)) : ∃ F' R', jn F R = jn F' R' ∧ Ext K F F' ∧ Wd K B σ F' R' (ρ.set i (.val (.lst ds))) := by
  obtain ⟨a, vs, e1, e2, e3, e4⟩ := w.own i ds h
  have hi : i < ρ.length := (List.getElem?_eq_some_iff.mp h).1
  have x : Ext K F (upd F a (.lst vs)) := Ext.move w.dj e2
  refine ⟨upd F a (.lst vs), dlt R a, jn_move w.dj e2, x, x.tab w.tb, w.ex.trans x, fun b o hb => ?_, w.dj.move e2, by rw [List.length_set]; exact w.len, fun j e hj => ?_, fun j es' hj => ?_, fun j c b fs hj => ?_, fun j k b dj dk h1 h2 h3 h4 => ?_⟩
  · have : b ≠ a := fun z => by rw [z, e4] at hb; cases hb
    rw [dlt_ne this]
    exact w.fr b o hb
  · by_cases q : i = j
    · subst q
      rw [List.getElem?_set_self hi] at hj
      cases hj
      exact ⟨_, e1, of_lst upd_same (Reps.ext x _ _ e3)⟩
    · rw [List.getElem?_set_ne q] at hj
      obtain ⟨v, g1, g2⟩ := w.val j e hj
      exact ⟨v, g1, Rep.ext x _ _ g2⟩
  · by_cases q : i = j
    · subst q
      rw [List.getElem?_set_self hi] at hj
      cases hj
    · rw [List.getElem?_set_ne q] at hj
      obtain ⟨b, ws, g1, g2, g3, g4⟩ := w.own j es' hj
      have : b ≠ a := fun z => by
        subst z
        exact q (w.sep i j b _ _ h hj e1 g1)
      exact ⟨b, ws, g1, by rw [dlt_ne this]; exact g2, Reps.ext x _ _ g3, g4⟩
  · by_cases q : i = j
    · subst q
      rw [List.getElem?_set_self hi] at hj
      cases hj
    · rw [List.getElem?_set_ne q] at hj
      obtain ⟨z, dx, ws, g1, g2, g3, g4, g5⟩ := w.obj j c b fs hj
      have n1 : b ≠ a := fun z => by rw [z, e2] at g2; cases g2
      have n2 : dx ≠ a := fun z => by rw [z, e2] at g3; cases g3
      exact ⟨z, dx, ws, g1, by rw [dlt_ne n1]; exact g2, by rw [dlt_ne n2]; exact g3, RepF.ext x _ _ g4, g5⟩
  · have key : ∀ {j : Nat} {ds' : List D}, (ρ.set i (.val (.lst ds)))[j]? = some (.own ds') → ρ[j]? = some (.own ds') := fun {j ds'} hh => by
      by_cases q : i = j
      · subst q
        rw [List.getElem?_set_self hi] at hh
        cases hh
      · rw [List.getElem?_set_ne q] at hh
        exact hh
    exact w.sep j k b _ _ (key h1) (key h2) h3 h4
end
section
variable {B : Bs} {T : List (Addr × Str)} {X : Cx} {W : WX} {a b c e : Expr} {es rest : List Expr} {ra rb rc re : RE} {rt : RT} {rs : RA} {pos : Pos} {st : Stmt} {sts body : List Stmt} {r r1 r2 : RS}
/-- the list in slot i is shared from here on -/
def rFrz (i : Nat) (r : RS) : RS := fun N ρ => match ρ[i]? with
  | some (.own ds) => r N (ρ.set i (.val (.lst ds)))
  | _ => r N ρ
theorem lS_frz {K : KC} {i : Nat} {D0 : Ends} {σ : St} {H : Hp} (h : lS K B W (rFrz i r) D0 σ H) : lS K B W r D0 σ H := by
  obtain ⟨F, R, ρ, N, rfl, w, q, k⟩ := h
  unfold rFrz at q
  split at q
  · rename_i ds hd
    obtain ⟨F', R', e, _, w'⟩ := w.frz hd
    exact ⟨F', R', _, N, e, w', q, k⟩
  · exact ⟨F, R, ρ, N, rfl, w, q, k⟩
theorem ds_frz (i : Nat) (h : DS B X W st r) : DS B X W st (rFrz i r) := PS.imp h fun _ _ _ q => lS_frz q
theorem dss_frz (i : Nat) (h : DSs B X W sts r) : DSs B X W sts (rFrz i r) := PSs.imp h fun _ _ _ q => lS_frz q
/-! ### blocks -/
def rNext : RS := fun N ρ => N.nx ρ
def rSeq (r1 r2 : RS) : RS := fun N ρ => r1 { N with nx := r2 N } ρ
theorem dss_nil : DSs B X W [] rNext := pss_nil.imp fun D σ H ⟨F, R, ρ, N, hH, w, q, k⟩ => by
  subst hH
  exact k.nx σ F R ρ w q
theorem dss_cons (h1 : DS B X W st r1) (h2 : DSs B X W sts r2) : DSs B X W (st :: sts) (rSeq r1 r2) := (pss_cons h1 h2).imp fun D σ H ⟨F, R, ρ, N, hH, w, q, k⟩ => by
  subst hH
  exact ⟨F, R, ρ, { N with nx := r2 N }, rfl, w, q, fun σ' F' R' ρ' w' q' => ⟨F', R', ρ', N, rfl, w', q', k⟩, k.rt, k.ex, k.bk, k.ct⟩
theorem dss_one (h1 : DS B X W st r1) : DSs B X W [st] r1 := pss_one h1
def rBreak : RS := fun N ρ => N.bk ρ
def rCont : RS := fun N ρ => N.ct ρ
theorem ds_pass : DS B X W (.Pass pos) rNext := ps_pass.imp fun D σ H ⟨F, R, ρ, N, hH, w, q, k⟩ => by subst hH; exact k.nx σ F R ρ w q
theorem ds_break : DS B X W (.Break pos) rBreak := ps_break.imp fun D σ H ⟨F, R, ρ, N, hH, w, q, k⟩ => by subst hH; exact k.bk σ F R ρ w q
theorem ds_cont : DS B X W (.Continue pos) rCont := ps_continue.imp fun D σ H ⟨F, R, ρ, N, hH, w, q, k⟩ => by subst hH; exact k.ct σ F R ρ w q
def rRet (re : RE) : RS := fun N ρ => re ρ N.rt N.ex
theorem ds_ret (he : DE B X W e re) : DS B X W (.Return (some e) pos) (rRet re) := (ps_ret he).imp fun D σ H ⟨F, R, ρ, N, hH, w, q, k⟩ => by
  subst hH
  exact k.lf w q fun v d F' x w' rv q' => k.rt v d σ F' R ρ w' rv q'
def rDrop (re : RE) : RS := fun N ρ => re ρ (fun _ => N.nx ρ) N.ex
theorem ds_expr (he : DE B X W e re) (hs : swapsWith e none pos.line X.env = pure false := by rfl) : DS B X W (.Expr e pos) (rDrop re) := (ps_expr he hs).imp fun D σ H ⟨F, R, ρ, N, hH, w, q, k⟩ => by
  subst hH
  exact k.lf w q fun v d F' x w' rv q' => k.nx σ F' R ρ w' q'
def rIf (t : RT) (r1 r2 : RS) : RS := fun N ρ => t ρ (fun b => match b with | true => r1 N ρ | false => r2 N ρ) N.ex
theorem ds_if {bt bf : List Stmt} (hc : DT B X W c rt) (h1 : DSs B X W bt r1) (h2 : DSs B X W bf r2) : DS B X W (.If c bt bf pos) (rIf rt r1 r2) := (ps_if hc h1 h2).imp fun D σ H ⟨F, R, ρ, N, hH, w, q, k⟩ => by
  subst hH
  refine k.lf w q fun v d F' x w' rv q' => ?_
  cases rv
  cases v with
  | true => exact ⟨F', R, ρ, N, rfl, w', q', k⟩
  | false => exact ⟨F', R, ρ, N, rfl, w', q', k⟩
/-! ### assignments -/
def rSet (i : Nat) (re : RE) : RS := fun N ρ => re ρ (fun d => N.nx (ρ.set i (.val d))) N.ex
theorem ds_setT {i : Nat} {te : TE} (h : PS X st (tAsg te (gName i))) (hi : ∀ σ H Q, lE (kc B.T X) B W re σ H Q → te σ H Q) : DS B X W st (rSet i re) := h.imp fun D σ H ⟨F, R, ρ, N, hH, w, q, k⟩ => by
  subst hH
  exact hi _ _ _ (k.lf w q fun v d F' x w' rv q' => k.nx _ F' R _ (w'.setV rv i) q')
theorem ds_set {i : Nat} {x : Str} {p : Pos} (hN : X.N.Nodup) (hi : X.N[i]? = some x) (hx : Loc X.env.scope x) (he : DE B X W e re) (hs : swapsWith e (some (.Name x p)) pos.line X.env = pure false := by rfl) (hf : X.fn x = true ∨ X.env.scope.names.lookup x = some .local := by first | exact .inl rfl | exact .inr rfl) :
    DS B X W (.Assign [.Name x p] e pos) (rSet i re) := ds_setT (ps_set hN hi hx he hs hf) fun _ _ _ h => h
/-- a new list, one's own -/
def rSetL (i : Nat) (rs : RA) : RS := fun N ρ => i < ρ.length ∧ rs ρ (fun ds => N.nx (ρ.set i (.own ds))) N.ex
theorem ds_setLT {i : Nat} {te : TE} (h : PS X st (tAsg te (gName i))) (hi : ∀ σ H Q, lL (kc B.T X) B W rs σ H Q → te σ H Q) : DS B X W st (rSetL i rs) := h.imp fun D σ H ⟨F, R, ρ, N, hH, w, q, k⟩ => by
  subst hH
  refine hi _ _ _ ⟨F, R, ρ, _, N.ex, rfl, w, q.2, fun p vs ds F' x dj rv _ q' hp => ?_, fun x cls od F' e dj rx q' => k.ex x cls od σ F' R ρ (w.ext e dj) rx q'⟩
  have w' := (w.ext x dj).setN rv hp i q.1
  rw [jn_updR (jn_none hp).1]
  exact k.nx _ F' _ _ w' q'
theorem ds_setL {i : Nat} {x : Str} {p : Pos} (hN : X.N.Nodup) (hi : X.N[i]? = some x) (hx : Loc X.env.scope x) (he : FE B X W e rs) (hs : swapsWith e (some (.Name x p)) pos.line X.env = pure false := by rfl) (hf : X.fn x = true ∨ X.env.scope.names.lookup x = some .local := by first | exact .inl rfl | exact .inr rfl) :
    DS B X W (.Assign [.Name x p] e pos) (rSetL i rs) := ds_setLT (ps_set hN hi hx he hs hf) fun _ _ _ h => h
/-! ### targets -/
abbrev G3 := D → Env3 → (Env3 → Prop) → Prop
abbrev G3s := List D → Env3 → (Env3 → Prop) → Prop
/-- a list of one's own stood there before -/
def Osub (σ : St) (ρ : Env3) (σ' : St) (ρ' : Env3) : Prop := ∀ (j : Nat) (es : List D), ρ'[j]? = some (.own es) → ρ[j]? = some (.own es) ∧ σ'[j]? = σ[j]?
/-- only the slots of is changed -/
def Chg (is : List Nat) (σ σ' : St) : Prop := σ'.length = σ.length ∧ ∀ j, j ∉ is → σ'[j]? = σ[j]?
def lG (K : KC) (is : List Nat) (g : G3) : TG := fun v σ H Q => ∃ B F R ρ d Q', H = jn F R ∧ Wd K B σ F R ρ ∧ Rep K F v d ∧ g d ρ Q' ∧ ∀ σ' ρ', Wd K B σ' F R ρ' → Chg is σ σ' → Osub σ ρ σ' ρ' → Q' ρ' → Q σ' (jn F R)
def lGs (K : KC) (is : List Nat) (g : G3s) : TGs := fun vs σ H Q => ∃ B F R ρ ds Q', H = jn F R ∧ Wd K B σ F R ρ ∧ Reps K F vs ds ∧ g ds ρ Q' ∧ ∀ σ' ρ', Wd K B σ' F R ρ' → Chg is σ σ' → Osub σ ρ σ' ρ' → Q' ρ' → Q σ' (jn F R)
abbrev DG (T : List (Addr × Str)) (X : Cx) (is : List Nat) (t : Expr) (g : G3) : Prop := PG X t (lG (kc T X) is g)
abbrev DGs (T : List (Addr × Str)) (X : Cx) (is : List Nat) (t : List Expr) (g : G3s) : Prop := PGs X t (lGs (kc T X) is g)
theorem _root_.L2.PG.imp {t : Expr} {g g' : TG} (h : PG X t g) (i : ∀ v σ H Q, g' v σ H Q → g v σ H Q) : PG X t g' := ⟨fun pins s σ H v u Q I r q => h.run pins s σ H v u Q I r (i v σ H Q q)⟩
theorem _root_.L2.PGs.imp {t : List Expr} {g g' : TGs} (h : PGs X t g) (i : ∀ v σ H Q, g' v σ H Q → g v σ H Q) : PGs X t g' := ⟨fun pins s σ H v u Q I r q => h.run pins s σ H v u Q I r (i v σ H Q q)⟩
def g3N (i : Nat) : G3 := fun d ρ Q => Q (ρ.set i (.val d))
theorem Osub.refl (σ : St) (ρ : Env3) : Osub σ ρ σ ρ := fun _ _ h => ⟨h, rfl⟩
theorem osub_set {σ : St} {ρ : Env3} {v : V} {d : D} (i : Nat) : Osub σ ρ (σ.set i (some v)) (ρ.set i (.val d)) := fun j es h => by
  by_cases hj : i = j
  · subst hj
    by_cases hl : i < ρ.length
    · rw [List.getElem?_set_self hl] at h
      cases h
    · rw [List.getElem?_eq_none (by rw [List.length_set]; omega)] at h
      cases h
  · rw [List.getElem?_set_ne hj] at h
    exact ⟨h, List.getElem?_set_ne hj⟩
theorem Osub.trans {σ σ1 σ2 : St} {ρ ρ1 ρ2 : Env3} (x : Osub σ ρ σ1 ρ1) (y : Osub σ1 ρ1 σ2 ρ2) : Osub σ ρ σ2 ρ2 := fun j es h =>
  let ⟨h1, e1⟩ := y j es h
  let ⟨h2, e2⟩ := x j es h1
  ⟨h2, e1.trans e2⟩
theorem Chg.refl (is : List Nat) (σ : St) : Chg is σ σ := ⟨rfl, fun _ _ => rfl⟩
theorem dg_name {i : Nat} {x : Str} (hN : X.N.Nodup) (hi : X.N[i]? = some x) (hx : Loc X.env.scope x) (hf : X.fn x = true ∨ X.env.scope.names.lookup x = some .local := by first | exact .inl rfl | exact .inr rfl) : DG T X [i] (.Name x pos) (g3N i) :=
  (pg_name hN hi hx hf).imp fun v σ H Q ⟨B, F, R, ρ, d, Q', hH, w, rv, q, k⟩ => by
    subst hH
    exact k _ _ (w.setV rv i) ⟨by rw [List.length_set], fun j hj => List.getElem?_set_ne fun z => hj (by simp [z])⟩ (osub_set i) q
def g3Nil : G3s := fun ds ρ Q => match ds with
  | [] => Q ρ
  | _ => False
def g3Cons (g : G3) (gs : G3s) : G3s := fun ds ρ Q => match ds with
  | d :: r => g d ρ (fun ρ' => gs r ρ' Q)
  | [] => False
theorem dgs_nil : DGs T X [] [] g3Nil := pgs_nil.imp fun vs σ H Q ⟨B, F, R, ρ, ds, Q', hH, w, rv, q, k⟩ => by
  subst hH
  cases ds with
  | nil =>
    rw [reps_nil rv]
    exact ⟨rfl, k _ _ w (.refl _ _) (.refl _ _) q⟩
  | cons d r => exact (show False from q).elim
theorem dgs_cons {is js : List Nat} {g : G3} {gs : G3s} (h1 : DG T X is e g) (h2 : DGs T X js es gs) (hs : (assignEach (e :: es) X.env).map (·.2) = assign e X.env :: (assignEach es X.env).map (·.2) := by rfl) : DGs T X (is ++ js) (e :: es) (g3Cons g gs) := (pgs_cons h1 h2 hs).imp fun vs σ H Q ⟨B, F, R, ρ, ds, Q', hH, w, rv, q, k⟩ => by
  subst hH
  cases ds with
  | nil => exact (show False from q).elim
  | cons d r =>
    obtain ⟨v, vr, rfl, r1, r2⟩ := reps_cons rv
    refine ⟨v, vr, rfl, B, F, R, ρ, d, _, rfl, w, r1, q, fun σ' ρ' w' c' o' q' => ?_⟩
    refine ⟨B, F, R, ρ', r, Q', rfl, w', r2, q', fun σ2 ρ2 w2 c2 o2 q2 => k σ2 ρ2 w2 ⟨c2.1.trans c'.1, fun j hj => ?_⟩ (o'.trans o2) q2⟩
    have n1 : j ∉ is := fun z => hj (List.mem_append_left _ z)
    have n2 : j ∉ js := fun z => hj (List.mem_append_right _ z)
    exact (c2.2 j n2).trans (c'.2 j n1)
def g3Tup (n : Nat) (gs : G3s) : G3 := fun d ρ Q => match d with
  | .tup ds => ds.length = n ∧ gs ds ρ Q
  | _ => False
theorem dg_tup {is : List Nat} {gs : G3s} {k1 n : Nat} (hc : X.calm = true) (h : DGs T X is es gs) (hn : (assignEach es X.env).length = n := by rfl) (hst : (assignEach es X.env).findIdx? (·.1) = none := by rfl) : DG T X is (.Tuple es k1 pos) (g3Tup n gs) :=
  (pg_tup hc h hn hst).imp fun v σ H Q ⟨B, F, R, ρ, d, Q', hH, w, rv, q, k⟩ => by
    subst hH
    cases d with
    | tup ds =>
      obtain ⟨a, vs, rfl, ha, ra⟩ := rep_tup rv
      exact ⟨a, vs, rfl, sq_t (K := kc B.T X) ha, by rw [ra.length]; exact q.1, B, F, R, ρ, ds, Q', rfl, w, ra, q.2, k⟩
    | _ => exact (show False from q).elim
def rAsg (g : G3) (re : RE) : RS := fun N ρ => re ρ (fun d => g d ρ N.nx) N.ex
theorem ds_asg {is : List Nat} {tg : Expr} {g : G3} (he : DE B X W e re) (hg : DG B.T X is tg g) (hs : swapsWithSole [tg] e pos.line X.env = pure false := by rfl) (hw : swappedStores [tg] e X.env = pure none := by rfl) (ha : (assignEach [tg] X.env).map (·.2) = [assign tg X.env] := by rfl) :
    DS B X W (.Assign [tg] e pos) (rAsg g re) := (ps_asg he hg hs hw ha).imp fun D σ H ⟨F, R, ρ, N, hH, w, q, k⟩ => by
  subst hH
  exact k.lf w q fun v d F' x w' rv q' => ⟨B, F', R, ρ, d, N.nx, rfl, w', rv, q', fun σ' ρ' w2 _ _ q2 => k.nx σ' F' R ρ' w2 q2⟩
/-- a, b = x, y -/
def rPar (i j : Nat) (rs : RA) : RS := fun N ρ => rs ρ (fun ds => match ds with
  | [d, e] => N.nx ((ρ.set i (.val d)).set j (.val e))
  | _ => False) N.ex
theorem ds_par {i j : Nat} {x y : Str} {px py pt pt2 : Pos} {kt k2 : Nat} (hc : X.calm = true) (hN : X.N.Nodup) (hi : X.N[i]? = some x) (hj : X.N[j]? = some y) (hij : i ≠ j) (hx : X.env.scope.names.lookup x = some .local) (hy : X.env.scope.names.lookup y = some .local) (ha : DA B X W [a, b] rs)
    (hw : swappedStores [.Tuple [.Name x px, .Name y py] kt pt] (.Tuple [a, b] k2 pt2) X.env = pure (some [x, y])) (hs : swapsWithSole [.Tuple [.Name x px, .Name y py] kt pt] (.Tuple [a, b] k2 pt2) pos.line X.env = pure false := by rfl) :
    DS B X W (.Assign [.Tuple [.Name x px, .Name y py] kt pt] (.Tuple [a, b] k2 pt2) pos) (rPar i j rs) := (ps_par hc hN hi hj hij hx hy ha hw hs).imp fun D σ H ⟨F, R, ρ, N, hH, w, q, k⟩ => by
  subst hH
  refine k.lf w q fun vs ds F' x w' rv q' => ?_
  split at q'
  · obtain ⟨v, u, rfl, h1, h2⟩ := reps_two rv
    exact ⟨v, u, rfl, k.nx _ F' R _ ((w'.setV h1 i).setV h2 j) q'⟩
  · exact q'.elim
/-! ### lists of one's own -/
def rApp (i : Nat) (re : RE) : RS := fun N ρ => match ρ[i]? with
  | some (.own ds) => re ρ (fun d => ds.length < sizeLine ∧ N.nx (ρ.set i (.own (ds ++ [d])))) N.ex
  | _ => False
theorem upd_own {K : KC} {σ : St} {F R : Hp} {ρ : Env3} (w : Wd K B σ F R ρ) {a : Addr} {o o' : HO} (h : R a = some o) : upd (jn F R) a o' = jn F (upd R a o') := jn_updR (jn_of_r w.dj h).1
theorem ds_app {i : Nat} {x : Str} {p ap cp : Pos} (hv : PE X (.Name x p) (tVar i)) (he : DE B X W e re)
    (hpl : ((backTo cp (starEach (e :: []) X.env)).all (fun x => !x.1) && (backToKw cp (keywordEach [] X.env)).all (fun x => x.1.isSome) && decide ((e :: []).length + ([] : List Keyword).length + (if ([] : List Keyword).isEmpty then 0 else 1) < 30)) = true := by rfl)
    (h0 : attributeBase (.Name x p) "append" X.env (eval (.Name x p) X.env) = eval (.Name x p) X.env := by rfl) (h1 : (ap.endLine == cp.line) = true := by rfl) (h2 : starEach (e :: []) X.env = (false, eval e X.env) :: starEach [] X.env := by rfl) (h3 : (backTo cp (starEach [] X.env)).any (·.1) = false := by rfl)
    (hs : swapsWith (.Call (.Attribute (.Name x p) "append" ap) [e] [] cp) none pos.line X.env = pure false := by rfl) :
    DS B X W (.Expr (.Call (.Attribute (.Name x p) "append" ap) [e] [] cp) pos) (rApp i re) :=
  (ps_expr (pe_bm PySem.F.plainAttrs_list PySem.F.slot_list_append PySem.F.type_list_append mt_append hv (pa_cons he pa_nil h2) h0 hpl h1 h2 h3) hs).imp fun D σ H ⟨F, R, ρ, N, hH, w, q, k⟩ => by
    subst hH
    unfold rApp at q
    split at q
    · rename_i ds hi
      obtain ⟨l, vs, e1, e2, e3, e4⟩ := w.own i ds hi
      refine ⟨_, e1, .inl ⟨rfl, vs, .of (jn_of_r w.dj e2).2⟩, ?_⟩
      refine k.lf w q fun v d F' x w' rv q' => ?_
      obtain ⟨l', vs', g1, g2, g3, g4⟩ := w'.own i ds hi
      rw [e1] at g1
      cases g1
      rw [e2] at g2
      cases g2
      refine ⟨l, vs, v, rfl, rfl, (jn_of_r w'.dj e2).2, by rw [g3.length]; exact q'.1, ?_⟩
      have w2 := w'.chg hi e1 (Reps.append g3 (Reps.cons rv Reps.nil))
      rw [upd_own w' e2]
      exact k.nx _ F' _ _ w2 q'.2
    · exact q.elim
/-- x.extend(e), e a list -/
def rExt (i : Nat) (re : RE) : RS := fun N ρ => match ρ[i]? with
  | some (.own ds) => re ρ (fun d => match d with
    | .lst es => ds.length + es.length ≤ sizeLine ∧ N.nx (ρ.set i (.own (ds ++ es)))
    | _ => False) N.ex
  | _ => False
theorem ds_ext {i : Nat} {x : Str} {p ap cp : Pos} (hv : PE X (.Name x p) (tVar i)) (he : DE B X W e re)
    (hpl : ((backTo cp (starEach (e :: []) X.env)).all (fun x => !x.1) && (backToKw cp (keywordEach [] X.env)).all (fun x => x.1.isSome) && decide ((e :: []).length + ([] : List Keyword).length + (if ([] : List Keyword).isEmpty then 0 else 1) < 30)) = true := by rfl)
    (h0 : attributeBase (.Name x p) "extend" X.env (eval (.Name x p) X.env) = eval (.Name x p) X.env := by rfl) (h1 : (ap.endLine == cp.line) = true := by rfl) (h2 : starEach (e :: []) X.env = (false, eval e X.env) :: starEach [] X.env := by rfl) (h3 : (backTo cp (starEach [] X.env)).any (·.1) = false := by rfl)
    (hs : swapsWith (.Call (.Attribute (.Name x p) "extend" ap) [e] [] cp) none pos.line X.env = pure false := by rfl) :
    DS B X W (.Expr (.Call (.Attribute (.Name x p) "extend" ap) [e] [] cp) pos) (rExt i re) :=
  (ps_expr (pe_bm PySem.F.plainAttrs_list PySem.F.slot_list_extend PySem.F.type_list_extend mt_extend hv (pa_cons he pa_nil h2) h0 hpl h1 h2 h3) hs).imp fun D σ H ⟨F, R, ρ, N, hH, w, q, k⟩ => by
    subst hH
    unfold rExt at q
    split at q
    · rename_i ds hi
      obtain ⟨l, vs, e1, e2, e3, e4⟩ := w.own i ds hi
      refine ⟨_, e1, .inl ⟨rfl, vs, .of (jn_of_r w.dj e2).2⟩, ?_⟩
      refine k.lf w q fun v d F' x w' rv q' => ?_
      obtain ⟨l', vs', g1, g2, g3, g4⟩ := w'.own i ds hi
      rw [e1] at g1
      cases g1
      rw [e2] at g2
      cases g2
      split at q'
      · obtain ⟨b, us, rfl, hb, rb⟩ := rep_lst rv
        refine ⟨l, b, vs, us, rfl, rfl, (jn_of_r w'.dj e2).2, jn_l hb, by rw [g3.length, rb.length]; exact q'.1, ?_⟩
        have w2 := w'.chg hi e1 (Reps.append g3 rb)
        rw [upd_own w' e2]
        exact k.nx _ F' _ _ w2 q'.2
      · exact q'.elim
    · exact q.elim
end
end L3
namespace L3
open PySem PySem.Spec L2
open PyProof.Rows hiding St
/-! ### what is walked -/
structure Wk (K : KC) (J : It) (ds : List D) (F0 : Hp) : Prop where
  go : ∀ F R (i : Nat), Ext K F0 F → Dj F R → i < ds.length → J.go i (jn F R)
  stop : ∀ F R (i : Nat), Ext K F0 F → Dj F R → ds.length ≤ i → J.stop i (jn F R)
  yld : ∀ F R (i : Nat) x H', Ext K F0 F → Dj F R → i < ds.length → J.yld i (jn F R) x H' → ∃ F' d, H' = jn F' R ∧ Ext K F F' ∧ Dj F' R ∧ ds[i]? = some d ∧ Rep K F' x d
def lI (K : KC) (B : Bs) (W : WX) (r : RA) : TI := fun σ H Z => ∃ F R ρ Q' E', H = jn F R ∧ Wd K B σ F R ρ ∧ r ρ Q' E' ∧ (∀ J ds F', Ext K F F' → Dj F' R → Wk K J ds F' → Q' ds → Z J (jn F' R)) ∧
  ∀ x cls od F', Ext K F F' → Dj F' R → RepX K F' cls od x → E' x → W cls od σ (jn F' R)
abbrev DI (B : Bs) (X : Cx) (W : WX) (tg e : Expr) (r : RA) : Prop := PI X tg e (lI (kc B.T X) B W r)
theorem _root_.L2.PI.imp {X : Cx} {tg e : Expr} {t t' : TI} (h : PI X tg e t) (i : ∀ σ H Z, t' σ H Z → t σ H Z) : PI X tg e t' := ⟨fun pins s σ H Z I q => h.run pins s σ H Z I (i σ H Z q)⟩
section
variable {K : KC} {F : Hp}
theorem wk_list {a : Addr} {vs : List V} {ds : List D} (h : SqL K.K F a vs) (r : Reps K F vs ds) : Wk K (Itl K.K a) ds F where
  go := fun F' R i x dj hl => by
    have hv : i < vs.length := by rw [r.length]; exact hl
    exact ⟨vs, vs[i], sq_s (x.seqL h), List.getElem?_eq_getElem hv⟩
  stop := fun F' R i x dj hl => ⟨vs, sq_s (x.seqL h), by rw [r.length]; exact hl⟩
  yld := fun F' R i y H' x dj hl ⟨e, q⟩ => by
    obtain ⟨d, e1, e2⟩ := r.getV (q vs (sq_s (x.seqL h)))
    exact ⟨F', d, e, .refl _, dj, e1, Rep.ext x _ _ e2⟩
theorem wk_tup {a : Addr} {vs : List V} {ds : List D} (h : F a = some (.tup vs)) (r : Reps K F vs ds) : Wk K (Itt K.K a) ds F where
  go := fun F' R i x dj hl => by
    have hv : i < vs.length := by rw [r.length]; exact hl
    exact ⟨vs, vs[i], .inl (.inl (jn_l (x.tup h))), List.getElem?_eq_getElem hv⟩
  stop := fun F' R i x dj hl => ⟨vs, .inl (.inl (jn_l (x.tup h))), by rw [r.length]; exact hl⟩
  yld := fun F' R i y H' x dj hl ⟨e, q⟩ => by
    obtain ⟨d, e1, e2⟩ := r.getV (q vs (.inl (.inl (jn_l (x.tup h)))))
    exact ⟨F', d, e, .refl _, dj, e1, Rep.ext x _ _ e2⟩
def rangeD (lo : Int) (n : Nat) : List D := (List.range n).map fun i => .int (lo + (i : Nat))
theorem wk_range {lo : Int} {n : Nat} : Wk K (Itr lo n) (rangeD lo n) F where
  go := fun F' R i x dj hl => by
    have : i < n := by simpa [rangeD] using hl
    exact this
  stop := fun F' R i x dj hl => by
    have : n ≤ i := by simpa [rangeD] using hl
    exact this
  yld := fun F' R i y H' x dj hl ⟨e, q⟩ => by
    have hn : i < n := by simpa [rangeD] using hl
    refine ⟨F', .int (lo + (i : Nat)), e, .refl _, dj, ?_, by rw [q]; exact of_int _⟩
    unfold rangeD
    rw [List.getElem?_map, List.getElem?_range hn]
    rfl
def zipD (xs ys : List D) : List D := (xs.zip ys).map fun p => .tup [p.1, p.2]
theorem zipD_length (xs ys : List D) : (zipD xs ys).length = min xs.length ys.length := by simp [zipD]
theorem zipD_get {xs ys : List D} {i : Nat} {d e : D} (h1 : xs[i]? = some d) (h2 : ys[i]? = some e) : (zipD xs ys)[i]? = some (.tup [d, e]) := by
  have e0 : (xs.zip ys)[i]? = some (d, e) := List.getElem?_zip_eq_some.mpr ⟨h1, h2⟩
  unfold zipD
  rw [List.getElem?_map, e0]
  rfl
end
section
variable {B : Bs} {X : Cx} {W : WX} {a b c e tg : Expr} {es rest : List Expr} {ra rb rc re : RE} {rt : RT} {rs ri : RA} {pos : Pos} {st : Stmt} {sts body : List Stmt} {r r1 r2 : RS}
/-- a list or a tuple, walked -/
def iAny (K : PySem.W.Frag) (tl : TE) : TI := fun σ H Z => tl σ H fun x H1 => ∃ q, x = .ref q ∧ (((∃ ys, SqL K H1 q ys) ∧ Z (Itl K q) H1) ∨ ((∃ ys, SqT K H1 q ys) ∧ Z (Itt K q) H1))
theorem pi_any {tl : TE} (hl : PE X e tl) : PI X tg e (iAny X.K tl) :=
  ⟨fun ps s0 σ H Z I0 hh => thn (hl.run ps s0 σ H _ I0 hh) fun u s1 ⟨x, H1, I1, rr, q, ex, alt⟩ => by
    subst ex
    cases rr
    have hf := I1.hok.fresh (Nat.le_refl s1.heap.objs.size)
    have fp : ∀ b' ∈ [s1.heap.objs.size], FpOk X ps H1 b' := fun b' hb' => by
      obtain rfl : b' = s1.heap.objs.size := by simpa using hb'
      exact I1.fpOk (Nat.le_refl _) hf
    have kp : ∀ o : Obj, Inv X ps σ H1 { s1 with heap := s1.heap.push o } := fun o => I1.kept (t' := s1.toks) fun _ _ g => Heap.get?_push_of_some _ g
    rcases alt with ⟨⟨ys, hq⟩, hz⟩ | ⟨⟨ys, hq⟩, hz⟩
    · obtain ⟨its, _, pl, _⟩ := I1.list hq
      exact wpAny_pyIter_list pl.isList ⟨_, [s1.heap.objs.size], _, _, H1, rfl, kp _, turn_list q _, ⟨_, Heap.get?_push_size _ rfl, rfl, rfl⟩, fp, hz⟩
    · obtain ⟨its, _, pl, _⟩ := I1.tuple hq
      exact wpAny_pyIter_tuple (show s1.heap.IsTuple q its.toArray from pl) ⟨_, [s1.heap.objs.size], _, _, H1, rfl, kp _, turn_tuple q _, ⟨_, Heap.get?_push_size _ rfl, rfl, rfl⟩, fp, hz⟩⟩
def rIt (re : RE) : RA := fun ρ Q E => re ρ (fun d => match itemsOf d with
  | some ds => Q ds
  | none => False) E
theorem di_seq (he : DE B X W e re) : DI B X W tg e (rIt re) := (pi_any he).imp fun σ H Z ⟨F, R, ρ, Q', E', hH, w, q, kk, kx⟩ => by
  subst hH
  refine ⟨F, R, ρ, _, E', rfl, w, q, fun v d F' x dj rv q' => ?_, kx⟩
  cases d with
  | tup ds =>
    obtain ⟨p, vs, rfl, ha, ra⟩ := rep_tup rv
    exact ⟨p, rfl, .inr ⟨⟨vs, sq_t (K := kc B.T X) ha⟩, kk _ ds F' x dj (wk_tup ha ra) q'⟩⟩
  | lst ds =>
    obtain ⟨p, vs, rfl, ha, ra⟩ := rep_lst rv
    exact ⟨p, rfl, .inl ⟨⟨vs, sq_l (K := kc B.T X) ha⟩, kk _ ds F' x dj (wk_list (.of ha) ra) q'⟩⟩
  | scr xs =>
    obtain ⟨p, rfl, ha⟩ := rep_scr rv
    exact ⟨p, rfl, .inl ⟨⟨_, sq_s (K := kc B.T X) ha⟩, kk _ _ F' x dj (wk_list ha reps_ints) q'⟩⟩
  | _ => exact (show False from q').elim
def gRange1 (Q : List D → Prop) : List D → Prop := fun ds => match ds with
  | [.int j] => (-(2 ^ 62) ≤ j ∧ j < 2 ^ 62) ∧ Q (rangeD 0 j.toNat)
  | _ => False
def gRange2 (Q : List D → Prop) : List D → Prop := fun ds => match ds with
  | [.int i, .int j] => (-(2 ^ 62) ≤ i ∧ i < 2 ^ 62 ∧ -(2 ^ 62) ≤ j ∧ j < 2 ^ 62) ∧ Q (rangeD i (j - i).toNat)
  | _ => False
def rRange1 (rs : RA) : RA := fun ρ Q E => rs ρ (gRange1 Q) E
def rRange2 (rs : RA) : RA := fun ρ Q E => rs ρ (gRange2 Q) E
theorem di_range1 {p : Pos} (hg : Gl X "range") (hm : X.mg "range" = none) (ha : DA B X W [a] rs) (hs : starEach [a] X.env = [(false, eval a X.env)] := by rfl) : DI B X W tg (.Call (.Name "range" p) [a] [] pos) (rRange1 rs) := (pi_range1 hg hm ha hs).imp fun σ H Z ⟨F, R, ρ, Q', E', hH, w, q, kk, kx⟩ => by
  subst hH
  refine ⟨F, R, ρ, _, E', rfl, w, q, fun vs ds F' x dj rv q' => ?_, kx⟩
  unfold gRange1 at q'
  split at q'
  · obtain ⟨v, rfl, h⟩ := reps_one rv
    exact ⟨_, by rw [rep_int h], q'.1.1, q'.1.2, kk _ _ F' x dj wk_range q'.2⟩
  · exact q'.elim
theorem di_range2 {p : Pos} (hg : Gl X "range") (hm : X.mg "range" = none) (ha : DA B X W [a, b] rs) (hs : starEach [a, b] X.env = [(false, eval a X.env), (false, eval b X.env)] := by rfl) (hs2 : starEach [b] X.env = [(false, eval b X.env)] := by rfl) : DI B X W tg (.Call (.Name "range" p) [a, b] [] pos) (rRange2 rs) :=
  (pi_range2 hg hm ha hs hs2).imp fun σ H Z ⟨F, R, ρ, Q', E', hH, w, q, kk, kx⟩ => by
    subst hH
    refine ⟨F, R, ρ, _, E', rfl, w, q, fun vs ds F' x dj rv q' => ?_, kx⟩
    unfold gRange2 at q'
    split at q'
    · obtain ⟨v, u, rfl, h, h'⟩ := reps_two rv
      exact ⟨_, _, by rw [rep_int h, rep_int h'], q'.1, kk _ _ F' x dj wk_range q'.2⟩
    · exact q'.elim
/-! ### loops -/
theorem Wd.rebase {K : KC} {σ : St} {F F1 R : Hp} {ρ : Env3} (w : Wd K B σ F R ρ) (x : Ext K F1 F) : Wd K ⟨F1, B.Fr, B.T⟩ σ F R ρ := ⟨w.tb, x, w.fr, w.dj, w.len, w.val, w.own, w.obj, w.sep⟩
theorem Wd.unbase {K : KC} {σ : St} {F F1 R : Hp} {ρ : Env3} (w : Wd K ⟨F1, B.Fr, B.T⟩ σ F R ρ) (x : Ext K B.F0 F1) : Wd K B σ F R ρ := ⟨w.tb, x.trans w.ex, w.fr, w.dj, w.len, w.val, w.own, w.obj, w.sep⟩
theorem pss_any (hb : ∀ F0, DSs ⟨F0, B.Fr, B.T⟩ X W body r) : PSs X body (fun D σ H => ∃ F0, lS (kc B.T X) ⟨F0, B.Fr, B.T⟩ W r D σ H) := ⟨fun pins s σ H D I ⟨F0, h⟩ => (hb F0).run pins s σ H D I h⟩
def forL (g : G3) (body : RS) (N : En3) : List D → Env3 → Prop
  | [], ρ => N.nx ρ
  | d :: ds, ρ => g d ρ (fun ρ' => body { N with nx := forL g body N ds, ct := forL g body N ds, bk := N.nx } ρ')
def rFor (ri : RA) (g : G3) (body : RS) : RS := fun N ρ => ri ρ (fun ds => forL g body N ds ρ) N.ex
theorem ds_for {is : List Nat} {g : G3} (hp : PassesOwn (model X.prog X.w) X.A X.env X.xe) (hc : X.calm = true) (hi : DI B X W tg e ri) (hg : DG B.T X is tg g) (hb : ∀ F0, DSs ⟨F0, B.Fr, B.T⟩ X W body r) (hs : ∀ x, foldedSetIterable e X.env x = pure x := by intro _; rfl) :
    DS B X W (.For tg e body [] pos) (rFor ri g r) := (ps_for hp hc hi hg (pss_any hb) hs).imp fun D0 σ H ⟨F, R, ρ, N, hH, w, q, k⟩ => by
  subst hH
  refine ⟨F, R, ρ, _, N.ex, rfl, w, q, fun J ds F1 x1 dj1 wk q1 => ?_, fun x cls od F' e dj rx q' => k.ex x cls od σ F' R ρ (w.ext e dj) rx q'⟩
  refine ⟨fun i m σ' H' => m + i = ds.length ∧ ∃ F2 R2 ρ2, H' = jn F2 R2 ∧ Wd (kc B.T X) B σ' F2 R2 ρ2 ∧ Ext (kc B.T X) F1 F2 ∧ forL g r N (ds.drop i) ρ2, ⟨ds.length, by omega, F1, R, ρ, rfl, w.ext x1 dj1, .refl _, by simpa using q1⟩, ?_⟩
  rintro i m σ' H' ⟨hm, F2, R2, ρ2, rfl, w2, x2, q2⟩
  by_cases hl : i < ds.length
  · refine .inr ⟨wk.go F2 R2 i x2 w2.dj hl, fun σ3 H3 => ∃ F3 R3 ρ3, H3 = jn F3 R3 ∧ Wd (kc B.T X) B σ3 F3 R3 ρ3 ∧ Ext (kc B.T X) F1 F3 ∧ forL g r N (ds.drop (i + 1)) ρ3, ?_, ?_⟩
    · rintro σ3 H3 ⟨F3, R3, ρ3, rfl, w3, x3, q3⟩
      exact ⟨m - 1, by omega, by omega, F3, R3, ρ3, rfl, w3, x3, q3⟩
    · intro v H3 hy
      obtain ⟨F3, d, rfl, x3, dj3, e3, r3⟩ := wk.yld F2 R2 i v H3 x2 w2.dj hl hy
      have ed : ds.drop i = d :: ds.drop (i + 1) := by
        obtain ⟨h1, h2⟩ := List.getElem?_eq_some_iff.mp e3
        rw [(List.drop_eq_getElem_cons h1), h2]
      rw [ed] at q2
      refine ⟨B, F3, R2, ρ2, d, _, rfl, w2.ext x3 dj3, r3, q2, fun σ4 ρ4 w4 _ _ q4 => ?_⟩
      have x5 : Ext (kc B.T X) B.F0 F1 := w.ex.trans x1
      refine ⟨F1, F3, R2, ρ4, _, rfl, w4.rebase (x2.trans x3), q4, ?_⟩
      exact ⟨fun σ5 F5 R5 ρ5 w5 q5 => ⟨F5, R5, ρ5, rfl, w5.unbase x5, w5.ex, q5⟩, fun v d σ5 F5 R5 ρ5 w5 => k.rt v d σ5 F5 R5 ρ5 (w5.unbase x5), fun x cls od σ5 F5 R5 ρ5 w5 => k.ex x cls od σ5 F5 R5 ρ5 (w5.unbase x5), fun σ5 F5 R5 ρ5 w5 => k.nx σ5 F5 R5 ρ5 (w5.unbase x5), fun σ5 F5 R5 ρ5 w5 q5 => ⟨F5, R5, ρ5, rfl, w5.unbase x5, w5.ex, q5⟩⟩
  · refine .inl ⟨wk.stop F2 R2 i x2 w2.dj (by omega), ?_⟩
    rw [List.drop_eq_nil_of_le (by omega)] at q2
    exact k.nx σ' F2 R2 ρ2 w2 q2
/-! ### while -/
def whL (t : RT) (body : RS) (N : En3) : Nat → Env3 → Prop
  | 0, _ => False
  | n + 1, ρ => t ρ (fun b => match b with
    | true => body { N with nx := whL t body N n, ct := whL t body N n, bk := N.nx } ρ
    | false => N.nx ρ) N.ex
def rWhile (t : RT) (body : RS) : RS := fun N ρ => ∃ n, whL t body N n ρ
theorem ds_while (hp : PassesOwn (model X.prog X.w) X.A X.env X.xe) (hc : DT B X W c rt) (hb : DSs B X W body r) : DS B X W (.While c body [] pos) (rWhile rt r) := (ps_while hp hc hb).imp fun D0 σ H ⟨F, R, ρ, N, hH, w, ⟨n, q⟩, k⟩ => by
  subst hH
  refine ⟨fun m σ' H' => ∃ F2 R2 ρ2, H' = jn F2 R2 ∧ Wd (kc B.T X) B σ' F2 R2 ρ2 ∧ whL rt r N m ρ2, ⟨n, F, R, ρ, rfl, w, q⟩, ?_⟩
  rintro m σ' H' ⟨F2, R2, ρ2, rfl, w2, q2⟩
  cases m with
  | zero => exact q2.elim
  | succ m =>
    refine k.lf w2 q2 fun v d F' x w' rv q' => ?_
    cases rv
    cases v with
    | false => exact k.nx σ' F' R2 ρ2 w' q'
    | true =>
      refine ⟨fun σ3 H3 => ∃ F3 R3 ρ3, H3 = jn F3 R3 ∧ Wd (kc B.T X) B σ3 F3 R3 ρ3 ∧ whL rt r N m ρ3, ?_, ?_⟩
      · rintro σ3 H3 ⟨F3, R3, ρ3, rfl, w3, q3⟩
        exact ⟨m, Nat.lt_succ_self m, F3, R3, ρ3, rfl, w3, q3⟩
      · exact ⟨F', R2, ρ2, _, rfl, w', q', fun σ3 F3 R3 ρ3 w3 q3 => ⟨F3, R3, ρ3, rfl, w3, q3⟩, k.rt, k.ex, k.nx, fun σ3 F3 R3 ρ3 w3 q3 => ⟨F3, R3, ρ3, rfl, w3, q3⟩⟩
/-! ### comprehensions -/
def wipe3 (ρ : Env3) : List Nat → Env3
  | [] => ρ
  | v :: vs => (wipe3 ρ vs).set v .emp
theorem Wd.setE {K : KC} {σ : St} {F R : Hp} {ρ : Env3} (w : Wd K B σ F R ρ) (i : Nat) : Wd K B (σ.set i none) F R (ρ.set i .emp) := by
  have keyV : ∀ {s : Sl} {j : Nat}, s ≠ .emp → (ρ.set i .emp)[j]? = some s → i ≠ j ∧ ρ[j]? = some s := fun {s j} hs h => by
    by_cases hj : i = j
    · subst hj
      by_cases hl : i < ρ.length
      · rw [List.getElem?_set_self hl] at h
        cases h
        exact absurd rfl hs
      · rw [List.getElem?_eq_none (by rw [List.length_set]; omega)] at h
        cases h
    · rw [List.getElem?_set_ne hj] at h
      exact ⟨hj, h⟩
  refine ⟨w.tb, w.ex, w.fr, w.dj, by rw [List.length_set, List.length_set]; exact w.len, fun j d h => ?_, fun j ds h => ?_, fun j c a fs h => ?_, fun j k a dj dk h1 h2 h3 h4 => ?_⟩
  · obtain ⟨n, h'⟩ := keyV (fun z => by cases z) h
    rw [List.getElem?_set_ne n]
    exact w.val j d h'
  · obtain ⟨n, h'⟩ := keyV (fun z => by cases z) h
    rw [List.getElem?_set_ne n]
    exact w.own j ds h'
  · obtain ⟨n, h'⟩ := keyV (fun z => by cases z) h
    rw [List.getElem?_set_ne n]
    exact w.obj j c a fs h'
  · obtain ⟨n1, g1⟩ := keyV (fun z => by cases z) h1
    obtain ⟨n2, g2⟩ := keyV (fun z => by cases z) h2
    rw [List.getElem?_set_ne n1] at h3
    rw [List.getElem?_set_ne n2] at h4
    exact w.sep j k a dj dk g1 g2 h3 h4
theorem Wd.wipe {K : KC} {σ : St} {F R : Hp} {ρ : Env3} (w : Wd K B σ F R ρ) : ∀ vs : List Nat, Wd K B (L2.wipe σ vs) F R (wipe3 ρ vs)
  | [] => w
  | v :: vs => (Wd.wipe w vs).setE v
theorem wipe_get (σ : St) : ∀ (vs : List Nat) (j : Nat), j < σ.length → (L2.wipe σ vs)[j]? = if j ∈ vs then some none else σ[j]?
  | [], j, _ => by simp [L2.wipe]
  | v :: vs, j, hl => by
    unfold L2.wipe
    have ih := wipe_get σ vs j hl
    have hl2 : j < (L2.wipe σ vs).length := by rw [wipe_length]; exact hl
    by_cases h : v = j
    · subst h
      rw [List.getElem?_set_self hl2]
      simp
    · rw [List.getElem?_set_ne h, ih]
      have : (j ∈ v :: vs) ↔ j ∈ vs := by
        rw [List.mem_cons]
        exact ⟨fun z => z.elim (fun e => absurd e.symm h) id, .inr⟩
      simp only [this]
theorem wipe_chg {σ σ' : St} {vs : List Nat} (c : Chg vs (L2.wipe σ vs) σ') : L2.wipe σ' vs = L2.wipe σ vs := by
  have hl : σ'.length = σ.length := by rw [c.1, wipe_length]
  apply List.ext_getElem?
  intro j
  by_cases h : j < σ.length
  · rw [wipe_get σ' vs j (by omega), wipe_get σ vs j h]
    by_cases m : j ∈ vs
    · rw [if_pos m, if_pos m]
    · rw [if_neg m, if_neg m, c.2 j m, wipe_get σ vs j h, if_neg m]
  · rw [List.getElem?_eq_none (by rw [wipe_length]; omega), List.getElem?_eq_none (by rw [wipe_length]; omega)]
/-- the items made, one behind the other -/
def compL (g : G3) (t : RT) (re : RE) (vs : List Nat) (ρ : Env3) (Q : List D → Prop) : List D → List D → Prop
  | [], acc => Q acc
  | d :: ds, acc => g d (wipe3 ρ vs) (fun ρ' => t ρ' (fun b => match b with
    | true => re ρ' (fun y => compL g t re vs ρ Q ds (acc ++ [y])) (fun _ => False)
    | false => compL g t re vs ρ Q ds acc) (fun _ => False))
def rComp (ri : RA) (g : G3) (t : RT) (re : RE) (vs : List Nat) : RA := fun ρ Q E => ri ρ (fun ds => ds.length ≤ sizeLine ∧ compL g t re vs ρ Q ds []) E
abbrev W0 : WX := fun _ _ _ _ => False
theorem lL_comp {K : KC} {is vs : List Nat} {g : G3} {σ : St} {H : Hp} {Q : VK} (hsub : ∀ j ∈ is, j ∈ vs) (h : lL K B W (rComp ri g rt re vs) σ H Q) :
    tLc (lI K B W ri) (lG K is g) (lT K B W0 rt) (lE K B W0 re) vs σ H Q := by
  obtain ⟨F, R, ρ, Q', E', rfl, w, q, kk, kx⟩ := h
  refine ⟨F, R, ρ, _, E', rfl, w, q, fun J ds F1 x1 dj1 wk q1 => ?_, kx⟩
  intro p hp
  have w1 := w.ext x1 dj1
  obtain ⟨hsz, q1⟩ := q1
  -- behind i items: the list at p holds acc, so many as items at most; all else stands
  refine ⟨fun i m H' => m + i = ds.length ∧ ∃ F2 acc accD, H' = jn F2 (upd R p (.lst acc)) ∧ Ext K F1 F2 ∧ Dj F2 R ∧ F2 p = none ∧ Reps K F2 acc accD ∧ acc.length ≤ i ∧ compL g rt re vs ρ Q' (ds.drop i) accD, ⟨ds.length, by omega, F1, [], [], ?_, .refl _, dj1, (jn_none hp).1, Reps.nil, Nat.zero_le _, by simpa using q1⟩, ?_⟩
  · exact jn_updR (jn_none hp).1
  rintro i m H' ⟨hm, F2, acc, accD, rfl, x2, dj2, np, ra, hacc, q2⟩
  have djp : Dj F2 (upd R p (.lst acc)) := dj2.updR np
  by_cases hl : i < ds.length
  · refine .inr ⟨wk.go F2 _ i x2 djp hl, fun H3 => ∃ F3 acc3 accD3, H3 = jn F3 (upd R p (.lst acc3)) ∧ Ext K F1 F3 ∧ Dj F3 R ∧ F3 p = none ∧ Reps K F3 acc3 accD3 ∧ acc3.length ≤ i + 1 ∧ compL g rt re vs ρ Q' (ds.drop (i + 1)) accD3, ?_, ?_⟩
    · rintro H3 ⟨F3, acc3, accD3, e3, x3, dj3, np3, ra3, ha3, q3⟩
      exact ⟨m - 1, by omega, by omega, F3, acc3, accD3, e3, x3, dj3, np3, ra3, ha3, q3⟩
    · intro v H3 hy
      obtain ⟨F3, d, rfl, x3, dj3, e3, r3⟩ := wk.yld F2 _ i v H3 x2 djp hl hy
      have ed : ds.drop i = d :: ds.drop (i + 1) := by
        obtain ⟨h1, h2⟩ := List.getElem?_eq_some_iff.mp e3
        rw [(List.drop_eq_getElem_cons h1), h2]
      rw [ed] at q2
      have np3 : F3 p = none := by
        cases e : F3 p with
        | none => rfl
        | some o =>
          have := dj3 p o e
          rw [upd_same] at this
          cases this
      -- the world within: the list that is being made is of the rest
      have wi : Wd K B (L2.wipe σ vs) F3 (upd R p (.lst acc)) (wipe3 ρ vs) := by
        have w0 := (w1.ext (x2.trans x3) (F' := F3) (dj_down (jn_none hp).2 dj3).2).wipe vs
        refine ⟨w0.tb, w0.ex, fun b o hb => ?_, dj3, w0.len, w0.val, fun j es hj => ?_, fun j c b fs hj => ?_, w0.sep⟩
        · have h1 := w0.fr b o hb
          have : b ≠ p := fun z => by rw [z, (jn_none hp).2] at h1; cases h1
          rw [upd_ne this]
          exact h1
        · obtain ⟨b, us, g1, g2, g3, g4⟩ := w0.own j es hj
          have : b ≠ p := fun z => by rw [z, (jn_none hp).2] at g2; cases g2
          exact ⟨b, us, g1, by rw [upd_ne this]; exact g2, g3, g4⟩
        · obtain ⟨z, dx, us, g1, g2, g3, g4⟩ := w0.obj j c b fs hj
          have n1 : b ≠ p := fun z => by rw [z, (jn_none hp).2] at g2; cases g2
          have n2 : dx ≠ p := fun z => by rw [z, (jn_none hp).2] at g3; cases g3
          exact ⟨z, dx, us, g1, by rw [upd_ne n1]; exact g2, by rw [upd_ne n2]; exact g3, g4⟩
      refine ⟨B, F3, _, _, d, _, rfl, wi, r3, q2, fun σ4 ρ4 w4 c4 _ q4 => ⟨wipe_chg ⟨c4.1, fun j hj => c4.2 j fun z => hj (hsub j z)⟩, ?_⟩⟩
      refine ⟨F3, _, ρ4, _, _, rfl, w4, q4, fun b b' F4 x4 dj4 eb q5 => ?_, fun _ _ _ _ _ _ _ z => z.elim⟩
      cases eb
      have down : ∀ {F5 : Hp}, Dj F5 (upd R p (.lst acc)) → Dj F5 R ∧ F5 p = none := fun {F5} dj5 => (dj_down (jn_none hp).2 dj5).symm
      cases b with
      | false =>
        obtain ⟨d5, n5⟩ := down dj4
        exact ⟨F4, acc, accD, rfl, (x2.trans x3).trans x4, d5, n5, Reps.ext (x3.trans x4) _ _ ra, by omega, q5⟩
      | true =>
        refine ⟨F4, _, ρ4, _, _, rfl, w4.ext x4 dj4, q5, fun y yd F5 x5 dj5 ry q6 => ?_, fun _ _ _ _ _ _ _ z => z.elim⟩
        obtain ⟨d5, n5⟩ := down dj5
        refine ⟨acc, (jn_of_r dj5 upd_same).2, by omega, F5, acc ++ [y], accD ++ [yd], ?_, ((x2.trans x3).trans x4).trans x5, d5, n5, Reps.append (Reps.ext ((x3.trans x4).trans x5) _ _ ra) (Reps.cons ry Reps.nil), by rw [List.length_append, List.length_singleton]; omega, q6⟩
        rw [jn_updR n5, upd_upd]
  · refine .inl ⟨wk.stop F2 _ i x2 djp (by omega), ?_⟩
    rw [List.drop_eq_nil_of_le (by omega)] at q2
    have hp2 : jn F2 R p = none := by
      rw [jn_r np]
      exact (jn_none hp).2
    rw [← jn_updR np]
    exact kk p acc accD F2 (x1.trans x2) dj2 ra (by omega) q2 hp2
theorem kc_blk {T : List (Addr × Str)} (hpn : X.pn = []) (s : Shared) (H : Hp) (scope : Scope) (env : Env) (fp : List Addr) : kc T (X.blk s H scope env fp) = kc T X := by
  show (⟨X.K, cmOf X.mg, [], T⟩ : KC) = ⟨X.K, cmOf X.mg, X.pn, T⟩
  rw [hpn]
/-- the tests of a comprehension -/
abbrev DTs (B : Bs) (X : Cx) (W : WX) (ifs : List Expr) (r : RT) : Prop := PTs X ifs (lT (kc B.T X) B W r)
theorem dts_nil : DTs B X W [] (rC true) := ⟨fun pins s σ H Q I ⟨F, R, ρ, Q', E', hH, w, q, k⟩ => by
  subst hH
  exact pts_nil.run pins s σ _ Q I (k.ok true true F (.refl _) w.dj rfl q)⟩
theorem dts_one (h : DT B X W c rt) : DTs B X W [c] rt := ⟨fun pins s σ H Q I q => (pts_one h).run pins s σ H Q I q⟩
theorem fe_comp {iter elt : Expr} {ifs : List Expr} {scope : Scope} {own : List (Str × Nat)} {is vs : List Nat} {g : G3} (hc : X.calm = true) (hN : X.N.Nodup) (hi : DI B X W tg iter ri) (ok : BlkOk X.N X.env.scope scope own)
    (hg : ∀ (s : Shared) (H : Hp) (C : Addr) (cl : List (Str × Addr)) (fp : List Addr), DG B.T (X.blk s H scope (compEnvC scope cl C X.env) fp) is tg g)
    (ht : ∀ (s : Shared) (H : Hp) (C : Addr) (cl : List (Str × Addr)) (fp : List Addr), DTs B (X.blk s H scope (compEnvC scope cl C X.env) fp) W0 ifs rt)
    (he : ∀ (s : Shared) (H : Hp) (C : Addr) (cl : List (Str × Addr)) (fp : List Addr), DE B (X.blk s H scope (compEnvC scope cl C X.env) fp) W0 elt re)
    (hsub : ∀ j ∈ is, j ∈ vs) (hvs : own.map (·.2) = vs := by rfl) (hpn : X.pn = [] := by rfl) (hs : ∀ x, foldedSetIterable iter X.env x = pure x := by intro _; rfl) :
    FE B X W (.ListComp elt [{ target := tg, iter := iter, ifs := ifs, is_async := 0 }] scope pos) (rComp ri g rt re vs) :=
  (pe_lc hc hN hi ok (fun s H C cl fp => by have h := hg s H C cl fp; unfold DG at h; rw [kc_blk hpn] at h; exact h) (fun s H C cl fp => by have h := ht s H C cl fp; unfold DTs at h; rw [kc_blk hpn] at h; exact h) (fun s H C cl fp => by have h := he s H C cl fp; unfold DE at h; rw [kc_blk hpn] at h; exact h) hs).imp fun _ _ _ h => by rw [hvs]; exact lL_comp hsub h
theorem ds_setLc {i : Nat} {y : Str} {py spos : Pos} {iter elt : Expr} {ifs : List Expr} {scope : Scope} {own : List (Str × Nat)} {is vs : List Nat} {g : G3} (hc : X.calm = true) (hN : X.N.Nodup) (hiN : X.N[i]? = some y) (hloc : X.env.scope.names.lookup y = some .local)
    (hsw : swapsWith (.ListComp elt [{ target := tg, iter := iter, ifs := ifs, is_async := 0 }] scope pos) (some (.Name y py)) spos.line X.env = pure true) (hi : DI B X W tg iter ri) (ok : BlkOk X.N X.env.scope scope own)
    (hg : ∀ (s : Shared) (H : Hp) (C : Addr) (cl : List (Str × Addr)) (fp : List Addr), DG B.T (X.blk s H scope (compEnvC scope cl C X.env) fp) is tg g)
    (ht : ∀ (s : Shared) (H : Hp) (C : Addr) (cl : List (Str × Addr)) (fp : List Addr), DTs B (X.blk s H scope (compEnvC scope cl C X.env) fp) W0 ifs rt)
    (he : ∀ (s : Shared) (H : Hp) (C : Addr) (cl : List (Str × Addr)) (fp : List Addr), DE B (X.blk s H scope (compEnvC scope cl C X.env) fp) W0 elt re)
    (hsub : ∀ j ∈ is, j ∈ vs) (hvs : own.map (·.2) = vs := by rfl) (hpn : X.pn = [] := by rfl) (hs : ∀ x, foldedSetIterable iter X.env x = pure x := by intro _; rfl) :
    DS B X W (.Assign [.Name y py] (.ListComp elt [{ target := tg, iter := iter, ifs := ifs, is_async := 0 }] scope pos) spos) (rSetL i (rComp ri g rt re vs)) :=
  ds_setLT (ps_setLc hc hN hiN hloc hsw hi ok (fun s H C cl fp => by have h := hg s H C cl fp; unfold DG at h; rw [kc_blk hpn] at h; exact h) (fun s H C cl fp => by have h := ht s H C cl fp; unfold DTs at h; rw [kc_blk hpn] at h; exact h) (fun s H C cl fp => by have h := he s H C cl fp; unfold DE at h; rw [kc_blk hpn] at h; exact h) hs) fun _ _ _ h => by rw [hvs]; exact lL_comp hsub h
end
end L3
namespace L3
open PySem PySem.Spec L2
open PyProof.Rows hiding St
/-! ### a def's start, a def's end -/
def start3 (n : Nat) (ds : List D) : Env3 := ds.map Sl.val ++ List.replicate (n - ds.length) .emp
theorem reps_slots {K : KC} {F : Hp} {n : Nat} : ∀ {ds : List D} {vs : List V}, Reps K F vs ds → ∀ (i : Nat) (d : D), (ds.map Sl.val ++ List.replicate n Sl.emp)[i]? = some (.val d) → ∃ v, (vs.map some ++ List.replicate n none)[i]? = some (some v) ∧ Rep K F v d
  | [], vs, h, i, d, e => by
    simp only [List.map_nil, List.nil_append] at e
    rw [List.getElem?_replicate] at e
    split at e <;> cases e
  | d0 :: ds, vs, h, i, d, e => by
    obtain ⟨v, r, rfl, h1, h2⟩ := reps_cons h
    cases i with
    | zero =>
      simp at e
      subst e
      exact ⟨v, rfl, h1⟩
    | succ i => simpa using reps_slots (n := n) h2 i d (by simpa using e)
theorem wd_start {K : KC} {F R : Hp} {N : List Str} {vs : List V} {ds : List D} (dj : Dj F R) (tb : LamX.Tabs K.T F) (r : Reps K F vs ds) {B : Bs} (hF : B.F0 = F) (hR : B.Fr = R) : Wd K B (L2.start N vs) F R (start3 N.length ds) where
  tb := tb
  ex := by rw [hF]; exact .refl _
  fr := fun a o h => by rw [hR] at h; exact h
  dj := dj
  len := by
    unfold L2.start start3
    rw [List.length_append, List.length_append, List.length_map, List.length_map, List.length_replicate, List.length_replicate, r.length]
  val := fun i d h => by
    unfold start3 at h
    unfold L2.start
    rw [r.length]
    exact reps_slots r i d h
  own := fun i es h => by
    unfold start3 at h
    have := List.mem_of_getElem? h
    simp at this
  obj := fun i c a fs h => by
    unfold start3 at h
    have := List.mem_of_getElem? h
    simp at this
  sep := fun i j a di dj h _ _ _ => by
    unfold start3 at h
    have := List.mem_of_getElem? h
    simp at this
/-- what a def owned goes to what is shared -/
theorem absorb {K : KC} {B : Bs} {σ : St} {F R : Hp} {ρ : Env3} (w : Wd K B σ F R ρ) : ∃ F', jn F R = jn F' B.Fr ∧ Ext K F F' ∧ Dj F' B.Fr := by
  refine ⟨fun a => if (B.Fr a).isSome then none else jn F R a, ?_, ?_, ?_⟩
  · funext a
    cases e : B.Fr a with
    | none =>
      cases h : jn F R a with
      | some o => exact (jn_l (by rw [e]; exact h)).symm
      | none => exact ((jn_r (by rw [e]; exact h)).trans e).symm
    | some o =>
      have h1 := w.fr a o e
      rw [(jn_of_r w.dj h1).2]
      exact ((jn_r (by rw [e]; rfl)).trans e).symm
  · refine Ext.of fun a o h => ?_
    cases e : B.Fr a with
    | none =>
      exact jn_l h
    | some u =>
      have h1 := w.fr a u e
      rw [w.dj a o h] at h1
      cases h1
  · refine ⟨fun a o h => ?_, fun a ps h => w.dj.nt a ps (w.fr a _ h)⟩
    cases e : B.Fr a with
    | none => rfl
    | some u =>
      have h' : (if (B.Fr a).isSome = true then none else jn F R a) = some o := h
      rw [e] at h'
      simp at h'
abbrev WD (E : XK) : WX := fun cls d _ H => E cls d H
section
variable {P : Program} {w : World} {K : PySem.W.Frag} {mg : Str → Option Value} {base : Heap} {T : List (Addr × Str)}
/-- THE RULE for a def: its body's derivation, and that its promise over data gives the body's reading -/
theorem fn3 {x qual : Str} {st : Stmt} {f : Addr} {fd : FuncData} {N ps : List Str} {k n : Nat} {sp : Sp3} {r : RS} (F : Fun K x qual st f fd) (S : FnScope N ps (defScope st)) (hn : ps.length = n)
    (hbody : ∀ (cdv : Value) (A : Around) (outer : List Env) (s : Shared) (H : Hp) (E : XK) (B : Bs), B.T = T → Room k (A.deeper (envOfC qual (defScope st) s.heap.objs.size f cdv)) → Takes (cxOf (L2.CX P w) P w K mg base N qual (defScope st) f cdv A outer s H E) (WD E) →
      DSs B (cxOf (L2.CX P w) P w K mg base N qual (defScope st) f cdv A outer s H E) (WD E) (defBody st) r)
    (hp : ∀ (ds : List D) (Q : D → Prop) (E : XD → Prop), ds.length = n → sp ds Q E → r { nx := fun _ => Q .non, rt := Q, ex := E } (start3 N.length ds)) :
    FnOk P w K mg base (L2.CX P w) (k + 1) f fd ps (lSp ⟨K, cmOf mg, [], T⟩ n sp) := by
  refine F.okX S (fun vs H Q E h => ?_) (fun cdv A outer s H vs Q E hr h => ?_)
  · obtain ⟨_, _, _, _, _, _, _, _, _, hl, _⟩ := h
    rw [hl, hn]
  · obtain ⟨F0, R0, ds, Q', E', hH, dj, tb, rd, hl, hs, kv, kx⟩ := h
    subst hH
    let B : Bs := ⟨F0, R0, T⟩
    have tk : Takes (cxOf (L2.CX P w) P w K mg base N qual (defScope st) f cdv A outer s (jn F0 R0) E) (WD E) := takes_of rfl rfl rfl rfl
    refine ⟨_, hbody cdv A outer s (jn F0 R0) E B rfl hr tk, ?_⟩
    refine ⟨F0, R0, start3 N.length ds, _, rfl, wd_start dj tb rd rfl rfl, hp ds Q' E' (by rw [← rd.length]; exact hl) hs, ?_⟩
    refine ⟨fun σ F R ρ w q => ?_, fun v d σ F R ρ w rv q => ?_, fun x cls od σ F R ρ w rx q => ?_, fun σ F R ρ w q => q.elim, fun σ F R ρ w q => q.elim⟩
    · obtain ⟨F', e, x1, d1⟩ := absorb w
      rw [e]
      exact kv.ok _ _ F' (w.ex.trans x1) d1 of_non q
    · obtain ⟨F', e, x1, d1⟩ := absorb w
      rw [e]
      exact kv.ok _ _ F' (w.ex.trans x1) d1 (Rep.ext x1 _ _ rv) q
    · obtain ⟨F', e, x1, d1⟩ := absorb w
      show E cls od (jn F R)
      rw [e]
      exact kx x cls od F' (w.ex.trans x1) d1 (rx.ext x1) q
end
/-! ### errors of the package: their making -/
/-- what the text says of an error's class, whose __init__ stores its arguments -/
structure ExOk (K : PySem.W.Frag) (mg : Str → Option Value) (c : Str) (C fI : Addr) (flds : List Str) : Prop where
  gC : mg c = some (.ref C)
  ox : OexC K C
  no : ∀ f ∈ flds, PySem.W.findIn K (.ref C) f = some none
  iC : PySem.W.findIn K (.ref C) "__init__" = some (some (.ref fI))
  tI : PySem.W.typeIn K (.ref fI) = some (.type "function")
/-- the fields that stand at an error's dict: the last one stored first -/
def exF (flds : List Str) (vs : List V) : List (Str × V) := (flds.zip vs).reverse
def spInit (K : PySem.W.Frag) (flds : List Str) : Sp := fun vs H Q _ => ∃ (a C : Addr) (ws : List V), vs = .ref a :: ws ∧ ws.length = flds.length ∧ OexC K C ∧ (∀ f ∈ flds, PySem.W.findIn K (.ref C) f = some none) ∧ H a = some (exo a C none) ∧
  ∀ d, H d = none → d ≠ a → ∀ H', H' a = some (exo a C (some d)) → H' d = some (exd d (exF flds ws)) → (∀ b, b ≠ a → b ≠ d → H' b = H b) → Q .non H'
section
variable {P : Program} {w : World} {K : PySem.W.Frag}
variable {mg : Str → Option Value} {base : Heap}
theorem exF_1 {f : Str} {v : V} : exF [f] [v] = [(f, v)] := rfl
theorem exF_2 {f g : Str} {v u : V} : exF [f, g] [v, u] = [(g, u), (f, v)] := rfl
theorem exF_3 {f g h : Str} {v u z : V} : exF [f, g, h] [v, u, z] = [(h, z), (g, u), (f, v)] := rfl
/-- __init__ of one field -/
theorem ok_init1 {qual : Str} {st : Stmt} {f : Addr} {fd : FuncData} {f1 : Str} {s1 a1 b1 c1 : Pos} (F : Fun K "__init__" qual st f fd) (S : FnScope ["self", f1] ["self", f1] (defScope st))
    (hbd : defBody st = [.Assign [.Attribute (.Name "self" s1) f1 a1] (.Name f1 b1) c1])
    (hv0 : Vis (defScope st) "self") (hv1 : Vis (defScope st) f1) (h1 : (f1 == ("__debug__" : Str)) = false) (h2 : (f1 == ("__classdict__" : Str)) = false) :
    FnOk P w K mg base (L2.CX P w) 1 f fd ["self", f1] (spInit K [f1]) := by
  refine F.okX S (fun vs H Q E h => ?_) (fun cdv A outer s H vs Q E hr h => ?_)
  · obtain ⟨a, C, ws, rfl, hl, _⟩ := h
    rw [List.length_cons, hl]
    rfl
  · rw [hbd]
    refine ⟨_, pss_one (ps_ost (pe_var (i := 0) rfl hv0) (pe_var (i := 1) rfl hv1 h1 h2)), ?_⟩
    obtain ⟨a, C, ws, rfl, hl, ox, no, ha, q⟩ := h
    match ws, hl with
    | [v], _ =>
      refine ⟨v, rfl, .ref a, rfl, a, C, rfl, ox, no f1 (by simp), .inl ⟨ha, fun dx hdx hne => ?_⟩⟩
      refine q dx hdx hne _ upd_same ?_ (fun b hb1 hb2 => ?_)
      · rw [upd_ne hne, upd_same, exF_1]
      · rw [upd_ne hb1, upd_ne hb2]
theorem ok_init2 {qual : Str} {st : Stmt} {f : Addr} {fd : FuncData} {f1 f2 : Str} {s1 a1 b1 c1 s2 a2 b2 c2 : Pos} (F : Fun K "__init__" qual st f fd) (S : FnScope ["self", f1, f2] ["self", f1, f2] (defScope st))
    (hbd : defBody st = [.Assign [.Attribute (.Name "self" s1) f1 a1] (.Name f1 b1) c1, .Assign [.Attribute (.Name "self" s2) f2 a2] (.Name f2 b2) c2])
    (hv0 : Vis (defScope st) "self") (hv1 : Vis (defScope st) f1) (h1 : (f1 == ("__debug__" : Str)) = false) (h2 : (f1 == ("__classdict__" : Str)) = false) (hv2 : Vis (defScope st) f2) (h3 : (f2 == ("__debug__" : Str)) = false) (h4 : (f2 == ("__classdict__" : Str)) = false) :
    FnOk P w K mg base (L2.CX P w) 1 f fd ["self", f1, f2] (spInit K [f1, f2]) := by
  refine F.okX S (fun vs H Q E h => ?_) (fun cdv A outer s H vs Q E hr h => ?_)
  · obtain ⟨a, C, ws, rfl, hl, _⟩ := h
    rw [List.length_cons, hl]
    rfl
  · rw [hbd]
    refine ⟨_, pss_cons (ps_ost (pe_var (i := 0) rfl hv0) (pe_var (i := 1) rfl hv1 h1 h2)) (pss_one (ps_ost (pe_var (i := 0) rfl hv0) (pe_var (i := 2) rfl hv2 h3 h4))), ?_⟩
    obtain ⟨a, C, ws, rfl, hl, ox, no, ha, q⟩ := h
    match ws, hl with
    | [v, u], _ =>
      refine ⟨v, rfl, .ref a, rfl, a, C, rfl, ox, no f1 (by simp), .inl ⟨ha, fun dx hdx hne => ?_⟩⟩
      refine ⟨u, rfl, .ref a, rfl, a, C, rfl, ox, no f2 (by simp), .inr ⟨dx, _, upd_same, (by rw [upd_ne hne]; exact upd_same), by simp, ?_⟩⟩
      refine q dx hdx hne _ ?_ ?_ (fun b hb1 hb2 => ?_)
      · rw [upd_ne (Ne.symm hne), upd_same]
      · rw [upd_same, exF_2]
      · rw [upd_ne hb2, upd_ne hb1, upd_ne hb2]
theorem ok_init3 {qual : Str} {st : Stmt} {f : Addr} {fd : FuncData} {f1 f2 f3 : Str} {s1 a1 b1 c1 s2 a2 b2 c2 s3 a3 b3 c3 : Pos} (F : Fun K "__init__" qual st f fd) (S : FnScope ["self", f1, f2, f3] ["self", f1, f2, f3] (defScope st))
    (hbd : defBody st = [.Assign [.Attribute (.Name "self" s1) f1 a1] (.Name f1 b1) c1, .Assign [.Attribute (.Name "self" s2) f2 a2] (.Name f2 b2) c2, .Assign [.Attribute (.Name "self" s3) f3 a3] (.Name f3 b3) c3])
    (hv0 : Vis (defScope st) "self") (hv1 : Vis (defScope st) f1) (h1 : (f1 == ("__debug__" : Str)) = false) (h2 : (f1 == ("__classdict__" : Str)) = false) (hv2 : Vis (defScope st) f2) (h3 : (f2 == ("__debug__" : Str)) = false) (h4 : (f2 == ("__classdict__" : Str)) = false) (hv3 : Vis (defScope st) f3) (h5 : (f3 == ("__debug__" : Str)) = false) (h6 : (f3 == ("__classdict__" : Str)) = false) :
    FnOk P w K mg base (L2.CX P w) 1 f fd ["self", f1, f2, f3] (spInit K [f1, f2, f3]) := by
  refine F.okX S (fun vs H Q E h => ?_) (fun cdv A outer s H vs Q E hr h => ?_)
  · obtain ⟨a, C, ws, rfl, hl, _⟩ := h
    rw [List.length_cons, hl]
    rfl
  · rw [hbd]
    refine ⟨_, pss_cons (ps_ost (pe_var (i := 0) rfl hv0) (pe_var (i := 1) rfl hv1 h1 h2)) (pss_cons (ps_ost (pe_var (i := 0) rfl hv0) (pe_var (i := 2) rfl hv2 h3 h4)) (pss_one (ps_ost (pe_var (i := 0) rfl hv0) (pe_var (i := 3) rfl hv3 h5 h6)))), ?_⟩
    obtain ⟨a, C, ws, rfl, hl, ox, no, ha, q⟩ := h
    match ws, hl with
    | [v, u, z], _ =>
      refine ⟨v, rfl, .ref a, rfl, a, C, rfl, ox, no f1 (by simp), .inl ⟨ha, fun dx hdx hne => ?_⟩⟩
      refine ⟨u, rfl, .ref a, rfl, a, C, rfl, ox, no f2 (by simp), .inr ⟨dx, _, upd_same, (by rw [upd_ne hne]; exact upd_same), by simp, ?_⟩⟩
      refine ⟨z, rfl, .ref a, rfl, a, C, rfl, ox, no f3 (by simp), .inr ⟨dx, _, (by rw [upd_ne (Ne.symm hne)]; exact upd_same), upd_same, by simp, ?_⟩⟩
      refine q dx hdx hne _ ?_ ?_ (fun b hb1 hb2 => ?_)
      · rw [upd_ne (Ne.symm hne), upd_ne (Ne.symm hne), upd_same]
      · rw [upd_same, exF_3]
      · rw [upd_ne hb2, upd_ne hb2, upd_ne hb1, upd_ne hb2]
end
section
variable {B : Bs} {T : List (Addr × Str)} {X : Cx} {W : WX} {e : Expr} {es : List Expr} {rs : RA} {pos pos2 : Pos}
theorem repF_zip {K : KC} {F : Hp} : ∀ {flds : List Str} {vs : List V} {ds : List D}, Reps K F vs ds → flds.length = vs.length → RepF K F (flds.zip vs) (flds.zip ds)
  | [], vs, ds, _, _ => by simp [RepF]
  | f :: fs, vs, [], h, hl => by rw [reps_nil h] at hl; cases hl
  | f :: fs, vs, d :: ds, h, hl => by
    obtain ⟨v, r, rfl, h1, h2⟩ := reps_cons h
    simp only [List.zip_cons_cons]
    unfold RepF
    exact ⟨v, _, rfl, h1, repF_zip h2 (by simpa using hl)⟩
theorem repF_append {K : KC} {F : Hp} : ∀ {xs : List (Str × V)} {ds : List (Str × D)} {ys : List (Str × V)} {es : List (Str × D)}, RepF K F xs ds → RepF K F ys es → RepF K F (xs ++ ys) (ds ++ es)
  | xs, [], ys, es, h, g => by
    unfold RepF at h
    rw [h]
    exact g
  | xs, (k, d) :: ds, ys, es, h, g => by
    unfold RepF at h
    obtain ⟨v, r, rfl, h1, h2⟩ := h
    rw [List.cons_append, List.cons_append]
    unfold RepF
    exact ⟨v, _, rfl, h1, repF_append h2 g⟩
theorem repF_reverse {K : KC} {F : Hp} {ds : List (Str × D)} : ∀ {xs : List (Str × V)}, RepF K F xs ds → RepF K F xs.reverse ds.reverse := by
  induction ds with
  | nil =>
    intro xs h
    unfold RepF at h
    rw [h]
    simp [RepF]
  | cons kd ds ih =>
    obtain ⟨k, d⟩ := kd
    intro xs h
    unfold RepF at h
    obtain ⟨v, r, rfl, h1, h2⟩ := h
    rw [(List.reverse_cons), List.reverse_cons]
    refine repF_append (ih h2) ?_
    unfold RepF
    exact ⟨v, [], rfl, h1, by simp [RepF]⟩
def exD (c : Str) (flds : List Str) (ds : List D) : XD := ⟨c, (flds.zip ds).reverse⟩
/-- raise C(e, ..) -/
def rRaise (c : Str) (flds : List Str) (rs : RA) : RS := fun N ρ => rs ρ (fun ds => ds.length = flds.length ∧ N.ex (exD c flds ds)) N.ex
theorem ds_raise {c : Str} {C fI : Addr} {flds : List Str} {k : Nat} {fd : FuncData} {p : Pos} (hc : X.calm = true) (tk : Takes X W) (O : ExOk X.K X.mg c C fI flds) (hsm : flds.length ≤ 900) (hne : flds ≠ []) (G : FnOk X.prog X.w X.K X.mg X.base (L2.CX X.prog X.w) k fI fd ("self" :: flds) (spInit X.K flds)) (hr : Room (k + 1) X.A)
    (hb : Binds X.K fd ("self" :: flds) []) (hg : Gl X c) (ha : DA B X W (e :: es) rs) (hdb : (c == ("__debug__" : Str)) = false := by decide)
    (he :  starEach (e :: es) X.env = (false, eval e X.env) :: starEach es X.env := by rfl) (hpl : (backTo pos (starEach es X.env)).any (·.1) = false := by rfl) :
    DS B X W (.Raise (some (.Call (.Name c p) (e :: es) [] pos)) none pos2) (rRaise c flds rs) :=
  (ps_raise hc tk (pmk_oex (dvs := []) O.ox O.iC O.tI G hr hb .nil passL hg O.gC ha hdb he hpl)).imp fun D σ H ⟨F, R, ρ, N, hH, w, q, k⟩ => by
    subst hH
    refine k.lf w q fun vs ds F' x w' rv q' => ⟨by rw [rv.length, q'.1]; omega, fun a hna => ?_⟩
    refine ⟨a, C, vs, by rw [List.append_nil], by rw [rv.length]; exact q'.1, O.ox, O.no, upd_same, fun d hd hda H' e1 e2 e3 => ⟨rfl, d, _, e1, e2, ?_, ?_⟩⟩
    · rw [upd_ne hda] at hd
      exact hd
    · have hd' : jn F' R d = none := by
        rw [upd_ne hda] at hd
        exact hd
      have eH : upd (del H' a) d (.xd (exF flds vs)) = jn (upd F' d (.xd (exF flds vs))) R := by
        rw [← jn_newF hd']
        funext b
        by_cases hb1 : b = d
        · subst hb1
          rw [upd_same, upd_same]
        · rw [upd_ne hb1, upd_ne hb1]
          by_cases hb2 : b = a
          · subst hb2
            rw [del_same, hna]
          · rw [del_ne hb2, e3 b hb2 hb1, upd_ne hb2]
      rw [eH]
      have x2 : Ext (kc B.T X) F' (upd F' d (.xd (exF flds vs))) := Ext.newF hd'
      refine k.ex (exD c flds ds) _ _ σ _ R ρ (w'.ext x2 (w'.dj.newF hd')) ⟨by show Value.ref C = Value.ref ((kc B.T X).cm c); rw [show (kc B.T X).cm c = C from cmOf_eq O.gC], .inr ⟨d, _, rfl, upd_same, ?_⟩⟩ q'.2
      unfold exF exD
      exact repF_reverse (repF_zip (Reps.ext x2 _ _ rv) (by rw [rv.length]; exact q'.1.symm))
end
end L3
namespace L3
open PySem PySem.Spec L2
open PyProof.Rows hiding St
section
variable {B : Bs} {T : List (Addr × Str)} {X : Cx} {W : WX} {a b c e tg : Expr} {es rest : List Expr} {ra rb rc re : RE} {rt : RT} {rs ri : RA} {pos : Pos} {st : Stmt} {sts body : List Stmt} {r r1 r2 : RS}
/-! ### chains, is, not of a test -/
def rChain (g g' : G2) (ra rb rc : RE) : RE := fun ρ Q E => ra ρ (fun d => rb ρ (fun e => g d e (toB fun k => match k with
  | true => rc ρ (fun f => g' e f Q) E
  | false => Q (.bl false))) E) E
theorem de_chain {op op' : CmpOp} {g g' : G2} (ho : Op2 X (compareOp op) g) (ho' : Op2 X (compareOp op') g') (ha : DE B X W a ra) (hb : DE B X W b rb) (hc : DE B X W c rc) (hl : lastMarks [op, op'] [b, c] = false := by rfl) : DE B X W (.Compare a [op, op'] [b, c] pos) (rChain g g' ra rb rc) :=
  (pe_chain (ho B.T) (ho' B.T) ha hb hc hl).imp fun σ H Q h => by
    refine lf_then (k := fun d ρ Q E => rb ρ (fun e => g d e (toB fun k => match k with
      | true => rc ρ (fun f => g' e f Q) E
      | false => Q (.bl false))) E) h fun v d F R ρ Q' E' w rv q k => ?_
    refine ⟨F, R, ρ, _, E', rfl, w, q, fun u e F1 x1 dj1 ru q1 => ?_, k.ex⟩
    refine ⟨F1, R, d, e, _, rfl, dj1, Rep.ext x1 _ _ rv, ru, q1, ⟨fun z dz F2 x2 dj2 rz q2 => ?_⟩⟩
    cases dz with
    | bl kk =>
      refine ⟨kk, rep_bl rz, ?_⟩
      cases kk with
      | true =>
        rw [if_pos rfl]
        exact ⟨F2, R, ρ, _, E', rfl, w.ext (x1.trans x2) dj2, q2, fun y f F3 x3 dj3 ry q3 => ⟨F3, R, e, f, Q', rfl, dj3, Rep.ext (x2.trans x3) _ _ ru, ry, q3, (((k.ext x1).ext x2).ext x3).kv⟩, ((k.ext x1).ext x2).ex⟩
      | false =>
        rw [if_neg (by simp)]
        exact k.ok _ _ F2 (x1.trans x2) dj2 (of_bl _) q2
    | _ => exact (show False from q2).elim
def rNotT (t : RT) : RE := fun ρ Q E => t ρ (fun b => Q (.bl (!b))) E
def isNonD : D → Bool
  | .non => true
  | _ => false
theorem isNon_rep {K : KC} {F : Hp} {v : V} {d : D} (h : Rep K F v d) : decide (v = .non) = isNonD d := by
  cases d with
  | non => rw [rep_non h]; rfl
  | bl _ => rw [rep_bl h]; rfl
  | int _ => rw [rep_int h]; rfl
  | str _ => rw [rep_str h]; rfl
  | tup _ => obtain ⟨_, _, rfl, _⟩ := rep_tup h; rfl
  | lst _ => obtain ⟨_, _, rfl, _⟩ := rep_lst h; rfl
  | scr _ => obtain ⟨_, rfl, _⟩ := rep_scr h; rfl
  | dct _ => unfold Rep at h; obtain ⟨_, _, rfl, _⟩ := h; rfl
  | ins _ _ => unfold Rep at h; obtain ⟨_, _, _, rfl, _⟩ := h; rfl
  | pen => unfold Rep at h; obtain ⟨_, _, rfl, _⟩ := h; rfl
  | exc _ _ => unfold Rep at h; obtain ⟨_, _, _, rfl, _⟩ := h; rfl
def rIsN (re : RE) : RE := fun ρ Q E => re ρ (fun d => Q (.bl (isNonD d))) E
def rIsNotN (re : RE) : RE := fun ρ Q E => re ρ (fun d => Q (.bl (!isNonD d))) E
theorem de_isN {j : Nat} {p : Pos} (h : DE B X W a ra) : DE B X W (.Compare a [.Is] [.Constant .none j p] pos) (rIsN ra) := (pe_cmp (pc_isN h) (nobehind _ (by decide) (by decide))).imp fun σ H Q ⟨F, R, ρ, Q', E', hH, w, q, k⟩ => by
  subst hH
  exact ⟨F, R, ρ, _, E', rfl, w, q, fun v d F' x dj rv q' => k.ok _ _ F' x dj (by rw [isNon_rep rv]; exact of_bl _) q', k.ex⟩
theorem de_isnotN {j : Nat} {p : Pos} (h : DE B X W a ra) : DE B X W (.Compare a [.IsNot] [.Constant .none j p] pos) (rIsNotN ra) := (pe_cmp (pc_notN h) (nobehind _ (by decide) (by decide))).imp fun σ H Q ⟨F, R, ρ, Q', E', hH, w, q, k⟩ => by
  subst hH
  exact ⟨F, R, ρ, _, E', rfl, w, q, fun v d F' x dj rv q' => k.ok _ _ F' x dj (by rw [isNon_rep rv]; exact of_bl _) q', k.ex⟩
def isBlD (b : Bool) : D → Bool
  | .bl c => c == b
  | _ => false
def rIsAny : R2 := fun x y H Q => ∃ b, y = .bl b ∧ Q (.bl (decide (x = .bl b))) H
theorem op_isAny : OpR X (compareOp .Is) rIsAny := fun pins s σ H x y v u Q I rx ry ⟨b, e, q⟩ => by
  subst e
  obtain rfl : u = Value.bool b := ry
  by_cases h : x = .bl b
  · subst h
    obtain rfl : v = Value.bool b := rx
    exact wpAny_is_self rfl ⟨.bl true, H, I, rfl, (by simpa using q)⟩
  · have hne : v ≠ Value.bool b := fun z => h (by
      subst z
      exact (RelV.inj (x := x) (y := .bl b) rx rfl))
    refine wpAny_is_other ?_ hne ⟨.bl false, H, I, rfl, by simpa [h] using q⟩
    cases x with
    | non => obtain rfl : v = Value.none := rx; rfl
    | bl c => obtain rfl : v = Value.bool c := rx; rfl
    | int i => obtain ⟨t, rfl⟩ := (show ∃ t, v = Value.int i t from rx); rfl
    | str z => obtain ⟨t, rfl⟩ := (show ∃ t, v = Value.str z t from rx); rfl
    | byt z => obtain ⟨t, rfl⟩ := (show ∃ t, v = Value.bytes z t from rx); rfl
    | flt z => obtain ⟨t, rfl⟩ := (show ∃ t, v = Value.float z t from rx); rfl
    | ref p => obtain rfl : v = Value.ref p := rx; rfl
    | ty n => obtain rfl : v = Value.type n := rx; rfl
theorem isBl_rep {K : KC} {F : Hp} {v : V} {d : D} {b : Bool} (h : Rep K F v d) : decide (v = .bl b) = isBlD b d := by
  cases d with
  | bl c =>
    rw [rep_bl h]
    show decide (V.bl c = V.bl b) = (c == b)
    exact dec_bl
  | non => rw [rep_non h]; rfl
  | int _ => rw [rep_int h]; rfl
  | str _ => rw [rep_str h]; rfl
  | tup _ => obtain ⟨_, _, rfl, _⟩ := rep_tup h; rfl
  | lst _ => obtain ⟨_, _, rfl, _⟩ := rep_lst h; rfl
  | scr _ => obtain ⟨_, rfl, _⟩ := rep_scr h; rfl
  | dct _ => unfold Rep at h; obtain ⟨_, _, rfl, _⟩ := h; rfl
  | ins _ _ => unfold Rep at h; obtain ⟨_, _, _, rfl, _⟩ := h; rfl
  | pen => unfold Rep at h; obtain ⟨_, _, rfl, _⟩ := h; rfl
  | exc _ _ => unfold Rep at h; obtain ⟨_, _, _, rfl, _⟩ := h; rfl
def rIsB (b : Bool) (re : RE) : RE := fun ρ Q E => re ρ (fun d => Q (.bl (isBlD b d))) E
theorem de_isB {bv : Bool} {j : Nat} {p : Pos} (h : DE B X W a ra) : DE B X W (.Compare a [.Is] [.Constant (.bool bv) j p] pos) (rIsB bv ra) := (pe_cmpR op_isAny h pe_bl (nobehind _ (by decide) (by decide))).imp fun σ H Q ⟨F, R, ρ, Q', E', hH, w, q, k⟩ => by
  subst hH
  exact ⟨F, R, ρ, _, E', rfl, w, q, fun v d F' x dj rv q' => ⟨bv, rfl, k.ok _ _ F' x dj (by rw [isBl_rep rv]; exact of_bl _) q'⟩, k.ex⟩
/-! ### return; {}; lengths of one's own; list(range(..)) -/
def rRetN : RS := fun N ρ => N.rt .non
theorem ds_retN : DS B X W (.Return none pos) rRetN := ps_retN.imp fun D σ H ⟨F, R, ρ, N, hH, w, q, k⟩ => by
  subst hH
  exact k.rt _ _ σ F R ρ w of_non q
theorem de_dict0 : DE B X W (.Dict [] [] pos) (rC (.dct [])) := pe_dnewK.imp fun σ H Q ⟨F, R, ρ, Q', E', hH, w, q, k⟩ => by
  subst hH
  intro p hp
  rw [jn_newF hp]
  refine k.ok _ _ _ (Ext.newF hp) (w.dj.newF hp) ?_ q
  unfold Rep
  exact ⟨p, [], rfl, upd_same, by simp, by simp [RepK]⟩
def rListRg (Q : List D → Prop) : List D → Prop := fun ds => match ds with
  | [.int j] => (0 ≤ j ∧ j ≤ 16777216) ∧ Q (rangeD 0 j.toNat)
  | _ => False
def rListRange1 (rs : RA) : RA := fun ρ Q E => rs ρ (rListRg Q) E
theorem rg_reps {K : KC} {F : Hp} {j : Int} : Reps K F (rgV 0 j) (rangeD 0 j.toNat) := by
  unfold rgV rangeD
  rw [show (j - 0).toNat = j.toNat by omega]
  generalize List.range j.toNat = l
  induction l with
  | nil => exact Reps.nil
  | cons i l ih => exact Reps.cons (of_int _) ih
theorem fe_listRange1 {p p2 pos2 : Pos} (hg : Gl X "list") (hm : X.mg "list" = none) (hgr : Gl X "range") (hmr : X.mg "range" = none) (he : DE B X W a ra) (hc : X.calm = true := by rfl)
    (na : starEach [.Call (.Name "range" p2) [a] [] pos2] X.env = (false, eval (.Call (.Name "range" p2) [a] [] pos2) X.env) :: starEach [] X.env := by rfl) (nb : starEach [a] X.env = (false, eval a X.env) :: starEach [] X.env := by rfl) : FE B X W (.Call (.Name "list" p) [.Call (.Name "range" p2) [a] [] pos2] [] pos) (rListRange1 (rCons ra rNil)) :=
  (pe_listRg hc hg hm (prg_1 hgr hmr he nb) na).imp fun σ H Q ⟨F, R, ρ, Q', E', hH, w, q, kk, kx⟩ => by
    subst hH
    refine ⟨F, R, ρ, _, E', rfl, w, q, fun v d F' x dj rv q' => ?_, kx⟩
    have q2 : rListRg Q' [d] := q'
    unfold rListRg at q2
    split at q2
    · rename_i j hj
      cases hj
      obtain ⟨⟨h0, h1⟩, q'⟩ := q2
      refine ⟨j, rep_int rv, .of_le (by omega) h1 (by omega) h0, fun p hp => kk p _ _ F' x dj rg_reps ?_ q' hp⟩
      rw [rgV_length, sizeLine_eq]
      omega
    · exact q2.elim
/-! ### attributes of the package's objects -/
/-- the class c has no attribute f of its own -/
def FldOk (K : PySem.W.Frag) (mg : Str → Option Value) (c f : Str) : Prop := ∃ C, mg c = some (.ref C) ∧ Cls K C ∧ NoAttr K C f
theorem repF_look {K : KC} {F : Hp} {f : Str} {d : D} : ∀ {ds : List (Str × D)} {fs : List (Str × V)}, RepF K F fs ds → ds.lookup f = some d → ∃ v, fs.lookup f = some v ∧ Rep K F v d
  | [], _, _, e => by cases e
  | (k, d0) :: ds, fs, h, e => by
    unfold RepF at h
    obtain ⟨v, r, rfl, h1, h2⟩ := h
    rw [List.lookup_cons] at e ⊢
    cases hb : (f == k) with
    | true =>
      rw [hb] at e
      cases Option.some.inj e
      exact ⟨v, rfl, h1⟩
    | false =>
      rw [hb] at e
      exact repF_look h2 e
def gFld (c f : Str) (Q : D → Prop) : D → Prop := fun d => match d with
  | .ins c' fs => c' = c ∧ match fs.lookup f with
    | some d => Q d
    | none => False
  | _ => False
def rFld (c f : Str) (re : RE) : RE := fun ρ Q E => re ρ (gFld c f Q) E
theorem de_fld {c f : Str} (Y : FldOk X.K X.mg c f) (he : DE B X W e re) (hb : attributeBase e f X.env (eval e X.env) = eval e X.env := by rfl) : DE B X W (.Attribute e f pos) (rFld c f re) := (pe_fld he hb).imp fun σ H Q ⟨F, R, ρ, Q', E', hH, w, q, k⟩ => by
  subst hH
  obtain ⟨C, gC, cl, na⟩ := Y
  refine ⟨F, R, ρ, _, E', rfl, w, q, fun v d F' x dj rv q' => ?_, k.ex⟩
  cases d with
  | ins c' fs =>
    obtain ⟨rfl, q2⟩ := (show c' = c ∧ (match fs.lookup f with | some d => Q' d | none => False) from q')
    unfold Rep at rv
    obtain ⟨p, dx, ws, rfl, hp, rf⟩ := rv
    split at q2
    · rename_i d0 hd
      obtain ⟨u, hu, ru⟩ := repF_look rf hd
      rw [show (kc B.T X).cm c' = C from cmOf_eq gC] at hp
      exact ⟨p, C, dx, ws, u, rfl, jn_l hp, cl, na, hu, k.ok _ _ F' x dj ru q2⟩
    · exact q2.elim
  | _ => exact (show False from q').elim
/-! ### an object in the making: self.f = e -/
def putD (f : Str) (d : D) : List (Str × D) → List (Str × D)
  | [] => [(f, d)]
  | (g, x) :: r => if g = f then (g, d) :: r else (g, x) :: putD f d r
theorem repF_put {K : KC} {F : Hp} {f : Str} {d : D} {v : V} (h : Rep K F v d) : ∀ {ds : List (Str × D)} {fs : List (Str × V)}, RepF K F fs ds → RepF K F (putF f v fs) (putD f d ds)
  | [], fs, g => by
    unfold RepF at g
    rw [g]
    unfold putF putD RepF
    exact ⟨v, [], rfl, h, by simp [RepF]⟩
  | (k, x) :: ds, fs, g => by
    unfold RepF at g
    obtain ⟨u, r, rfl, h1, h2⟩ := g
    unfold putF putD
    by_cases hk : k = f
    · rw [if_pos hk, if_pos hk]
      unfold RepF
      exact ⟨v, r, rfl, h, h2⟩
    · rw [if_neg hk, if_neg hk]
      unfold RepF
      exact ⟨u, _, rfl, h1, repF_put h h2⟩
theorem RepF.length {K : KC} {F : Hp} : ∀ {ds : List (Str × D)} {fs : List (Str × V)}, RepF K F fs ds → fs.length = ds.length
  | [], fs, g => by
    unfold RepF at g
    rw [g]
    rfl
  | (k, x) :: ds, fs, g => by
    unfold RepF at g
    obtain ⟨u, r, rfl, h1, h2⟩ := g
    rw [List.length_cons, List.length_cons, RepF.length h2]
theorem Wd.put {K : KC} {σ : St} {F R : Hp} {ρ : Env3} (w : Wd K B σ F R ρ) {i : Nat} {c f : Str} {fs : List (Str × D)} {d : D} {v : V} {a : Addr} (h : ρ[i]? = some (.obj c a fs)) (r : Rep K F v d) : ∃ dx ws, σ[i]? = some (some (.ref a)) ∧ jn F R a = some (.ins (K.cm c) dx ws) ∧ ws.length = fs.length ∧
    upd (jn F R) a (.ins (K.cm c) dx (putF f v ws)) = jn F (upd R a (.ins (K.cm c) dx (putF f v ws))) ∧ Wd K B σ F (upd R a (.ins (K.cm c) dx (putF f v ws))) (ρ.set i (.obj c a (putD f d fs))) := by
  obtain ⟨z, dx, ws, e1, e2, e3, e4, e5, e6⟩ := w.obj i c a fs h
  have hi : i < ρ.length := (List.getElem?_eq_some_iff.mp h).1
  have nF := (jn_of_r w.dj e2).1
  have nd : dx ≠ a := fun q => by rw [q, e2] at e3; cases e3
  refine ⟨dx, ws, e1, (jn_of_r w.dj e2).2, e4.length, jn_updR nF, w.tb, w.ex, fun b o hb => ?_, w.dj.updR nF, by rw [List.length_set]; exact w.len, fun j e hj => ?_, fun j es hj => ?_, fun j c' a' fs' hj => ?_, fun j k b dj dk h1 h2 h3 h4 => ?_⟩
  · have : b ≠ a := fun z => by rw [z, e5] at hb; cases hb
    rw [upd_ne this]
    exact w.fr b o hb
  · by_cases q : i = j
    · subst q
      rw [List.getElem?_set_self hi] at hj
      cases hj
    · rw [List.getElem?_set_ne q] at hj
      exact w.val j e hj
  · by_cases q : i = j
    · subst q
      rw [List.getElem?_set_self hi] at hj
      cases hj
    · rw [List.getElem?_set_ne q] at hj
      obtain ⟨b, us, g1, g2, g3, g4⟩ := w.own j es hj
      have : b ≠ a := fun z => by rw [z, e2] at g2; cases g2
      exact ⟨b, us, g1, by rw [upd_ne this]; exact g2, g3, g4⟩
  · by_cases q : i = j
    · subst q
      rw [List.getElem?_set_self hi] at hj
      cases hj
      exact ⟨z, dx, _, e1, upd_same, by rw [upd_ne nd]; exact e3, repF_put r e4, e5, e6⟩
    · rw [List.getElem?_set_ne q] at hj
      obtain ⟨z', _⟩ := w.obj j c' a' fs' hj
      exact absurd (z.trans z'.symm) q
  · have key : ∀ {j : Nat} {ds' : List D}, (ρ.set i (.obj c a (putD f d fs)))[j]? = some (.own ds') → ρ[j]? = some (.own ds') := fun {j ds'} hh => by
      by_cases q : i = j
      · subst q
        rw [List.getElem?_set_self hi] at hh
        cases hh
      · rw [List.getElem?_set_ne q] at hh
        exact hh
    exact w.sep j k b _ _ (key h1) (key h2) h3 h4
def rSelf (i : Nat) (f : Str) (re : RE) : RS := fun N ρ => match ρ[i]? with
  | some (.obj c a fs) => re ρ (fun d => fs.length < 900 ∧ N.nx (ρ.set i (.obj c a (putD f d fs)))) N.ex
  | _ => False
theorem ds_self {i : Nat} {c f x : Str} {p p' : Pos} (Y : FldOk X.K X.mg c f) (hv : PE X (.Name x p) (tVar i)) (he : DE B X W e re) (hs : swapsWith e (some (.Attribute (.Name x p) f p')) pos.line X.env = pure false := by rfl) :
    DS B X W (.Assign [.Attribute (.Name x p) f p'] e pos) (fun N ρ => (match ρ[i]? with | some (.obj c' _ _) => c' = c | _ => False) ∧ rSelf i f re N ρ) := (ps_fld hv he hs).imp fun D0 σ H ⟨F, R, ρ, N, hH, w, ⟨qc, q⟩, k⟩ => by
  subst hH
  obtain ⟨C, gC, cl, na⟩ := Y
  unfold rSelf at q
  split at q
  · rename_i c' a0 fs hi
    rw [hi] at qc
    obtain rfl : c' = c := qc
    refine k.lf w q fun v d F' x w' rv q' => ?_
    obtain ⟨dx, ws, e1, e2, e3, e4, w2⟩ := w'.put (f := f) hi rv
    refine ⟨_, e1, a0, C, dx, ws, rfl, ?_, cl, na, by omega, ?_⟩
    · rw [e2, show (kc B.T X).cm c' = C from cmOf_eq gC]
    · rw [show (kc B.T X).cm c' = C from cmOf_eq gC] at e4 w2
      rw [e4]
      exact k.nx _ F' _ _ w2 q'.2
  · exact q.elim
/-- what __init__ promises: from the arguments the fields -/
abbrev SpI := List D → (List (Str × D) → Prop) → (XD → Prop) → Prop
def hpI (Fr : Hp) (C a dx : Addr) : Hp := upd (upd Fr dx (.own a)) a (.ins C dx [])
def lSpI (K : KC) (n : Nat) (c : Str) (sp : SpI) : Sp := fun vs H Q E => ∃ F Fr a dx us ds Q' E', vs = .ref a :: us ∧ us.length = n ∧ H = jn F (hpI Fr (K.cm c) a dx) ∧ Dj F (hpI Fr (K.cm c) a dx) ∧ LamX.Tabs K.T F ∧ Reps K F us ds ∧ Fr a = none ∧ Fr dx = none ∧ dx ≠ a ∧ sp ds Q' E' ∧
  (∀ fs F', Ext K F F' → Dj F' Fr → Rep K F' (.ref a) (.ins c fs) → Q' fs → Q .non (jn F' Fr)) ∧
  ∀ x cls od F', Ext K F F' → Dj F' Fr → RepX K F' cls od x → E' x → E cls od (jn F' Fr)
def startI (c : Str) (a : Addr) (n : Nat) (ds : List D) : Env3 := .obj c a [] :: start3 (n - 1) ds
theorem wd_startI {K : KC} {F Fr : Hp} {a dx : Addr} {c x0 : Str} {N : List Str} {us : List V} {ds : List D} (dj : Dj F (hpI Fr (K.cm c) a dx)) (tb : LamX.Tabs K.T F) (r : Reps K F us ds) (na : Fr a = none) (nd : Fr dx = none) (ne : dx ≠ a) {T : List (Addr × Str)} :
    Wd K ⟨F, Fr, T⟩ (L2.start (x0 :: N) (.ref a :: us)) F (hpI Fr (K.cm c) a dx) (startI c a (N.length + 1) ds) := by
  have es : L2.start (x0 :: N) (.ref a :: us) = some (.ref a) :: L2.start N us := by
    unfold L2.start
    rw [List.map_cons, List.length_cons, List.length_cons, Nat.add_sub_add_right]
    rfl
  have djF : Dj F Fr := (dj_down nd (dj_down (by rw [upd_ne (Ne.symm ne)]; exact na) dj).2).2
  have w := wd_start (N := N) (B := ⟨F, Fr, T⟩) djF tb r rfl rfl
  rw [es]
  refine ⟨tb, .refl _, fun b o h => ?_, dj, by show (some _ :: L2.start N us).length = (Sl.obj c a [] :: start3 (N.length + 1 - 1) ds).length; rw [List.length_cons, List.length_cons, w.len]; rfl, fun i d h => ?_, fun i es h => ?_, fun i c' a' fs h => ?_, fun i j b di dj' h1 h2 h3 h4 => ?_⟩
  · have h : Fr b = some o := h
    have n1 : b ≠ a := fun z => by rw [z, na] at h; cases h
    have n2 : b ≠ dx := fun z => by rw [z, nd] at h; cases h
    unfold hpI
    rw [upd_ne n1, upd_ne n2]
    exact h
  · cases i with
    | zero => cases h
    | succ i => exact w.val i d h
  · cases i with
    | zero => cases h
    | succ i =>
      obtain ⟨b, vs, _, e2, _⟩ := w.own i es h
      have := List.mem_of_getElem? (show (start3 N.length ds)[i]? = some (Sl.own es) from h)
      unfold start3 at this
      simp at this
  · cases i with
    | zero =>
      cases h
      exact ⟨rfl, dx, [], rfl, upd_same, (by unfold hpI; rw [upd_ne ne]; exact upd_same), (by simp [RepF]), na, nd⟩
    | succ i =>
      have := List.mem_of_getElem? (show (start3 N.length ds)[i]? = some (Sl.obj c' a' fs) from h)
      unfold start3 at this
      simp at this
  · cases i with
    | zero => cases h1
    | succ i =>
      have := List.mem_of_getElem? (show (start3 N.length ds)[i]? = some (Sl.own di) from h1)
      unfold start3 at this
      simp at this
section
variable {P : Program} {w : World} {K : PySem.W.Frag} {mg : Str → Option Value} {base : Heap} {T : List (Addr × Str)}
/-- what is wanted behind __init__ -/
def nxI (c : Str) (a : Addr) (Q : List (Str × D) → Prop) : Env3 → Prop := fun ρ => match (ρ[0]? : Option Sl) with
  | some (Sl.obj c' a' fs) => c' = c ∧ a' = a ∧ Q fs
  | _ => False
theorem fnI {qual c : Str} {st : Stmt} {f : Addr} {fd : FuncData} {N ps : List Str} {k n : Nat} {sp : SpI} {r : RS} (F : Fun K "__init__" qual st f fd) (S : FnScope ("self" :: N) ("self" :: ps) (defScope st)) (hn : ps.length = n)
    (hbody : ∀ (cdv : Value) (A : Around) (outer : List Env) (s : Shared) (H : Hp) (E : XK) (B : Bs), B.T = T → Room k (A.deeper (envOfC qual (defScope st) s.heap.objs.size f cdv)) → Takes (cxOf (L2.CX P w) P w K mg base ("self" :: N) qual (defScope st) f cdv A outer s H E) (WD E) →
      DSs B (cxOf (L2.CX P w) P w K mg base ("self" :: N) qual (defScope st) f cdv A outer s H E) (WD E) (defBody st) r)
    (hp : ∀ (a : Addr) (ds : List D) (Q : List (Str × D) → Prop) (E : XD → Prop), ds.length = n → sp ds Q E → r { nx := nxI c a Q, rt := fun _ => False, ex := E } (startI c a (N.length + 1) ds)) :
    FnOk P w K mg base (L2.CX P w) (k + 1) f fd ("self" :: ps) (lSpI ⟨K, cmOf mg, [], T⟩ n c sp) := by
  refine F.okX S (fun vs H Q E h => ?_) (fun cdv A outer s H vs Q E hr h => ?_)
  · obtain ⟨_, _, _, _, us, _, _, _, rfl, hl, _⟩ := h
    rw [List.length_cons, List.length_cons, hl, hn]
  · obtain ⟨F0, R0, a, dx, us, ds, Q', E', rfl, hl, hH, dj, tb, rd, na, nd, ne, hs, kv, kx⟩ := h
    subst hH
    have tk : Takes (cxOf (L2.CX P w) P w K mg base ("self" :: N) qual (defScope st) f cdv A outer s (jn F0 (hpI R0 (cmOf mg c) a dx)) E) (WD E) := takes_of rfl rfl rfl rfl
    refine ⟨_, hbody cdv A outer s _ E ⟨F0, R0, T⟩ rfl hr tk, ?_⟩
    refine ⟨F0, _, _, _, rfl, wd_startI dj tb rd na nd ne, hp a ds Q' E' (by rw [← rd.length]; exact hl) hs, ?_⟩
    refine ⟨fun σ F R ρ w q => ?_, fun v d σ F R ρ w rv q => q.elim, fun x cls od σ F R ρ w rx q => ?_, fun σ F R ρ w q => q.elim, fun σ F R ρ w q => q.elim⟩
    · have q : nxI c a Q' ρ := q
      unfold nxI at q
      split at q
      · rename_i c' a' fs hi
        obtain ⟨rfl, rfl, q9⟩ := q
        obtain ⟨_, dx', ws, e1, e2, e3, e4, e5, e6⟩ := w.obj 0 _ _ _ hi
        obtain ⟨F', e, x1, d1⟩ := absorb w
        show Q V.non (jn F R)
        rw [e]
        refine kv fs F' (w.ex.trans x1) d1 ?_ q9
        unfold Rep
        have h1 : jn F R a' = some (.ins (cmOf mg c') dx' ws) := (jn_of_r w.dj e2).2
        rw [e] at h1
        refine ⟨a', dx', ws, rfl, ?_, RepF.ext x1 _ _ e4⟩
        cases h2 : F' a' with
        | some o => rw [jn_l h2] at h1; exact h1
        | none =>
          rw [jn_r h2] at h1
          have h5 : R0 a' = some (.ins (cmOf mg c') dx' ws) := h1
          rw [show R0 a' = none from e5] at h5
          cases h5
      · exact q.elim
    · obtain ⟨F', e, x1, d1⟩ := absorb w
      show E cls od (jn F R)
      rw [e]
      exact kx x cls od F' (w.ex.trans x1) d1 (rx.ext x1) q
end
section
variable {B : Bs} {T : List (Addr × Str)} {X : Cx} {W : WX} {a b c e tg : Expr} {es rest : List Expr} {ra rb rc re : RE} {rt : RT} {rs ri : RA} {pos : Pos}
/-- C(e, ..): a new object -/
def rMake (n : Nat) (c : Str) (sp : SpI) (rs : RA) : RE := fun ρ Q E => rs ρ (fun ds => ds.length = n ∧ sp ds (fun fs => Q (.ins c fs)) E) E
structure MkOk (K : PySem.W.Frag) (mg : Str → Option Value) (c : Str) (C fI : Addr) : Prop where
  gC : mg c = some (.ref C)
  mks : Mk K C fI
theorem de_make {c : Str} {C fI : Addr} {k n : Nat} {fd : FuncData} {ps : List Str} {sp : SpI} {p : Pos} {E : XK} (M : MkOk X.K X.mg c C fI) (G : FnOk X.prog X.w X.K X.mg X.base (L2.CX X.prog X.w) k fI fd ps (lSpI (kc B.T X) n c sp)) (hr : Room (k + 1) X.A) (hg : Gl X c) (hb : Binds X.K fd ps []) (tk : Takes X (WD E))
    (ha : DA B X (WD E) (e :: es) rs) (hd : (c == ("__debug__" : Str)) = false := by decide)
    (he : starEach (e :: es) X.env = (false, eval e X.env) :: starEach es X.env := by rfl) (hpl : (backTo pos (starEach es X.env)).any (·.1) = false := by rfl) : DE B X (WD E) (.Call (.Name c p) (e :: es) [] pos) (rMake n c sp rs) :=
  (pe_make (dvs := []) M.mks G hr hg M.gC hb .nil (fun pins σ H s u s' I h => passes_call tk (fun _ _ _ _ q => q) pins σ H s u s' I h) ha hd he hpl).imp fun σ H Q h => by
    refine lf_then (k := fun ds ρ Q E => ds.length = n ∧ sp ds (fun fs => Q (D.ins c fs)) E) h fun vs ds F R ρ Q' E' w rv q k => ?_
    intro x dx hx hdx hne
    have eC : (kc B.T X).cm c = C := cmOf_eq M.gC
    have nx := jn_none hx
    have nd := jn_none hdx
    have eH : upd (upd (jn F R) dx (.own x)) x (.ins C dx []) = jn F (hpI R ((kc B.T X).cm c) x dx) := by
      unfold hpI
      rw [eC, jn_updR nd.1, jn_updR nx.1]
    rw [List.append_nil, eH]
    refine ⟨F, R, x, dx, vs, ds, _, E', rfl, by rw [rv.length]; exact q.1, rfl, (w.dj.updR nd.1).updR nx.1, w.tb, rv, nx.2, nd.2, hne, q.2, fun fs F' x1 d1 rp q2 => ⟨rfl, k.ok _ _ F' x1 d1 rp q2⟩, fun y cls od F' x1 d1 rx q2 => k.ex y cls od F' x1 d1 rx q2⟩
end
end
end L3
namespace L3
open PySem PySem.Spec L2
open PyProof.Rows hiding St
/-! ### comprehensions with two for -/
def compZ (g : G3) (t : RT) (re : RE) (vs : List Nat) (ρ : Env3) (Q : List D → Prop) : List D → List D → Prop
  | [], acc => Q acc
  | d :: ds, acc => g d (wipe3 ρ vs) (fun ρ' => t ρ' (fun b => match b with
    | true => re ρ' (fun y => acc.length < sizeLine ∧ compZ g t re vs ρ Q ds (acc ++ [y])) (fun _ => False)
    | false => compZ g t re vs ρ Q ds acc) (fun _ => False))
def comp2L (g : G3) (t : RT) (ri1 : RA) (g1 : G3) (t1 : RT) (re : RE) (vs vs1 : List Nat) (ρ : Env3) (Q : List D → Prop) : List D → List D → Prop
  | [], acc => Q acc
  | d :: ds, acc => g d (wipe3 ρ vs) (fun ρ' => t ρ' (fun b => match b with
    | true => ri1 ρ' (fun es => compZ g1 t1 re vs1 ρ' (fun acc' => comp2L g t ri1 g1 t1 re vs vs1 ρ Q ds acc') es acc) (fun _ => False)
    | false => comp2L g t ri1 g1 t1 re vs vs1 ρ Q ds acc) (fun _ => False))
def rComp2 (ri : RA) (g : G3) (t : RT) (ri1 : RA) (g1 : G3) (t1 : RT) (re : RE) (vs vs1 : List Nat) : RA := fun ρ Q E => ri ρ (fun ds => comp2L g t ri1 g1 t1 re vs vs1 ρ (fun l => l.length ≤ sizeLine ∧ Q l) ds []) E
/-- the world within a comprehension: the list in the making is of the rest -/
theorem Wd.inn {K : KC} {B : Bs} {σ : St} {F R : Hp} {ρ : Env3} (w : Wd K B σ F R ρ) {p : Addr} (np : R p = none) {acc : List V} (dj : Dj F (upd R p (.lst acc))) : Wd K B σ F (upd R p (.lst acc)) ρ := by
  refine ⟨w.tb, w.ex, fun b o hb => ?_, dj, w.len, w.val, fun j es hj => ?_, fun j c b fs hj => ?_, w.sep⟩
  · have h1 := w.fr b o hb
    have : b ≠ p := fun z => by rw [z, np] at h1; cases h1
    rw [upd_ne this]
    exact h1
  · obtain ⟨b, us, g1, g2, g3⟩ := w.own j es hj
    have : b ≠ p := fun z => by rw [z, np] at g2; cases g2
    exact ⟨b, us, g1, by rw [upd_ne this]; exact g2, g3⟩
  · obtain ⟨z, dx, us, g1, g2, g3, g4⟩ := w.obj j c b fs hj
    have n1 : b ≠ p := fun z => by rw [z, np] at g2; cases g2
    have n2 : dx ≠ p := fun z => by rw [z, np] at g3; cases g3
    exact ⟨z, dx, us, g1, by rw [upd_ne n1]; exact g2, by rw [upd_ne n2]; exact g3, g4⟩
/-- .. another list there -/
theorem Wd.inn' {K : KC} {B : Bs} {σ : St} {F R : Hp} {ρ : Env3} {p : Addr} {acc acc' : List V} (w : Wd K B σ F (upd R p (.lst acc)) ρ) (hp : B.Fr p = none) (ho : ∀ (j : Nat) (es : List D) (b : Addr), ρ[j]? = some (.own es) → σ[j]? = some (some (.ref b)) → b ≠ p) (dj : Dj F (upd R p (.lst acc'))) : Wd K B σ F (upd R p (.lst acc')) ρ := by
  refine ⟨w.tb, w.ex, fun b o hb => ?_, dj, w.len, w.val, fun j es hj => ?_, fun j c b fs hj => ?_, w.sep⟩
  · have h1 := w.fr b o hb
    have : b ≠ p := fun z => by rw [z, hp] at hb; cases hb
    rw [upd_ne this] at h1 ⊢
    exact h1
  · obtain ⟨b, us, g1, g2, g3⟩ := w.own j es hj
    have : b ≠ p := ho j es b hj g1
    rw [upd_ne this] at g2
    exact ⟨b, us, g1, by rw [upd_ne this]; exact g2, g3⟩
  · obtain ⟨z, dx, us, g1, g2, g3, g4⟩ := w.obj j c b fs hj
    have n1 : b ≠ p := fun z => by rw [z, upd_same] at g2; cases g2
    have n2 : dx ≠ p := fun z => by rw [z, upd_same] at g3; cases g3
    rw [upd_ne n1] at g2
    rw [upd_ne n2] at g3
    exact ⟨z, dx, us, g1, by rw [upd_ne n1]; exact g2, by rw [upd_ne n2]; exact g3, g4⟩
section
variable {B : Bs} {X : Cx} {W : WX} {a b c e tg : Expr} {ra rb rc re : RE} {rt t1 : RT} {rs ri ri1 : RA} {g g1 : G3} {pos : Pos}
theorem lL_comp2 {K : KC} {is vs js vs1 : List Nat} {σ : St} {H : Hp} {Q : VK} (hsub : ∀ j ∈ is, j ∈ vs) (hsub1 : ∀ j ∈ js, j ∈ vs1) (h : lL K B W (rComp2 ri g rt ri1 g1 t1 re vs vs1) σ H Q) :
    tLc2 (lI K B W ri) (lG K is g) (lT K B W0 rt) (lI K B W0 ri1) (lG K js g1) (lT K B W0 t1) (lE K B W0 re) vs vs1 σ H Q := by
  obtain ⟨F, R, ρ, Q', E', rfl, w, q, kk, kx⟩ := h
  refine ⟨F, R, ρ, _, E', rfl, w, q, fun J ds F1 x1 dj1 wk q1 => ?_, kx⟩
  intro p hp
  have np0 := jn_none hp
  have w1 := w.ext x1 dj1
  -- what stands between two turns: F2, the list at p
  let St2 : (List D → Prop) → Hp → Hp → Prop := fun G Fb H' => ∃ F2 acc accD, H' = jn F2 (upd R p (.lst acc)) ∧ Ext K Fb F2 ∧ Dj F2 R ∧ F2 p = none ∧ Reps K F2 acc accD ∧ G accD
  refine ⟨fun i m H' => m + i = ds.length ∧ St2 (comp2L g rt ri1 g1 t1 re vs vs1 ρ (fun l => l.length ≤ sizeLine ∧ Q' l) (ds.drop i)) F1 H', ⟨ds.length, by omega, F1, [], [], jn_updR np0.1, .refl _, dj1, np0.1, Reps.nil, by simpa using q1⟩, ?_⟩
  rintro i m H' ⟨hm, F2, acc, accD, rfl, x2, dj2, np, ra, q2⟩
  have djp : Dj F2 (upd R p (.lst acc)) := dj2.updR np
  by_cases hl : i < ds.length
  · refine .inr ⟨wk.go F2 _ i x2 djp hl, fun H3 => St2 (comp2L g rt ri1 g1 t1 re vs vs1 ρ (fun l => l.length ≤ sizeLine ∧ Q' l) (ds.drop (i + 1))) F1 H3, fun H3 h3 => ⟨m - 1, by omega, by omega, h3⟩, ?_⟩
    intro v H3 hy
    obtain ⟨F3, d, rfl, x3, dj3, e3, r3⟩ := wk.yld F2 _ i v H3 x2 djp hl hy
    have ed : ds.drop i = d :: ds.drop (i + 1) := by
      obtain ⟨h1, h2⟩ := List.getElem?_eq_some_iff.mp e3
      rw [(List.drop_eq_getElem_cons h1), h2]
    rw [ed] at q2
    have dd3 := dj_down np0.2 dj3
    have wi : Wd K B (L2.wipe σ vs) F3 (upd R p (.lst acc)) (wipe3 ρ vs) := ((w1.ext (x2.trans x3) dd3.2).wipe vs).inn np0.2 dj3
    refine ⟨B, F3, _, _, d, _, rfl, wi, r3, q2, fun σ4 ρ4 w4 c4 o4 q4 => ⟨wipe_chg ⟨c4.1, fun j hj => c4.2 j fun z => hj (hsub j z)⟩, ?_⟩⟩
    refine ⟨F3, _, ρ4, _, _, rfl, w4, q4, fun b b' F4 x4 dj4 eb q5 => ?_, fun _ _ _ _ _ _ _ z => z.elim⟩
    cases eb
    cases b with
    | false =>
      obtain ⟨n5, d5⟩ := dj_down np0.2 dj4
      exact ⟨F4, acc, accD, rfl, (x2.trans x3).trans x4, d5, n5, Reps.ext (x3.trans x4) _ _ ra, q5⟩
    | true =>
      rw [if_pos rfl]
      -- own lists of this frame are not at p
      have hpB : B.Fr p = none := by
        cases e : B.Fr p with
        | none => rfl
        | some o =>
          have h2 := w.fr p o e
          rw [np0.2] at h2
          cases h2
      refine ⟨F4, _, ρ4, _, _, rfl, w4.ext x4 dj4, q5, fun J1 es F5 x5 dj5 wk1 q6 => ?_, fun _ _ _ _ _ _ _ z => z.elim⟩
      have x15 : Ext K F1 F5 := ((x2.trans x3).trans x4).trans x5
      obtain ⟨n5, d5⟩ := dj_down np0.2 dj5
      have w5 := (w4.ext x4 dj4).ext x5 dj5
      have ho : ∀ (j : Nat) (es' : List D) (b' : Addr), ρ4[j]? = some (.own es') → σ4[j]? = some (some (.ref b')) → b' ≠ p := fun j es' b' h1 h2 z => by
        obtain ⟨h3, e4⟩ := o4 j es' h1
        obtain ⟨b2, us, g1', g2', _⟩ := (w1.wipe vs).own j es' h3
        rw [e4, g1'] at h2
        cases h2
        rw [z, np0.2] at g2'
        cases g2'
      refine ⟨fun j m H' => m + j = es.length ∧ St2 (compZ g1 t1 re vs1 ρ4 (fun acc' => comp2L g rt ri1 g1 t1 re vs vs1 ρ (fun l => l.length ≤ sizeLine ∧ Q' l) (ds.drop (i + 1)) acc') (es.drop j)) F5 H', ⟨es.length, by omega, F5, acc, accD, rfl, .refl _, d5, n5, Reps.ext ((x3.trans x4).trans x5) _ _ ra, by simpa using q6⟩, ?_⟩
      rintro j m' H' ⟨hm', F6, acc6, accD6, rfl, x6, d6, n6, ra6, q7⟩
      have djp6 : Dj F6 (upd R p (.lst acc6)) := d6.updR n6
      by_cases hj : j < es.length
      · refine .inr ⟨wk1.go F6 _ j x6 djp6 hj, fun H3 => St2 (compZ g1 t1 re vs1 ρ4 (fun acc' => comp2L g rt ri1 g1 t1 re vs vs1 ρ (fun l => l.length ≤ sizeLine ∧ Q' l) (ds.drop (i + 1)) acc') (es.drop (j + 1))) F5 H3, fun H3 h3 => ⟨m' - 1, by omega, by omega, h3⟩, ?_⟩
        intro v7 H7 hy7
        obtain ⟨F7, d7, rfl, x7, dj7, e7, r7⟩ := wk1.yld F6 _ j v7 H7 x6 djp6 hj hy7
        have ed7 : es.drop j = d7 :: es.drop (j + 1) := by
          obtain ⟨h1, h2⟩ := List.getElem?_eq_some_iff.mp e7
          rw [(List.drop_eq_getElem_cons h1), h2]
        rw [ed7] at q7
        obtain ⟨n7, dd7⟩ := dj_down np0.2 dj7
        have wi7 : Wd K B (L2.wipe σ4 vs1) F7 (upd R p (.lst acc6)) (wipe3 ρ4 vs1) := ((w5.ext (x6.trans x7) (dd7.updR n7)).inn' hpB ho dj7).wipe vs1
        refine ⟨B, F7, _, _, d7, _, rfl, wi7, r7, q7, fun σ8 ρ8 w8 c8 _ q8 => ⟨wipe_chg ⟨c8.1, fun j hj => c8.2 j fun z => hj (hsub1 j z)⟩, ?_⟩⟩
        refine ⟨F7, _, ρ8, _, _, rfl, w8, q8, fun b b' F8 x8 dj8 eb q9 => ?_, fun _ _ _ _ _ _ _ z => z.elim⟩
        cases eb
        cases b with
        | false =>
          obtain ⟨n8, d8⟩ := dj_down np0.2 dj8
          exact ⟨F8, acc6, accD6, rfl, (x6.trans x7).trans x8, d8, n8, Reps.ext (x7.trans x8) _ _ ra6, q9⟩
        | true =>
          rw [if_pos rfl]
          refine ⟨F8, _, ρ8, _, _, rfl, w8.ext x8 dj8, q9, fun y yd F9 x9 dj9 ry qa => ?_, fun _ _ _ _ _ _ _ z => z.elim⟩
          obtain ⟨n9, d9⟩ := dj_down np0.2 dj9
          have ra9 := Reps.ext ((x7.trans x8).trans x9) _ _ ra6
          refine ⟨acc6, (jn_of_r dj9 upd_same).2, by rw [ra6.length]; exact qa.1, F9, acc6 ++ [y], accD6 ++ [yd], ?_, ((x6.trans x7).trans x8).trans x9, d9, n9, Reps.append ra9 (Reps.cons ry Reps.nil), qa.2⟩
          rw [jn_updR n9, upd_upd]
      · refine .inl ⟨wk1.stop F6 _ j x6 djp6 (by omega), ?_⟩
        have e9 : es.drop j = [] := List.drop_eq_nil_of_le (by omega)
        rw [e9] at q7
        exact ⟨F6, acc6, accD6, rfl, x15.trans x6, d6, n6, Reps.ext (.refl _) _ _ ra6, q7⟩
  · refine .inl ⟨wk.stop F2 _ i x2 djp (by omega), ?_⟩
    rw [List.drop_eq_nil_of_le (by omega)] at q2
    have hp2 : jn F2 R p = none := by
      rw [jn_r np]
      exact np0.2
    rw [← jn_updR np]
    exact kk p acc accD F2 (x1.trans x2) dj2 ra (by rw [ra.length]; exact q2.1) q2.2 hp2
theorem fe_comp2 {iter elt tg1 iter1 : Expr} {ifs ifs1 : List Expr} {scope : Scope} {own : List (Str × Nat)} {vs vs1 is js : List Nat} (hc : X.calm = true) (hN : X.N.Nodup) (hi : DI B X W tg iter ri) (ok : BlkOk X.N X.env.scope scope own) (hv : ∀ i, i ∈ vs1 → i ∈ vs)
    (hg : ∀ (s : Shared) (H : Hp) (C : Addr) (cl : List (Str × Addr)) (fp : List Addr), DG B.T (X.blk s H scope (compEnvC scope cl C X.env) fp) is tg g)
    (ht : ∀ (s : Shared) (H : Hp) (C : Addr) (cl : List (Str × Addr)) (fp : List Addr), DTs B (X.blk s H scope (compEnvC scope cl C X.env) fp) W0 ifs rt)
    (hi1 : ∀ (s : Shared) (H : Hp) (C : Addr) (cl : List (Str × Addr)) (fp : List Addr), DI B (X.blk s H scope (compEnvC scope cl C X.env) fp) W0 tg1 iter1 ri1)
    (hg1 : ∀ (s : Shared) (H : Hp) (C : Addr) (cl : List (Str × Addr)) (fp : List Addr), DG B.T (X.blk s H scope (compEnvC scope cl C X.env) fp) js tg1 g1)
    (ht1 : ∀ (s : Shared) (H : Hp) (C : Addr) (cl : List (Str × Addr)) (fp : List Addr), DTs B (X.blk s H scope (compEnvC scope cl C X.env) fp) W0 ifs1 t1)
    (he : ∀ (s : Shared) (H : Hp) (C : Addr) (cl : List (Str × Addr)) (fp : List Addr), DE B (X.blk s H scope (compEnvC scope cl C X.env) fp) W0 elt re)
    (hsub : ∀ j ∈ is, j ∈ vs) (hsub1 : ∀ j ∈ js, j ∈ vs1) (hvs : own.map (·.2) = vs := by rfl) (hpn : X.pn = [] := by rfl) (hs : ∀ x, foldedSetIterable iter X.env x = pure x := by intro _; rfl) (hs1 : ∀ (env : Env) (x : Value), foldedSetIterable iter1 env x = pure x := by intro _ _; rfl) :
    FE B X W (.ListComp elt [{ target := tg, iter := iter, ifs := ifs, is_async := 0 }, { target := tg1, iter := iter1, ifs := ifs1, is_async := 0 }] scope pos) (rComp2 ri g rt ri1 g1 t1 re vs vs1) :=
  (pe_lc2 hc hN hi ok (by rw [hvs]; exact hv) (fun s H C cl fp => by have h := hg s H C cl fp; unfold DG at h; rw [kc_blk hpn] at h; exact h) (fun s H C cl fp => by have h := ht s H C cl fp; unfold DTs at h; rw [kc_blk hpn] at h; exact h)
    (fun s H C cl fp => by have h := hi1 s H C cl fp; unfold DI at h; rw [kc_blk hpn] at h; exact h) (fun s H C cl fp => by have h := hg1 s H C cl fp; unfold DG at h; rw [kc_blk hpn] at h; exact h) (fun s H C cl fp => by have h := ht1 s H C cl fp; unfold DTs at h; rw [kc_blk hpn] at h; exact h)
    (fun s H C cl fp => by have h := he s H C cl fp; unfold DE at h; rw [kc_blk hpn] at h; exact h) hs hs1).imp fun _ _ _ h => by rw [hvs]; exact lL_comp2 hsub hsub1 h
end
end L3
namespace L3
open PySem PySem.Spec L2
open PyProof.Rows hiding St
/-! ### the pen, by hand -/
def pk (c : Addr) (i g n f : Int) : List (Key × V) := [(.inr "cells", .ref c), (.inr "at", .int i), (.inr "digits", .int g), (.inr "count", .int n), (.inr "fold", .int f)]
section
variable {H : Hp} {a c : Addr} {i g n f : Int}
theorem pg_cells (h : H a = some (.dK (pk c i g n f))) : DGet H a (.str "cells") (some (.ref c)) := DGet.k (k := .inr "cells") h
theorem pg_at (h : H a = some (.dK (pk c i g n f))) : DGet H a (.str "at") (some (.int i)) := DGet.k (k := .inr "at") h
theorem pg_digits (h : H a = some (.dK (pk c i g n f))) : DGet H a (.str "digits") (some (.int g)) := DGet.k (k := .inr "digits") h
theorem pg_count (h : H a = some (.dK (pk c i g n f))) : DGet H a (.str "count") (some (.int n)) := DGet.k (k := .inr "count") h
theorem pg_fold (h : H a = some (.dK (pk c i g n f))) : DGet H a (.str "fold") (some (.int f)) := DGet.k (k := .inr "fold") h
theorem pk_len : (pk c i g n f).length < sizeLine := by show 5 < sizeLine; decide
theorem pp_at {x : Int} (h : H a = some (.dK (pk c i g n f))) : DPut H a (.str "at") (.int x) (upd H a (.dK (pk c x g n f))) := DPut.k (k := .inr "at") h pk_len
theorem pp_digits {x : Int} (h : H a = some (.dK (pk c i g n f))) : DPut H a (.str "digits") (.int x) (upd H a (.dK (pk c i x n f))) := DPut.k (k := .inr "digits") h pk_len
theorem pp_count {x : Int} (h : H a = some (.dK (pk c i g n f))) : DPut H a (.str "count") (.int x) (upd H a (.dK (pk c i g x f))) := DPut.k (k := .inr "count") h pk_len
theorem pp_fold {x : Int} (h : H a = some (.dK (pk c i g n f))) : DPut H a (.str "fold") (.int x) (upd H a (.dK (pk c i g n x))) := DPut.k (k := .inr "fold") h pk_len
end
/-! ### a draw: the two parts of its reading -/
theorem imod_lt (i : Int) {j : Int} (h : 0 < j) : 0 ≤ i % j ∧ i % j < j := ⟨Int.emod_nonneg _ (by omega), Int.emod_lt_of_pos _ h⟩
def gK (k : Str) : TE := tDGet (tVar 0) (tC (.str k))
def pK (k : Str) (tv : TE) : TS := sDPut (tVar 0) (tC (.str k)) tv
def cbInt : List V → Hp → VK → Prop := fun xs H Q => (∃ i, xs = [.int i] ∧ Q (.int i) H) ∨ ∃ k, xs = [.bl k] ∧ Q (.int (if k then 1 else 0)) H
def hAdd : R2 := rI0 fun i j => .int (i + j)
def hMul : R2 := rI CMul fun i j => .int (i * j)
def hMod : R2 := rI (fun _ j => 0 < j) fun i j => .int (i % j)
def hDiv : R2 := rI CDiv fun i j => .int (i / j)
def hInt (t : TE) : TE := tCB cbInt (tCons t tNil)
def hC (i : Int) : TE := tC (.int i)
def t_d3 : TS := tSeq (pK "fold" (tOp hMod (hInt (tOp hAdd (tOp hMul (tVar 4) (hC 16807)) (hC 7))) (hC 2147483647))) (tRet (tOp hMod (hInt (tOp hDiv (tVar 4) (hC 64))) (tVar 1)))
def t_d2 : TS := tSeq (tAsg (tOp hMod (hInt (tOp hAdd (tOp hAdd (tOp hMul (tVar 4) (tVar 4)) (tOp hMul (hC 31) (tVar 4))) (gK "count"))) (hC 2147483629)) (gName 4)) t_d3
def t_dTail : TS :=
  tSeq (tIfS (tTest (tOp (rI0 fun i j => .bl (decide (j < i))) (gK "digits") (hC 0)))
      (tSeq (tAsg (tOp hMod (hInt (gK "digits")) (tVar 1)) (gName 3)) (tSeq (pK "digits" (tOp hDiv (gK "digits") (tVar 1))) (tRet (tVar 3)))) tNext)
    (tSeq (tAsg (tOp hMod (hInt (tOp hAdd (tOp hAdd (tOp hMul (gK "fold") (hC 48271)) (tOp hMul (gK "count") (hC 7919))) (hC 13))) (hC 2147483647)) (gName 4)) t_d2)
section
variable {a c : Addr} {m : Int} {H : Hp} {D0 : Ends} {x2 : Option V}
theorem d_3 (m1 : 0 < m) (hk : ∀ (k i g n f : Int), 0 ≤ k → k < m → 0 ≤ i → 0 ≤ g → 0 ≤ f → f < 2147483647 → D0.rt (.int k) (upd H a (.dK (pk c i g n f)))) (i g n f z2 : Int) (b1 : 0 ≤ i) (b2 : 0 ≤ g) (c1 : 0 ≤ z2) (c2 : z2 < 2147483647) :
    t_d3 D0 [some (.ref a), some (.int m), x2, none, some (.int z2)] (upd H a (.dK (pk c i g n f))) := by
  have h0 : upd H a (.dK (pk c i g n f)) a = some (.dK (pk c i g n f)) := upd_same
  refine ⟨.int z2, rfl, z2, 16807, rfl, rfl, .inr ⟨by decide, by decide⟩, _, _, rfl, rfl, .inl ⟨_, rfl, _, _, rfl, rfl, (by show (0 : Int) < 2147483647; decide), .ref a, rfl, a, _, rfl, pp_fold h0, ?_⟩⟩
  have c3 := imod_lt (z2 * 16807 + 7) (j := 2147483647) (by decide)
  refine ⟨.int z2, rfl, z2, 64, rfl, rfl, ⟨by decide, by decide⟩, .inl ⟨_, rfl, .int m, rfl, _, m, rfl, rfl, m1, ?_⟩⟩
  rw [upd_upd]
  exact hk _ _ _ _ _ (imod_lt _ m1).1 (imod_lt _ m1).2 b1 b2 c3.1 c3.2
theorem d_2 (m1 : 0 < m) (hk : ∀ (k i g n f : Int), 0 ≤ k → k < m → 0 ≤ i → 0 ≤ g → 0 ≤ f → f < 2147483647 → D0.rt (.int k) (upd H a (.dK (pk c i g n f)))) (i g n f z1 : Int) (b1 : 0 ≤ i) (b2 : 0 ≤ g) (c1 : 0 ≤ z1) (c2 : z1 < 2147483647) :
    t_d2 D0 [some (.ref a), some (.int m), x2, none, some (.int z1)] (upd H a (.dK (pk c i g n f))) := by
  have h0 : upd H a (.dK (pk c i g n f)) a = some (.dK (pk c i g n f)) := upd_same
  refine ⟨.int z1, rfl, .int z1, rfl, z1, z1, rfl, rfl, .inl ⟨by omega, by omega⟩, .int z1, rfl, 31, z1, rfl, rfl, .inl ⟨by decide, by decide⟩, _, _, rfl, rfl, .ref a, rfl, a, .int n, rfl, pg_count h0, _, _, rfl, rfl, .inl ⟨_, rfl, _, _, rfl, rfl, (by show (0 : Int) < 2147483629; decide), ?_⟩⟩
  have c3 := imod_lt (z1 * z1 + 31 * z1 + n) (j := 2147483629) (by decide)
  exact d_3 m1 hk i g n f _ b1 b2 c3.1 (by omega)
theorem d_tail (m1 : 0 < m) (m2 : m < 1073741824)
    (hk : ∀ (k i g n f : Int), 0 ≤ k → k < m → 0 ≤ i → 0 ≤ g → 0 ≤ f → f < 2147483647 → D0.rt (.int k) (upd H a (.dK (pk c i g n f)))) :
    ∀ (i g n f : Int), 0 ≤ i → 0 ≤ g → 0 ≤ f → f < 2147483647 → t_dTail D0 [some (.ref a), some (.int m), x2, none, none] (upd H a (.dK (pk c i g n f))) := by
  intro i g n f b1 b2 b3 b4
  have h0 : upd H a (.dK (pk c i g n f)) a = some (.dK (pk c i g n f)) := upd_same
  refine ⟨.ref a, rfl, a, .int g, rfl, pg_digits h0, g, 0, rfl, rfl, _, rfl, ?_⟩
  refine ite2 (fun hg => ?_) (fun hg => ?_)
  · have hg : 0 < g := of_decide_eq_true hg
    refine ⟨.ref a, rfl, a, .int g, rfl, pg_digits h0, .inl ⟨g, rfl, ?_⟩⟩
    refine ⟨.int m, rfl, g, m, rfl, rfl, m1, ?_⟩
    refine ⟨.ref a, rfl, a, .int g, rfl, pg_digits h0, .int m, rfl, g, m, rfl, rfl, ⟨m1, m2⟩, .ref a, rfl, a, _, rfl, pp_digits h0, ?_⟩
    refine ⟨.int (g % m), rfl, ?_⟩
    rw [upd_upd]
    exact hk _ _ _ _ _ (imod_lt g m1).1 (imod_lt g m1).2 b1 (Int.ediv_nonneg (by omega) (by omega)) b3 b4
  · refine ⟨.ref a, rfl, a, .int f, rfl, pg_fold h0, f, 48271, rfl, rfl, .inr ⟨by decide, by decide⟩, .ref a, rfl, a, .int n, rfl, pg_count h0, n, 7919, rfl, rfl, .inr ⟨by decide, by decide⟩, _, _, rfl, rfl, _, _, rfl, rfl, .inl ⟨_, rfl, _, _, rfl, rfl, (by show (0 : Int) < 2147483647; decide), ?_⟩⟩
    have c1 := imod_lt (f * 48271 + n * 7919 + 13) (j := 2147483647) (by decide)
    exact d_2 m1 hk i g n f _ b1 b2 c1.1 c1.2
end
def t_dHead (K : PySem.W.Frag) : TS :=
  tIfS (tAnd (tTest (tOp rEq (gK "digits") (hC 0))) (tTest (tOp (rI0 fun i j => .bl (decide (i < j))) (gK "at") (tCB (fun xs H Q => ∃ p ys, xs = [.ref p] ∧ (SqL K H p ys ∨ SqT K H p ys) ∧ Q (.int ys.length) H) (tCons (gK "cells") tNil)))))
    (tSeq (tAsg (tOp (rIxL K) (gK "cells") (gK "at")) (gName 2)) (tSeq (pK "at" (tOp hAdd (gK "at") (hC 1)))
      (tIfS (tTest (tOp (rI0 fun i j => .bl (decide (j ≤ i))) (tVar 2) (tOp (rI CPow fun i j => .int (i ^ j.toNat)) (hC 10) (hC 18))))
        (pK "digits" (tOp (rI0 fun i j => .int (i - j)) (tVar 2) (tOp (rI CPow fun i j => .int (i ^ j.toNat)) (hC 10) (hC 18))))
        (pK "fold" (tOp hMod (hInt (tOp hAdd (tOp hMul (gK "fold") (hC 69069)) (tVar 2))) (hC 2147483587)))))) tNext
def t_draw (K : PySem.W.Frag) : TS := tSeq (pK "count" (tOp hAdd (gK "count") (hC 1))) (tSeq (t_dHead K) t_dTail)
theorem d_all {K : PySem.W.Frag} {a c : Addr} {m : Int} {H : Hp} {D0 : Ends} {xs : List Int} {i g n f : Int} (h0 : H a = some (.dK (pk c i g n f))) (hc : ∀ i g n f, SqL K (upd H a (.dK (pk c i g n f))) c (xs.map V.int)) (m1 : 0 < m) (m2 : m < 1073741824) (b1 : 0 ≤ i) (b2 : 0 ≤ g) (b3 : 0 ≤ f) (b4 : f < 2147483647)
    (hk : ∀ (k i g n f : Int), 0 ≤ k → k < m → 0 ≤ i → 0 ≤ g → 0 ≤ f → f < 2147483647 → D0.rt (.int k) (upd H a (.dK (pk c i g n f)))) :
    t_draw K D0 [some (.ref a), some (.int m), none, none, none] H := by
  refine ⟨.ref a, rfl, a, .int n, rfl, pg_count h0, n, 1, rfl, rfl, .ref a, rfl, a, _, rfl, pp_count h0, ?_⟩
  have h1 : upd H a (.dK (pk c i g (n + 1) f)) a = some (.dK (pk c i g (n + 1) f)) := upd_same
  refine ⟨.ref a, rfl, a, .int g, rfl, pg_digits h1, rfl, _, rfl, ?_⟩
  refine ite2 (fun hg => ?_) (fun hg => ?_)
  · refine ⟨.ref a, rfl, a, .int i, rfl, pg_at h1, .ref a, rfl, a, .ref c, rfl, pg_cells h1, c, _, rfl, .inl (hc _ _ _ _), i, _, rfl, rfl, _, rfl, ?_⟩
    refine ite2 (fun hl => ?_) (fun hl => ?_)
    · have hl : i < ((xs.map V.int).length : Nat) := of_decide_eq_true hl
      rw [List.length_map] at hl
      have hi : i.toNat < xs.length := by omega
      have ei : (xs.map V.int)[i.toNat]? = some (.int xs[i.toNat]) := by rw [List.getElem?_map, List.getElem?_eq_getElem hi]; rfl
      have e2 := atI_nat ei
      rw [show ((i.toNat : Nat) : Int) = i by omega] at e2
      generalize xs[i.toNat] = z at e2
      refine ⟨.ref a, rfl, a, .ref c, rfl, pg_cells h1, .ref a, rfl, a, .int i, rfl, pg_at h1, c, _, i, .int z, rfl, rfl, hc _ _ _ _, e2, ?_⟩
      refine ⟨.ref a, rfl, a, .int i, rfl, pg_at h1, i, 1, rfl, rfl, .ref a, rfl, a, _, rfl, pp_at h1, ?_⟩
      rw [upd_upd]
      have h2 : upd H a (.dK (pk c (i + 1) g (n + 1) f)) a = some (.dK (pk c (i + 1) g (n + 1) f)) := upd_same
      refine ⟨.int z, rfl, 10, 18, rfl, rfl, ⟨by decide, by decide, by decide⟩, z, _, rfl, rfl, _, rfl, ?_⟩
      refine ite2 (fun hz => ?_) (fun hz => ?_)
      · have hz := of_decide_eq_true hz
        refine ⟨.int z, rfl, 10, 18, rfl, rfl, ⟨by decide, by decide, by decide⟩, z, _, rfl, rfl, .ref a, rfl, a, _, rfl, pp_digits h2, ?_⟩
        rw [upd_upd]
        exact d_tail m1 m2 hk _ _ _ _ (by omega) (by omega) b3 b4
      · refine ⟨.ref a, rfl, a, .int f, rfl, pg_fold h2, f, 69069, rfl, rfl, .inr ⟨by decide, by decide⟩, .int z, rfl, _, _, rfl, rfl, .inl ⟨_, rfl, _, _, rfl, rfl, (by show (0 : Int) < 2147483587; decide), .ref a, rfl, a, _, rfl, pp_fold h2, ?_⟩⟩
        rw [upd_upd]
        have c1 := imod_lt (f * 69069 + z) (j := 2147483587) (by decide)
        exact d_tail m1 m2 hk _ _ _ _ (by omega) b2 c1.1 (by omega)
    · exact d_tail m1 m2 hk _ _ _ _ b1 b2 b3 b4
  · exact iteF (d_tail m1 m2 hk _ _ _ _ b1 b2 b3 b4)
def sp__law_draw : Sp3 := fun ds Q _ => match ds with
  | [.pen, .int m] => (0 < m ∧ m < 1073741824) ∧ ∀ k : Int, 0 ≤ k → k < m → Q (.int k)
  | _ => False
theorem penEx {K : KC} {F R : Hp} {a c : Addr} {xs : List Int} {i g n f i' g' n' f' : Int} (dj : Dj F R) (h : F a = some (.dK (pk c i g n f))) (hc : SqL K.K F c (xs.map V.int)) (h1 : 0 ≤ i') (h2 : 0 ≤ g') (h3 : 0 ≤ f') (h4 : f' < 2147483647) :
    upd (jn F R) a (.dK (pk c i' g' n' f')) = jn (upd F a (.dK (pk c i' g' n' f'))) R ∧ Ext K F (upd F a (.dK (pk c i' g' n' f'))) ∧ Dj (upd F a (.dK (pk c i' g' n' f'))) R ∧ SqL K.K (upd F a (.dK (pk c i' g' n' f'))) c (xs.map V.int) := by
  have hc' : SqL K.K (upd F a (.dK (pk c i' g' n' f'))) c (xs.map V.int) := by
    rcases hc with (hc | ⟨o, hc⟩) | hc
    · refine .inl (.inl ?_)
      rw [upd_ne (fun z => by rw [z, h] at hc; cases hc)]
      exact hc
    · refine .inl (.inr ⟨o, ?_⟩)
      rw [upd_ne (fun z => by rw [z, h] at hc; cases hc)]
      exact hc
    · exact .inr hc
  have keep : ∀ b o, F b = some o → (∀ kvs, o ≠ .dK kvs) → upd F a (.dK (pk c i' g' n' f')) b = some o := fun b o e z => by
    have : b ≠ a := fun q => by rw [q, h] at e; cases e; exact z _ rfl
    rw [upd_ne this]
    exact e
  refine ⟨?_, ⟨fun b o e => ?_, fun t p hp => ?_⟩, ⟨fun b o e => ?_, dj.nt⟩, hc'⟩
  · funext b
    by_cases hb : b = a
    · subst hb; rw [upd_same, jn_l upd_same]
    · rw [upd_ne hb]; unfold jn; rw [upd_ne hb]
  · by_cases hb : b = a
    · subst hb
      rw [h] at e
      cases e
      exact .inr (.inl ⟨_, _, rfl, rfl, upd_same, rfl, c, xs, i', g', n', f', rfl, hc', h1, h2, h3, h4⟩)
    · exact .inl (by rw [upd_ne hb]; exact e)
  · obtain ⟨ps, e1, e2, e3⟩ := t p hp
    refine ⟨ps, keep _ _ e1 (fun _ z => by cases z), e2, fun pos cv hcv => ?_⟩
    obtain ⟨cc, e4, e5⟩ := e3 pos cv hcv
    exact ⟨cc, e4, keep _ _ e5 (fun _ z => by cases z)⟩
  · by_cases hb : b = a
    · rw [hb]; exact dj a _ h
    · rw [upd_ne hb] at e; exact dj b o e
theorem pure_draw {K : KC} {vs : List V} {H : Hp} {Q : VK} {E : XK} (h : lSp K 2 sp__law_draw vs H Q E) : t_draw K.K { nx := fun _ H' => Q .non H', rt := Q } (L2.start ["pen", "many", "cell", "digit", "blend"] vs) H := by
  obtain ⟨F0, R0, ds, Q', E', hH, dj, tb, rd, hl, hs, kv, kx⟩ := h
  subst hH
  unfold sp__law_draw at hs
  split at hs
  · rename_i m
    obtain ⟨⟨m1, m2⟩, hk⟩ := hs
    obtain ⟨v, u, rfl, h1, h2⟩ := reps_two rd
    rw [rep_int h2]
    unfold Rep at h1
    obtain ⟨a, kvs, rfl, ha, c, xs, i, g, n, f0, rfl, hc, b1, b2, b3, b4⟩ := h1
    refine d_all (xs := xs) (jn_l ha) (fun i' g' n' f' => ?_) m1 m2 b1 b2 b3 b4 (fun k i' g' n' f' k1 k2 c1 c2 c3 c4 => ?_)
    · rcases hc with (hc | ⟨o, hc⟩) | hc
      · refine .inl (.inl ?_)
        rw [upd_ne (fun z => by rw [z, ha] at hc; cases hc)]
        exact jn_l hc
      · refine .inl (.inr ⟨o, ?_⟩)
        rw [upd_ne (fun z => by rw [z, ha] at hc; cases hc)]
        exact jn_l hc
      · exact .inr hc
    · obtain ⟨e1, e2, e3, _⟩ := penEx (K := K) (n' := n') dj ha hc c1 c2 c3 c4
      show Q (.int k) (upd (jn F0 R0) a (.dK (pk c i' g' n' f')))
      rw [e1]
      exact kv.ok _ _ _ e2 e3 (of_int k) (hk k k1 k2)
  · exact hs.elim
/-! ### a new pen -/
theorem Wd.innO {K : KC} {B : Bs} {σ : St} {F R : Hp} {ρ : Env3} (w : Wd K B σ F R ρ) {p : Addr} (np : R p = none) {o : HO} (dj : Dj F (upd R p o)) : Wd K B σ F (upd R p o) ρ := by
  refine ⟨w.tb, w.ex, fun b u hb => ?_, dj, w.len, w.val, fun j es hj => ?_, fun j c b fs hj => ?_, w.sep⟩
  · have h1 := w.fr b u hb
    have : b ≠ p := fun z => by rw [z, np] at h1; cases h1
    rw [upd_ne this]
    exact h1
  · obtain ⟨b, us, g1, g2, g3⟩ := w.own j es hj
    have : b ≠ p := fun z => by rw [z, np] at g2; cases g2
    exact ⟨b, us, g1, by rw [upd_ne this]; exact g2, g3⟩
  · obtain ⟨z, dx, us, g1, g2, g3, g4⟩ := w.obj j c b fs hj
    have n1 : b ≠ p := fun z => by rw [z, np] at g2; cases g2
    have n2 : dx ≠ p := fun z => by rw [z, np] at g3; cases g3
    exact ⟨z, dx, us, g1, by rw [upd_ne n1]; exact g2, by rw [upd_ne n2]; exact g3, g4⟩
theorem reps_intsV {K : KC} {F : Hp} : ∀ {ns : List Int} {vs : List V}, Reps K F vs (ns.map D.int) → vs = ns.map V.int
  | [], vs, h => by rw [reps_nil h]; rfl
  | n :: ns, vs, h => by
    obtain ⟨v, r, rfl, h1, h2⟩ := reps_cons h
    rw [rep_int h1, reps_intsV h2]
    rfl
def rPenNew (rs : RA) (rf : RE) : RE := fun ρ Q _ => rs ρ (fun ds => ∃ ns : List Int, ds = ns.map D.int ∧ rf ρ (fun d => ∃ f : Int, d = .int f ∧ (0 ≤ f ∧ f < 2147483647) ∧ Q .pen) (fun _ => False)) (fun _ => False)
section
variable {B : Bs} {X : Cx} {W : WX} {e e1 : Expr} {rs : RA} {rf : RE} {pos : Pos}
theorem de_penNew {j1 j2 j3 j4 j5 i2 i3 i4 : Nat} {p1 p2 p3 p4 p5 q2 q3 q4 : Pos} (hl : FE B X W e rs) (hf : DE B X W e1 rf) :
    DE B X W (.Dict [some (.Constant (.str "cells") j1 p1), some (.Constant (.str "at") j2 p2), some (.Constant (.str "digits") j3 p3), some (.Constant (.str "count") j4 p4), some (.Constant (.str "fold") j5 p5)]
      [e, .Constant (.int 0) i2 q2, .Constant (.int 0) i3 q3, .Constant (.int 0) i4 q4, e1] pos) (rPenNew rs rf) :=
  (pe_disp (pps_cons pe_str hl (pps_cons pe_str pe_int (pps_cons pe_str pe_int (pps_cons pe_str pe_int (pps_cons pe_str hf pps_nil))))) (by rfl) (by rfl) (fun z => by cases z) (by show 5 ≤ 15; decide)).imp fun σ H Q ⟨F, R, ρ, Q', E', hH, w, q, k⟩ => by
    subst hH
    intro p hp
    have np := jn_none hp
    rw [jn_updR np.1]
    have dj0 : Dj F (upd R p (.dK [])) := w.dj.updR np.1
    refine ⟨F, _, ρ, _, _, rfl, w.innO np.2 dj0, q, fun l vs ds F1 x1 dj1 rv hz q1 hl => ?_, fun _ _ _ _ _ _ _ z => z.elim⟩
    · obtain ⟨ns, rfl, q1⟩ := q1
      have hl1 := jn_none hl
      rw [jn_newF hl]
      have x2 : Ext (kc B.T X) F1 (upd F1 l (.lst vs)) := Ext.newF hl
      have dj2 := dj1.newF (o := .lst vs) hl
      refine ⟨_, _, ρ, _, _, rfl, (w.innO np.2 dj0).ext (x1.trans x2) dj2, q1, fun v d F3 x3 dj3 rv3 q3 => ?_, fun _ _ _ _ _ _ _ z => z.elim⟩
      · obtain ⟨f, rfl, hf0, q3⟩ := q3
        obtain ⟨n3, d3⟩ := dj_down np.2 dj3
        refine ⟨(jn_of_r dj3 upd_same).2, [(.inr "cells", .ref l), (.inr "at", .int 0), (.inr "digits", .int 0), (.inr "count", .int 0), (.inr "fold", v)], rfl, (by show 5 ≤ 15; decide), ?_⟩
        have hp3 : jn F3 R p = none := by rw [jn_r n3]; exact np.2
        have e3 : upd (jn F3 (upd R p (.dK []))) p (.dK (mergeK [] [(.inr "cells", .ref l), (.inr "at", .int 0), (.inr "digits", .int 0), (.inr "count", .int 0), (.inr "fold", v)])) = jn (upd F3 p (.dK (pk l 0 0 0 f))) R := by
          rw [rep_int rv3, ← jn_newF hp3, jn_updR n3, upd_upd, ← jn_updR n3]
          rfl
        rw [e3]
        have x4 : Ext (kc B.T X) F3 (upd F3 p (.dK (pk l 0 0 0 f))) := Ext.newF hp3
        have d4 := d3.newF (o := .dK (pk l 0 0 0 f)) hp3
        refine k.ok _ .pen _ (((x1.trans x2).trans x3).trans x4) d4 ?_ q3
        unfold Rep
        have hl3 : F3 l = some (.lst vs) := x3.lst upd_same
        have nlp : l ≠ p := fun z => by rw [z, n3] at hl3; cases hl3
        refine ⟨p, _, rfl, upd_same, l, ns, 0, 0, 0, f, rfl, ?_, Int.le_refl 0, Int.le_refl 0, hf0⟩
        rw [reps_intsV rv] at hl3
        exact .inl (.inl (by rw [upd_ne nlp]; exact hl3))
end
end L3
namespace L3
open PySem PySem.Spec L2
open PyProof.Rows hiding St
/-! ### data without an exception in it -/
mutual
def nxD : D → Bool
  | .tup ds => nxs ds
  | .lst ds => nxs ds
  | .dct ds => nxK ds
  | .ins _ fs => nxF fs
  | .exc _ _ => false
  | _ => true
def nxs : List D → Bool
  | [] => true
  | d :: ds => nxD d && nxs ds
def nxK : List (Key × D) → Bool
  | [] => true
  | (_, d) :: ds => nxD d && nxK ds
def nxF : List (Str × D) → Bool
  | [] => true
  | (_, d) :: ds => nxD d && nxF ds
end
abbrev KC.at (K : KC) (pn : List (Addr × Obj)) : KC := { K with pn := pn }
section
variable {K : KC} {H : Hp} {p1 p2 : List (Addr × Obj)}
theorem okl {a b : Bool} {P : Prop} (h : (a && b) = true ∨ P) : (a = true ∨ P) ∧ (b = true ∨ P) := by
  rcases h with h | h
  · obtain ⟨h1, h2⟩ := Bool.and_eq_true_iff.mp h
    exact ⟨.inl h1, .inl h2⟩
  · exact ⟨.inr h, .inr h⟩
mutual
/-- the pins may change where no exception is told, or where they grow -/
theorem Rep.pn : ∀ (d : D) (v : V), (nxD d = true ∨ ∀ p ∈ p1, p ∈ p2) → Rep (K.at p1) H v d → Rep (K.at p2) H v d
  | .non, v, _, h => by simpa [Rep] using h
  | .bl _, v, _, h => by simpa [Rep] using h
  | .int _, v, _, h => by simpa [Rep] using h
  | .str _, v, _, h => by simpa [Rep] using h
  | .tup ds, v, o, h => by
    unfold Rep at h ⊢
    obtain ⟨a, vs, e, s, r⟩ := h
    exact ⟨a, vs, e, s, Reps.pn ds vs (by unfold nxD at o; exact o) r⟩
  | .lst ds, v, o, h => by
    unfold Rep at h ⊢
    obtain ⟨a, vs, e, s, r⟩ := h
    exact ⟨a, vs, e, s, Reps.pn ds vs (by unfold nxD at o; exact o) r⟩
  | .scr xs, v, o, h => by
    unfold Rep at h ⊢
    exact h
  | .dct ds, v, o, h => by
    unfold Rep at h ⊢
    obtain ⟨a, kvs, e, s, l, r⟩ := h
    exact ⟨a, kvs, e, s, l, RepK.pn ds kvs (by unfold nxD at o; exact o) r⟩
  | .ins C ds, v, o, h => by
    unfold Rep at h ⊢
    obtain ⟨a, dx, fs, e, s, r⟩ := h
    exact ⟨a, dx, fs, e, s, RepF.pn ds fs (by unfold nxD at o; exact o) r⟩
  | .pen, v, o, h => by
    unfold Rep at h ⊢
    exact h
  | .exc c ds, v, o, h => by
    unfold Rep at h ⊢
    obtain ⟨a, oe, od, e, m, z⟩ := h
    refine ⟨a, oe, od, e, ?_, z⟩
    rcases o with o | o
    · unfold nxD at o
      cases o
    · exact o _ m
theorem Reps.pn : ∀ (ds : List D) (vs : List V), (nxs ds = true ∨ ∀ p ∈ p1, p ∈ p2) → Reps (K.at p1) H vs ds → Reps (K.at p2) H vs ds
  | [], vs, _, h => by simpa [Reps] using h
  | d :: ds, vs, o, h => by
    unfold Reps at h ⊢
    obtain ⟨v, r, e, h1, h2⟩ := h
    have o2 := okl (by unfold nxs at o; exact o)
    exact ⟨v, r, e, Rep.pn d v o2.1 h1, Reps.pn ds r o2.2 h2⟩
theorem RepK.pn : ∀ (ds : List (Key × D)) (vs : List (Key × V)), (nxK ds = true ∨ ∀ p ∈ p1, p ∈ p2) → RepK (K.at p1) H vs ds → RepK (K.at p2) H vs ds
  | [], vs, _, h => by simpa [RepK] using h
  | (k, d) :: ds, vs, o, h => by
    unfold RepK at h ⊢
    obtain ⟨v, r, e, h1, h2⟩ := h
    have o2 := okl (by unfold nxK at o; exact o)
    exact ⟨v, r, e, Rep.pn d v o2.1 h1, RepK.pn ds r o2.2 h2⟩
theorem RepF.pn : ∀ (ds : List (Str × D)) (vs : List (Str × V)), (nxF ds = true ∨ ∀ p ∈ p1, p ∈ p2) → RepF (K.at p1) H vs ds → RepF (K.at p2) H vs ds
  | [], vs, _, h => by simpa [RepF] using h
  | (k, d) :: ds, vs, o, h => by
    unfold RepF at h ⊢
    obtain ⟨v, r, e, h1, h2⟩ := h
    have o2 := okl (by unfold nxF at o; exact o)
    exact ⟨v, r, e, Rep.pn d v o2.1 h1, RepF.pn ds r o2.2 h2⟩
end
end
/-! ### defs that are called while an exception is handled -/
structure RoomP (g : Bool) (k : Nat) (A : Around) : Prop where
  rh : L2H.RoomH k A
  gd : g = true → A.guards = some []
theorem RoomP.mono {g : Bool} {j k : Nat} {A : Around} (r : RoomP g k A) (h : j ≤ k) : RoomP g j A := ⟨r.rh.mono h, r.gd⟩
structure FnP (P : Program) (w : World) (K : PySem.W.Frag) (mg : Str → Option Value) (base : Heap) (g : Bool) (k : Nat) (f : Addr) (fd : FuncData) (ps : List Str) (sp : Addr × Obj → Sp) : Prop where
  len : ∀ p vs H Q E, sp p vs H Q E → vs.length = ps.length
  run : ∀ (p : Addr × Obj) {A : Around} {outer : List Env} {s : Shared} {H : Hp} {args : Args} {us : List Value} {vs : List V} {Q : VK}, RoomP g k A → L2H.PinOk outer H s p → Env0 P w K mg base A outer s H → BindsTo s fd args (ps.zip us) → Vals vs us → sp p vs H Q C8.E0 →
    codeAny (model P w) A (.call (.ref f) args) (CR C8.CX0 outer P w H s Q C8.E0) s
/-- what such a def promises over data: its argument is the exception -/
def lSpP (K : KC) (sp : XD → (D → Prop) → Prop) (p : Addr × Obj) : Sp := fun vs H Q _ => ∃ F R x Q' v, vs = [v] ∧ H = jn F R ∧ Dj F R ∧ LamX.Tabs K.T F ∧ Rep (K.at [p]) F v (.exc x.cls x.fs) ∧ sp x Q' ∧ KV1 (K.at [p]) F R Q' Q
abbrev cxP (P : Program) (w : World) (K : PySem.W.Frag) (mg : Str → Option Value) (base : Heap) (N : List Str) (qual : Str) (scope : Scope) (f : Addr) (cd : Value) (A : Around) (outer : List Env) (s : Shared) (H : Hp) (p : Addr × Obj) : Cx := (L2H.cxH C8.CX0 P w K mg base N qual scope f cd A outer s H C8.E0 p).nox
section
variable {P : Program} {w : World} {K : PySem.W.Frag} {mg : Str → Option Value} {base : Heap} {T : List (Addr × Str)}
theorem fnP {g : Bool} {x a qual : Str} {st : Stmt} {f : Addr} {fd : FuncData} {N : List Str} {k : Nat} {sp : XD → (D → Prop) → Prop} {r : RS} (Fu : Fun K x qual st f fd) (S : FnScope N [a] (defScope st))
    (hbody : ∀ (cdv : Value) (A : Around) (outer : List Env) (s : Shared) (H : Hp) (p : Addr × Obj) (B : Bs), B.T = T → RoomP g k (A.deeper (envOfC qual (defScope st) s.heap.objs.size f cdv)) →
      DSs B (cxP P w K mg base N qual (defScope st) f cdv A outer s H p) W0 (defBody st) r)
    (hp : ∀ (x : XD) (Q : D → Prop), sp x Q → r { nx := fun _ => Q .non, rt := Q, ex := fun _ => False } (start3 N.length [.exc x.cls x.fs])) :
    FnP P w K mg base g (k + 1) f fd [a] (lSpP ⟨K, cmOf mg, [], T⟩ sp) := by
  obtain ⟨oc, od, kV, doc, pm, an, cdv, ct, osl, rfl, lk, hcd⟩ := Fu.ex
  refine ⟨fun p vs H Q E h => ?_, fun p A outer s H args us vs Q rm pin e0 hb rv h => ?_⟩
  · obtain ⟨_, _, _, _, _, rfl, _⟩ := h
    rfl
  · obtain ⟨F0, R0, y, Q', v, rfl, rfl, dj, tb, rx, hs, kv⟩ := h
    have kin : K.In s.heap := e0.mod.kin.keeps fun b o z => (e0.bs b o z).1
    have nl : s.heap.NoLimit := e0.mod.nolimit.keeps fun b o z => (e0.bs b o z).1
    refine codeAny_call_function rm.rh.depth (kin _ _ lk) rfl S.co S.gen rfl (PySem.W.codeRec_of kin hcd) (hb _ _ _ _ ?_)
    refine wpAny_newFunctionEnv_cells S.kind (fun ⟨n, u⟩ hy => (S.par n (List.of_mem_zip hy).1).imp id fun q => ⟨q, PySem.W.cellsFrom_some _ _ _ (.inl q)⟩) fun env ee s1 inc => ?_
    subst ee
    refine ⟨nl.keeps inc.toInCall.keep, codeAny_func ?_⟩
    have rm' : RoomP g k (A.deeper (envOfC qual (defScope st) s.heap.objs.size f cdv)) := ⟨rm.rh.deeper _, rm.gd⟩
    have I0 := L2H.inv_startH (CX := C8.CX0) (E := C8.E0) (cd := cdv) (f := f) (qual := qual) (A := A) S pin e0 (vs := [v]) rfl rv inc
    have B1 := hbody cdv A outer s (jn F0 R0) p ⟨F0, R0, T⟩ rfl rm'
    have hq : lS (kc T (cxP P w K mg base N qual (defScope st) f cdv A outer s (jn F0 R0) p)) ⟨F0, R0, T⟩ W0 r { nx := fun _ H' => Q .non H', rt := Q } (L2.start N [v]) (jn F0 R0) := by
      refine ⟨F0, R0, start3 N.length [.exc y.cls y.fs], _, rfl, (by exact wd_start dj (by exact tb) (by exact Reps.cons rx Reps.nil) rfl rfl), hp y Q' hs, ?_⟩
      refine ⟨fun σ F R ρ w q => ?_, fun v d σ F R ρ w rv q => ?_, fun x cls od σ F R ρ w rx q => q.elim, fun σ F R ρ w q => q.elim, fun σ F R ρ w q => q.elim⟩
      · obtain ⟨F', e, x1, d1⟩ := absorb w
        rw [e]
        exact kv.ok _ _ F' (w.ex.trans x1) d1 of_non q
      · obtain ⟨F', e, x1, d1⟩ := absorb w
        rw [e]
        exact kv.ok _ _ F' (w.ex.trans x1) d1 (Rep.ext x1 _ _ rv) q
    refine wpAny_mono ((PSs.nox B1).run [] s1 (L2.start N [v]) _ _ I0 hq) (fun fl s2 h2 => ?_) fun e s2 h2 => h2
    cases fl with
    | next =>
      obtain ⟨τ, H2, J, q⟩ := h2
      exact ⟨V.non, H2, J.os, J.bare, J.base, J.hok, rfl, q⟩
    | ret u =>
      obtain ⟨v2, τ, H2, J, r2, q⟩ := h2
      exact ⟨v2, H2, J.os, J.bare, J.base, J.hok, r2, q⟩
    | brk =>
      obtain ⟨_, _, _, q⟩ := h2
      exact q.elim
    | cont =>
      obtain ⟨_, _, _, q⟩ := h2
      exact q.elim
end
section
variable {B : Bs} {X : Cx} {W : WX} {a b c e : Expr} {ra rb rc re : RE} {rs : RA} {pos : Pos}
/-- f(e), e an exception at hand -/
def rCallP (sp : XD → (D → Prop) → Prop) (re : RE) : RE := fun ρ Q E => re ρ (fun d => match d with
  | .exc c fs => sp ⟨c, fs⟩ Q
  | _ => False) E
theorem de_callP {x y : Str} {p : Pos} {g : Bool} {k : Nat} {f : Addr} {fd : FuncData} {sp : XD → (D → Prop) → Prop} (G : FnP X.prog X.w X.K X.mg X.base g k f fd [y] (lSpP ⟨X.K, cmOf X.mg, [], B.T⟩ sp)) (hr : RoomP g k X.A) (hg : Gl X x) (hm : X.mg x = some (.ref f)) (hk : PySem.W.keepIn X.K (.ref f) = true) (hb : Binds X.K fd [y] [])
    (ha : DE B X W e re) (hd : (x == ("__debug__" : Str)) = false := by decide)
    (he : starEach [e] X.env = (false, eval e X.env) :: starEach [] X.env := by rfl) (hpl : (backTo pos (starEach [] X.env)).any (·.1) = false := by rfl) : DE B X W (.Call (.Name x p) [e] [] pos) (rCallP sp re) := by
  refine ⟨fun pins s σ H Q I ⟨F, R, ρ, Q', E', hH, wd, q, kk⟩ => ?_⟩
  subst hH
  refine wpAny_Call_Name_kw (ld_glob I (hg) (hm) ?_ hd)
  have tA : lf (Reps (kc B.T X)) (kc B.T X) B W (rCons re rNil) σ (jn F R) (fun vs H1 => ∃ F' v c fs, vs = [v] ∧ H1 = jn F' R ∧ Ext (kc B.T X) F F' ∧ Dj F' R ∧ Rep (kc B.T X) F' v (.exc c fs) ∧ sp ⟨c, fs⟩ Q') := by
    refine ⟨F, R, ρ, fun ds => ∃ c fs, ds = [D.exc c fs] ∧ sp ⟨c, fs⟩ Q', E', rfl, wd, ?_, fun vs ds F' x1 dj r q2 => ?_, kk.ex⟩
    · show re ρ (fun d => ∃ c fs, [d] = [D.exc c fs] ∧ sp ⟨c, fs⟩ Q') E'
      have e0 : (fun d => match d with
        | .exc c fs => sp ⟨c, fs⟩ Q'
        | _ => False) = fun d => ∃ c fs, [d] = [D.exc c fs] ∧ sp ⟨c, fs⟩ Q' := by
        funext d
        apply propext
        cases d with
        | exc c fs => exact ⟨fun h => ⟨c, fs, rfl, h⟩, fun ⟨c', fs', h1, h2⟩ => by cases h1; exact h2⟩
        | _ => exact ⟨fun h => h.elim, fun ⟨c', fs', h1, h2⟩ => by cases h1⟩
      rw [← e0]
      exact q
    · obtain ⟨c, fs, rfl, q3⟩ := q2
      obtain ⟨v, rfl, h1⟩ := reps_one r
      exact ⟨F', v, c, fs, rfl, rfl, x1, dj, h1, q3⟩
  refine PySem.W.callWith_K (h₀ := X.base) I.ok.mod.kin hk (thn ((da_cons ha da_nil he).run pos pins s σ (jn F R) _ I tA) fun us s1 ⟨vs, H1, I1, rv, q1⟩ => ⟨I1.kIn, ?_⟩) he hpl
  obtain ⟨F', v, c, fs, rfl, rfl, x1, dj1, rx, q3⟩ := q1
  have rx' := rx
  unfold Rep at rx'
  obtain ⟨ad, oe, od, rfl, mem, rest⟩ := rx'
  have pin := I1.pin (ad, oe) (List.mem_append_left _ mem)
  have bd := hb s1 us I1.kIn (by rw [List.append_nil, ← rv.length]; rfl)
  rw [List.append_nil] at bd
  have rxp : Rep (KC.at ⟨X.K, cmOf X.mg, [], B.T⟩ [(ad, oe)]) F' (.ref ad) (.exc c fs) := by
    unfold Rep
    exact ⟨ad, oe, od, rfl, by simp, rest⟩
  have kv : KV1 (KC.at ⟨X.K, cmOf X.mg, [], B.T⟩ [(ad, oe)]) F' R Q' Q := ⟨fun v d F2 x2 dj2 r2 q2 =>
    kk.ok v d F2 (x1.trans ⟨x2.at_, x2.tab⟩) dj2 (Rep.pn (K := kc B.T X) (p1 := [(ad, oe)]) (p2 := X.pn) d v (.inr fun p hp => by rw [List.mem_singleton.mp hp]; exact mem) r2) q2⟩
  refine wpAny_call (codeAny_mono (G.run (ad, oe) hr ⟨pin.1, pin.2.1, fun hm => (List.mem_cons.mp (I1.stkSub ad hm)).elim pin.2.2.1 pin.2.2.2.1, pin.2.2.2.2⟩ I1.env0 bd rv ⟨F', R, ⟨c, fs⟩, Q', _, rfl, rfl, dj1, (x1.tab wd.tb), rxp, q3, kv⟩) fun r s2 hq => ?_)
  cases r with
  | error er => exact (show False from hq).elim
  | ok fl =>
    cases fl with
    | ret u => exact I1.after hq
    | next => exact hq.elim
    | brk => exact hq.elim
    | cont => exact hq.elim
end
end L3
namespace L3
open PySem PySem.Spec L2
open PyProof.Rows hiding St
/-! ### an exception at hand: its class, its fields -/
section
variable {B : Bs} {X : Cx} {W : WX} {a b c e : Expr} {ra rb rc re : RE} {rs : RA} {pos : Pos}
theorem rep_exc {K : KC} {F : Hp} {v : V} {c : Str} {fs : List (Str × D)} (h : Rep K F v (.exc c fs)) : ∃ a oe od, v = .ref a ∧ (a, oe) ∈ K.pn ∧ Zc (.ref (K.cm c)) od oe ∧ (∃ vs, oe.data = .fields vs) ∧ ((fs = [] ∧ od = none) ∨ ∃ dd ws, od = some dd ∧ F dd = some (.xd ws) ∧ RepF (K.at []) F ws fs) := by
  unfold Rep at h
  exact h
/-- the exception's object, as the model finds it -/
theorem inst_exc {pins : List (Addr × Obj)} {σ : St} {H : Hp} {s : Shared} {T : List (Addr × Str)} {F R : Hp} {ad : Addr} {oe : Obj} {c : Str} {fs : List (Str × D)} {od : Option Addr} (I : Inv X pins σ H s) (hH : H = jn F R) (m : (ad, oe) ∈ X.pn) (z : Zc (.ref ((kc T X).cm c)) od oe) (d : ∃ vs, oe.data = .fields vs) (fld : (fs = [] ∧ od = none) ∨ ∃ dd ws, od = some dd ∧ F dd = some (.xd ws) ∧ RepF ((kc T X).at []) F ws fs) :
    ∃ oo, PySem.W.InstAt s.heap ad oe (cmOf X.mg c) oo := by
  obtain ⟨hget, _⟩ := I.pin _ (List.mem_append_left pins m)
  obtain ⟨us, du⟩ := d
  rcases fld with ⟨_, rfl⟩ | ⟨dd, ws, rfl, hx, _⟩
  · exact ⟨none, hget, z.1, by unfold PySem.W.notCls; rw [du] <;> rfl, by rw [z.2]; trivial⟩
  · have ox : ObjOk X.prog X.w H s.heap dd (.xd ws) := I.hok dd _ (by rw [hH]; exact jn_l hx)
    obtain ⟨mA, hns, _⟩ := ox
    obtain ⟨ob, ho, _⟩ := lookIn_ns hns
    exact ⟨some ob, hget, z.1, by unfold PySem.W.notCls; rw [du] <;> rfl, by rw [z.2]; exact ho⟩
/-- what isinstance asks of the exception's class C -/
structure XcC (K : PySem.W.Frag) (C : Addr) : Prop where
  cl : (PySem.W.clsIn K C).isSome = true
  ga :  PySem.W.findIn K (.ref C) "__getattribute__" = some (some (.builtin "BaseException.__getattribute__"))
  gg :  PySem.W.findIn K (.ref C) "__getattr__" = some none
  ex : PySem.W.subIn K (.ref C) (.type "BaseException") = some true
  fc : PySem.W.findIn K (.ref C) "__class__" = some (some (.builtin "object.__class__"))
  sp : PySem.W.specialIn K (.builtin "object.__class__") "__get__" = some (some (.builtin "getset_descriptor.__get__"))
  tk : PySem.W.takesIn K (.builtin "object.__class__") = some true
  mo : PySem.W.mroIn K C (.type "object") = some true
def rIX (K : KC) (nm : List Str) (f : Str → Bool) (cv : Value) : List V → Hp → VK → Prop := fun xs H Q => ∃ v c c0 fs F R, xs = [v, c] ∧ (∀ u, RelV c u → u = cv) ∧ H = jn F R ∧ Rep K F v (.exc c0 fs) ∧ c0 ∈ nm ∧ Q (.bl (f c0)) H
theorem call_isX {T : List (Addr × Str)} {nm : List Str} {f : Str → Bool} {cv : Value} (XN : ∀ c ∈ nm, XcC X.K (cmOf X.mg c) ∧ PySem.W.kitOne X.K (.ref (cmOf X.mg c)) cv = some (f c)) : CallR X (.builtin "isinstance") (rIX (kc T X) nm f cv) := by
  intro pins s σ H xs us Q I r ⟨v, c, c0, fs, F, R, e1, hc, hH, hv, hn, q⟩
  subst e1
  obtain ⟨u1, ⟨u2, ⟨rfl, ⟨r1, r2⟩⟩⟩⟩ := vals2 r
  have e2 := hc _ r2
  subst e2
  obtain ⟨ad, oe, od, rfl, m, z, d, fld⟩ := rep_exc hv
  cases r1
  obtain ⟨oo, J⟩ := inst_exc (T := T) I hH m z d fld
  obtain ⟨C, kit⟩ := XN c0 hn
  exact PySem.W.kia_one (PySem.W.kitx_exc C.cl C.ga C.gg C.ex C.fc C.sp C.tk C.mo) I.kIn J kit (fun y => nomatch y) fun tk => ⟨.bl (f c0), H, I.kept (t' := tk) fun _ _ y => y, rfl, q⟩
/-- isinstance(e, C) of an exception whose class is among nm -/
def rIsX (nm : List Str) (f : Str → Bool) (re : RE) : RE := fun ρ Q E => re ρ (fun d => match d with
  | .exc c _ => c ∈ nm ∧ Q (.bl (f c))
  | _ => False) E
theorem de_isX {p : Pos} {nm : List Str} {f : Str → Bool} {cv : Value} {c : V} (hg : Gl X "isinstance") (hm : X.mg "isinstance" = none) (hc : PE X e (tC c)) (hcv : ∀ u, RelV c u → u = cv) (XN : ∀ c ∈ nm, XcC X.K (cmOf X.mg c) ∧ PySem.W.kitOne X.K (.ref (cmOf X.mg c)) cv = some (f c)) (ha : DE B X W a ra)
    (h1 : starEach [a, e] X.env = (false, eval a X.env) :: starEach [e] X.env := by rfl) (h2 : starEach [e] X.env = [(false, eval e X.env)] := by rfl) (hpl : (backTo pos (starEach [e] X.env)).any (·.1) = false := by rfl) :
    DE B X W (.Call (.Name "isinstance" p) [a, e] [] pos) (rIsX nm f ra) :=
  (pe_callB (call_isX (T := B.T) XN) hg hm (by decide +kernel) (pa_cons ha (pa_cons hc pa_nil h2) h1) (by decide) (by decide) h1 hpl).imp fun σ H Q ⟨F, R, ρ, Q', E', hH, w, r, k⟩ => by
    subst hH
    refine ⟨F, R, ρ, _, E', rfl, w, r, fun v d F' x dj rv q => ?_, k.ex⟩
    cases d with
    | exc c0 fs => exact ⟨v, _, c0, fs, F', R, rfl, hcv, rfl, rv, q.1, k.ok _ _ F' x dj (of_bl _) q.2⟩
    | _ => exact (show False from q).elim
theorem de_isXc {p p2 : Pos} {nm : List Str} {f : Str → Bool} {C : Str} {Ca : Addr} (hg : Gl X "isinstance") (hm : X.mg "isinstance" = none) (hgC : Gl X C) (hmC : X.mg C = some (.ref Ca)) (XN : ∀ c ∈ nm, XcC X.K (cmOf X.mg c) ∧ PySem.W.kitOne X.K (.ref (cmOf X.mg c)) (.ref Ca) = some (f c)) (ha : DE B X W a ra) (hd : (C == ("__debug__" : Str)) = false := by decide)
    (h1 : starEach [a, .Name C p2] X.env = (false, eval a X.env) :: starEach [.Name C p2] X.env := by rfl) (hpl : (backTo pos (starEach [.Name C p2] X.env)).any (·.1) = false := by rfl) :
    DE B X W (.Call (.Name "isinstance" p) [a, .Name C p2] [] pos) (rIsX nm f ra) :=
  de_isX hg hm (pe_glob (v := .ref Ca) hgC hmC rfl hd) (fun u r => r) XN ha h1 rfl hpl
theorem de_isXt {p p2 : Pos} {nm : List Str} {f : Str → Bool} {C : Str} {U : String} (hg : Gl X "isinstance") (hm : X.mg "isinstance" = none) (hgC : Gl X C) (hmC : X.mg C = none) (hv : bootBuiltins C = some (.type U)) (XN : ∀ c ∈ nm, XcC X.K (cmOf X.mg c) ∧ PySem.W.kitOne X.K (.ref (cmOf X.mg c)) (.type U) = some (f c)) (ha : DE B X W a ra) (hn : C ≠ "__name__" := by decide) (hd : (C == ("__debug__" : Str)) = false := by decide)
    (h1 : starEach [a, .Name C p2] X.env = (false, eval a X.env) :: starEach [.Name C p2] X.env := by rfl) (hpl : (backTo pos (starEach [.Name C p2] X.env)).any (·.1) = false := by rfl) :
    DE B X W (.Call (.Name "isinstance" p) [a, .Name C p2] [] pos) (rIsX nm f ra) :=
  de_isX hg hm (pe_bltn (v := .ty U) hgC hmC hv rfl hn hd) (fun u r => r) XN ha h1 rfl hpl
/-- e.f of an exception of the class C -/
def rXf (C f : Str) (re : RE) : RE := fun ρ Q E => re ρ (fun d => match d with
  | .exc c fs => c = C ∧ match fs.lookup f with
    | some d => Q d
    | none => False
  | _ => False) E
structure XfOk (K : PySem.W.Frag) (mg : Str → Option Value) (C f : Str) : Prop where
  xf : XfC K (cmOf mg C)
  no : PySem.W.findIn K (.ref (cmOf mg C)) f = some none
theorem de_xf {C f : Str} (Y : XfOk X.K X.mg C f) (he : DE B X W e re) (hb : attributeBase e f X.env (eval e X.env) = eval e X.env := by rfl) : DE B X W (.Attribute e f pos) (rXf C f re) := by
  refine ⟨fun pins s σ H Q I ⟨F, R, ρ, Q', E', hH, w, r, k⟩ => ?_⟩
  subst hH
  refine attr_of hb (thn (he.run pins s σ _ (fun x H1 => ∃ F' fs d, H1 = jn F' R ∧ Ext (kc B.T X) F F' ∧ Dj F' R ∧ Rep (kc B.T X) F' x (.exc C fs) ∧ fs.lookup f = some d ∧ Q' d) I ⟨F, R, ρ, _, E', rfl, w, r, fun v d F' x dj rv q => ?_, k.ex⟩) fun u s1 ⟨x, H1, I1, rx, F', fs, d, hH1, x1, dj1, rv, lk, q⟩ => ?_)
  · cases d with
    | exc c0 fs =>
      obtain ⟨rfl, q⟩ := q
      cases hl : fs.lookup f with
      | none => rw [hl] at q; exact q.elim
      | some d => rw [hl] at q; exact ⟨F', fs, d, rfl, x, dj, rv, hl, q⟩
    | _ => exact (show False from q).elim
  · subst hH1
    obtain ⟨ad, oe, od, rfl, m, z, dt, fld⟩ := rep_exc rv
    obtain rfl : u = Value.ref ad := rx
    obtain ⟨us, du⟩ := dt
    rcases fld with ⟨rfl, _⟩ | ⟨dd, ws, rfl, hx, rf⟩
    · cases lk
    · obtain ⟨v, lv, rd⟩ := repF_look rf lk
      have ox : ObjOk X.prog X.w (jn F' R) s1.heap dd (.xd ws) := I1.hok dd _ (jn_l hx)
      obtain ⟨mA, hns, hr⟩ := ox
      obtain ⟨ob, ho, hl⟩ := lookIn_ns hns
      obtain ⟨u, hu, ru⟩ := RelO.some_of (v := v) (o := mA f) (by rw [← lv]; exact hr f)
      have J : PySem.W.InstAt s1.heap ad oe (cmOf X.mg C) (some ob) := ⟨(I1.pin _ (List.mem_append_left pins m)).1, z.1, by unfold PySem.W.notCls; rw [du] <;> rfl, by rw [z.2]; exact ho⟩
      have rd' : Rep (kc B.T X) F' v d := Rep.pn (K := kc B.T X) (p1 := []) (p2 := X.pn) d v (.inr fun _ z => by cases z) rd
      exact HandSPX.exc_get I1.kIn J Y.xf.ga Y.xf.gg Y.xf.exC (PySem.W.findObj_own Y.xf.hdC Y.no rfl (by rw [hl, hu])) (handed_of ru) ⟨v, _, I1.tok _, ru, k.ok v d F' x1 dj1 rd' q⟩
end
end L3
namespace L3
open PySem PySem.Spec L2
open PyProof.Rows hiding St
/-! ### found = None / try: call() / except RestsError as e: .. / return found -/
abbrev cxF (X : Cx) (x : Str) (sg : Scope) (g : Addr) (cdg : Value) (s : Shared) (H : Hp) : Cx := (cxOf C8.CX0 X.prog X.w X.K X.mg X.base ["call", "found", "e"] x sg g cdg X.A X.stack s H C8.E0).nox
/-- ft: what the suite makes of an exception -/
def TTf (K : KC) (ft : XD → (D → Prop) → Prop) : (XK → Hp → VK → Prop) → Hp → VK → Prop := fun tl H Q =>
  tl (fun cls d H' => ∃ F R x Q', H' = jn F R ∧ Dj F R ∧ LamX.Tabs K.T F ∧ RepX K F cls d x ∧ ft x Q' ∧ KV1 K F R Q' Q) H (fun _ H' => Q .non H')
theorem fault_gives {X : Cx} {x q : Str} {sg : Scope} {g CS : Addr} {cdg : Value} {gd : Bool} {k j : Nat} {p1 p2 p3 p4 p5 p6 p7 p8 p9 p10 p11 : Pos} {b0 : Stmt} {suite : List Stmt} {T : List (Addr × Str)} {rs : RS} {ft : XD → (D → Prop) → Prop}
    (hge : sg.names.lookup ("RestsError" : Str) = some .globalImplicit) (hme : X.mg "RestsError" = some (.ref CS)) (lf : sg.names.lookup ("found" : Str) = some .local) (le : sg.names.lookup ("e" : Str) = some .local) (hr : Room (k + 2) X.A) (hgd : gd = true → X.A.guards = some [])
    (hsu : ∀ (s : Shared) (H : Hp) (a : Addr) (oe : Obj) (pn : List (Addr × Obj)) (B : Bs), B.T = T → RoomP gd (k + 1) ((cxF X x sg g cdg s H).suite a ((a, oe) :: pn)).A → DSs B ((cxF X x sg g cdg s H).suite a ((a, oe) :: pn)) W0 (b0 :: suite) rs)
    (hpure : ∀ (y : XD) (Q : D → Prop), ft y Q → PySem.W.exmOne X.K (.ref (cmOf X.mg y.cls)) (.ref CS) = some true ∧ rs { nx := fun ρ => ∃ d, (ρ[1]? : Option Sl) = some (.val d) ∧ nxD d = true ∧ Q d, rt := fun _ => False, ex := fun _ => False } [.emp, .emp, .val (.exc y.cls y.fs)]) :
    LamX.GivesTo X ["call", "found", "e"] x sg g cdg [.Assign [.Name "found" p1] (.Constant .none j p2) p3, .Try [.Expr (.Call (.Name "call" p4) [] [] p10) p11] [.ExceptHandler (some (.Name "RestsError" p5)) (some "e") (b0 :: suite) p6] [] [] p7, .Return (some (.Name "found" p8)) p9] "call" q (TTf ⟨X.K, cmOf X.mg, [], T⟩ ft) := by
  intro f c' s H Q tl act hco h
  let Y : Cx := cxF X x sg g cdg s H
  have nd : Y.N.Nodup := by show (["call", "found", "e"] : List Str).Nodup; decide
  let ts : Addr → Value → Option Addr → TS := fun a cls d D σ H1 => ∀ (oe : Obj) (pn : List (Addr × Obj)), Zc cls d oe → (∃ vs, oe.data = .fields vs) → ∃ B, B.T = T ∧ lS (kc T (Y.suite a ((a, oe) :: pn))) B W0 rs D σ H1
  have rm : ∀ a : Addr, RoomP gd (k + 1) (Y.A.mark (some (.ref a))) := fun a => ⟨⟨(Room.deeper hr Y.env).dp, (Room.deeper hr Y.env).un⟩, hgd⟩
  have s2 := ps_try_as (X := Y) (x := "RestsError") (n := "e") (c := .ref CS) (i := 2) (np := p5) (pos := p7) (pos' := p6) (ts := ts) (Wout := fun _ _ _ _ => False)
      (tb := fun W D σ H => ∃ Ech : XK, (∀ cls d σ' H', σ'.length = 3 → Ech cls d H' → W cls d σ' H') ∧ σ = [some (.ref f), some .non, none] ∧ H c' = some (LamX.CodeO c' q) ∧ (tl Ech H fun _ H' => D.nx σ H'))
      (body := [.Expr (.Call (.Name "call" p4) [] [] p10) p11]) rfl rfl nd rfl le ⟨hge, rfl, .inl hme⟩ LamX.takes0 (fun W pn xe tk _ => ⟨fun pins s' σ H' D I h' => by
        obtain ⟨Ech, ⟨hW, ⟨h1, h2, h3⟩⟩⟩ := h'
        have tk3 : Takes (Y.tr pn xe) (fun cls d σ1 H1 => σ1.length = 3 → W cls d σ1 H1) := fun u s9 ⟨a9, B9, sI, pi9, σ9, H9, c9, d9, e9, I9, nb, up, sky, na, os, ag, w9⟩ => tk u s9 ⟨a9, B9, sI, pi9, σ9, H9, c9, d9, e9, I9, nb, up, sky, na, os, ag, w9 I9.len⟩
        have hp := act _ pn xe Ech p4 p10 tk3 (fun cls d σ1 H1 h8 hl => hW cls d σ1 H1 hl h8)
        have hq := pss_one (ps_expr (pos := p11) hp)
        exact hq.run pins s' σ H' D I ⟨by rw [h1]; rfl, h2, h3⟩⟩)
      (fun a oe cls d pn z dt => ⟨fun pins s' σ H' D I h' => by
        obtain ⟨B, hB, h'⟩ := h' oe pn z dt
        have hd := hsu s H a oe pn B hB (rm a)
        unfold DSs at hd
        rw [hB] at hd
        exact hd.run pins s' σ H' D I h'⟩)
  have s1 := ps_set (X := Y) (i := 1) (pos := p3) (pos' := p1) nd rfl (.inl lf) (pe_non (X := Y) (pos := p2) (j := j)) rfl (.inr lf)
  have s3 := ps_ret (pos := p9) (pe_var (X := Y) (i := 1) (x := "found") (pos := p8) rfl (.inl lf))
  refine ⟨_, pss_cons s1 (pss_cons s2 (pss_one s3)), ?_⟩
  show ∃ Ech : XK, _
  refine ⟨fun cls d H' => ∃ F R x Q', H' = jn F R ∧ Dj F R ∧ LamX.Tabs T F ∧ RepX ⟨X.K, cmOf X.mg, [], T⟩ F cls d x ∧ ft x Q' ∧ KV1 ⟨X.K, cmOf X.mg, [], T⟩ F R Q' Q, ?_, rfl, hco, ?_⟩
  · rintro cls d σ' H' hlen ⟨F, R, y, Q', rfl, dj, tb, rx, hf, kv⟩
    obtain ⟨hex, hrs⟩ := hpure y Q' hf
    obtain ⟨hcl, hfd⟩ := rx
    refine ⟨true, by rw [hcl]; exact hex, fun _ a na oe pn z dt => ?_, fun z => by cases z⟩
    match σ', hlen with
    | [x0, x1, x2], _ =>
      refine ⟨⟨F, R, T⟩, rfl, F, R, [.emp, .emp, .val (.exc y.cls y.fs)], _, rfl, ?_, hrs, ?_⟩
      · refine ⟨tb, .refl _, fun _ _ z => z, dj, rfl, fun i d hi => ?_, fun i ds hi => ?_, fun i c b fs hi => ?_, fun i i2 b di d2 hi _ _ _ => ?_⟩
        · match i, hi with
          | 2, hi =>
            cases hi
            refine ⟨.ref a, rfl, ?_⟩
            unfold Rep
            exact ⟨a, oe, d, rfl, by simp, by rw [show cls = .ref (cmOf X.mg y.cls) from hcl] at z; exact z, dt, hfd⟩
          | (i + 3), hi => cases hi
        · match i, hi with
          | (i + 3), hi => cases hi
        · match i, hi with
          | (i + 3), hi => cases hi
        · match i, hi with
          | (i + 3), hi => cases hi
      · refine ⟨fun σ2 F2 R2 ρ2 w2 ⟨d2, h2, n2, q2⟩ => ?_, fun v d σ F R ρ w rv z => z.elim, fun x cls od σ F R ρ w rx z => z.elim, fun σ F R ρ w z => z.elim, fun σ F R ρ w z => z.elim⟩
        obtain ⟨v, e2, r2⟩ := w2.val 1 d2 h2
        refine ⟨v, by rw [List.getElem?_set_ne (by decide)]; exact e2, ?_⟩
        obtain ⟨F9, e9, x9, d9⟩ := absorb w2
        show Q v (jn F2 R2)
        rw [e9]
        have x10 := w2.ex.trans x9
        exact kv.ok v d2 F9 ⟨x10.at_, x10.tab⟩ d9 (Rep.pn (K := ⟨X.K, cmOf X.mg, [], T⟩) (p1 := (a, oe) :: pn) (p2 := []) d2 v (.inl n2) (Rep.ext x9 _ _ r2)) q2
  · have e0 : (fun (_ : V) (H' : Hp) => ∃ v, (some (some V.non) : Option (Option V)) = some (some v) ∧ Q v H') = fun _ H' => Q .non H' := by
      funext _ H'
      exact propext ⟨fun ⟨v, e, q⟩ => by cases e; exact q, fun q => ⟨_, rfl, q⟩⟩
    show tl _ H (fun (_ : V) (H' : Hp) => ∃ v, (some (some V.non) : Option (Option V)) = some (some v) ∧ Q v H')
    rw [e0]
    exact h
end L3
namespace L3
open PySem PySem.Spec L2
open PyProof.Rows hiding St
/-- x(lambda: body) -/
def rFault (ft : XD → (D → Prop) → Prop) (re : RE) : RE := fun ρ Q _ => re ρ (fun _ => Q .non) (fun y => ft y Q)
theorem Ext.tables {K : KC} {F R H1 : Hp} (dj : Dj F R) (tb : LamX.Tabs K.T F) (e : LamX.ExtN (jn F R) H1) (t1 : LamX.Tabs K.T H1) : ∃ F1, H1 = jn F1 R ∧ Ext K F F1 ∧ Dj F1 R := by
  have keepR : ∀ a o, R a = some o → H1 a = some o := fun a o h => e a o (jn_of_r dj h).2 fun ps z => by
    have := dj.nt a o h
    rw [z] at this
    exact this
  have noR : ∀ (a : Addr) (o : HO), H1 a = some o → ¬ NT o → R a = none := fun a o h n => by
    cases q : R a with
    | none => rfl
    | some u =>
      have h2 := keepR a u q
      rw [h] at h2
      cases h2
      exact absurd (dj.nt a o q) n
  let F1 : Hp := fun a => match R a with
    | some _ => none
    | none => H1 a
  have f1 : ∀ a, R a = none → F1 a = H1 a := fun a h => by show (match R a with | some _ => none | none => H1 a) = _; rw [h]
  have f2 : ∀ a o, R a = some o → F1 a = none := fun a o h => by show (match R a with | some _ => none | none => H1 a) = _; rw [h]
  refine ⟨F1, ?_, ⟨fun a o h => ?_, fun t p hp => ?_⟩, ⟨fun a o h => ?_, dj.nt⟩⟩
  · funext a
    cases q : R a with
    | none =>
      cases h : H1 a with
      | some o => exact (jn_l ((f1 a q).trans h)).symm
      | none => exact ((jn_r ((f1 a q).trans h)).trans q).symm
    | some o => rw [keepR a o q]; exact ((jn_r (f2 a o q)).trans q).symm
  · have hr := dj a o h
    by_cases ht : ∃ ps, o = .tbl ps
    · exact .inr (.inr ht)
    · exact .inl ((f1 a hr).trans (e a o (jn_l h) fun ps z => ht ⟨ps, z⟩))
  · obtain ⟨ps, e1, e2, e3⟩ := t1 p hp
    refine ⟨ps, (f1 _ (noR _ _ e1 fun z => z)).trans e1, e2, fun pos cv hcv => ?_⟩
    obtain ⟨c, e4, e5⟩ := e3 pos cv hcv
    exact ⟨c, e4, (f1 _ (noR _ _ e5 fun z => by unfold LamX.CodeO at z; exact z)).trans e5⟩
  · cases q : R a with
    | none => rfl
    | some u =>
      rw [f2 a u q] at h
      cases h
section
variable {B : Bs} {X : Cx} {W : WX}
theorem de_fault {x : Str} {st : Stmt} {g c P : Addr} {fd : FuncData} {k : Nat} {params : Arguments} {body : Expr} {scope : Scope} {p lpos pos : Pos} {ft : XD → (D → Prop) → Prop} {re : RE}
    (hpn : X.pn = []) (Fu : Fun X.K x x st g fd) (hg : Gl X x) (hm : X.mg x = some (.ref g)) (hk : PySem.W.keepIn X.K (.ref g) = true) (hb : Binds X.K fd ["call"] []) (Sg : FnScope ["call", "found", "e"] ["call"] (defScope st)) (hva : Vis (defScope st) "call")
    (hG : ∀ cdv : Value, LamX.GivesTo X ["call", "found", "e"] x (defScope st) g cdv (defBody st) "call" (X.env.qual ++ "<lambda>") (TTf ⟨X.K, cmOf X.mg, [], B.T⟩ ft))
    (TB : LamX.TabB X.base X.mg c P) (hcode : X.env.code = .ref c) (hmT : (P, X.env.qual ++ "<lambda>") ∈ B.T) (hu : ∀ p ∈ B.T, p.1 = P → p.2 = X.env.qual ++ "<lambda>") (hr : Room (k + 2) X.A) (L : LamX.LamS X.env.scope scope) (hdef : defaultsOf params X.env = ([], []))
    (hbind :  ∀ (q : Str) (cl : List (Str × Addr)) (pm cv ctv : Value), bindArgs (PySem.W.kla_fn "<lambda>" q params body scope cl pm cv ctv) ⟨[], []⟩ = pure [])
    (hbody : ∀ (A : Around) (outer : List Env) (s : Shared) (H : Hp) (E : XK) (f c' : Addr), Room k (A.deeper (LamX.lamEnv X scope s.heap.objs.size f c')) → Takes (LamX.lamCx X A outer s H E scope f c') (WD E) → DE B (LamX.lamCx X A outer s H E scope f c') (WD E) body re)
    (hdb : (x == ("__debug__" : Str)) = false := by decide) : DE B X W (.Call (.Name x p) [.Lambda params body scope lpos] [] pos) (rFault ft re) := by
  obtain ⟨oc, od, kV, doc, pm, an, cdv, ct, osl, rfl, lk, hcd⟩ := Fu.ex
  refine (LamX.pe_lamcall (T := B.T) (t := fun E => lE ⟨X.K, cmOf X.mg, [], B.T⟩ B (WD E) re) (p := p) (lpos := lpos) (pos := pos) hg hm hk lk hcd hb Sg rfl hva (hG cdv) TB hcode hmT hu hr L hdef hbind (fun A outer s H E f c' rm => hbody A outer s H E f c' rm (takes_of rfl rfl rfl rfl)) hdb).imp fun σ H Q h => ?_
  obtain ⟨F, R, ρ, Q', E', rfl, w, r, kk⟩ := h
  have ek : kc B.T X = ⟨X.K, cmOf X.mg, [], B.T⟩ := by show (⟨X.K, cmOf X.mg, X.pn, B.T⟩ : KC) = _; rw [hpn]
  rw [ek] at w kk
  refine ⟨w.tb.ext fun b o e => jn_l e, fun H1 eN t1 => ?_⟩
  obtain ⟨F1, rfl, xF, d1⟩ := Ext.tables w.dj w.tb eN t1
  refine ⟨F1, R, ρ, _, _, rfl, w.ext xF d1, r, fun v d F' x1 dj rv q => ?_, fun y cls od F' x1 dj rx q => ?_⟩
  · exact kk.ok .non .non F' (xF.trans x1) dj of_non q
  · exact ⟨F', R, y, Q', rfl, dj, (xF.trans x1).tab w.tb, rx, q, ⟨fun v d F2 x2 dj2 r2 q2 => kk.ok v d F2 ((xF.trans x1).trans x2) dj2 r2 q2⟩⟩
end
section
variable {P : Program} {w : World} {K : PySem.W.Frag} {mg : Str → Option Value} {base : Heap} {T : List (Addr × Str)}
/-- fn3, with the def's own code object told -/
theorem fn3L {x qual : Str} {st : Stmt} {f : Addr} {fd : FuncData} {N ps : List Str} {k n : Nat} {sp : Sp3} {r : RS} (Fu : Fun K x qual st f fd) (S : FnScope N ps (defScope st)) (hn : ps.length = n)
    (hbody : ∀ (A : Around) (outer : List Env) (s : Shared) (H : Hp) (E : XK) (B : Bs), B.T = T → Room k (A.deeper (envOfC qual (defScope st) s.heap.objs.size f fd.code)) → Takes (cxOf (L2.CX P w) P w K mg base N qual (defScope st) f fd.code A outer s H E) (WD E) →
      DSs B (cxOf (L2.CX P w) P w K mg base N qual (defScope st) f fd.code A outer s H E) (WD E) (defBody st) r)
    (hp : ∀ (ds : List D) (Q : D → Prop) (E : XD → Prop), ds.length = n → sp ds Q E → r { nx := fun _ => Q .non, rt := Q, ex := E } (start3 N.length ds)) :
    FnOk P w K mg base (L2.CX P w) (k + 1) f fd ps (lSp ⟨K, cmOf mg, [], T⟩ n sp) := by
  obtain ⟨oc, od, kV, doc, pm, an, cdv, ct, osl, rfl, lk, hcd⟩ := Fu.ex
  refine fn_of lk hcd S (fun vs H Q E h => ?_) fun A outer s H vs Q E hr h => ?_
  · obtain ⟨_, _, _, _, _, _, _, _, _, hl, _⟩ := h
    rw [hl, hn]
  · obtain ⟨F0, R0, ds, Q', E', rfl, dj, tb, rd, hl, hs, kv, kx⟩ := h
    have tk : Takes (cxOf (L2.CX P w) P w K mg base N qual (defScope st) f cdv A outer s (jn F0 R0) E) (WD E) := takes_of rfl rfl rfl rfl
    refine ⟨_, hbody A outer s (jn F0 R0) E ⟨F0, R0, T⟩ rfl hr tk, ?_⟩
    refine ⟨F0, R0, start3 N.length ds, _, rfl, wd_start dj tb rd rfl rfl, hp ds Q' E' (by rw [← rd.length]; exact hl) hs, ?_⟩
    refine ⟨fun σ F R ρ w q => ?_, fun v d σ F R ρ w rv q => ?_, fun x cls od σ F R ρ w rx q => ?_, fun σ F R ρ w q => q.elim, fun σ F R ρ w q => q.elim⟩
    · obtain ⟨F', e, x1, d1⟩ := absorb w
      rw [e]
      exact kv.ok _ _ F' (w.ex.trans x1) d1 of_non q
    · obtain ⟨F', e, x1, d1⟩ := absorb w
      rw [e]
      exact kv.ok _ _ F' (w.ex.trans x1) d1 (Rep.ext x1 _ _ rv) q
    · obtain ⟨F', e, x1, d1⟩ := absorb w
      show E cls od (jn F R)
      rw [e]
      exact kx x cls od F' (w.ex.trans x1) d1 (rx.ext x1) q
end
end L3
namespace L3
open PySem PySem.Spec L2
open PyProof.Rows hiding St
section
variable {B : Bs} {X : Cx} {W : WX} {a b c e tg : Expr} {es rest : List Expr} {ra rb rc re : RE} {rt t1 : RT} {rs ri ri1 : RA} {g g1 : G3} {pos : Pos}
theorem ds_setLc2 {i : Nat} {y : Str} {py spos : Pos} {iter elt tg1 iter1 : Expr} {ifs ifs1 : List Expr} {scope : Scope} {own : List (Str × Nat)} {vs vs1 is js : List Nat} (hc : X.calm = true) (hN : X.N.Nodup) (hiN : X.N[i]? = some y) (hloc : X.env.scope.names.lookup y = some .local)
    (hsw : swapsWith (.ListComp elt [{ target := tg, iter := iter, ifs := ifs, is_async := 0 }, { target := tg1, iter := iter1, ifs := ifs1, is_async := 0 }] scope pos) (some (.Name y py)) spos.line X.env = pure true) (hi : DI B X W tg iter ri) (ok : BlkOk X.N X.env.scope scope own) (hv : ∀ i, i ∈ vs1 → i ∈ vs)
    (hg : ∀ (s : Shared) (H : Hp) (C : Addr) (cl : List (Str × Addr)) (fp : List Addr), DG B.T (X.blk s H scope (compEnvC scope cl C X.env) fp) is tg g)
    (ht : ∀ (s : Shared) (H : Hp) (C : Addr) (cl : List (Str × Addr)) (fp : List Addr), DTs B (X.blk s H scope (compEnvC scope cl C X.env) fp) W0 ifs rt)
    (hi1 : ∀ (s : Shared) (H : Hp) (C : Addr) (cl : List (Str × Addr)) (fp : List Addr), DI B (X.blk s H scope (compEnvC scope cl C X.env) fp) W0 tg1 iter1 ri1)
    (hg1 : ∀ (s : Shared) (H : Hp) (C : Addr) (cl : List (Str × Addr)) (fp : List Addr), DG B.T (X.blk s H scope (compEnvC scope cl C X.env) fp) js tg1 g1)
    (ht1 : ∀ (s : Shared) (H : Hp) (C : Addr) (cl : List (Str × Addr)) (fp : List Addr), DTs B (X.blk s H scope (compEnvC scope cl C X.env) fp) W0 ifs1 t1)
    (he : ∀ (s : Shared) (H : Hp) (C : Addr) (cl : List (Str × Addr)) (fp : List Addr), DE B (X.blk s H scope (compEnvC scope cl C X.env) fp) W0 elt re)
    (hsub : ∀ j ∈ is, j ∈ vs) (hsub1 : ∀ j ∈ js, j ∈ vs1) (hvs : own.map (·.2) = vs := by rfl) (hpn : X.pn = [] := by rfl) (hs : ∀ x, foldedSetIterable iter X.env x = pure x := by intro _; rfl) (hs1 : ∀ (env : Env) (x : Value), foldedSetIterable iter1 env x = pure x := by intro _ _; rfl) :
    DS B X W (.Assign [.Name y py] (.ListComp elt [{ target := tg, iter := iter, ifs := ifs, is_async := 0 }, { target := tg1, iter := iter1, ifs := ifs1, is_async := 0 }] scope pos) spos) (rSetL i (rComp2 ri g rt ri1 g1 t1 re vs vs1)) :=
  ds_setLT (ps_setLc2 hc hN hiN hloc hsw hi ok (by rw [hvs]; exact hv) (fun s H C cl fp => by have h := hg s H C cl fp; unfold DG at h; rw [kc_blk hpn] at h; exact h) (fun s H C cl fp => by have h := ht s H C cl fp; unfold DTs at h; rw [kc_blk hpn] at h; exact h)
    (fun s H C cl fp => by have h := hi1 s H C cl fp; unfold DI at h; rw [kc_blk hpn] at h; exact h) (fun s H C cl fp => by have h := hg1 s H C cl fp; unfold DG at h; rw [kc_blk hpn] at h; exact h) (fun s H C cl fp => by have h := ht1 s H C cl fp; unfold DTs at h; rw [kc_blk hpn] at h; exact h)
    (fun s H C cl fp => by have h := he s H C cl fp; unfold DE at h; rw [kc_blk hpn] at h; exact h) hs hs1) fun _ _ _ h => by rw [hvs]; exact lL_comp2 hsub hsub1 h
/-- a, b = x, y, both new lists -/
def rParLL (i j : Nat) (ra rb : RA) : RS := fun N ρ => (i < ρ.length ∧ j < ρ.length) ∧ ra ρ (fun ds => rb ρ (fun es => N.nx ((ρ.set i (.own ds)).set j (.own es))) N.ex) N.ex
theorem ds_parLL {i j : Nat} {x y : Str} {px py pt pt2 : Pos} {kt k2 : Nat} {r1 r2 : RA} (hc : X.calm = true) (hN : X.N.Nodup) (hi : X.N[i]? = some x) (hj : X.N[j]? = some y) (hij : i ≠ j) (hx : X.env.scope.names.lookup x = some .local) (hy : X.env.scope.names.lookup y = some .local) (ha : FE B X W a r1) (hb : FE B X W b r2)
    (hw : swappedStores [.Tuple [.Name x px, .Name y py] kt pt] (.Tuple [a, b] k2 pt2) X.env = pure (some [x, y])) (hs : swapsWithSole [.Tuple [.Name x px, .Name y py] kt pt] (.Tuple [a, b] k2 pt2) pos.line X.env = pure false := by rfl) (h1 : starEach [a, b] X.env = (false, eval a X.env) :: starEach [b] X.env := by rfl) (h2 : starEach [b] X.env = (false, eval b X.env) :: starEach [] X.env := by rfl) :
    DS B X W (.Assign [.Tuple [.Name x px, .Name y py] kt pt] (.Tuple [a, b] k2 pt2) pos) (rParLL i j r1 r2) := (ps_par hc hN hi hj hij hx hy (pa_cons ha (pa_cons hb pa_nil h2) h1) hw hs).imp fun D σ H ⟨F, R, ρ, N, hH, w, ⟨⟨li, lj⟩, q⟩, k⟩ => by
  subst hH
  refine ⟨F, R, ρ, _, _, rfl, w, q, fun p vs ds F1 x1 dj1 rv _ q1 hp => ?_, fun x cls od F' e dj rx q' => k.ex x cls od σ F' R ρ (w.ext e dj) rx q'⟩
  have np := jn_none hp
  rw [jn_updR np.1]
  have djp : Dj F1 (upd R p (.lst vs)) := dj1.updR np.1
  refine ⟨F1, upd R p (.lst vs), ρ, _, N.ex, rfl, (w.ext x1 dj1).inn np.2 djp, q1, fun p2 us es F2 x2 dj2 ru _ q2 hp2 => ?_, fun x cls od F' e dj rx q' => ?_⟩
  · obtain ⟨n2, d2⟩ := dj_down np.2 dj2
    have np2 := jn_none hp2
    refine ⟨.ref p, .ref p2, rfl, ?_⟩
    have w1 := (w.ext (x1.trans x2) d2).setN (Reps.ext x2 _ _ rv) (p := p) (by rw [jn_r n2]; exact np.2) i li
    have w2 := w1.setN ru (p := p2) hp2 j (by rw [List.length_set]; exact lj)
    rw [jn_updR np2.1]
    exact k.nx _ F2 _ _ w2 q2
  · obtain ⟨n2, d2⟩ := dj_down np.2 dj
    exact k.ex x cls od σ F' _ ρ ((w.ext (x1.trans e) d2).inn np.2 dj) rx q'
/-- len(x), x a list of one's own (or not) -/
def rLenO (i : Nat) : RE := fun ρ Q _ => match ρ[i]? with
  | some (.own ds) => Q (.int ds.length)
  | some (.val d) => gLen [d] Q
  | _ => False
theorem de_lenO {x : Str} {p p2 : Pos} {i : Nat} (hg : Gl X "len") (hm : X.mg "len" = none) (hv : PE X (.Name x p2) (tVar i)) (h1 : starEach [.Name x p2] X.env = (false, eval (.Name x p2) X.env) :: starEach [] X.env := by rfl) (hpl : (backTo pos (starEach [] X.env)).any (·.1) = false := by rfl) :
    DE B X W (.Call (.Name "len" p) [.Name x p2] [] pos) (rLenO i) :=
  (pe_callB call_len_seq hg hm (by decide +kernel) (pa_cons hv pa_nil h1) (by decide) (by decide) h1 hpl).imp fun σ H Q ⟨F, R, ρ, Q', E', hH, w, r, k⟩ => by
    subst hH
    unfold rLenO at r
    split at r
    · rename_i ds hd
      obtain ⟨a, vs, e1, e2, e3, _⟩ := w.own i ds hd
      refine ⟨_, e1, a, vs, rfl, .inl (.inl (.inl (jn_of_r w.dj e2).2)), ?_⟩
      rw [e3.length]
      exact k.ok _ _ F (.refl _) w.dj (of_int _) r
    · rename_i d hd
      obtain ⟨v, e1, rv⟩ := w.val i d hd
      refine ⟨v, e1, ?_⟩
      unfold gLen at r
      split at r
      · rename_i xs e
        cases e
        obtain ⟨a, vs, rfl, ha, ra⟩ := rep_tup rv
        refine ⟨a, vs, rfl, .inr (sq_t (K := kc B.T X) ha), ?_⟩
        rw [ra.length]
        exact k.ok _ _ F (.refl _) w.dj (of_int _) r
      · rename_i xs e
        cases e
        obtain ⟨a, vs, rfl, ha, ra⟩ := rep_lst rv
        refine ⟨a, vs, rfl, .inl (sq_l (K := kc B.T X) ha), ?_⟩
        rw [ra.length]
        exact k.ok _ _ F (.refl _) w.dj (of_int _) r
      · rename_i xs e
        cases e
        obtain ⟨a, rfl, ha⟩ := rep_scr rv
        refine ⟨a, _, rfl, .inl (sq_s (K := kc B.T X) ha), ?_⟩
        rw [List.length_map]
        exact k.ok _ _ F (.refl _) w.dj (of_int _) r
      · exact r.elim
    · exact r.elim
/-- x.append(y.pop(e)), x and y lists of one's own -/
def rAppPop (i j : Nat) (re : RE) : RS := fun N ρ => match ρ[i]?, ρ[j]? with
  | some (.own ds), some (.own es) => re ρ (fun d => match d with
    | .int k => (-(2 ^ 63) ≤ k ∧ k < 2 ^ 63) ∧ ds.length < sizeLine ∧ ∃ n y, seqIndex? k es.length = some n ∧ es[n]? = some y ∧ N.nx ((ρ.set j (.own (es.eraseIdx n))).set i (.own (ds ++ [y])))
    | _ => False) N.ex
  | _, _ => False
theorem Reps.erase {K : KC} {F : Hp} : ∀ {ds : List D} {vs : List V} (n : Nat), Reps K F vs ds → Reps K F (vs.eraseIdx n) (ds.eraseIdx n)
  | [], vs, n, h => by rw [reps_nil h]; simp [Reps]
  | d :: ds, vs, 0, h => by
    obtain ⟨v, r, rfl, h1, h2⟩ := reps_cons h
    exact h2
  | d :: ds, vs, n + 1, h => by
    obtain ⟨v, r, rfl, h1, h2⟩ := reps_cons h
    exact Reps.cons h1 (Reps.erase n h2)
theorem ds_appPop {i j : Nat} {x y : Str} {p ap cp p2 ap2 cp2 : Pos} (hij : i ≠ j) (hv : PE X (.Name x p) (tVar i)) (hv2 : PE X (.Name y p2) (tVar j)) (he : DE B X W e re)
    (hpl2 : ((backTo cp2 (starEach (e :: []) X.env)).all (fun x => !x.1) && (backToKw cp2 (keywordEach [] X.env)).all (fun x => x.1.isSome) && decide ((e :: []).length + ([] : List Keyword).length + (if ([] : List Keyword).isEmpty then 0 else 1) < 30)) = true := by rfl)
    (h02 : attributeBase (.Name y p2) "pop" X.env (eval (.Name y p2) X.env) = eval (.Name y p2) X.env := by rfl) (h12 : (ap2.endLine == cp2.line) = true := by rfl) (h22 : starEach (e :: []) X.env = (false, eval e X.env) :: starEach [] X.env := by rfl) (h32 : (backTo cp2 (starEach [] X.env)).any (·.1) = false := by rfl)
    (hpl : ((backTo cp (starEach (.Call (.Attribute (.Name y p2) "pop" ap2) [e] [] cp2 :: []) X.env)).all (fun x => !x.1) && (backToKw cp (keywordEach [] X.env)).all (fun x => x.1.isSome) && decide ((.Call (.Attribute (.Name y p2) "pop" ap2) [e] [] cp2 :: ([] : List Expr)).length + ([] : List Keyword).length + (if ([] : List Keyword).isEmpty then 0 else 1) < 30)) = true := by rfl)
    (h0 : attributeBase (.Name x p) "append" X.env (eval (.Name x p) X.env) = eval (.Name x p) X.env := by rfl) (h1 : (ap.endLine == cp.line) = true := by rfl) (h2 : starEach (.Call (.Attribute (.Name y p2) "pop" ap2) [e] [] cp2 :: []) X.env = (false, eval (.Call (.Attribute (.Name y p2) "pop" ap2) [e] [] cp2) X.env) :: starEach [] X.env := by rfl) (h3 : (backTo cp (starEach [] X.env)).any (·.1) = false := by rfl)
    (hs : swapsWith (.Call (.Attribute (.Name x p) "append" ap) [.Call (.Attribute (.Name y p2) "pop" ap2) [e] [] cp2] [] cp) none pos.line X.env = pure false := by rfl) :
    DS B X W (.Expr (.Call (.Attribute (.Name x p) "append" ap) [.Call (.Attribute (.Name y p2) "pop" ap2) [e] [] cp2] [] cp) pos) (rAppPop i j re) :=
  (ps_expr (pe_bm PySem.F.plainAttrs_list PySem.F.slot_list_append PySem.F.type_list_append mt_append hv (pa_cons (pe_bm PySem.F.plainAttrs_list PySem.F.slot_list_pop PySem.F.type_list_pop mt_popAt hv2 (pa_cons he pa_nil h22) h02 hpl2 h12 h22 h32) pa_nil h2) h0 hpl h1 h2 h3) hs).imp fun D σ H ⟨F, R, ρ, N, hH, w, q, k⟩ => by
    subst hH
    unfold rAppPop at q
    split at q
    · rename_i ds es hi hj
      obtain ⟨l, vs, e1, e2, e3, e4⟩ := w.own i ds hi
      obtain ⟨m, us, f1, f2, f3, f4⟩ := w.own j es hj
      have nlm : m ≠ l := fun z => by rw [z] at f1; exact hij (w.sep i j l _ _ hi hj e1 f1)
      refine ⟨_, e1, .inl ⟨rfl, vs, .of (jn_of_r w.dj e2).2⟩, ?_⟩
      refine ⟨_, f1, .inl ⟨rfl, us, .of (jn_of_r w.dj f2).2⟩, ?_⟩
      refine k.lf w q fun v d F' x w' rv q' => ?_
      cases d with
      | int t =>
        obtain ⟨hb, hl, n, y, hn, hy, q2⟩ := q'
        obtain ⟨l', vs', g1, g2, g3, g4⟩ := w'.own i ds hi
        rw [e1] at g1
        cases g1
        rw [e2] at g2
        cases g2
        obtain ⟨m', us', g5, g6, g7, g8⟩ := w'.own j es hj
        rw [f1] at g5
        cases g5
        rw [f2] at g6
        cases g6
        obtain ⟨u, hu, ru⟩ := g7.get hy
        refine ⟨m, us, t, n, u, rfl, by rw [rep_int rv], (jn_of_r w'.dj f2).2, hb.1, hb.2, by rw [g7.length]; exact hn, hu, ?_⟩
        have w1 := w'.chg hj f1 (Reps.erase n g7)
        rw [upd_own w' f2]
        have hi1 : (ρ.set j (.own (es.eraseIdx n)))[i]? = some (.own ds) := by rw [List.getElem?_set_ne (Ne.symm hij)]; exact hi
        have w2 := w1.chg hi1 e1 (Reps.append g3 (Reps.cons ru Reps.nil))
        have e2' : upd R m (.lst (us.eraseIdx n)) l = some (.lst vs) := by rw [upd_ne (Ne.symm nlm)]; exact e2
        refine ⟨l, vs, u, rfl, rfl, (jn_of_r w1.dj e2').2, by rw [g3.length]; exact hl, ?_⟩
        rw [upd_own w1 e2']
        exact k.nx _ F' _ _ w2 q2
      | _ => exact (show False from q').elim
    · exact q.elim
end
end L3
namespace L3
open PySem PySem.Spec L2
open PyProof.Rows hiding St
section
variable {B : Bs} {X : Cx} {W : WX} {e : Expr} {st : Stmt} {re : RE} {pos : Pos}
/-- code that is not reached -/
def rNever {α : Type} : RG α := fun _ _ _ => False
theorem de_never : DE B X W e rNever := ⟨fun _ _ _ _ _ _ ⟨_, _, _, _, _, _, _, r, _⟩ => r.elim⟩
def rNeverS : RS := fun _ _ => False
theorem ds_never : DS B X W st rNeverS := ⟨fun _ _ _ _ _ _ ⟨_, _, _, _, _, _, r, _⟩ => r.elim⟩
def rSelfC (i : Nat) (c f : Str) (re : RE) : RS := fun N ρ => (match ρ[i]? with | some (.obj c' _ _) => c' = c | _ => False) ∧ rSelf i f re N ρ
theorem ds_selfC {i : Nat} {c f x : Str} {p p' : Pos} (Y : FldOk X.K X.mg c f) (hv : PE X (.Name x p) (tVar i)) (he : DE B X W e re) (hs : swapsWith e (some (.Attribute (.Name x p) f p')) pos.line X.env = pure false := by rfl) :
    DS B X W (.Assign [.Attribute (.Name x p) f p'] e pos) (rSelfC i c f re) := ds_self Y hv he hs
end
theorem lE_chain {B : Bs} {W : WX} {K : KC} {g g' : G2} {ra rb rc : RE} {σ : St} {H : Hp} {Q : VK} (h : lE K B W (rChain g g' ra rb rc) σ H Q) : tChain (l2 K g) (l2 K g') (lE K B W ra) (lE K B W rb) (lE K B W rc) σ H Q := by
  refine lf_then (k := fun d ρ Q E => rb ρ (fun e => g d e (toB fun k => match k with
    | true => rc ρ (fun f => g' e f Q) E
    | false => Q (.bl false))) E) h fun v d F R ρ Q' E' w rv q k => ?_
  refine ⟨F, R, ρ, _, E', rfl, w, q, fun u e F1 x1 dj1 ru q1 => ?_, k.ex⟩
  refine ⟨F1, R, d, e, _, rfl, dj1, Rep.ext x1 _ _ rv, ru, q1, ⟨fun z dz F2 x2 dj2 rz q2 => ?_⟩⟩
  cases dz with
  | bl kk =>
    refine ⟨kk, rep_bl rz, ?_⟩
    cases kk with
    | true =>
      rw [if_pos rfl]
      exact ⟨F2, R, ρ, _, E', rfl, w.ext (x1.trans x2) dj2, q2, fun y f F3 x3 dj3 ry q3 => ⟨F3, R, e, f, Q', rfl, dj3, Rep.ext (x2.trans x3) _ _ ru, ry, q3, (((k.ext x1).ext x2).ext x3).kv⟩, ((k.ext x1).ext x2).ex⟩
    | false =>
      rw [if_neg (by simp)]
      exact k.ok _ _ F2 (x1.trans x2) dj2 (of_bl _) q2
  | _ => exact (show False from q2).elim
theorem dt_chain {B : Bs} {X : Cx} {W : WX} {a b c : Expr} {pos : Pos} {op op' : CmpOp} {g g' : G2} {ra rb rc : RE} (ho : Op2 X (compareOp op) g) (ho' : Op2 X (compareOp op') g') (ha : DE B X W a ra) (hb : DE B X W b rb) (hc : DE B X W c rc) (hl : lastMarks [op, op'] [b, c] = false := by rfl) : DT B X W (.Compare a [op, op'] [b, c] pos) (rTV (rChain g g' ra rb rc)) :=
  (pt_chain (ho B.T) (ho' B.T) ha hb hc hl).imp fun σ H Q ⟨F, R, ρ, Q', E', hH, w, r, k⟩ => by
    subst hH
    show tChain (l2 (kc B.T X) g) (l2 (kc B.T X) g') (lE (kc B.T X) B W ra) (lE (kc B.T X) B W rb) (lE (kc B.T X) B W rc) σ _ _
    refine lE_chain ⟨F, R, ρ, _, E', rfl, w, r, fun v d F' x dj rv q => ?_, k.ex⟩
    cases d with
    | bl b => exact ⟨b, by simpa [Rep] using rv, k.ok b b F' x dj rfl q⟩
    | _ => exact (show False from q).elim
section
variable {B : Bs} {X : Cx} {W : WX} {a : Expr} {ra : RE} {pos : Pos}
theorem dt_isN {j : Nat} {p : Pos} (h : DE B X W a ra) : DT B X W (.Compare a [.Is] [.Constant .none j p] pos) (rTV (rIsN ra)) := (pt_cmp (pc_isN h) (nobehind _ (by decide) (by decide))).imp fun σ H Q ⟨F, R, ρ, Q', E', hH, w, q, k⟩ => by
  subst hH
  exact ⟨F, R, ρ, _, E', rfl, w, q, fun v d F' x dj rv q' => ⟨_, rfl, k.ok _ _ F' x dj (isNon_rep rv) q'⟩, k.ex⟩
theorem dt_isnotN {j : Nat} {p : Pos} (h : DE B X W a ra) : DT B X W (.Compare a [.IsNot] [.Constant .none j p] pos) (rTV (rIsNotN ra)) := (pt_cmp (pc_notN h) (nobehind _ (by decide) (by decide))).imp fun σ H Q ⟨F, R, ρ, Q', E', hH, w, q, k⟩ => by
  subst hH
  exact ⟨F, R, ρ, _, E', rfl, w, q, fun v d F' x dj rv q' => ⟨_, rfl, k.ok _ _ F' x dj (by rw [isNon_rep rv]) q'⟩, k.ex⟩
theorem dt_isB {bv : Bool} {j : Nat} {p : Pos} (h : DE B X W a ra) : DT B X W (.Compare a [.Is] [.Constant (.bool bv) j p] pos) (rTV (rIsB bv ra)) := (pt_cmpR op_isAny h pe_bl (nobehind _ (by decide) (by decide))).imp fun σ H Q ⟨F, R, ρ, Q', E', hH, w, q, k⟩ => by
  subst hH
  exact ⟨F, R, ρ, _, E', rfl, w, q, fun v d F' x dj rv q' => ⟨bv, rfl, _, rfl, k.ok _ _ F' x dj (isBl_rep rv) q'⟩, k.ex⟩
end
theorem RoomP.units {g : Bool} {k : Nat} {A : Around} (r : RoomP g k A) : A.units + 64 < cLine := by have := r.rh.un; omega
end L3
namespace L3
open PySem PySem.Spec L2
open PyProof.Rows hiding St
/-! ### loops over data -/
theorem for_inv {i : Nat} {body : RS} {N : En3} (I : List D → Env3 → Prop)
    (hstep : ∀ d ds ρ (K : Env3 → Prop), I (d :: ds) ρ → (∀ ρ', I ds ρ' → K ρ') → body { N with nx := K, ct := K, bk := N.nx } (ρ.set i (.val d)))
    (hend : ∀ ρ, I [] ρ → N.nx ρ) : ∀ (ds : List D) (ρ : Env3), I ds ρ → forL (g3N i) body N ds ρ
  | [], ρ, h => hend ρ h
  | d :: ds, ρ, h => hstep d ds ρ _ h fun ρ' h' => for_inv I hstep hend ds ρ' h'
theorem comp_fm {i : Nat} {t : RT} {re : RE} {vs : List Nat} {ρ : Env3} {Q : List D → Prop} {p : D → Bool} {f : D → D} : ∀ (ds acc : List D),
    (∀ d ∈ ds, (∀ (K : Bool → Prop), K (p d) → t ((wipe3 ρ vs).set i (.val d)) K fun _ => False) ∧ (p d = true → ∀ (K : D → Prop), K (f d) → re ((wipe3 ρ vs).set i (.val d)) K fun _ => False)) →
    Q (acc ++ (ds.filter p).map f) → compL (g3N i) t re vs ρ Q ds acc
  | [], acc, _, q => by simpa [compL] using q
  | d :: ds, acc, h, q => by
    obtain ⟨h1, h2⟩ := h d (by simp)
    refine h1 _ ?_
    cases e : p d with
    | true =>
      refine h2 e _ ?_
      refine comp_fm ds _ (fun x hx => h x (by simp [hx])) ?_
      rw [List.filter_cons_of_pos e] at q
      simpa using q
    | false =>
      refine comp_fm ds _ (fun x hx => h x (by simp [hx])) ?_
      rw [List.filter_cons_of_neg (by simp [e])] at q
      exact q
theorem comp_map {i : Nat} {re : RE} {vs : List Nat} {ρ : Env3} {Q : List D → Prop} {f : D → D} (ds : List D) (h : ∀ d ∈ ds, ∀ (K : D → Prop), K (f d) → re ((wipe3 ρ vs).set i (.val d)) K fun _ => False)
    (q : Q (ds.map f)) : compL (g3N i) (rC true) re vs ρ Q ds [] :=
  comp_fm (p := fun _ => true) ds [] (fun d hd => ⟨fun K k => k, fun _ => h d hd⟩) (by rw [List.filter_eq_self.mpr (by simp)]; exact q)
theorem compZ_fm {i : Nat} {t : RT} {re : RE} {vs : List Nat} {ρ : Env3} {Q : List D → Prop} {p : D → Bool} {f : D → D} : ∀ (ds acc : List D), acc.length + ds.length ≤ sizeLine →
    (∀ d ∈ ds, (∀ (K : Bool → Prop), K (p d) → t ((wipe3 ρ vs).set i (.val d)) K fun _ => False) ∧ (p d = true → ∀ (K : D → Prop), K (f d) → re ((wipe3 ρ vs).set i (.val d)) K fun _ => False)) →
    Q (acc ++ (ds.filter p).map f) → compZ (g3N i) t re vs ρ Q ds acc
  | [], acc, _, _, q => by simpa [compZ] using q
  | d :: ds, acc, hl, h, q => by
    obtain ⟨h1, h2⟩ := h d (by simp)
    simp only [List.length_cons] at hl
    refine h1 _ ?_
    cases e : p d with
    | true =>
      refine h2 e _ ⟨by omega, ?_⟩
      refine compZ_fm ds _ (by simp; omega) (fun x hx => h x (by simp [hx])) ?_
      rw [List.filter_cons_of_pos e] at q
      simpa using q
    | false =>
      refine compZ_fm ds _ (by omega) (fun x hx => h x (by simp [hx])) ?_
      rw [List.filter_cons_of_neg (by simp [e])] at q
      exact q
/-- for d in ds for y in es(d) if p1 -/
theorem comp2_fm {i j : Nat} {ri1 : RA} {t1 : RT} {re : RE} {vs vs1 : List Nat} {ρ : Env3} {Q : List D → Prop} {es : D → List D} {p : D → D → Bool} {f : D → D → D} : ∀ (ds acc : List D), acc.length + (ds.map fun d => (es d).length).sum ≤ sizeLine →
    (∀ d ∈ ds, (∀ (K : List D → Prop), K (es d) → ri1 ((wipe3 ρ vs).set i (.val d)) K fun _ => False) ∧
      ∀ y ∈ es d, (∀ (K : Bool → Prop), K (p d y) → t1 ((wipe3 ((wipe3 ρ vs).set i (.val d)) vs1).set j (.val y)) K fun _ => False) ∧ (p d y = true → ∀ (K : D → Prop), K (f d y) → re ((wipe3 ((wipe3 ρ vs).set i (.val d)) vs1).set j (.val y)) K fun _ => False)) →
    Q (acc ++ ds.flatMap fun d => ((es d).filter (p d)).map (f d)) → comp2L (g3N i) (rC true) ri1 (g3N j) t1 re vs vs1 ρ Q ds acc
  | [], acc, _, _, q => by simpa [comp2L] using q
  | d :: ds, acc, hl, h, q => by
    obtain ⟨h1, h2⟩ := h d (by simp)
    simp only [List.map_cons, List.sum_cons] at hl
    show ri1 ((wipe3 ρ vs).set i (.val d)) _ _
    refine h1 _ ?_
    refine compZ_fm (p := p d) (f := f d) _ _ (by omega) h2 ?_
    refine comp2_fm ds _ ?_ (fun x hx => h x (by simp [hx])) ?_
    · have := List.length_filter_le (p d) (es d)
      simp only [List.length_append, List.length_map]
      omega
    · rw [List.flatMap_cons] at q
      simpa using q
/-- .. where each item is one of many -/
theorem comp_dem {i : Nat} {re : RE} {vs : List Nat} {ρ : Env3} {Q : List D → Prop} {P : D → Prop} : ∀ (ds acc : List D), (∀ d ∈ ds, ∀ (K : D → Prop), (∀ y, P y → K y) → re ((wipe3 ρ vs).set i (.val d)) K fun _ => False) →
    (∀ ys : List D, ys.length = ds.length → (∀ y ∈ ys, P y) → Q (acc ++ ys)) → compL (g3N i) (rC true) re vs ρ Q ds acc
  | [], acc, _, q => by simpa [compL] using q [] rfl (by simp)
  | d :: ds, acc, h, q => by
    refine h d (by simp) _ fun y py => ?_
    refine comp_dem ds _ (fun x hx => h x (by simp [hx])) fun ys hl hy => ?_
    have := q (y :: ys) (by simp [hl]) (by
      intro z hz
      rcases (List.mem_cons.mp hz) with rfl | hz
      · exact py
      · exact hy z hz)
    simpa using this
theorem rangeD_len {lo : Int} {n : Nat} : (rangeD lo n).length = n := by simp [rangeD]
/-! ### plain data -/
mutual
def plD : D → Bool
  | .tup xs => decide (xs.length ≤ 65536) && plDs xs
  | .lst xs => decide (xs.length ≤ 65536) && plDs xs
  | .scr _ => false
  | .pen => false
  | .ins _ _ => false
  | .exc _ _ => false
  | _ => true
def plDs : List D → Bool
  | [] => true
  | d :: ds => plD d && plDs ds
end
theorem plDs_mem : ∀ {ds : List D}, plDs ds = true → ∀ d ∈ ds, plD d = true
  | [], _, d, h => by cases h
  | x :: ds, h, d, hd => by
    unfold plDs at h
    obtain ⟨h1, h2⟩ := Bool.and_eq_true_iff.mp h
    rcases (List.mem_cons.mp hd) with rfl | hd
    · exact h1
    · exact plDs_mem h2 d hd
theorem plDs_of : ∀ {ds : List D}, (∀ d ∈ ds, plD d = true) → plDs ds = true
  | [], _ => rfl
  | x :: ds, h => by
    unfold plDs
    rw [h x (by simp), plDs_of fun d hd => h d (by simp [hd])]
    rfl
theorem plD_tup {xs : List D} (h : plD (.tup xs) = true) : xs.length ≤ 65536 ∧ ∀ d ∈ xs, plD d = true := by
  unfold plD at h
  obtain ⟨h1, h2⟩ := Bool.and_eq_true_iff.mp h
  exact ⟨of_decide_eq_true h1, plDs_mem h2⟩
theorem plD_lst {xs : List D} (h : plD (.lst xs) = true) : xs.length ≤ 65536 ∧ ∀ d ∈ xs, plD d = true := by
  unfold plD at h
  obtain ⟨h1, h2⟩ := Bool.and_eq_true_iff.mp h
  exact ⟨of_decide_eq_true h1, plDs_mem h2⟩
theorem plD_mkt {xs : List D} (h1 : xs.length ≤ 65536) (h2 : ∀ d ∈ xs, plD d = true) : plD (.tup xs) = true := by
  unfold plD
  rw [decide_eq_true h1, plDs_of h2]
  rfl
theorem plD_mkl {xs : List D} (h1 : xs.length ≤ 65536) (h2 : ∀ d ∈ xs, plD d = true) : plD (.lst xs) = true := by
  unfold plD
  rw [decide_eq_true h1, plDs_of h2]
  rfl
theorem plD_noIns {d : D} (h : plD d = true) : noIns d = true := by
  cases d <;> first | rfl | (simp [plD] at h)
/-- a test's two ways -/
theorem mb {b : Bool} {P1 P0 : Prop} (h1 : b = true → P1) (h0 : b = false → P0) : Bool.rec (motive := fun _ => Prop) P0 P1 b := by
  cases b
  · exact h0 rfl
  · exact h1 rfl
theorem mbT {b : Bool} {P1 P0 : Prop} (e : b = true) (h1 : P1) : Bool.rec (motive := fun _ => Prop) P0 P1 b := by rw [e]; exact h1
theorem mbF {b : Bool} {P1 P0 : Prop} (e : b = false) (h0 : P0) : Bool.rec (motive := fun _ => Prop) P0 P1 b := by rw [e]; exact h0
theorem nbF {b : Bool} (h : (!b) = false) : b = true := by
  cases b
  · cases h
  · rfl
theorem nbT {b : Bool} (h : (!b) = true) : b = false := by
  cases b
  · rfl
  · cases h
theorem nbD {p : Prop} [Decidable p] (h : (!decide p) = false) : p := of_decide_eq_true (nbF h)
theorem nbN {p : Prop} [Decidable p] (h : (!decide p) = true) : ¬ p := of_decide_eq_false (nbT h)
theorem le_size {n : Nat} (h : n ≤ 65536) : n ≤ sizeLine := Nat.le_trans h (by decide)
end L3
namespace Cl
open PySem PySem.Spec L2 L3
open PyProof.Rows hiding St
def excN : List Str := ["TooMany"]
def isIntD : D → Bool
  | .int _ => true
  | _ => false
theorem isIntD_eq {d : D} (h : isIntD d = true) : ∃ i, d = .int i := by
  cases d <;> first | exact ⟨_, rfl⟩ | (cases h; done)
theorem list2 {α : Type} {xs : List α} (h : xs.length = 2) : ∃ x y, xs = [x, y] := by
  match xs, h with
  | [x, y], _ => exact ⟨x, y, rfl⟩
def sp_is_integer : Sp3 := fun ds Q _ => match ds with
  | [d] => noIns d = true ∧ Q (.bl (isIntD d))
  | _ => False

def t_is_integer : RS := (rRet (rAndV (rIs "int" (rVar 0)) (rNotV (rIs "bool" (rVar 0)))))

theorem pl_is_integer : ∀ (ds : List D) (Q : D → Prop) (E : XD → Prop), ds.length = 1 → sp_is_integer ds Q E → t_is_integer { nx := fun _ => Q .non, rt := Q, ex := E } (start3 1 ds) := fun ds Q E hl h => by
  match ds, h with
  | [d], h =>
    obtain ⟨h1, h2⟩ := h
    refine ⟨h1, ?_⟩
    cases d <;> first | (cases h1; done) | exact h2 | exact ⟨h1, h2⟩

def isRatD : D → Bool
  | .int _ => true
  | .tup [.int a, .int b] => decide (1 < b) && decide (a.natAbs.gcd b.natAbs = 1)
  | _ => false
def sp_is_ratio : Sp3 := fun ds Q _ => match ds with
  | [d] => plD d = true ∧ Q (.bl (isRatD d))
  | _ => False

def t_is_ratio : RS := (rSeq (rIf (rNot (rTV (rIs "tuple" (rVar 0)))) (rRet (rCall 1 sp_is_integer (rCons (rVar 0) rNil))) rNext)
    (rSeq (rIf (rOr (rTV (rOp gNe (rCB gLen (rCons (rVar 0) rNil)) (rC (.int 2)))) (rOr (rNot (rTV (rCall 1 sp_is_integer (rCons (rOp gIx (rVar 0) (rC (.int 0))) rNil)))) (rNot (rTV (rCall 1 sp_is_integer (rCons (rOp gIx (rVar 0) (rC (.int 1))) rNil)))))) (rRet (rC (.bl false))) rNext)
    (rRet (rAndV (rOp gGt (rOp gIx (rVar 0) (rC (.int 1))) (rC (.int 1))) (rOp gEq (rCB gGcd (rCons (rOp gIx (rVar 0) (rC (.int 0))) (rCons (rOp gIx (rVar 0) (rC (.int 1))) rNil))) (rC (.int 1)))))))

theorem isRatD_not {xs : List D} (h : ∀ a b, xs ≠ [.int a, .int b]) : isRatD (.tup xs) = false := by
  unfold isRatD
  split
  · rename_i e; cases e
  · rename_i a b e; cases e; exact absurd rfl (h a b)
  · rfl
theorem pl_is_ratio : ∀ (ds : List D) (Q : D → Prop) (E : XD → Prop), ds.length = 1 → sp_is_ratio ds Q E → t_is_ratio { nx := fun _ => Q .non, rt := Q, ex := E } (start3 1 ds) := fun ds Q E hl h => by
  match ds, h with
  | [d], h =>
    obtain ⟨h1, h2⟩ := h
    cases d with
    | tup xs =>
      obtain ⟨hl, hm⟩ := plD_tup h1
      refine ⟨rfl, ?_⟩
      conv => whnf
      split
      · rename_i e
        have e0 : isRatD (.tup xs) = false := isRatD_not fun a b w => by subst w; cases (nbT e)
        rw [e0] at h2
        exact h2
      · rename_i e
        have e1 : xs.length = 2 := by
          have := nbD e
          omega
        obtain ⟨x, y, rfl⟩ := list2 e1
        have hx := plD_noIns (hm x (by simp))
        have hy := plD_noIns (hm y (by simp))
        refine ⟨rfl, hx, ?_⟩
        conv => whnf
        split
        · rename_i ex
          have : isRatD (.tup [x, y]) = false := isRatD_not fun a b z => by cases z; cases (nbT ex)
          rw [this] at h2
          exact h2
        · rename_i e
          obtain ⟨a, rfl⟩ := isIntD_eq (nbF e)
          refine ⟨rfl, hy, ?_⟩
          conv => whnf
          split
          · rename_i e2
            have : isRatD (.tup [.int a, y]) = false := isRatD_not fun a b z => by cases z; cases (nbT e2)
            rw [this] at h2
            exact h2
          · rename_i e2
            obtain ⟨c, rfl⟩ := isIntD_eq (nbF e2)
            conv => whnf
            split
            · rename_i e3
              have e3 : decide (1 < c) = true := e3
              have e4 : isRatD (.tup [.int a, .int c]) = decide (((a.natAbs.gcd c.natAbs : Nat) : Int) = 1) := by
                show (decide (1 < c) && decide (a.natAbs.gcd c.natAbs = 1)) = _
                rw [e3, Bool.true_and]
                exact decide_eq_decide.mpr ((by omega))
              rw [e4] at h2
              exact h2
            · rename_i e3
              have e3 : decide (1 < c) = false := e3
              have e4 : isRatD (.tup [.int a, .int c]) = false := by
                show (decide (1 < c) && decide (a.natAbs.gcd c.natAbs = 1)) = _
                rw [e3, Bool.false_and]
              rw [e4] at h2
              exact h2
    | int i => exact ⟨rfl, rfl, rfl, h2⟩
    | non => exact ⟨rfl, rfl, rfl, h2⟩
    | bl b => exact ⟨rfl, rfl, rfl, h2⟩
    | str b => exact ⟨rfl, rfl, rfl, h2⟩
    | lst b => exact ⟨rfl, rfl, rfl, h2⟩
    | dct b => exact ⟨rfl, rfl, rfl, h2⟩
    | scr _ => cases h1
    | pen => cases h1
    | ins _ _ => cases h1
    | exc _ _ => cases h1

mutual
def tupD : D → D
  | .tup xs => .tup (tupDs xs)
  | .lst xs => .tup (tupDs xs)
  | d => d
def tupDs : List D → List D
  | [] => []
  | d :: ds => tupD d :: tupDs ds
end
theorem tupDs_map : ∀ ds : List D, tupDs ds = ds.map tupD
  | [] => rfl
  | d :: ds => by unfold tupDs; rw [tupDs_map ds]; rfl
mutual
def dpD : D → Nat
  | .tup xs => dpDs xs + 1
  | .lst xs => dpDs xs + 1
  | _ => 0
def dpDs : List D → Nat
  | [] => 0
  | d :: ds => max (dpD d) (dpDs ds)
end
theorem dpDs_mem : ∀ {ds : List D} {d : D}, d ∈ ds → dpD d ≤ dpDs ds
  | x :: ds, d, h => by
    unfold dpDs
    rcases (List.mem_cons.mp h) with rfl | h
    · exact Nat.le_max_left _ _
    · exact Nat.le_trans (dpDs_mem h) (Nat.le_max_right _ _)
def sr_as_tuples (n : Nat) : Sp3 := fun ds Q _ => match ds with
  | [d] => dpD d < n ∧ plD d = true ∧ Q (tupD d)
  | _ => False
def sp_as_tuples : Sp3 := sr_as_tuples 8

def t_as_tuples (spS : Sp3) : RS := (rSeq (rIf (rTV (rIs2 "list" "tuple" (rVar 0))) (rRet (rCB gTuple (rCons (rL (rComp (rIt (rVar 0)) (g3N 1) (rC true) (rCall 1 spS (rCons (rVar 1) rNil)) [1])) rNil))) rNext)
    (rRet (rVar 0)))

theorem zr_as_tuples : ∀ ds Q E, sr_as_tuples 0 ds Q E → False := fun ds Q E h => by
  match ds, h with
  | [d], h => exact Nat.not_lt_zero _ h.1
theorem pl_as_tuples (n : Nat) : ∀ (ds : List D) (Q : D → Prop) (E : XD → Prop), ds.length = 1 → sr_as_tuples (n + 1) ds Q E → t_as_tuples (sr_as_tuples n) { nx := fun _ => Q .non, rt := Q, ex := E } (start3 2 ds) := fun ds Q E hl h => by
  have seq : ∀ (xs : List D) (Q : D → Prop), xs.length ≤ 65536 → (∀ d ∈ xs, plD d = true) → dpDs xs < n → Q (.tup (tupDs xs)) → ∀ ρ : Env3, ρ.length = 2 → xs.length ≤ sizeLine ∧ compL (g3N 1) (rC true) (rCall 1 (sr_as_tuples n) (rCons (rVar 1) rNil)) [1] ρ (fun ds => gTuple [.lst ds] Q) xs [] := fun xs Q h1 h2 h3 q ρ hρ => by
    refine ⟨le_size h1, comp_map (f := tupD) xs (fun d hd K k => ?_) (by show Q (.tup (xs.map tupD)); rw [← tupDs_map]; exact q)⟩
    match ρ, hρ with
    | [a, b], _ => exact ⟨rfl, Nat.lt_of_le_of_lt (dpDs_mem hd) h3, h2 d hd, k⟩
  match ds, h with
  | [d], h =>
    obtain ⟨h0, h1, h2⟩ := h
    cases d with
    | tup xs =>
      obtain ⟨hl, hm⟩ := plD_tup h1
      exact ⟨rfl, seq xs Q hl hm (by unfold dpD at h0; omega) h2 _ rfl⟩
    | lst xs =>
      obtain ⟨hl, hm⟩ := plD_lst h1
      exact ⟨rfl, seq xs Q hl hm (by unfold dpD at h0; omega) h2 _ rfl⟩
    | int i => exact ⟨rfl, h2⟩
    | non => exact ⟨rfl, h2⟩
    | bl b => exact ⟨rfl, h2⟩
    | str b => exact ⟨rfl, h2⟩
    | dct b => exact ⟨rfl, h2⟩
    | scr _ => cases h1
    | pen => cases h1
    | ins _ _ => cases h1
    | exc _ _ => cases h1

def isLstD : D → Bool
  | .tup _ => true
  | .lst _ => true
  | .scr _ => true
  | _ => false
def sp_is_list : Sp3 := fun ds Q _ => match ds with
  | [d] => noIns d = true ∧ Q (.bl (isLstD d))
  | _ => False

def t_is_list : RS := (rRet (rIs2 "list" "tuple" (rVar 0)))

theorem pl_is_list : ∀ (ds : List D) (Q : D → Prop) (E : XD → Prop), ds.length = 1 → sp_is_list ds Q E → t_is_list { nx := fun _ => Q .non, rt := Q, ex := E } (start3 1 ds) := fun ds Q E hl h => by
  match ds, h with
  | [d], h =>
    obtain ⟨h1, h2⟩ := h
    refine ⟨h1, ?_⟩
    cases d <;> first | (cases h1; done) | exact h2

def lenD : D → Nat
  | .tup xs => xs.length
  | .lst xs => xs.length
  | _ => 0
def itemsL : D → List D
  | .tup xs => xs
  | .lst xs => xs
  | _ => []
def isRowD (v : D) (m : Int) : Bool := isLstD v && (decide (((itemsL v).length : Int) = m) && (itemsL v).all isRatD)
theorem allBl_map (p : D → Bool) : ∀ xs : List D, allBl (xs.map fun d => D.bl (p d)) = some (xs.map p)
  | [] => rfl
  | d :: xs => by
    show (match blOf (D.bl (p d)), allBl (xs.map fun d => D.bl (p d)) with | some b, some bs => some (b :: bs) | _, _ => none) = _
    rw [allBl_map p xs]
    rfl
theorem gAll_map {p : D → Bool} {xs : List D} {Q : D → Prop} (h : Q (.bl (xs.all p))) : gAll [.lst (xs.map fun d => D.bl (p d))] Q := by
  show (match allBl (xs.map fun d => D.bl (p d)) with | some bs => Q (.bl (bs.all id)) | none => False)
  rw [allBl_map]
  show Q (.bl ((xs.map p).all id))
  rw [List.all_map]
  exact h
def sp_is_row : Sp3 := fun ds Q _ => match ds with
  | [v, .int m] => plD v = true ∧ Q (.bl (isRowD v m))
  | _ => False

def t_is_row : RS := (rRet (rAndV (rCall 1 sp_is_list (rCons (rVar 0) rNil)) (rAndV (rOp gEq (rCB gLen (rCons (rVar 0) rNil)) (rVar 1)) (rCB gAll (rCons (rL (rComp (rIt (rVar 0)) (g3N 2) (rC true) (rCall 1 sp_is_ratio (rCons (rVar 2) rNil)) [2])) rNil)))))

theorem pl_is_row : ∀ (ds : List D) (Q : D → Prop) (E : XD → Prop), ds.length = 2 → sp_is_row ds Q E → t_is_row { nx := fun _ => Q .non, rt := Q, ex := E } (start3 3 ds) := fun ds Q E hl h => by
  match ds, h with
  | [v, .int m], h =>
    obtain ⟨h1, h2⟩ := h
    have key : ∀ (xs : List D) (v : D), xs.length ≤ 65536 → (∀ d ∈ xs, plD d = true) → itemsL v = xs → isLstD v = true → (isRowD v m = (decide ((xs.length : Int) = m) && xs.all isRatD)) := fun xs v _ _ e1 e2 => by
      unfold isRowD
      rw [e1, e2, Bool.true_and]
    cases v with
    | tup xs =>
      obtain ⟨hx, hm⟩ := plD_tup h1
      rw [key xs _ hx hm rfl rfl] at h2
      refine ⟨rfl, rfl, ?_⟩
      conv => whnf
      split
      · rename_i e
        have e : decide ((xs.length : Int) = m) = true := e
        rw [e, Bool.true_and] at h2
        exact ⟨le_size hx, comp_map (f := fun d => .bl (isRatD d)) xs (fun d hd K k => ⟨rfl, hm d hd, k⟩) (gAll_map h2)⟩
      · rename_i e
        have e : decide ((xs.length : Int) = m) = false := e
        rw [e, Bool.false_and] at h2
        exact h2
    | lst xs =>
      obtain ⟨hx, hm⟩ := plD_lst h1
      rw [key xs _ hx hm rfl rfl] at h2
      refine ⟨rfl, rfl, ?_⟩
      conv => whnf
      split
      · rename_i e
        have e : decide ((xs.length : Int) = m) = true := e
        rw [e, Bool.true_and] at h2
        exact ⟨le_size hx, comp_map (f := fun d => .bl (isRatD d)) xs (fun d hd K k => ⟨rfl, hm d hd, k⟩) (gAll_map h2)⟩
      · rename_i e
        have e : decide ((xs.length : Int) = m) = false := e
        rw [e, Bool.false_and] at h2
        exact h2
    | int i => exact ⟨rfl, rfl, h2⟩
    | non => exact ⟨rfl, rfl, h2⟩
    | bl b => exact ⟨rfl, rfl, h2⟩
    | str b => exact ⟨rfl, rfl, h2⟩
    | dct b => exact ⟨rfl, rfl, h2⟩
    | scr _ => cases h1
    | pen => cases h1
    | ins _ _ => cases h1
    | exc _ _ => cases h1

def goodN (d : D) : Bool := isLstD d && (decide (1 ≤ (itemsL d).length) && decide ((itemsL d).length ≤ 12))
def bunErr (m : Int) (p : Nat) (b : D) : Option XD :=
  if goodN b = false then some (exD "BadFrame" ["what", "place"] [.str "bundle", .int p])
  else if (itemsL b).all (fun r => isRowD r m) = false then some (exD "BadFrame" ["what", "place"] [.str "row", .int p]) else none
def bunsErr (m : Int) : Nat → List D → Option XD
  | _, [] => none
  | p, b :: bs => match bunErr m p b with
    | some x => some x
    | none => bunsErr m (p + 1) bs
def frameErr (d : D) : Option XD := if goodN d = false then some (exD "BadFrame" ["what", "place"] [.str "rows", d]) else bunsErr (itemsL d).length 0 (itemsL d)
def sp_Frame___init__ : SpI := fun ds Q E => match ds with
  | [d] => (plD d = true ∧ dpD d < 8) ∧ match frameErr d with
    | some x => E x
    | none => Q [("rows", tupD d)]
  | _ => False

def t_Frame___init__ : RS := (rSeq (rIf (rOr (rNot (rTV (rCall 1 sp_is_list (rCons (rVar 1) rNil)))) (rNot (rTV (rChain gLe gLe (rC (.int 1)) (rCB gLen (rCons (rVar 1) rNil)) (rC (.int 12)))))) (rRaise "BadFrame" ["what", "place"] (rCons (rC (.str "rows")) (rCons (rVar 1) rNil))) rNext)
    (rSeq (rFor (rRange1 (rCons (rCB gLen (rCons (rVar 1) rNil)) rNil)) (g3N 2) (rSeq (rIf (rOr (rNot (rTV (rCall 1 sp_is_list (rCons (rOp gIx (rVar 1) (rVar 2)) rNil)))) (rNot (rTV (rChain gLe gLe (rC (.int 1)) (rCB gLen (rCons (rOp gIx (rVar 1) (rVar 2)) rNil)) (rC (.int 12)))))) (rRaise "BadFrame" ["what", "place"] (rCons (rC (.str "bundle")) (rCons (rVar 2) rNil))) rNext)
    (rIf (rNot (rTV (rCB gAll (rCons (rL (rComp (rIt (rOp gIx (rVar 1) (rVar 2))) (g3N 3) (rC true) (rCall 2 sp_is_row (rCons (rVar 3) (rCons (rCB gLen (rCons (rVar 1) rNil)) rNil))) [3])) rNil)))) (rRaise "BadFrame" ["what", "place"] (rCons (rC (.str "row")) (rCons (rVar 2) rNil))) rNext)))
    (rSelfC 0 "Frame" "rows" (rCall 1 sp_as_tuples (rCons (rVar 1) rNil)))))

theorem atI_nat {α : Type} {xs : List α} {k : Nat} {d : α} (h : xs[k]? = some d) : atI xs (k : Int) = some d := by
  have hk := (List.getElem?_eq_some_iff.mp h).1
  unfold atI ixN
  rw [(if_pos (by omega)), if_pos (by omega)]
  simpa using h
/-- a list or a tuple -/
structure Sq (d : D) (xs : List D) : Prop where
  it : itemsL d = xs
  it2 : itemsOf d = some xs
  ls : isLstD d = true
  len : ∀ Q, gLen [d] Q = Q (.int xs.length)
  ix : ∀ (i : Int) (Q : D → Prop), gIx d (.int i) Q = match atI xs i with
    | some d => Q d
    | none => False
theorem sq_tup (xs : List D) : Sq (.tup xs) xs := ⟨rfl, rfl, rfl, fun _ => rfl, fun _ _ => rfl⟩
theorem sq_lst (xs : List D) : Sq (.lst xs) xs := ⟨rfl, rfl, rfl, fun _ => rfl, fun _ _ => rfl⟩
theorem sq_or {d : D} (h : plD d = true) : (∃ xs, Sq d xs ∧ xs.length ≤ 65536 ∧ ∀ x ∈ xs, plD x = true) ∨ isLstD d = false := by
  cases d with
  | tup xs => exact .inl ⟨xs, sq_tup xs, plD_tup h⟩
  | lst xs => exact .inl ⟨xs, sq_lst xs, plD_lst h⟩
  | scr _ => cases h
  | _ => exact .inr rfl
theorem rcb_len {d : D} {xs : List D} (sq : Sq d xs) {ρ : Env3} {re : RE} {Q : D → Prop} {E : XD → Prop} (hr : ∀ (Q : D → Prop) (E : XD → Prop), Q d → re ρ Q E) (q : Q (.int xs.length)) : rCB gLen (rCons re rNil) ρ Q E := by
  refine hr _ _ ?_
  dsimp only [rNil]
  rw [sq.len]
  exact q
/-- not is_list(d) or not 1 <= len(d) <= 12 -/
theorem need_n {d : D} (h : plD d = true) {K : Bool → Prop} {E : XD → Prop} {ρ : Env3} {re : RE} (hr : ∀ (Q : D → Prop) (E : XD → Prop), Q d → re ρ Q E) (k : K (!goodN d)) :
    rOr (rNot (rTV (rCall 1 sp_is_list (rCons re rNil)))) (rNot (rTV (rChain gLe gLe (rC (.int 1)) (rCB gLen (rCons re rNil)) (rC (.int 12))))) ρ K E := by
  refine hr _ _ ⟨rfl, plD_noIns h, ?_⟩
  rcases sq_or h with ⟨xs, sq, hl, hm⟩ | hn
  · rw [sq.ls]
    refine hr _ _ ?_
    dsimp only [rNil]
    rw [sq.len]
    unfold goodN at k
    rw [sq.ls, sq.it, Bool.true_and] at k
    conv => whnf
    split
    · rename_i e
      have e : decide (1 ≤ (xs.length : Int)) = true := e
      have e1 : decide (1 ≤ xs.length) = true := decide_eq_true (by have := of_decide_eq_true e; omega)
      rw [e1, Bool.true_and] at k
      have e2 : decide ((xs.length : Int) ≤ 12) = decide (xs.length ≤ 12) := decide_eq_decide.mpr (by omega)
      show K (!decide ((xs.length : Int) ≤ 12))
      rw [e2]
      exact k
    · rename_i e
      have e : decide (1 ≤ (xs.length : Int)) = false := e
      have e1 : decide (1 ≤ xs.length) = false := decide_eq_false (by have := of_decide_eq_false e; omega)
      rw [e1, Bool.false_and] at k
      exact k
  · rw [hn]
    unfold goodN at k
    rw [hn, Bool.false_and] at k
    exact k
theorem rd_get {n k : Nat} (h : k < n) : (rangeD 0 n).drop k = .int k :: (rangeD 0 n).drop (k + 1) := by
  have hl : k < (rangeD 0 n).length := by rw [rangeD_len]; exact h
  rw [List.drop_eq_getElem_cons hl]
  congr 1
  simp [rangeD]
theorem pl_Frame___init__ : ∀ (a : Addr) (ds : List D) (Q : List (Str × D) → Prop) (E : XD → Prop), ds.length = 1 → sp_Frame___init__ ds Q E → t_Frame___init__ { nx := nxI "Frame" a Q, rt := fun _ => False, ex := E } (startI "Frame" a 4 ds) := fun a ds Q E hl h => by
  match ds, h with
  | [d], h =>
    obtain ⟨⟨h1, h0⟩, h2⟩ := h
    dsimp only [t_Frame___init__, rSeq, rIf]
    refine need_n (re := rVar 1) (ρ := startI "Frame" a 4 [d]) h1 (fun Q E q => q) ?_
    conv => whnf
    split
    · rename_i e
      have eg : goodN d = false := nbT e
      unfold frameErr at h2
      rw [if_pos eg] at h2
      exact ⟨rfl, h2⟩
    · rename_i e
      have eg : goodN d = true := nbF e
      unfold frameErr at h2
      rw [if_neg (by rw [eg]; simp)] at h2
      rcases sq_or h1 with ⟨xs, sq, hxl, hm⟩ | hn
      · rw [sq.it] at h2
        dsimp only [rNext, rSeq, rFor, rRange1, rCons, rNil]
        refine rcb_len (ρ := startI "Frame" a 4 [d]) sq (fun Q E q => q) ?_
        refine ⟨⟨by omega, by have := hxl; omega⟩, ?_⟩
        have e0 : ((xs.length : Nat) : Int).toNat = xs.length := by omega
        show forL _ _ _ (rangeD 0 ((xs.length : Nat) : Int).toNat) _
        rw [e0]
        let I : List D → Env3 → Prop := fun l ρ => ∃ k u v, l = (rangeD 0 xs.length).drop k ∧ ρ = [.obj "Frame" a [], .val d, u, v] ∧ match bunsErr xs.length k (xs.drop k) with
          | some x => E x
          | none => Q [("rows", tupD d)]
        refine for_inv I (fun dk l ρ K hI hK => ?_) (fun ρ hI => ?_) _ _ ⟨0, .emp, .emp, rfl, rfl, h2⟩
        · obtain ⟨k, u, v, el, rfl, hq⟩ := hI
          have hk : k < xs.length := by
            by_cases hk : k < xs.length
            · exact hk
            · rw [List.drop_eq_nil_of_le (by rw [rangeD_len]; omega)] at el
              cases el
          rw [rd_get hk] at el
          cases el
          obtain ⟨b, hb⟩ : ∃ b, xs[k]? = some b := ⟨_, List.getElem?_eq_getElem hk⟩
          have ed : xs.drop k = b :: xs.drop (k + 1) := by
            obtain ⟨g1, g2⟩ := List.getElem?_eq_some_iff.mp hb
            rw [List.drop_eq_getElem_cons g1, g2]
          rw [ed] at hq
          have hb1 : plD b = true := hm b (List.mem_of_getElem? hb)
          have hix : ∀ Q : D → Prop, Q b → gIx d (.int (k : Nat)) Q := fun Q q => by
            rw [sq.ix, atI_nat hb]
            exact q
          have hq : match bunErr xs.length k b with
            | some x => E x
            | none => match bunsErr xs.length (k + 1) (xs.drop (k + 1)) with
              | some x => E x
              | none => Q [("rows", tupD d)] := by
            unfold bunsErr at hq
            cases e9 : bunErr xs.length k b with
            | some x => rw [e9] at hq; exact hq
            | none => rw [e9] at hq; exact hq
          unfold bunErr at hq
          dsimp only [rSeq, rIf]
          refine need_n (re := rOp gIx (rVar 1) (rVar 2)) (ρ := [.obj "Frame" a [], .val d, .val (.int (k : Nat)), v]) hb1 (fun Q E q => hix Q q) ?_
          conv => whnf
          split
          · rename_i e
            rw [if_pos (nbT e)] at hq
            exact ⟨rfl, hq⟩
          · rename_i e
            rw [if_neg (by rw [nbF e]; simp)] at hq
            rcases sq_or hb1 with ⟨ys, sb, hyl, hy⟩ | hn
            · rw [sb.it] at hq
              dsimp only [rNext, rIf, rNot, rTV, rCB, rCons, rL, rComp, rIt, rOp]
              refine hix _ ?_
              rw [sb.it2]
              refine ⟨le_size hyl, comp_map (f := fun r => .bl (isRowD r xs.length)) ys (fun r hr K k => ?_) (gAll_map ?_)⟩
              · dsimp only [rCall, rCons, rNil]
                refine rcb_len (re := rVar 1) sq (fun Q E q => q) ?_
                exact ⟨rfl, hy r hr, k⟩
              · conv => whnf
                split
                · rename_i e2
                  rw [if_pos (nbT e2)] at hq
                  exact ⟨rfl, hq⟩
                · rename_i e2
                  rw [if_neg (by rw [nbF e2]; simp)] at hq
                  exact hK _ ⟨k + 1, _, _, rfl, rfl, hq⟩
            · have e3 := nbF e
              unfold goodN at e3
              rw [hn] at e3
              cases e3
        · obtain ⟨k, u, v, el, rfl, hq⟩ := hI
          have hk : xs.length ≤ k := by
            by_cases hk : k < xs.length
            · rw [rd_get hk] at el
              cases el
            · omega
          rw [List.drop_eq_nil_of_le hk] at hq
          exact ⟨rfl, rfl, h0, h1, by show 0 < 900; decide, rfl, rfl, hq⟩
      · unfold goodN at eg
        rw [hn] at eg
        cases eg

/-- a frame whose bundles bs are tuples -/
def FrB (d : D) (bs : List D) : Prop := ∃ fs, d = .ins "Frame" fs ∧ fs.lookup ("rows" : Str) = some (.tup bs) ∧ 1 ≤ bs.length ∧ bs.length ≤ 12 ∧ ∀ b ∈ bs, ∃ xs, b = .tup xs ∧ 1 ≤ xs.length ∧ xs.length ≤ 12
def lens (bs : List D) : List Nat := bs.map lenD
def sp_counts : Sp3 := fun ds Q _ => ∃ d bs, ds = [d] ∧ FrB d bs ∧ Q (.lst ((lens bs).map fun n => .int (n : Nat)))

def t_counts : RS := (rRet (rL (rComp (rIt (rFld "Frame" "rows" (rVar 0))) (g3N 1) (rC true) (rCB gLen (rCons (rVar 1) rNil)) [1])))

theorem FrB.bd {d : D} {bs : List D} (h : FrB d bs) : (lens bs).length ≤ 12 ∧ ∀ n ∈ lens bs, 1 ≤ n ∧ n ≤ 12 := by
  obtain ⟨fs, _, _, _, hl, hb⟩ := h
  refine ⟨by simpa [lens] using hl, fun n hn => ?_⟩
  obtain ⟨b, hb1, rfl⟩ := List.mem_map.mp hn
  obtain ⟨xs, rfl, h1, h2⟩ := hb b hb1
  exact ⟨h1, h2⟩
theorem pl_counts : ∀ (ds : List D) (Q : D → Prop) (E : XD → Prop), ds.length = 1 → sp_counts ds Q E → t_counts { nx := fun _ => Q .non, rt := Q, ex := E } (start3 2 ds) := fun ds Q E hl h => by
  obtain ⟨d, bs, rfl, ⟨fs, rfl, hf, _, hn, hb⟩, q⟩ := h
  refine ⟨rfl, ?_⟩
  rw [hf]
  refine ⟨le_size (by omega), comp_map (f := fun b => .int (lenD b : Nat)) bs (fun b h K k => ?_) ?_⟩
  · obtain ⟨xs, rfl, _⟩ := hb b h
    exact k
  · unfold lens at q
    rw [List.map_map] at q
    exact q

def pkL : List (List D) → List (List D) → List (List D)
  | found, [] => found
  | found, items :: ls => pkL (found.flatMap fun p => items.map fun i => p ++ [i]) ls
def prodN : List Nat → Nat
  | [] => 1
  | n :: ns => n * prodN ns
def sp_all_picks : Sp3 := fun ds Q _ => ∃ ls : List (List D), ds = [.lst (ls.map .lst)] ∧ ls.length ≤ 12 ∧ (∀ l ∈ ls, 1 ≤ l.length) ∧ prodN (ls.map List.length) ≤ 4096 ∧ Q (.tup ((pkL [[]] ls).map .tup))

def t_all_picks : RS := (rSeq (rSetL 1 (rLst (rCons (rTup rNil) rNil)))
    (rSeq (rFor (rIt (rVar 0)) (g3N 2) (rFrz 1 (rSetL 1 (rComp2 (rIt (rVar 1)) (g3N 3) (rC true) (rIt (rVar 2)) (g3N 4) (rC true) (rOp gAdd (rVar 3) (rTup (rCons (rVar 4) rNil))) [3, 4] [4]))))
    (rFrz 1 (rRet (rCB gTuple (rCons (rVar 1) rNil))))))

theorem prodN_pos : ∀ {ns : List Nat}, (∀ n ∈ ns, 1 ≤ n) → 1 ≤ prodN ns
  | [], _ => Nat.le_refl 1
  | n :: ns, h => Nat.mul_pos (h n (by simp)) (prodN_pos fun m hm => h m (by simp [hm]))
theorem sum_const {α : Type} (f : α → Nat) (c : Nat) : ∀ (xs : List α), (∀ x ∈ xs, f x = c) → (xs.map f).sum = xs.length * c
  | [], _ => by simp
  | x :: xs, h => by
    rw [List.map_cons, List.sum_cons, h x (by simp), sum_const f c xs fun y hy => h y (by simp [hy]), List.length_cons, Nat.add_mul, Nat.one_mul, Nat.add_comm]
theorem sum_le {α : Type} (f : α → Nat) (c : Nat) : ∀ (xs : List α), (∀ x ∈ xs, f x ≤ c) → (xs.map f).sum ≤ xs.length * c
  | [], _ => by simp
  | x :: xs, h => by
    rw [List.map_cons, List.sum_cons, List.length_cons, Nat.add_mul, Nat.one_mul]
    have h1 := h x (by simp)
    have h2 := sum_le f c xs fun y hy => h y (by simp [hy])
    omega
theorem len_step (found : List (List D)) (items : List D) : (found.flatMap fun p => items.map fun i => p ++ [i]).length = found.length * items.length := by
  rw [List.length_flatMap]
  exact sum_const _ _ _ fun p _ => by simp
/-- one round of the picks, over data -/
theorem pk_round {found : List (List D)} {items : List D} : ((found.map D.tup).flatMap fun d => (items.filter fun _ => true).map fun y => (match d with | .tup p => D.tup (p ++ [y]) | _ => .non)) = (found.flatMap fun p => items.map fun i => p ++ [i]).map D.tup := by
  rw [List.flatMap_map, List.map_flatMap]
  congr 1
  funext p
  rw [List.filter_eq_self.mpr (by simp), List.map_map]
  rfl
theorem pk_mem {found : List (List D)} {items : List D} {n : Nat} (h : ∀ p ∈ found, p.length = n) : ∀ p ∈ found.flatMap (fun p => items.map fun i => p ++ [i]), p.length = n + 1 := fun p hp => by
  obtain ⟨a, ha, hp⟩ := List.mem_flatMap.mp hp
  obtain ⟨i, _, rfl⟩ := List.mem_map.mp hp
  rw [List.length_append, h a ha]
  rfl
theorem pl_all_picks : ∀ (ds : List D) (Q : D → Prop) (E : XD → Prop), ds.length = 1 → sp_all_picks ds Q E → t_all_picks { nx := fun _ => Q .non, rt := Q, ex := E } (start3 5 ds) := fun ds Q E hl h => by
  obtain ⟨ls, rfl, h12, h1, hp, q⟩ := h
  refine ⟨by show 1 < 5; decide, by show 0 ≤ sizeLine; exact Nat.zero_le _, by show 1 ≤ sizeLine; decide, ?_⟩
  let I : List D → Env3 → Prop := fun l ρ => ∃ (found rest : List (List D)) (a b c : Sl) (n : Nat), l = rest.map .lst ∧ ρ = [.val (.lst (ls.map .lst)), .own (found.map .tup), a, b, c] ∧ (∀ l ∈ rest, 1 ≤ l.length) ∧ found.length * prodN (rest.map List.length) ≤ 4096 ∧ (∀ p ∈ found, p.length = n) ∧ n + rest.length ≤ 12 ∧ Q (.tup ((pkL found rest).map .tup))
  refine for_inv I (fun d l ρ K hI hK => ?_) (fun ρ hI => ?_) _ _ ⟨[[]], ls, .emp, .emp, .emp, 0, rfl, rfl, h1, by simpa using hp, by simp, by omega, q⟩
  · obtain ⟨found, rest, a, b, c, n, el, rfl, hr, hb, hn, hnr, q⟩ := hI
    cases rest with
    | nil => cases el
    | cons items rest =>
      cases el
      have hi1 : 1 ≤ items.length := hr items (by simp)
      have hpr := prodN_pos (ns := rest.map List.length) (fun m hm => by
        obtain ⟨l, hl, rfl⟩ := List.mem_map.mp hm
        exact hr l (by simp [hl]))
      have hb2 : (found.length * items.length) * prodN (rest.map List.length) ≤ 4096 := by
        rw [Nat.mul_assoc]
        exact hb
      have hb3 : found.length * items.length ≤ 4096 := Nat.le_trans (Nat.le_mul_of_pos_right _ hpr) hb2
      refine ⟨by show 1 < 5; decide, ?_⟩
      refine comp2_fm (es := fun _ => items) (p := fun _ _ => true) (f := fun d y => match d with | .tup p => D.tup (p ++ [y]) | _ => .non) (found.map .tup) [] ?_ (fun d hd => ⟨fun K k => k, fun y hy => ⟨fun K k => k, fun _ K k => ?_⟩⟩) ?_
      · rw [sum_const (fun _ => items.length) items.length (found.map D.tup) (fun _ _ => rfl), List.length_map, List.length_nil, Nat.zero_add]
        exact le_size (by omega)
      · obtain ⟨p, hp, rfl⟩ := List.mem_map.mp hd
        refine ⟨by show 1 ≤ sizeLine; decide, ?_, k⟩
        show p.length + 1 ≤ sizeLine
        rw [hn p hp]
        simp only [List.length_cons] at hnr
        exact le_size (by omega)
      · rw [List.nil_append, pk_round]
        refine ⟨?_, hK _ ⟨_, rest, _, _, _, n + 1, rfl, rfl, fun l hl => hr l (by simp [hl]), ?_, pk_mem hn, by simp only [List.length_cons] at hnr; omega, q⟩⟩
        · rw [List.length_map, len_step]
          exact le_size (by omega)
        · rw [len_step]
          exact hb2
  · obtain ⟨found, rest, a, b, c, n, el, rfl, hr, hb, hn, hnr, q⟩ := hI
    cases rest with
    | nil => exact q
    | cons x y => cases el

def sp_multiplied_all : Sp3 := fun ds Q _ => ∃ ns : List Nat, ds = [.lst (ns.map fun n => .int (n : Nat))] ∧ (∀ n ∈ ns, n ≤ 1000) ∧ Q (.int (prodN ns : Nat))

def t_multiplied_all : RS := (rSeq (rSet 1 (rC (.int 1)))
    (rSeq (rFor (rIt (rVar 0)) (g3N 2) (rSet 1 (rOp gMul (rVar 1) (rVar 2))))
    (rRet (rVar 1))))

theorem mul_small {a : Int} {n : Nat} (h : n ≤ 1000) : IntMulOk a (n : Nat) := CMul.ok (.inr (by omega))
theorem pl_multiplied_all : ∀ (ds : List D) (Q : D → Prop) (E : XD → Prop), ds.length = 1 → sp_multiplied_all ds Q E → t_multiplied_all { nx := fun _ => Q .non, rt := Q, ex := E } (start3 3 ds) := fun ds Q E hl h => by
  obtain ⟨ns, rfl, hn, q⟩ := h
  let I : List D → Env3 → Prop := fun l ρ => ∃ (rest : List Nat) (acc : Nat) (c : Sl), l = rest.map (fun n => .int (n : Nat)) ∧ ρ = [.val (.lst (ns.map fun n => .int (n : Nat))), .val (.int (acc : Nat)), c] ∧ (∀ n ∈ rest, n ≤ 1000) ∧ Q (.int ((acc * prodN rest : Nat)))
  refine for_inv I (fun d l ρ K hI hK => ?_) (fun ρ hI => ?_) _ _ ⟨ns, 1, .emp, rfl, rfl, hn, by rw [Nat.one_mul]; exact q⟩
  · obtain ⟨rest, acc, c, el, rfl, hr, q⟩ := hI
    cases rest with
    | nil => cases el
    | cons n rest =>
      cases el
      refine ⟨mul_small (hr n (by simp)), hK _ ⟨rest, acc * n, .val (.int (n : Nat)), rfl, ?_, fun m hm => hr m (by simp [hm]), ?_⟩⟩
      · rw [Int.natCast_mul]
        rfl
      · unfold prodN at q
        rw [← Nat.mul_assoc] at q
        exact q
  · obtain ⟨rest, acc, c, el, rfl, hr, q⟩ := hI
    cases rest with
    | nil =>
      rw [show acc * prodN [] = acc from Nat.mul_one acc] at q
      exact q
    | cons x y => cases el

def sp_need_choices : Sp3 := fun ds Q E => ∃ d bs, ds = [d] ∧ FrB d bs ∧ (if 256 < prodN (lens bs) then E (exD "TooMany" ["what", "many", "limit"] [.str "choices", .int (prodN (lens bs) : Nat), .int 256]) else Q .non)

def t_need_choices : RS := (rSeq (rSet 1 (rCall 1 sp_multiplied_all (rCons (rCall 1 sp_counts (rCons (rVar 0) rNil)) rNil)))
    (rIf (rTV (rOp gGt (rVar 1) (rC (.int 256)))) (rRaise "TooMany" ["what", "many", "limit"] (rCons (rC (.str "choices")) (rCons (rVar 1) (rCons (rC (.int 256)) rNil)))) rNext))

theorem pl_need_choices : ∀ (ds : List D) (Q : D → Prop) (E : XD → Prop), ds.length = 1 → sp_need_choices ds Q E → t_need_choices { nx := fun _ => Q .non, rt := Q, ex := E } (start3 2 ds) := fun ds Q E hl h => by
  obtain ⟨d, bs, rfl, fr, q⟩ := h
  refine ⟨rfl, d, bs, rfl, fr, rfl, lens bs, rfl, fun n hn => by have := (fr.bd.2 n hn).2; omega, ?_⟩
  conv => whnf
  split
  · rename_i e
    have e : decide ((256 : Int) < (prodN (lens bs) : Nat)) = true := e
    rw [if_pos (by have := of_decide_eq_true e; omega)] at q
    exact ⟨rfl, q⟩
  · rename_i e
    have e : decide ((256 : Int) < (prodN (lens bs) : Nat)) = false := e
    rw [if_neg (by have := of_decide_eq_false e; omega)] at q
    exact q

def rgL (n : Nat) : List D := rangeD 0 n
def sp_choices : Sp3 := fun ds Q E => ∃ d bs, ds = [d] ∧ FrB d bs ∧ (if 256 < prodN (lens bs) then E (exD "TooMany" ["what", "many", "limit"] [.str "choices", .int (prodN (lens bs) : Nat), .int 256]) else Q (.tup ((pkL [[]] ((lens bs).map rgL)).map .tup)))

def t_choices : RS := (rSeq (rDrop (rCall 1 sp_need_choices (rCons (rVar 0) rNil)))
    (rRet (rCall 1 sp_all_picks (rCons (rL (rComp (rIt (rCall 1 sp_counts (rCons (rVar 0) rNil))) (g3N 1) (rC true) (rL (rListRange1 (rCons (rVar 1) rNil))) [1])) rNil))))

theorem rgl_len (n : Nat) : (rgL n).length = n := rangeD_len
theorem rgl_lens (ns : List Nat) : (ns.map rgL).map List.length = ns := by
  rw [List.map_map]
  exact (List.map_congr_left fun n _ => rgl_len n).trans (List.map_id ns)
theorem pl_choices : ∀ (ds : List D) (Q : D → Prop) (E : XD → Prop), ds.length = 1 → sp_choices ds Q E → t_choices { nx := fun _ => Q .non, rt := Q, ex := E } (start3 2 ds) := fun ds Q E hl h => by
  obtain ⟨d, bs, rfl, fr, q⟩ := h
  refine ⟨rfl, d, bs, rfl, fr, ?_⟩
  by_cases hb : 256 < prodN (lens bs)
  · rw [if_pos hb] at q ⊢
    exact q
  · rw [if_neg hb] at q ⊢
    refine ⟨rfl, d, bs, rfl, fr, le_size (by rw [List.length_map]; have := fr.bd.1; omega), ?_⟩
    refine comp_map (f := fun d => match d with | .int n => .lst (rangeD 0 n.toNat) | _ => .non) _ (fun y hy K k => ?_) ?_
    · obtain ⟨n, hn, rfl⟩ := List.mem_map.mp hy
      have := fr.bd.2 n hn
      exact ⟨⟨by omega, by omega⟩, k⟩
    · refine ⟨rfl, (lens bs).map rgL, ?_, by rw [List.length_map]; exact fr.bd.1, fun l hl => ?_, ?_, q⟩
      · rw [List.map_map, List.map_map]
        rfl
      · obtain ⟨n, hn, rfl⟩ := List.mem_map.mp hl
        rw [rgl_len]
        exact (fr.bd.2 n hn).1
      · rw [rgl_lens]
        omega

def prL (n : Nat) : List D := if n = 1 then [.tup [.int 0, .int 0]] else (rangeD 0 n).flatMap fun u => ((rangeD 0 n).filter fun d => match u, d with | .int a, .int b => !decide (a = b) | _, _ => false).map fun d => .tup [u, d]
def sp_fork_pairs : Sp3 := fun ds Q _ => ∃ n : Nat, ds = [.int (n : Nat)] ∧ 1 ≤ n ∧ n ≤ 12 ∧ Q (.lst (prL n))

def t_fork_pairs : RS := (rSeq (rIf (rTV (rOp gEq (rVar 0) (rC (.int 1)))) (rRet (rL (rLst (rCons (rTup (rCons (rC (.int 0)) (rCons (rC (.int 0)) rNil))) rNil)))) rNext)
    (rRet (rL (rComp2 (rRange1 (rCons (rVar 0) rNil)) (g3N 1) (rC true) (rRange1 (rCons (rVar 0) rNil)) (g3N 2) (rTV (rOp gNe (rVar 1) (rVar 2))) (rTup (rCons (rVar 1) (rCons (rVar 2) rNil))) [1, 2] [2]))))

theorem rd_mem {lo : Int} {n : Nat} {d : D} (h : d ∈ rangeD lo n) : ∃ i : Int, d = .int i := by
  unfold rangeD at h
  obtain ⟨i, _, rfl⟩ := List.mem_map.mp h
  exact ⟨_, rfl⟩
theorem pl_fork_pairs : ∀ (ds : List D) (Q : D → Prop) (E : XD → Prop), ds.length = 1 → sp_fork_pairs ds Q E → t_fork_pairs { nx := fun _ => Q .non, rt := Q, ex := E } (start3 3 ds) := fun ds Q E hl h => by
  obtain ⟨n, rfl, h1, h12, q⟩ := h
  conv => whnf
  split
  · rename_i e
    have e : decide (((n : Nat) : Int) = 1) = true := e
    have e1 : n = 1 := by have := of_decide_eq_true e; omega
    subst e1
    exact ⟨by show 2 ≤ sizeLine; decide, by show 1 ≤ sizeLine; decide, q⟩
  · rename_i e
    have e : decide (((n : Nat) : Int) = 1) = false := e
    have e1 : ¬ n = 1 := by have := of_decide_eq_false e; omega
    unfold prL at q
    rw [if_neg e1] at q
    refine ⟨⟨by omega, by omega⟩, ?_⟩
    refine comp2_fm (es := fun _ => rangeD 0 n) (p := fun u d => match u, d with | .int a, .int b => !decide (a = b) | _, _ => false) (f := fun u d => .tup [u, d]) (rangeD 0 n) [] ?_ (fun d hd => ⟨fun K k => ⟨⟨by omega, by omega⟩, k⟩, fun y hy => ⟨fun K k => ?_, fun _ K k => ⟨by show 2 ≤ sizeLine; decide, k⟩⟩⟩) ⟨?_, q⟩
    · rw [sum_const (fun _ => (rangeD 0 n).length) (rangeD 0 n).length (rangeD 0 n) (fun _ _ => rfl), rangeD_len, List.length_nil, Nat.zero_add]
      exact le_size (Nat.le_trans (Nat.mul_le_mul h12 h12) (by decide))
    · obtain ⟨i, rfl⟩ := rd_mem hd
      obtain ⟨j, rfl⟩ := rd_mem hy
      exact k
    · rw [List.nil_append, List.length_flatMap]
      refine Nat.le_trans (m := 12 * 12) ?_ (by decide)
      refine Nat.le_trans (sum_le _ 12 _ fun u _ => ?_) (Nat.mul_le_mul (by rw [rangeD_len]; exact h12) (Nat.le_refl _))
      rw [List.length_map]
      exact Nat.le_trans (List.length_filter_le _ _) (by rw [rangeD_len]; exact h12)

def pairN (n : Nat) : Nat := max 1 (n * (n - 1))
def sp_need_forks : Sp3 := fun ds Q E => ∃ d bs, ds = [d] ∧ FrB d bs ∧ (if 64 < prodN ((lens bs).map pairN) then E (exD "TooMany" ["what", "many", "limit"] [.str "forks", .int (prodN ((lens bs).map pairN) : Nat), .int 64]) else Q .non)

def t_need_forks : RS := (rSeq (rSet 1 (rCall 1 sp_multiplied_all (rCons (rL (rComp (rIt (rCall 1 sp_counts (rCons (rVar 0) rNil))) (g3N 2) (rC true) (rCB gMax2 (rCons (rC (.int 1)) (rCons (rOp gMul (rVar 2) (rOp gSub (rVar 2) (rC (.int 1)))) rNil))) [2])) rNil)))
    (rIf (rTV (rOp gGt (rVar 1) (rC (.int 64)))) (rRaise "TooMany" ["what", "many", "limit"] (rCons (rC (.str "forks")) (rCons (rVar 1) (rCons (rC (.int 64)) rNil)))) rNext))

theorem pairN_cast {n : Nat} (h : 1 ≤ n) : (if (n : Int) * ((n : Int) - 1) > 1 then (n : Int) * ((n : Int) - 1) else 1) = ((pairN n : Nat) : Int) := by
  have e : (n : Int) * ((n : Int) - 1) = ((n * (n - 1) : Nat) : Int) := by
    rw [Int.natCast_mul, Int.natCast_sub h]
    rfl
  rw [e]
  unfold pairN
  generalize n * (n - 1) = m
  split <;> omega
theorem pairN_le {n : Nat} (h : n ≤ 12) : pairN n ≤ 132 := by
  unfold pairN
  have : n * (n - 1) ≤ 12 * 11 := Nat.mul_le_mul h (by omega)
  omega
theorem pl_need_forks : ∀ (ds : List D) (Q : D → Prop) (E : XD → Prop), ds.length = 1 → sp_need_forks ds Q E → t_need_forks { nx := fun _ => Q .non, rt := Q, ex := E } (start3 3 ds) := fun ds Q E hl h => by
  obtain ⟨d, bs, rfl, fr, q⟩ := h
  refine ⟨rfl, d, bs, rfl, fr, le_size (by rw [List.length_map]; have := fr.bd.1; omega), ?_⟩
  refine comp_map (f := fun d => match d with | .int n => .int (if n * (n - 1) > 1 then n * (n - 1) else 1) | _ => .non) _ (fun y hy K k => ?_) ?_
  · obtain ⟨n, hn, rfl⟩ := List.mem_map.mp hy
    have hb := fr.bd.2 n hn
    exact ⟨CMul.ok (.inr (by omega)), k⟩
  · refine ⟨rfl, (lens bs).map pairN, ?_, fun m hm => ?_, ?_⟩
    · rw [List.map_map, List.map_map]
      refine congrArg (fun l => [D.lst l]) (List.map_congr_left fun n hn => ?_)
      exact congrArg D.int (pairN_cast (fr.bd.2 n hn).1)
    · obtain ⟨n, hn, rfl⟩ := List.mem_map.mp hm
      have := pairN_le (fr.bd.2 n hn).2
      omega
    · conv => whnf
      split
      · rename_i e
        have e : decide ((64 : Int) < (prodN ((lens bs).map pairN) : Nat)) = true := e
        rw [if_pos (by have := of_decide_eq_true e; omega)] at q
        exact ⟨rfl, q⟩
      · rename_i e
        have e : decide ((64 : Int) < (prodN ((lens bs).map pairN) : Nat)) = false := e
        rw [if_neg (by have := of_decide_eq_false e; omega)] at q
        exact q

def sp_forks : Sp3 := fun ds Q E => ∃ d bs, ds = [d] ∧ FrB d bs ∧ (if 64 < prodN ((lens bs).map pairN) then E (exD "TooMany" ["what", "many", "limit"] [.str "forks", .int (prodN ((lens bs).map pairN) : Nat), .int 64]) else Q (.tup ((pkL [[]] ((lens bs).map prL)).map .tup)))

def t_forks : RS := (rSeq (rDrop (rCall 1 sp_need_forks (rCons (rVar 0) rNil)))
    (rRet (rCall 1 sp_all_picks (rCons (rL (rComp (rIt (rCall 1 sp_counts (rCons (rVar 0) rNil))) (g3N 1) (rC true) (rCall 1 sp_fork_pairs (rCons (rVar 1) rNil)) [1])) rNil))))

theorem prL_len {n : Nat} (h : 1 ≤ n) (h12 : n ≤ 12) : (prL n).length = pairN n := by
  have : ∀ n : Nat, n < 13 → 1 ≤ n → (prL n).length = pairN n := by decide +kernel
  exact this n (by omega) h
theorem pl_forks : ∀ (ds : List D) (Q : D → Prop) (E : XD → Prop), ds.length = 1 → sp_forks ds Q E → t_forks { nx := fun _ => Q .non, rt := Q, ex := E } (start3 2 ds) := fun ds Q E hl h => by
  obtain ⟨d, bs, rfl, fr, q⟩ := h
  refine ⟨rfl, d, bs, rfl, fr, ?_⟩
  by_cases hb : 64 < prodN ((lens bs).map pairN)
  · rw [if_pos hb] at q ⊢
    exact q
  · rw [if_neg hb] at q ⊢
    refine ⟨rfl, d, bs, rfl, fr, le_size (by rw [List.length_map]; have := fr.bd.1; omega), ?_⟩
    refine comp_map (f := fun d => match d with | .int n => .lst (prL n.toNat) | _ => .non) _ (fun y hy K k => ?_) ?_
    · obtain ⟨n, hn, rfl⟩ := List.mem_map.mp hy
      have := fr.bd.2 n hn
      exact ⟨rfl, n, rfl, this.1, this.2, k⟩
    · have el : ((lens bs).map prL).map List.length = (lens bs).map pairN := by
        rw [List.map_map]
        exact List.map_congr_left fun n hn => prL_len (fr.bd.2 n hn).1 (fr.bd.2 n hn).2
      refine ⟨rfl, (lens bs).map prL, ?_, by rw [List.length_map]; exact fr.bd.1, fun l hl => ?_, ?_, q⟩
      · rw [List.map_map, List.map_map]
        rfl
      · obtain ⟨n, hn, rfl⟩ := List.mem_map.mp hl
        rw [prL_len (fr.bd.2 n hn).1 (fr.bd.2 n hn).2]
        exact Nat.le_max_left _ _
      · rw [el]
        omega

def sp__law_pen : Sp3 := fun ds Q _ => ∃ xs, ds = [.scr xs] ∧ xs.length ≤ 63 ∧ Q .pen

def t__law_pen : RS := (rSeq (rSet 1 (rC (.int 0)))
    (rSeq (rFor (rIt (rVar 0)) (g3N 2) (rSet 1 (rOp gMod (rCB gInt (rCons (rOp gAdd (rOp gMul (rVar 1) (rC (.int 47))) (rVar 2)) rNil)) (rC (.int 1000000007)))))
    (rRet (rPenNew (rListOf (rVar 0)) (rVar 1)))))

theorem pl__law_pen : ∀ (ds : List D) (Q : D → Prop) (E : XD → Prop), ds.length = 1 → sp__law_pen ds Q E → t__law_pen { nx := fun _ => Q .non, rt := Q, ex := E } (start3 3 ds) := fun ds Q E hl h => by
  obtain ⟨xs, rfl, hx, q⟩ := h
  let I : List D → Env3 → Prop := fun l ρ => ∃ (rest : List Int) (acc : Int) (c : Sl), l = rest.map D.int ∧ ρ = [.val (.scr xs), .val (.int acc), c] ∧ 0 ≤ acc ∧ acc < 1000000007
  refine for_inv I (fun d l ρ K hI hK => ?_) (fun ρ hI => ?_) _ _ ⟨xs, 0, .emp, rfl, rfl, by omega, by omega⟩
  · obtain ⟨rest, acc, c, el, rfl, h0, h1⟩ := hI
    cases rest with
    | nil => cases el
    | cons n rest =>
      cases el
      refine ⟨CMul.ok (.inr (by omega)), by omega, hK _ ⟨rest, _, _, rfl, rfl, ?_, ?_⟩⟩
      · exact Int.fmod_nonneg_of_pos _ (by omega)
      · exact Int.fmod_lt_of_pos _ (by omega)
  · obtain ⟨rest, acc, c, el, rfl, h0, h1⟩ := hI
    refine ⟨le_size (by rw [List.length_map]; omega), xs, rfl, acc, rfl, ⟨h0, by omega⟩, q⟩

def sp__law_pick : Sp3 := fun ds Q _ => ∃ d xs, ds = [.pen, d] ∧ (d = .tup xs ∨ d = .lst xs) ∧ 1 ≤ xs.length ∧ xs.length ≤ 65536 ∧ ∀ x ∈ xs, Q x

def t__law_pick : RS := (rRet (rOp gIx (rVar 1) (rCall 2 sp__law_draw (rCons (rVar 0) (rCons (rCB gLen (rCons (rVar 1) rNil)) rNil)))))

theorem pl__law_pick : ∀ (ds : List D) (Q : D → Prop) (E : XD → Prop), ds.length = 2 → sp__law_pick ds Q E → t__law_pick { nx := fun _ => Q .non, rt := Q, ex := E } (start3 2 ds) := fun ds Q E hl h => by
  obtain ⟨d, xs, rfl, hd, h1, h2, q⟩ := h
  have key : ∀ k : Int, 0 ≤ k → k < (xs.length : Nat) → ∃ x, atI xs k = some x ∧ Q x := fun k k0 k1 => by
    obtain ⟨n, rfl⟩ := Int.eq_ofNat_of_zero_le k0
    have hn : n < xs.length := by omega
    exact ⟨xs[n], atI_nat (List.getElem?_eq_getElem hn), q _ (List.getElem_mem hn)⟩
  rcases hd with rfl | rfl
  · refine ⟨rfl, ⟨by omega, by omega⟩, fun k k0 k1 => ?_⟩
    obtain ⟨x, hx, qx⟩ := key k k0 k1
    show (match atI xs k with | some d => Q d | none => False)
    rw [hx]
    exact qx
  · refine ⟨rfl, ⟨by omega, by omega⟩, fun k k0 k1 => ?_⟩
    obtain ⟨x, hx, qx⟩ := key k k0 k1
    show (match atI xs k with | some d => Q d | none => False)
    rw [hx]
    exact qx

def sp__law_shuffled : Sp3 := fun ds Q _ => ∃ xs, ds = [.pen, .lst xs] ∧ xs.length ≤ 65536 ∧ ∀ ys : List D, ys.length = xs.length → (∀ y ∈ ys, y ∈ xs) → Q (.lst ys)

def t__law_shuffled : RS := (rSeq (rParLL 2 3 (rListOf (rVar 1)) (rLst rNil))
    (rSeq (rFor (rRange1 (rCons (rCB gLen (rCons (rVar 1) rNil)) rNil)) (g3N 4) (rAppPop 3 2 (rCall 2 sp__law_draw (rCons (rVar 0) (rCons (rLenO 2) rNil)))))
    (rFrz 3 (rRet (rVar 3)))))

theorem seq_nat {k n : Nat} (h : k < n) : seqIndex? (k : Int) n = some k := by
  have e : ixN n (k : Int) = some k := by
    unfold ixN
    rw [(if_pos (by omega)), if_pos (by omega)]
    rfl
  exact (ixN_seq e).1
theorem pl__law_shuffled : ∀ (ds : List D) (Q : D → Prop) (E : XD → Prop), ds.length = 2 → sp__law_shuffled ds Q E → t__law_shuffled { nx := fun _ => Q .non, rt := Q, ex := E } (start3 5 ds) := fun ds Q E hl h => by
  obtain ⟨xs, rfl, hx, q⟩ := h
  refine ⟨⟨by show 2 < 5; decide, by show 3 < 5; decide⟩, le_size hx, by show 0 ≤ sizeLine; exact Nat.zero_le _, ⟨by omega, by omega⟩, ?_⟩
  have e0 : ((xs.length : Nat) : Int).toNat = xs.length := by omega
  show forL _ _ _ (rangeD 0 ((xs.length : Nat) : Int).toNat) _
  rw [e0]
  let I : List D → Env3 → Prop := fun l ρ => ∃ (left found : List D) (c : Sl), l.length = left.length ∧ ρ = [.val .pen, .val (.lst xs), .own left, .own found, c] ∧ left.length + found.length = xs.length ∧ (∀ y ∈ left, y ∈ xs) ∧ ∀ y ∈ found, y ∈ xs
  refine for_inv I (fun d l ρ K hI hK => ?_) (fun ρ hI => ?_) _ _ ⟨xs, [], .emp, rangeD_len, rfl, by simp, fun _ h => h, by simp⟩
  · obtain ⟨left, found, c, el, rfl, hs, h1, h2⟩ := hI
    simp only [List.length_cons] at el
    refine ⟨rfl, ⟨by omega, by omega⟩, fun k k0 k1 => ?_⟩
    obtain ⟨n, rfl⟩ := Int.eq_ofNat_of_zero_le k0
    have hn : n < left.length := by omega
    refine ⟨⟨by omega, by omega⟩, Nat.lt_of_lt_of_le (by omega : found.length < 65537) (by decide), n, left[n], seq_nat hn, List.getElem?_eq_getElem hn, hK _ ⟨left.eraseIdx n, found ++ [left[n]], .val d, ?_, rfl, ?_, ?_, ?_⟩⟩
    · rw [List.length_eraseIdx, if_pos hn]
      omega
    · rw [List.length_eraseIdx, if_pos hn, List.length_append, List.length_singleton]
      omega
    · exact fun y hy => h1 y (List.mem_of_mem_eraseIdx hy)
    · intro y hy
      rcases (List.mem_append.mp hy) with hy | hy
      · exact h2 y hy
      · rw [List.mem_singleton.mp hy]
        exact h1 _ (List.getElem_mem hn)
  · obtain ⟨left, found, c, el, rfl, hs, h1, h2⟩ := hI
    simp only [List.length_nil] at el
    exact q found (by omega) h2

mutual
/-- None, bools, ints, texts, tuples of them -/
def tiD : D → Bool
  | .tup xs => decide (xs.length ≤ 65536) && tiDs xs
  | .int _ => true
  | .non => true
  | .bl _ => true
  | .str _ => true
  | _ => false
def tiDs : List D → Bool
  | [] => true
  | d :: ds => tiD d && tiDs ds
end
def sr__law_is (n : Nat) : Sp3 := fun ds Q _ => ∃ d, ds = [d, d] ∧ tiD d = true ∧ dpD d < n ∧ Q (.bl true)
def sp__law_is : Sp3 := sr__law_is 8

def t__law_is (spS : Sp3) : RS := (rSeq (rIf (rTV (rIs "tuple" (rVar 1))) (rSeq (rIf (rOr (rNot (rTV (rIs "tuple" (rVar 0)))) (rTV (rOp gNe (rCB gLen (rCons (rVar 0) rNil)) (rCB gLen (rCons (rVar 1) rNil))))) (rRet (rC (.bl false))) rNext)
    (rRet (rOp gEq (rL (rComp (rRange1 (rCons (rCB gLen (rCons (rVar 1) rNil)) rNil)) (g3N 2) (rNot (rTV (rCall 2 spS (rCons (rOp gIx (rVar 0) (rVar 2)) (rCons (rOp gIx (rVar 1) (rVar 2)) rNil))))) (rVar 2) [2])) (rL (rLst rNil))))) rNext)
    (rSeq (rIf (rTV (rIsN (rVar 1))) (rRet (rIsN (rVar 0))) rNext)
    (rSeq (rIf (rTV (rIsB true (rVar 1))) (rRet (rIsB true (rVar 0))) rNext)
    (rSeq (rIf (rTV (rIsB false (rVar 1))) (rRet (rIsB false (rVar 0))) rNext)
    (rSeq (rIf (rTV (rIs "str" (rVar 1))) (rRet (rAndV (rIs "str" (rVar 0)) (rOp gEq (rVar 0) (rVar 1)))) rNext)
    (rRet (rAndV (rIs "int" (rVar 0)) (rAndV (rNotV (rIs "bool" (rVar 0))) (rOp gEq (rVar 0) (rVar 1))))))))))

theorem zr__law_is : ∀ ds Q E, sr__law_is 0 ds Q E → False := fun ds Q E h => by
  obtain ⟨_, _, _, h, _⟩ := h
  exact Nat.not_lt_zero _ h
theorem tiDs_mem : ∀ {ds : List D}, tiDs ds = true → ∀ d ∈ ds, tiD d = true
  | [], _, d, h => by cases h
  | x :: ds, h, d, hd => by
    unfold tiDs at h
    obtain ⟨h1, h2⟩ := Bool.and_eq_true_iff.mp h
    rcases (List.mem_cons.mp hd) with rfl | hd
    · exact h1
    · exact tiDs_mem h2 d hd
theorem tiDs_of : ∀ {ds : List D}, (∀ d ∈ ds, tiD d = true) → tiDs ds = true
  | [], _ => rfl
  | x :: ds, h => by
    unfold tiDs
    rw [h x (by simp), tiDs_of fun d hd => h d (by simp [hd])]
    rfl
theorem pl__law_is (n : Nat) : ∀ (ds : List D) (Q : D → Prop) (E : XD → Prop), ds.length = 2 → sr__law_is (n + 1) ds Q E → t__law_is (sr__law_is n) { nx := fun _ => Q .non, rt := Q, ex := E } (start3 3 ds) := fun ds Q E hl h => by
  obtain ⟨d, rfl, ht, hd, q⟩ := h
  cases d with
  | tup xs =>
    unfold tiD at ht
    obtain ⟨hx, hm⟩ := Bool.and_eq_true_iff.mp ht
    have hx := of_decide_eq_true hx
    have hm := tiDs_mem hm
    unfold dpD at hd
    refine ⟨rfl, rfl, ?_⟩
    conv => whnf
    split
    · rename_i e
      exact absurd rfl (nbN e)
    · refine ⟨⟨by omega, by omega⟩, ?_⟩
      have e0 : ((xs.length : Nat) : Int).toNat = xs.length := by omega
      show (rangeD 0 ((xs.length : Nat) : Int).toNat).length ≤ _ ∧ compL _ _ _ _ _ _ (rangeD 0 ((xs.length : Nat) : Int).toNat) _
      rw [e0]
      refine ⟨by rw [rangeD_len]; exact le_size hx, comp_fm (p := fun _ => false) (f := fun d => d) _ [] (fun y hy => ⟨fun K k => ?_, fun h => by cases h⟩) ?_⟩
      · unfold rangeD at hy
        obtain ⟨i, hi, rfl⟩ := List.mem_map.mp hy
        have hi := List.mem_range.mp hi
        obtain ⟨x, hx1⟩ : ∃ x, xs[i]? = some x := ⟨_, List.getElem?_eq_getElem hi⟩
        have e1 : atI xs (0 + (i : Nat)) = some x := by rw [Int.zero_add]; exact atI_nat hx1
        have hxm := List.mem_of_getElem? hx1
        show (match atI xs (0 + (i : Nat)) with | some d => _ | none => False)
        rw [e1]
        show (match atI xs (0 + (i : Nat)) with | some d => _ | none => False)
        rw [e1]
        exact ⟨rfl, x, rfl, hm x hxm, Nat.lt_of_le_of_lt (dpDs_mem hxm) (by omega), k⟩
      · rw [List.filter_eq_nil_iff.mpr (by simp)]
        exact ⟨by show 0 ≤ sizeLine; exact Nat.zero_le _, rfl, rfl, q⟩
  | int i =>
    refine ⟨rfl, rfl, rfl, rfl, ?_⟩
    conv => whnf
    have e : decide (i = i) = true := by simp
    rw [e]
    exact q
  | non => exact ⟨rfl, q⟩
  | bl b =>
    cases b
    · exact ⟨rfl, q⟩
    · exact ⟨rfl, q⟩
  | str x =>
    refine ⟨rfl, rfl, rfl, ?_⟩
    conv => whnf
    have e : decide (x = x) = true := by simp
    rw [e]
    exact q
  | lst _ => cases ht
  | dct b => cases ht
  | scr _ => cases ht
  | pen => cases ht
  | ins _ _ => cases ht
  | exc _ _ => cases ht

/-- rows: bundles that are tuples -/
def RwB (d : D) (bs : List D) : Prop := d = .tup bs ∧ bs.length ≤ 12 ∧ ∀ b ∈ bs, ∃ xs, b = .tup xs ∧ 1 ≤ xs.length ∧ xs.length ≤ 12
def sp__law_choices : Sp3 := fun ds Q _ => ∃ d bs, ds = [d] ∧ RwB d bs ∧ prodN (lens bs) ≤ 4096 ∧ Q (.tup ((pkL [[]] ((lens bs).map rgL)).map .tup))

def t__law_choices : RS := (rSeq (rSetL 1 (rLst (rCons (rTup rNil) rNil)))
    (rSeq (rFor (rIt (rVar 0)) (g3N 2) (rSeq (rSetL 3 (rLst rNil))
    (rSeq (rFrz 1 (rFor (rIt (rL (rListOf (rVar 1)))) (g3N 4) (rExt 3 (rL (rComp (rRange1 (rCons (rCB gLen (rCons (rVar 2) rNil)) rNil)) (g3N 5) (rC true) (rOp gAdd (rVar 4) (rTup (rCons (rVar 5) rNil))) [5])))))
    (rFrz 3 (rSetL 1 (rListOf (rVar 3)))))))
    (rFrz 1 (rRet (rCB gTuple (rCons (rVar 1) rNil))))))

theorem ext_loop {N : En3} {g : D → List D} {re : RE} {ρ0 : List D → Sl → Env3} {i j : Nat} (hset : ∀ acc x y, (ρ0 acc x).set i (.val y) = ρ0 acc (.val y)) (hget : ∀ acc x, (ρ0 acc x)[j]? = some (.own acc)) (hput : ∀ acc acc' x, (ρ0 acc x).set j (.own acc') = ρ0 acc' x) :
    ∀ (ds acc : List D) (x : Sl), (∀ acc, ∀ d ∈ ds, ∀ (Q : D → Prop) (E : XD → Prop), Q (.lst (g d)) → re (ρ0 acc (.val d)) Q E) → acc.length + (ds.map fun d => (g d).length).sum ≤ sizeLine → (∀ y, N.nx (ρ0 (acc ++ ds.flatMap g) y)) → forL (g3N i) (rExt j re) N ds (ρ0 acc x)
  | [], acc, x, _, _, q => by simpa [forL] using q x
  | d :: ds, acc, x, hre, hl, q => by
    simp only [List.map_cons, List.sum_cons] at hl
    show rExt j re _ ((ρ0 acc x).set i (.val d))
    rw [hset]
    unfold rExt
    rw [hget]
    refine hre _ d (by simp) _ _ ⟨by omega, ?_⟩
    rw [hput]
    refine ext_loop hset hget hput ds _ _ (fun acc y hy => hre acc y (by simp [hy])) (by simp only [List.length_append]; omega) ?_
    rw [List.flatMap_cons] at q
    simpa using q
theorem pl__law_choices : ∀ (ds : List D) (Q : D → Prop) (E : XD → Prop), ds.length = 1 → sp__law_choices ds Q E → t__law_choices { nx := fun _ => Q .non, rt := Q, ex := E } (start3 6 ds) := fun ds Q E hl h => by
  obtain ⟨d, bs, rfl, ⟨rfl, h12, hb⟩, hp, q⟩ := h
  refine ⟨by show 1 < 6; decide, by show 0 ≤ sizeLine; exact Nat.zero_le _, by show 1 ≤ sizeLine; decide, ?_⟩
  let I : List D → Env3 → Prop := fun l ρ => ∃ (found : List (List D)) (a b c d : Sl) (n : Nat), ρ = [.val (.tup bs), .own (found.map .tup), a, b, c, d] ∧ (∀ b ∈ l, ∃ xs, b = .tup xs ∧ 1 ≤ xs.length ∧ xs.length ≤ 12) ∧ found.length * prodN (lens l) ≤ 4096 ∧ (∀ p ∈ found, p.length = n) ∧ n + l.length ≤ 12 ∧ Q (.tup ((pkL found ((lens l).map rgL)).map .tup))
  refine for_inv I (fun d l ρ K hI hK => ?_) (fun ρ hI => ?_) _ _ ⟨[[]], .emp, .emp, .emp, .emp, 0, rfl, hb, by simpa using hp, by simp, by omega, q⟩
  · obtain ⟨found, a, b, c, d', n, rfl, hr, hbd, hn, hnr, q⟩ := hI
    obtain ⟨xs, rfl, hx1, hx2⟩ := hr d (by simp)
    have hpr := prodN_pos (ns := lens l) (fun m hm => by
      obtain ⟨y, hy, rfl⟩ := List.mem_map.mp hm
      obtain ⟨ys, rfl, h1, _⟩ := hr y (by simp [hy])
      exact h1)
    have hb2 : (found.length * xs.length) * prodN (lens l) ≤ 4096 := by
      rw [Nat.mul_assoc]
      exact hbd
    have hb3 : found.length * xs.length ≤ 4096 := Nat.le_trans (Nat.le_mul_of_pos_right _ hpr) hb2
    have hb4 : found.length ≤ 4096 := Nat.le_trans (Nat.le_mul_of_pos_right _ hx1) hb3
    have er : (found.flatMap fun p => (rgL xs.length).map fun i => p ++ [i]).map D.tup = (found.map D.tup).flatMap fun d => match d with | .tup p => (rgL xs.length).map fun y => D.tup (p ++ [y]) | _ => [] := by
      rw [List.flatMap_map, List.map_flatMap]
      congr 1
      funext p
      rw [List.map_map]
      rfl
    refine ⟨by show 3 < 6; decide, by show 0 ≤ sizeLine; exact Nat.zero_le _, by rw [List.length_map]; exact le_size (by omega), ?_⟩
    simp only [List.length_cons] at hnr
    refine ext_loop (g := fun d => match d with | .tup p => (rgL xs.length).map fun y => D.tup (p ++ [y]) | _ => []) (ρ0 := fun acc x => [.val (.tup bs), .val (.lst (found.map .tup)), .val (.tup xs), .own acc, x, d']) (i := 4) (j := 3) (fun _ _ _ => rfl) (fun _ _ => rfl) (fun _ _ _ => rfl) (found.map .tup) [] c (fun acc y hy Q E q => ?_) ?_ (fun y => ?_)
    · obtain ⟨p, hp, rfl⟩ := List.mem_map.mp hy
      refine ⟨⟨by omega, by omega⟩, ?_⟩
      have e0 : ((xs.length : Nat) : Int).toNat = xs.length := by omega
      show (rangeD 0 ((xs.length : Nat) : Int).toNat).length ≤ _ ∧ compL _ _ _ _ _ _ (rangeD 0 ((xs.length : Nat) : Int).toNat) _
      rw [e0]
      refine ⟨by rw [rangeD_len]; exact le_size (by omega), comp_map (f := fun y => .tup (p ++ [y])) _ (fun z hz K k => ⟨by show 1 ≤ sizeLine; decide, ?_, k⟩) q⟩
      show p.length + 1 ≤ sizeLine
      rw [hn p hp]
      exact le_size (by omega)
    · rw [sum_const _ xs.length (found.map D.tup) (fun y hy => ?_), List.length_map, List.length_nil, Nat.zero_add]
      · exact le_size (by omega)
      · obtain ⟨p, hp, rfl⟩ := List.mem_map.mp hy
        show ((rgL xs.length).map fun y => D.tup (p ++ [y])).length = _
        rw [List.length_map, rgl_len]
    · rw [List.nil_append, ← er]
      refine ⟨by show 1 < 6; decide, ?_, hK _ ⟨_, _, _, _, _, n + 1, rfl, fun b hb => hr b (by simp [hb]), ?_, pk_mem hn, by omega, q⟩⟩
      · rw [List.length_map, len_step, rgl_len]
        exact le_size (by omega)
      · rw [len_step, rgl_len]
        exact hb2
  · obtain ⟨found, a, b, c, d', n, rfl, hr, hbd, hn, hnr, q⟩ := hI
    exact q

def sp__law_forks : Sp3 := fun ds Q _ => ∃ d bs, ds = [d] ∧ RwB d bs ∧ prodN ((lens bs).map pairN) ≤ 4096 ∧ Q (.tup ((pkL [[]] ((lens bs).map prL)).map .tup))

def t__law_forks : RS := (rSeq (rSetL 1 (rLst (rCons (rTup rNil) rNil)))
    (rSeq (rFor (rIt (rVar 0)) (g3N 2) (rSeq (rParLL 3 4 (rLst rNil) (rLst rNil))
    (rSeq (rFor (rRange1 (rCons (rCB gLen (rCons (rVar 2) rNil)) rNil)) (g3N 5) (rExt 4 (rL (rComp (rRange1 (rCons (rCB gLen (rCons (rVar 2) rNil)) rNil)) (g3N 6) (rOr (rTV (rOp gNe (rVar 6) (rVar 5))) (rTV (rOp gEq (rCB gLen (rCons (rVar 2) rNil)) (rC (.int 1))))) (rTup (rCons (rVar 5) (rCons (rVar 6) rNil))) [6]))))
    (rSeq (rFrz 1 (rFor (rIt (rL (rListOf (rVar 1)))) (g3N 7) (rFrz 4 (rExt 3 (rL (rComp (rIt (rVar 4)) (g3N 8) (rC true) (rOp gAdd (rVar 7) (rTup (rCons (rVar 8) rNil))) [8]))))))
    (rFrz 3 (rSetL 1 (rListOf (rVar 3))))))))
    (rFrz 1 (rRet (rCB gTuple (rCons (rVar 1) rNil))))))

/-- the pairs, as the law makes them -/
def lpD (n : Nat) (u : D) : List D := ((rangeD 0 n).filter fun d => match u, d with | .int a, .int b => !decide (b = a) || decide (((n : Nat) : Int) = 1) | _, _ => false).map fun d => .tup [u, d]
theorem fm_congr {f g : D → List D} : ∀ {l : List D}, (∀ x ∈ l, f x = g x) → l.flatMap f = l.flatMap g
  | [], _ => rfl
  | x :: l, h => by rw [List.flatMap_cons, List.flatMap_cons, h x (by simp), fm_congr fun y hy => h y (by simp [hy])]
theorem lp_eq {n : Nat} (h1 : 1 ≤ n) (h12 : n ≤ 12) : (rangeD 0 n).flatMap (lpD n) = prL n := by
  unfold prL
  by_cases e : n = 1
  · subst e
    rfl
  · rw [if_neg e]
    refine fm_congr fun u hu => ?_
    unfold lpD
    congr 1
    refine List.filter_congr fun d hd => ?_
    obtain ⟨i, rfl⟩ := rd_mem hu
    obtain ⟨j, rfl⟩ := rd_mem hd
    have e2 : decide (((n : Nat) : Int) = 1) = false := decide_eq_false (by omega)
    show (!decide (j = i) || decide (((n : Nat) : Int) = 1)) = !decide (i = j)
    rw [e2, Bool.or_false]
    exact congrArg Bool.not (decide_eq_decide.mpr ⟨fun h => h.symm, fun h => h.symm⟩)
theorem pl__law_forks : ∀ (ds : List D) (Q : D → Prop) (E : XD → Prop), ds.length = 1 → sp__law_forks ds Q E → t__law_forks { nx := fun _ => Q .non, rt := Q, ex := E } (start3 9 ds) := fun ds Q E hl h => by
  obtain ⟨d, bs, rfl, ⟨rfl, h12, hb⟩, hp, q⟩ := h
  refine ⟨by show 1 < 9; decide, by show 0 ≤ sizeLine; exact Nat.zero_le _, by show 1 ≤ sizeLine; decide, ?_⟩
  let I : List D → Env3 → Prop := fun l ρ => ∃ (found : List (List D)) (a b c d e f g : Sl) (n : Nat), ρ = [.val (.tup bs), .own (found.map .tup), a, b, c, d, e, f, g] ∧ (∀ b ∈ l, ∃ xs, b = .tup xs ∧ 1 ≤ xs.length ∧ xs.length ≤ 12) ∧ found.length * prodN ((lens l).map pairN) ≤ 4096 ∧ (∀ p ∈ found, p.length = n) ∧ n + l.length ≤ 12 ∧ Q (.tup ((pkL found ((lens l).map prL)).map .tup))
  refine for_inv I (fun d l ρ K hI hK => ?_) (fun ρ hI => ?_) _ _ ⟨[[]], .emp, .emp, .emp, .emp, .emp, .emp, .emp, 0, rfl, hb, by simpa using hp, by simp, by omega, q⟩
  · obtain ⟨found, a, b, c, d', e, f, g, n, rfl, hr, hbd, hn, hnr, q⟩ := hI
    obtain ⟨xs, rfl, hx1, hx2⟩ := hr d (by simp)
    have hpr := prodN_pos (ns := (lens l).map pairN) (fun m hm => by
      obtain ⟨y, hy, rfl⟩ := List.mem_map.mp hm
      exact Nat.le_max_left _ _)
    have hb2 : (found.length * pairN xs.length) * prodN ((lens l).map pairN) ≤ 4096 := by
      rw [Nat.mul_assoc]
      exact hbd
    have hb3 : found.length * pairN xs.length ≤ 4096 := Nat.le_trans (Nat.le_mul_of_pos_right _ hpr) hb2
    have hb4 : found.length ≤ 4096 := Nat.le_trans (Nat.le_mul_of_pos_right _ (Nat.le_max_left _ _)) hb3
    have er : (found.flatMap fun p => (prL xs.length).map fun i => p ++ [i]).map D.tup = (found.map D.tup).flatMap fun d => match d with | .tup p => (prL xs.length).map fun y => D.tup (p ++ [y]) | _ => [] := by
      rw [List.flatMap_map, List.map_flatMap]
      congr 1
      funext p
      rw [List.map_map]
      rfl
    have hpl : (prL xs.length).length ≤ 132 := by rw [prL_len hx1 hx2]; exact pairN_le hx2
    have e0 : ((xs.length : Nat) : Int).toNat = xs.length := by omega
    simp only [List.length_cons] at hnr
    refine ⟨⟨by show 3 < 9; decide, by show 4 < 9; decide⟩, by show 0 ≤ sizeLine; exact Nat.zero_le _, by show 0 ≤ sizeLine; exact Nat.zero_le _, ⟨by omega, by omega⟩, ?_⟩
    show forL _ _ _ (rangeD 0 ((xs.length : Nat) : Int).toNat) _
    rw [e0]
    refine ext_loop (g := lpD xs.length) (ρ0 := fun acc x => [.val (.tup bs), .own (found.map .tup), .val (.tup xs), .own [], .own acc, x, e, f, g]) (i := 5) (j := 4) (fun _ _ _ => rfl) (fun _ _ => rfl) (fun _ _ _ => rfl) (rangeD 0 xs.length) [] d' (fun acc y hy Q E q => ?_) ?_ (fun y => ?_)
    · obtain ⟨i, rfl⟩ := rd_mem hy
      refine ⟨⟨by omega, by omega⟩, ?_⟩
      show (rangeD 0 ((xs.length : Nat) : Int).toNat).length ≤ _ ∧ compL _ _ _ _ _ _ (rangeD 0 ((xs.length : Nat) : Int).toNat) _
      rw [e0]
      refine ⟨by rw [rangeD_len]; exact le_size (by omega), comp_fm (p := fun d => match (D.int i), d with | .int a, .int b => !decide (b = a) || decide (((xs.length : Nat) : Int) = 1) | _, _ => false) (f := fun d => .tup [.int i, d]) _ [] (fun z hz => ⟨fun K k => ?_, fun _ K k => ⟨by show 2 ≤ sizeLine; decide, k⟩⟩) q⟩
      obtain ⟨j, rfl⟩ := rd_mem hz
      conv => whnf
      split
      · rename_i e1
        have k : K (!decide (j = i) || decide (((xs.length : Nat) : Int) = 1)) := k
        rw [e1, Bool.true_or] at k
        exact k
      · rename_i e1
        have k : K (!decide (j = i) || decide (((xs.length : Nat) : Int) = 1)) := k
        rw [e1, Bool.false_or] at k
        exact k
    · refine Nat.le_trans (m := 12 * 12) ?_ (by decide)
      rw [List.length_nil, Nat.zero_add]
      refine Nat.le_trans (sum_le _ 12 _ fun u _ => ?_) (Nat.mul_le_mul (by rw [rangeD_len]; exact hx2) (Nat.le_refl _))
      unfold lpD
      rw [List.length_map]
      exact Nat.le_trans (List.length_filter_le _ _) (by rw [rangeD_len]; exact hx2)
    · rw [List.nil_append, lp_eq hx1 hx2]
      refine ⟨by rw [List.length_map]; exact le_size (by omega), ?_⟩
      have key : ∀ (N : En3) (ds : List D) (acc : List D) (x w : Sl) (pr : Sl), (pr = .own (prL xs.length) ∨ pr = .val (.lst (prL xs.length))) → (∀ d ∈ ds, ∃ p ∈ found, d = .tup p) → acc.length + (ds.map fun _ => (prL xs.length).length).sum ≤ sizeLine →
          (∀ x w pr, N.nx [.val (.tup bs), .val (.lst (found.map .tup)), .val (.tup xs), .own (acc ++ ds.flatMap fun d => match d with | .tup p => (prL xs.length).map fun y => D.tup (p ++ [y]) | _ => []), pr, x, e, w, g]) →
          forL (g3N 7) (rFrz 4 (rExt 3 (rL (rComp (rIt (rVar 4)) (g3N 8) (rC true) (rOp gAdd (rVar 7) (rTup (rCons (rVar 8) rNil))) [8])))) N ds [.val (.tup bs), .val (.lst (found.map .tup)), .val (.tup xs), .own acc, pr, x, e, w, g] := by
        intro N ds
        induction ds with
        | nil =>
          intro acc x w pr _ _ _ q
          simpa [forL] using q x w pr
        | cons d ds ih =>
          intro acc x w pr hpr' hds hsum q
          obtain ⟨p, hp, rfl⟩ := hds d (by simp)
          simp only [List.map_cons, List.sum_cons] at hsum
          rcases hpr' with rfl | rfl
          all_goals
            refine ⟨le_size (by omega), comp_map (f := fun y => .tup (p ++ [y])) _ (fun z hz K k => ⟨by show 1 ≤ sizeLine; decide, ?_, k⟩) ⟨by rw [List.length_map]; omega, ?_⟩⟩
            · show p.length + 1 ≤ sizeLine
              rw [hn p hp]
              exact le_size (by omega)
            · refine ih _ _ _ _ (.inr rfl) (fun d hd => hds d (by simp [hd])) (by rw [List.length_append, List.length_map]; omega) (fun x w pr => ?_)
              have := q x w pr
              rw [List.flatMap_cons] at this
              simpa using this
      refine key _ (found.map .tup) [] _ _ _ (.inl rfl) (fun d hd => by
        obtain ⟨p, hp, rfl⟩ := List.mem_map.mp hd
        exact ⟨p, hp, rfl⟩) ?_ (fun x w pr => ?_)
      · rw [sum_const _ (prL xs.length).length (found.map D.tup) (fun _ _ => rfl), List.length_map, List.length_nil, Nat.zero_add, prL_len hx1 hx2]
        exact le_size (by omega)
      · rw [List.nil_append, ← er]
        refine ⟨by show 1 < 9; decide, ?_, hK _ ⟨_, _, _, _, _, _, _, _, n + 1, rfl, fun b hb => hr b (by simp [hb]), ?_, pk_mem hn, by omega, q⟩⟩
        · rw [List.length_map, len_step, prL_len hx1 hx2]
          exact le_size (by omega)
        · rw [len_step, prL_len hx1 hx2]
          exact hb2
  · obtain ⟨found, a, b, c, d', e, f, g, n, rfl, hr, hbd, hn, hnr, q⟩ := hI
    exact q

def sp__law_made : Sp3 := fun ds Q E => ∃ d, ds = [d] ∧ sp_Frame___init__ [d] (fun fs => Q (.ins "Frame" fs)) E

def t__law_made : RS := (rRet (rMake 1 "Frame" sp_Frame___init__ (rCons (rVar 0) rNil)))

theorem pl__law_made : ∀ (ds : List D) (Q : D → Prop) (E : XD → Prop), ds.length = 1 → sp__law_made ds Q E → t__law_made { nx := fun _ => Q .non, rt := Q, ex := E } (start3 1 ds) := fun ds Q E hl h => by
  obtain ⟨d, rfl, h⟩ := h
  exact ⟨rfl, h⟩

abbrev tmF (w m l : D) : List (Str × D) := [(("limit" : Str), l), (("many" : Str), m), (("what" : Str), w)]
def sp__law_more_kinds : XD → (D → Prop) → Prop := fun y Q => y.cls = "TooMany" ∧ ∃ w m l, y.fs = tmF w m l ∧ Q (.lst [.tup [.str "many", w, m, l]])

def t__law_more_kinds : RS := (rSeq (rSetL 1 (rLst rNil))
    (rSeq (rIf (rTV (rIsX excN (· == "NoPlace") (rVar 0))) (rApp 1 (rTup (rCons (rC (.str "place")) (rCons rNever rNil)))) rNext)
    (rSeq (rIf (rTV (rIsX excN (· == "NoRow") (rVar 0))) (rApp 1 (rTup (rCons (rC (.str "norow")) (rCons rNever (rCons rNever rNil))))) rNext)
    (rSeq (rIf (rTV (rIsX excN (· == "NoWall") (rVar 0))) (rApp 1 (rTup (rCons (rC (.str "wall")) (rCons rNever rNil)))) rNext)
    (rSeq (rIf (rTV (rIsX excN (· == "NoName") (rVar 0))) (rApp 1 (rTup (rCons (rC (.str "noname")) (rCons rNever rNil)))) rNext)
    (rSeq (rIf (rTV (rIsX excN (· == "TakenName") (rVar 0))) (rApp 1 (rTup (rCons (rC (.str "taken")) (rCons rNever rNil)))) rNext)
    (rSeq (rIf (rTV (rIsX excN (· == "Unlike") (rVar 0))) (rApp 1 (rTup (rCons (rC (.str "unlike")) (rCons rNever rNil)))) rNext)
    (rSeq (rIf (rTV (rIsX excN (· == "Flat") (rVar 0))) (rApp 1 (rTup (rCons (rC (.str "flat")) (rCons rNever rNil)))) rNext)
    (rSeq (rIf (rTV (rIsX excN (· == "NotOnce") (rVar 0))) (rApp 1 (rTup (rCons (rC (.str "once")) (rCons rNever rNil)))) rNext)
    (rSeq (rIf (rTV (rIsX excN (· == "NotPlain") (rVar 0))) (rApp 1 (rTup (rCons (rC (.str "plain")) (rCons rNever rNil)))) rNext)
    (rSeq (rIf (rTV (rIsX excN (· == "TooMany") (rVar 0))) (rApp 1 (rTup (rCons (rC (.str "many")) (rCons (rXf "TooMany" "what" (rVar 0)) (rCons (rXf "TooMany" "many" (rVar 0)) (rCons (rXf "TooMany" "limit" (rVar 0)) rNil)))))) rNext)
    (rSeq (rIf (rTV (rIsX excN (· == "NotKept") (rVar 0))) (rApp 1 (rTup (rCons (rC (.str "kept")) (rCons rNever (rCons rNever rNil))))) rNext)
    (rSeq (rIf (rTV (rIsX excN (· == "NothingToUndo") (rVar 0))) (rApp 1 (rTup (rCons (rC (.str "undo")) rNil))) rNext)
    (rSeq (rIf (rTV (rIsX excN (· == "NothingToRedo") (rVar 0))) (rApp 1 (rTup (rCons (rC (.str "redo")) rNil))) rNext)
    (rFrz 1 (rRet (rVar 1)))))))))))))))))

theorem tm_mem : ("TooMany" : Str) ∈ excN := by decide +kernel
theorem pl__law_more_kinds : ∀ (x : XD) (Q : D → Prop), sp__law_more_kinds x Q → t__law_more_kinds { nx := fun _ => Q .non, rt := Q, ex := fun _ => False } (start3 2 [.exc x.cls x.fs]) := fun x Q h => by
  obtain ⟨c, fs⟩ := x
  obtain ⟨hc, w, m, l, hf, q⟩ := h
  have hc : c = "TooMany" := hc
  have hf : fs = tmF w m l := hf
  subst hc hf
  have M := tm_mem
  refine ⟨by show 1 < 2; decide, by show 0 ≤ sizeLine; exact Nat.zero_le _, M, M, M, M, M, M, M, M, M, M, ?_⟩
  refine ⟨rfl, rfl, rfl, by show 4 ≤ sizeLine; decide, by show 0 < sizeLine; decide, M, M, M, q⟩

def sp__law_kinds : XD → (D → Prop) → Prop := sp__law_more_kinds

def t__law_kinds : RS := (rSeq (rSetL 1 (rLst rNil))
    (rSeq (rIf (rTV (rIsX excN (· == "BadNumber") (rVar 0))) (rApp 1 (rTup (rCons (rC (.str "number")) (rCons rNever (rCons rNever rNil))))) rNext)
    (rSeq (rIf (rTV (rIsX excN (· == "BadRow") (rVar 0))) (rApp 1 (rTup (rCons (rC (.str "row")) (rCons rNever (rCons rNever rNil))))) rNext)
    (rSeq (rIf (rTV (rIsX excN (· == "BadTable") (rVar 0))) (rApp 1 (rTup (rCons (rC (.str "table")) (rCons rNever rNil)))) rNext)
    (rSeq (rIf (rTV (rIsX excN (· == "BadFrame") (rVar 0))) (rApp 1 (rTup (rCons (rC (.str "frame")) (rCons rNever (rCons rNever rNil))))) rNext)
    (rSeq (rIf (rTV (rIsX excN (· == "BadLoad") (rVar 0))) (rApp 1 (rTup (rCons (rC (.str "load")) (rCons rNever rNil)))) rNext)
    (rSeq (rIf (rTV (rIsX excN (· == "BadNet") (rVar 0))) (rApp 1 (rTup (rCons (rC (.str "net")) (rCons rNever (rCons rNever rNil))))) rNext)
    (rSeq (rIf (rTV (rIsX excN (· == "BadHouse") (rVar 0))) (rApp 1 (rTup (rCons (rC (.str "house")) (rCons rNever (rCons rNever rNil))))) rNext)
    (rSeq (rIf (rTV (rIsX excN (· == "BadWeb") (rVar 0))) (rApp 1 (rTup (rCons (rC (.str "web")) (rCons rNever (rCons rNever rNil))))) rNext)
    (rSeq (rIf (rTV (rIsX excN (· == "BadName") (rVar 0))) (rApp 1 (rTup (rCons (rC (.str "badname")) (rCons rNever rNil)))) rNext)
    (rSeq (rIf (rTV (rIsX excN (· == "BadText") (rVar 0))) (rApp 1 (rTup (rCons (rC (.str "text")) (rCons rNever (rCons rNever rNil))))) rNext)
    (rFrz 1 (rRet (rOp gAdd (rVar 1) (rCallP sp__law_more_kinds (rVar 0))))))))))))))))

theorem pl__law_kinds : ∀ (x : XD) (Q : D → Prop), sp__law_kinds x Q → t__law_kinds { nx := fun _ => Q .non, rt := Q, ex := fun _ => False } (start3 2 [.exc x.cls x.fs]) := fun x Q h => by
  obtain ⟨c, fs⟩ := x
  obtain ⟨hc, w, m, l, hf, q⟩ := h
  have hc : c = "TooMany" := hc
  have hf : fs = tmF w m l := hf
  subst hc hf
  have M := tm_mem
  refine ⟨by show 1 < 2; decide, by show 0 ≤ sizeLine; exact Nat.zero_le _, M, M, M, M, M, M, M, M, M, M, ?_⟩
  exact ⟨rfl, w, m, l, rfl, by show 0 + 1 ≤ sizeLine; decide, q⟩

def ft__law_fault : XD → (D → Prop) → Prop := fun y Q => y.cls = "TooMany" ∧ ∃ w m l, y.fs = tmF w m l ∧ (nxD w = true ∧ nxD m = true ∧ nxD l = true) ∧ Q (.tup [.str "many", w, m, l])

def t__law_fault : RS := (rSeq (rSet 1 (rCallP sp__law_kinds (rVar 2)))
    (rSet 1 (rIte (rAnd (rTV (rOp gEq (rCB gLen (rCons (rVar 1) rNil)) (rC (.int 1)))) (rTV (rIsX excN (fun _ => true) (rVar 2)))) (rOp gIx (rVar 1) (rC (.int 0))) (rTup (rCons (rC (.str "several")) (rCons (rCB gLen (rCons (rVar 1) rNil)) rNil))))))

theorem ft__law_fault_cls : ∀ y Q, ft__law_fault y Q → y.cls ∈ excN := fun y Q h => by
  rw [h.1]
  exact tm_mem
theorem pl__law_fault : ∀ (y : XD) (Q : D → Prop), ft__law_fault y Q → t__law_fault { nx := fun ρ => ∃ d, (ρ[1]? : Option Sl) = some (.val d) ∧ nxD d = true ∧ Q d, rt := fun _ => False, ex := fun _ => False } [.emp, .emp, .val (.exc y.cls y.fs)] := fun y Q h => by
  obtain ⟨c, fs⟩ := y
  obtain ⟨hc, w, m, l, hf, ⟨n1, n2, n3⟩, q⟩ := h
  have hc : c = "TooMany" := hc
  have hf : fs = tmF w m l := hf
  subst hc hf
  refine ⟨rfl, w, m, l, rfl, tm_mem, _, rfl, ?_, q⟩
  show (true && (nxD w && (nxD m && (nxD l && true)))) = true
  rw [n1, n2, n3]
  rfl

def unitD (n : Nat) : D := .tup (.int 1 :: List.replicate (n - 1) (.int 0))
def rowsD (ns : List Nat) : List D := ns.map fun c => .tup (List.replicate c (unitD ns.length))
def sp__law_rows_of : Sp3 := fun ds Q _ => ∃ ns : List Nat, ds = [.tup (ns.map fun n => .int (n : Nat))] ∧ 1 ≤ ns.length ∧ ns.length ≤ 12 ∧ (∀ n ∈ ns, n ≤ 12) ∧ Q (.tup (rowsD ns))

def t__law_rows_of : RS := (rSeq (rSet 1 (rCB gLen (rCons (rVar 0) rNil)))
    (rSeq (rSet 2 (rOp gAdd (rTup (rCons (rC (.int 1)) rNil)) (rOp gMul (rTup (rCons (rC (.int 0)) rNil)) (rOp gSub (rVar 1) (rC (.int 1))))))
    (rRet (rCB gTuple (rCons (rL (rComp (rIt (rVar 0)) (g3N 3) (rC true) (rOp gMul (rTup (rCons (rVar 2) rNil)) (rVar 3)) [3])) rNil)))))

theorem rep_flat (n : Nat) (d : D) : (List.replicate n [d]).flatten = List.replicate n d := by
  induction n with
  | zero => rfl
  | succ n ih => rw [List.replicate_succ, List.flatten_cons, ih, List.replicate_succ]; rfl
theorem pl__law_rows_of : ∀ (ds : List D) (Q : D → Prop) (E : XD → Prop), ds.length = 1 → sp__law_rows_of ds Q E → t__law_rows_of { nx := fun _ => Q .non, rt := Q, ex := E } (start3 4 ds) := fun ds Q E hl h => by
  obtain ⟨ns, rfl, h1, h12, hn, q⟩ := h
  have el : (ns.map fun n => D.int (n : Nat)).length = ns.length := List.length_map _
  refine ⟨by show 1 ≤ sizeLine; decide, by show 1 ≤ sizeLine; decide, ⟨by simp, ?_, ?_, by show 1 ≤ 1000; decide⟩, ?_⟩
  · show (-1000 : Int) ≤ (((ns.map fun n => D.int (n : Nat)).length : Nat) : Int) - 1
    omega
  · show (((ns.map fun n => D.int (n : Nat)).length : Nat) : Int) - 1 ≤ 1000
    omega
  · have ek : ((((ns.map fun n => D.int (n : Nat)).length : Nat) : Int) - 1).toNat = ns.length - 1 := by omega
    show 1 + (List.replicate ((((ns.map fun n => D.int (n : Nat)).length : Nat) : Int) - 1).toNat [D.int 0]).flatten.length ≤ sizeLine ∧ _
    rw [ek, rep_flat]
    refine ⟨by rw [List.length_replicate]; exact le_size (by omega), ?_⟩
    show (ns.map fun n => D.int (n : Nat)).length ≤ sizeLine ∧ compL _ _ _ _ _ _ _ _
    refine ⟨by rw [el]; exact le_size (by omega), comp_map (f := fun d => match d with | .int c => .tup (List.replicate c.toNat (unitD ns.length)) | _ => .non) _ (fun y hy K k => ?_) ?_⟩
    · obtain ⟨n, hm, rfl⟩ := List.mem_map.mp hy
      have := hn n hm
      refine ⟨by show 1 ≤ sizeLine; decide, ⟨by simp, by omega, by omega, by show 1 ≤ 1000; decide⟩, ?_⟩
      show K (.tup (List.replicate ((n : Nat) : Int).toNat [unitD ns.length]).flatten)
      rw [rep_flat]
      exact k
    · have e : ((ns.map fun n => D.int (n : Nat)).map fun d => match d with | .int c => D.tup (List.replicate c.toNat (unitD ns.length)) | _ => .non) = rowsD ns := by
        rw [List.map_map]
        rfl
      show Q (.tup ((ns.map fun n => D.int (n : Nat)).map fun d => match d with | .int c => D.tup (List.replicate c.toNat (unitD ns.length)) | _ => .non))
      rw [e]
      exact q

def sp__law_many : Sp3 := fun ds Q _ => ∃ ns : List Nat, ds = [.tup (ns.map fun n => .int (n : Nat))] ∧ (∀ n ∈ ns, 1 ≤ n ∧ n ≤ 12) ∧ Q (.tup [.int (prodN ns : Nat), .int (prodN (ns.map pairN) : Nat)])

def t__law_many : RS := (rSeq (rAsg (g3Tup 2 (g3Cons (g3N 1) (g3Cons (g3N 2) g3Nil))) (rTup (rCons (rC (.int 1)) (rCons (rC (.int 1)) rNil))))
    (rSeq (rFor (rIt (rVar 0)) (g3N 3) (rPar 1 2 (rCons (rOp gMul (rVar 1) (rVar 3)) (rCons (rOp gMul (rVar 2) (rCB gMax2 (rCons (rC (.int 1)) (rCons (rOp gMul (rVar 3) (rOp gSub (rVar 3) (rC (.int 1)))) rNil)))) rNil))))
    (rRet (rTup (rCons (rVar 1) (rCons (rVar 2) rNil))))))

theorem pl__law_many : ∀ (ds : List D) (Q : D → Prop) (E : XD → Prop), ds.length = 1 → sp__law_many ds Q E → t__law_many { nx := fun _ => Q .non, rt := Q, ex := E } (start3 4 ds) := fun ds Q E hl h => by
  obtain ⟨ns, rfl, hn, q⟩ := h
  refine ⟨by show 2 ≤ sizeLine; decide, rfl, ?_⟩
  let I : List D → Env3 → Prop := fun l ρ => ∃ (rest : List Nat) (a b : Nat) (c : Sl), l = rest.map (fun n => .int (n : Nat)) ∧ ρ = [.val (.tup (ns.map fun n => .int (n : Nat))), .val (.int (a : Nat)), .val (.int (b : Nat)), c] ∧ (∀ n ∈ rest, 1 ≤ n ∧ n ≤ 12) ∧ Q (.tup [.int ((a * prodN rest : Nat)), .int ((b * prodN (rest.map pairN) : Nat))])
  refine for_inv I (fun d l ρ K hI hK => ?_) (fun ρ hI => ?_) _ _ ⟨ns, 1, 1, .emp, rfl, rfl, hn, by rw [Nat.one_mul, Nat.one_mul]; exact q⟩
  · obtain ⟨rest, a, b, c, el, rfl, hr, q⟩ := hI
    cases rest with
    | nil => cases el
    | cons n rest =>
      cases el
      have hb := hr n (by simp)
      have hp := pairN_le hb.2
      refine ⟨CMul.ok (.inr (by omega)), CMul.ok (.inr (by omega)), ?_⟩
      refine ⟨?_, hK _ ⟨rest, a * n, b * pairN n, .val (.int (n : Nat)), rfl, ?_, fun m hm => hr m (by simp [hm]), ?_⟩⟩
      · rw [pairN_cast hb.1]
        exact CMul.ok (.inr (by omega))
      · rw [Int.natCast_mul, Int.natCast_mul, ← pairN_cast hb.1]
        rfl
      · rw [Nat.mul_assoc, Nat.mul_assoc]
        exact q
  · obtain ⟨rest, a, b, c, el, rfl, hr, q⟩ := hI
    cases rest with
    | nil =>
      rw [show a * prodN [] = a from Nat.mul_one a, show b * prodN (List.map pairN []) = b from Nat.mul_one b] at q
      exact ⟨by show 2 ≤ sizeLine; decide, q⟩
    | cons x y => cases el

def sp__law_told_right : Sp3 := fun ds Q _ => ∃ ns : List Nat, ds = [.tup (ns.map fun n => .int (n : Nat))] ∧ 1 ≤ ns.length ∧ ns.length ≤ 12 ∧ (∀ n ∈ ns, 1 ≤ n ∧ n ≤ 12) ∧ Q (.bl true)

def t__law_told_right : RS := (rSeq (rSet 1 (rCall 1 sp__law_rows_of (rCons (rVar 0) rNil)))
    (rSeq (rAsg (g3Tup 2 (g3Cons (g3N 2) (g3Cons (g3Tup 2 (g3Cons (g3N 3) (g3Cons (g3N 4) g3Nil))) g3Nil))) (rTup (rCons (rCall 1 sp__law_made (rCons (rVar 1) rNil)) (rCons (rCall 1 sp__law_many (rCons (rVar 0) rNil)) rNil))))
    (rSeq (rIf (rTV (rOp gGt (rVar 3) (rC (.int 256)))) (rIf (rTV (rOp gNe (rFault ft__law_fault (rCall 1 sp_choices (rCons (rVar 2) rNil))) (rTup (rCons (rC (.str "many")) (rCons (rC (.str "choices")) (rCons (rVar 3) (rCons (rC (.int 256)) rNil))))))) (rRet (rC (.bl false))) rNext) (rIf (rNot (rTV (rCall 2 sp__law_is (rCons (rCall 1 sp_choices (rCons (rVar 2) rNil)) (rCons (rCall 1 sp__law_choices (rCons (rVar 1) rNil)) rNil))))) (rRet (rC (.bl false))) rNext))
    (rSeq (rIf (rTV (rOp gGt (rVar 4) (rC (.int 64)))) (rRet (rOp gEq (rFault ft__law_fault (rCall 1 sp_forks (rCons (rVar 2) rNil))) (rTup (rCons (rC (.str "many")) (rCons (rC (.str "forks")) (rCons (rVar 4) (rCons (rC (.int 64)) rNil))))))) rNext)
    (rRet (rCall 2 sp__law_is (rCons (rCall 1 sp_forks (rCons (rVar 2) rNil)) (rCons (rCall 1 sp__law_forks (rCons (rVar 1) rNil)) rNil))))))))

theorem pk_ok {P : D → Prop} : ∀ (ls found : List (List D)) (n : Nat), (∀ p ∈ found, p.length = n ∧ ∀ x ∈ p, P x) → (∀ l ∈ ls, ∀ x ∈ l, P x) → ∀ p ∈ pkL found ls, p.length = n + ls.length ∧ ∀ x ∈ p, P x
  | [], found, n, hf, _, p, hp => by simpa using hf p hp
  | l :: ls, found, n, hf, hl, p, hp => by
    have := pk_ok ls (found.flatMap fun p => l.map fun i => p ++ [i]) (n + 1) (fun q hq => by
      obtain ⟨a, ha, hq⟩ := List.mem_flatMap.mp hq
      obtain ⟨i, hi, rfl⟩ := List.mem_map.mp hq
      obtain ⟨h1, h2⟩ := hf a ha
      refine ⟨by rw [List.length_append, h1]; rfl, fun x hx => ?_⟩
      rcases (List.mem_append.mp hx) with hx | hx
      · exact h2 x hx
      · rw [List.mem_singleton.mp hx]
        exact hl l (by simp) i hi) (fun m hm => hl m (by simp [hm])) p hp
    refine ⟨?_, this.2⟩
    rw [this.1, List.length_cons]
    omega
theorem pk_len : ∀ (ls found : List (List D)), (pkL found ls).length = found.length * prodN (ls.map List.length)
  | [], found => by simp [pkL, prodN]
  | l :: ls, found => by
    show (pkL (found.flatMap fun p => l.map fun i => p ++ [i]) ls).length = _
    rw [pk_len ls, len_step, Nat.mul_assoc]
    rfl
theorem dpDs_le {n : Nat} : ∀ {ds : List D}, (∀ d ∈ ds, dpD d ≤ n) → dpDs ds ≤ n
  | [], _ => Nat.zero_le _
  | d :: ds, h => Nat.max_le.mpr ⟨h d (by simp), dpDs_le fun x hx => h x (by simp [hx])⟩
theorem pk_ti {ls : List (List D)} (hl : ∀ l ∈ ls, ∀ x ∈ l, tiD x = true ∧ dpD x ≤ 1) (h12 : ls.length ≤ 12) (hp : prodN (ls.map List.length) ≤ 4096) : tiD (.tup ((pkL [[]] ls).map .tup)) = true ∧ dpD (.tup ((pkL [[]] ls).map .tup)) < 8 := by
  have h := pk_ok (P := fun x => tiD x = true ∧ dpD x ≤ 1) ls [[]] 0 (fun p hp => by
    rw [List.mem_singleton.mp hp]
    exact ⟨rfl, fun x hx => by cases hx⟩) hl
  constructor
  · unfold tiD
    rw [decide_eq_true (by rw [List.length_map, pk_len]; simp only [List.length_singleton, Nat.one_mul]; omega), Bool.true_and]
    refine tiDs_of fun d hd => ?_
    obtain ⟨p, hp, rfl⟩ := List.mem_map.mp hd
    obtain ⟨h1, h2⟩ := h p hp
    unfold tiD
    rw [decide_eq_true (by omega), Bool.true_and]
    exact tiDs_of fun x hx => (h2 x hx).1
  · unfold dpD
    have : dpDs ((pkL [[]] ls).map .tup) ≤ 2 := dpDs_le fun d hd => by
      obtain ⟨p, hp, rfl⟩ := List.mem_map.mp hd
      unfold dpD
      have := dpDs_le (n := 1) fun x hx => ((h p hp).2 x hx).2
      omega
    omega
theorem rgL_ti {n : Nat} : ∀ x ∈ rgL n, tiD x = true ∧ dpD x ≤ 1 := fun x hx => by
  obtain ⟨i, rfl⟩ := rd_mem hx
  exact ⟨rfl, Nat.zero_le _⟩
theorem prL_ti {n : Nat} (h1 : 1 ≤ n) (h12 : n ≤ 12) : ∀ x ∈ prL n, tiD x = true ∧ dpD x ≤ 1 := fun x hx => by
  unfold prL at hx
  split at hx
  · rw [List.mem_singleton.mp hx]
    exact ⟨rfl, Nat.le_refl _⟩
  · obtain ⟨u, hu, hx⟩ := List.mem_flatMap.mp hx
    obtain ⟨d, hd, rfl⟩ := List.mem_map.mp hx
    obtain ⟨i, rfl⟩ := rd_mem hu
    obtain ⟨j, rfl⟩ := rd_mem (List.mem_filter.mp hd).1
    exact ⟨rfl, Nat.le_refl _⟩
theorem lens_rows (ns : List Nat) : lens (rowsD ns) = ns := by
  unfold lens rowsD
  rw [List.map_map]
  refine (List.map_congr_left fun n _ => ?_).trans (List.map_id ns)
  show (List.replicate n (unitD ns.length)).length = n
  rw [List.length_replicate]
theorem rowsD_mem {ns : List Nat} {b : D} (h : b ∈ rowsD ns) : ∃ c, c ∈ ns ∧ b = .tup (List.replicate c (unitD ns.length)) := by
  obtain ⟨c, hc, rfl⟩ := List.mem_map.mp h
  exact ⟨c, hc, rfl⟩
theorem rowsD_len (ns : List Nat) : (rowsD ns).length = ns.length := List.length_map _
section
variable {ns : List Nat} (h1 : 1 ≤ ns.length) (h12 : ns.length ≤ 12) (hn : ∀ n ∈ ns, 1 ≤ n ∧ n ≤ 12)
include h1 h12 hn
theorem unit_pl : plD (unitD ns.length) = true := plD_mkt (by rw [List.length_cons, List.length_replicate]; omega) fun x hx => by
  rcases (List.mem_cons.mp hx) with rfl | hx
  · rfl
  · rw [(List.mem_replicate.mp hx).2]
    rfl
theorem rows_pl : plD (.tup (rowsD ns)) = true := plD_mkt (by rw [rowsD_len]; omega) fun b hb => by
  obtain ⟨c, hc, rfl⟩ := rowsD_mem hb
  refine plD_mkt (by rw [List.length_replicate]; have := (hn c hc).2; omega) fun x hx => ?_
  rw [(List.mem_replicate.mp hx).2]
  exact unit_pl h1 h12 hn
omit h1 h12 hn in
theorem unit_dp (n : Nat) : dpD (unitD n) ≤ 1 := by
  unfold unitD dpD
  have : dpDs (.int 1 :: List.replicate (n - 1) (.int 0)) ≤ 0 := dpDs_le fun x hx => by
    rcases (List.mem_cons.mp hx) with rfl | hx
    · exact Nat.le_refl _
    · rw [(List.mem_replicate.mp hx).2]
      exact Nat.le_refl _
  omega
omit h1 h12 hn in
theorem rows_dp : dpD (.tup (rowsD ns)) < 8 := by
  unfold dpD
  have : dpDs (rowsD ns) ≤ 2 := dpDs_le fun b hb => by
    obtain ⟨c, hc, rfl⟩ := rowsD_mem hb
    unfold dpD
    have : dpDs (List.replicate c (unitD ns.length)) ≤ 1 := dpDs_le fun x hx => by
      rw [(List.mem_replicate.mp hx).2]
      exact unit_dp _
    omega
  omega
omit h12 hn in
theorem unit_row : isRowD (unitD ns.length) (ns.length : Nat) = true := by
  unfold isRowD unitD
  have e1 : ((itemsL (.tup (.int 1 :: List.replicate (ns.length - 1) (.int 0)))).length : Int) = (ns.length : Nat) := by
    show (((D.int 1 :: List.replicate (ns.length - 1) (D.int 0)).length : Nat) : Int) = _
    rw [List.length_cons, List.length_replicate]
    omega
  have e2 : (itemsL (.tup (.int 1 :: List.replicate (ns.length - 1) (.int 0)))).all isRatD = true := by
    show (D.int 1 :: List.replicate (ns.length - 1) (D.int 0)).all isRatD = true
    rw [List.all_eq_true]
    intro x hx
    rcases (List.mem_cons.mp hx) with rfl | hx
    · rfl
    · rw [(List.mem_replicate.mp hx).2]
      rfl
  rw [decide_eq_true e1, e2]
  rfl
theorem rows_fe : frameErr (.tup (rowsD ns)) = none := by
  have g : ∀ xs : List D, 1 ≤ xs.length → xs.length ≤ 12 → goodN (.tup xs) = true := fun xs h1 h2 => by
    unfold goodN
    show (true && (decide (1 ≤ xs.length) && decide (xs.length ≤ 12))) = true
    rw [decide_eq_true h1, decide_eq_true h2]
    rfl
  unfold frameErr
  rw [if_neg (by rw [g _ (by rw [rowsD_len]; exact h1) (by rw [rowsD_len]; exact h12)]; simp)]
  show bunsErr ((rowsD ns).length : Nat) 0 (rowsD ns) = none
  rw [rowsD_len]
  have : ∀ (bs : List D) (p : Nat), (∀ b ∈ bs, ∃ c, c ∈ ns ∧ b = .tup (List.replicate c (unitD ns.length))) → bunsErr (ns.length : Nat) p bs = none := by
    intro bs
    induction bs with
    | nil => intro p _; rfl
    | cons b bs ih =>
      intro p h
      obtain ⟨c, hc, rfl⟩ := h b (by simp)
      have e : bunErr (ns.length : Nat) p (.tup (List.replicate c (unitD ns.length))) = none := by
        unfold bunErr
        rw [if_neg (by rw [g _ (by rw [List.length_replicate]; exact (hn c hc).1) (by rw [List.length_replicate]; exact (hn c hc).2)]; simp)]
        have e2 : (itemsL (.tup (List.replicate c (unitD ns.length)))).all (fun r => isRowD r (ns.length : Nat)) = true := by
          rw [List.all_eq_true]
          intro x hx
          rw [(List.mem_replicate.mp (show x ∈ List.replicate c (unitD ns.length) from hx)).2]
          exact unit_row h1
        rw [if_neg (by rw [e2]; simp)]
      unfold bunsErr
      rw [e]
      exact ih _ fun b hb => h b (by simp [hb])
  exact this _ 0 fun b hb => rowsD_mem hb
omit h1 h12 hn in
theorem rows_tup : tupD (.tup (rowsD ns)) = .tup (rowsD ns) := by
  have rep : ∀ (n : Nat) (d : D), tupD d = d → (List.replicate n d).map tupD = List.replicate n d := fun n d h => by rw [List.map_replicate, h]
  have u : tupD (unitD ns.length) = unitD ns.length := by
    unfold unitD tupD
    rw [tupDs_map, List.map_cons, rep _ _ rfl]
    rfl
  unfold tupD
  rw [tupDs_map]
  refine congrArg D.tup ?_
  refine (List.map_congr_left fun b hb => ?_).trans (List.map_id _)
  obtain ⟨c, hc, rfl⟩ := rowsD_mem hb
  unfold tupD
  rw [tupDs_map, rep _ _ u]
  rfl
theorem rows_fr : FrB (.ins "Frame" [(("rows" : Str), .tup (rowsD ns))]) (rowsD ns) := ⟨_, rfl, rfl, by rw [rowsD_len]; exact h1, by rw [rowsD_len]; exact h12, fun b hb => by
  obtain ⟨c, hc, rfl⟩ := rowsD_mem hb
  exact ⟨_, rfl, by rw [List.length_replicate]; exact (hn c hc).1, by rw [List.length_replicate]; exact (hn c hc).2⟩⟩
theorem rows_rw : RwB (.tup (rowsD ns)) (rowsD ns) := ⟨rfl, by rw [rowsD_len]; exact h12, fun b hb => by
  obtain ⟨c, hc, rfl⟩ := rowsD_mem hb
  exact ⟨_, rfl, by rw [List.length_replicate]; exact (hn c hc).1, by rw [List.length_replicate]; exact (hn c hc).2⟩⟩
end
theorem told4 (a b : Str) (m k : Int) : eqD (.tup [.str a, .str b, .int m, .int k]) (.tup [.str a, .str b, .int m, .int k]) = true := by
  simp [eqD, pyD, pyDs, PyData.eqv, PyData.eqvAll]
theorem ok4 (a b : Str) (m k : Int) (ha : PyData.strOk a = true) (hb : PyData.strOk b = true) : okEq (.tup [.str a, .str b, .int m, .int k]) = true := by
  simp [okEq, pyD, pyDs, SeqAt.shaped, PyData.canLay0, PyData.canLayAll0, PyData.depth, PyData.depthAll, ha, hb]
theorem pl__law_told_right : ∀ (ds : List D) (Q : D → Prop) (E : XD → Prop), ds.length = 1 → sp__law_told_right ds Q E → t__law_told_right { nx := fun _ => Q .non, rt := Q, ex := E } (start3 5 ds) := fun ds Q E hl h => by
  obtain ⟨ns, rfl, h1, h12, hn, q⟩ := h
  have fr := rows_fr h1 h12 hn
  have rw_ := rows_rw h1 h12 hn
  have el := lens_rows ns
  refine ⟨rfl, ns, rfl, h1, h12, fun n h => (hn n h).2, rfl, _, rfl, ⟨rows_pl h1 h12 hn, rows_dp⟩, ?_⟩
  rw [rows_fe h1 h12 hn, rows_tup]
  refine ⟨rfl, ns, rfl, hn, by show 2 ≤ sizeLine; decide, rfl, rfl, ?_⟩
  have two : ∀ (Q : D → Prop) (E : XD → Prop), Q (.bl true) → ∀ N : En3, N.rt = Q → N.ex = E → (rSeq (rIf (rTV (rOp gGt (rVar 4) (rC (.int 64)))) (rRet (rOp gEq (rFault ft__law_fault (rCall 1 sp_forks (rCons (rVar 2) rNil))) (rTup (rCons (rC (.str "many")) (rCons (rC (.str "forks")) (rCons (rVar 4) (rCons (rC (.int 64)) rNil))))))) rNext)
      (rRet (rCall 2 sp__law_is (rCons (rCall 1 sp_forks (rCons (rVar 2) rNil)) (rCons (rCall 1 sp__law_forks (rCons (rVar 1) rNil)) rNil))))) N [.val (.tup (ns.map fun n => .int (n : Nat))), .val (.tup (rowsD ns)), .val (.ins "Frame" [(("rows" : Str), .tup (rowsD ns))]), .val (.int (prodN ns : Nat)), .val (.int (prodN (ns.map pairN) : Nat))] := by
    intro Q E q N e1 e2
    conv => whnf
    split
    · rename_i e
      have e : decide ((64 : Int) < (prodN (ns.map pairN) : Nat)) = true := e
      refine ⟨rfl, _, rowsD ns, rfl, fr, ?_⟩
      rw [el, if_pos (by have := of_decide_eq_true e; omega)]
      refine ⟨rfl, _, _, _, rfl, ⟨rfl, rfl, rfl⟩, by show 4 ≤ sizeLine; decide, ok4 _ _ _ _ (by decide +kernel) (by decide +kernel), ok4 _ _ _ _ (by decide +kernel) (by decide +kernel), ?_⟩
      show N.rt (.bl (eqD _ _))
      rw [told4, e1]
      exact q
    · rename_i e
      have e : decide ((64 : Int) < (prodN (ns.map pairN) : Nat)) = false := e
      have hle : prodN (ns.map pairN) ≤ 64 := by have := of_decide_eq_false e; omega
      refine ⟨rfl, _, rowsD ns, rfl, fr, ?_⟩
      rw [el, if_neg (by omega)]
      refine ⟨rfl, _, rowsD ns, rfl, rw_, by rw [el]; omega, ?_⟩
      rw [el]
      have elp : (ns.map prL).map List.length = ns.map pairN := by
        rw [List.map_map]
        exact List.map_congr_left fun n h => prL_len (hn n h).1 (hn n h).2
      obtain ⟨t1, t2⟩ := pk_ti (ls := ns.map prL) (fun l hl => by
        obtain ⟨n, h, rfl⟩ := List.mem_map.mp hl
        exact prL_ti (hn n h).1 (hn n h).2) (by rw [List.length_map]; exact h12) (by rw [elp]; omega)
      exact ⟨rfl, _, rfl, t1, t2, by rw [e1]; exact q⟩
  conv => whnf
  split
  · rename_i e
    have e : decide ((256 : Int) < (prodN ns : Nat)) = true := e
    refine ⟨rfl, _, rowsD ns, rfl, fr, ?_⟩
    rw [el, if_pos (by have := of_decide_eq_true e; omega)]
    refine ⟨rfl, _, _, _, rfl, ⟨rfl, rfl, rfl⟩, by show 4 ≤ sizeLine; decide, ok4 _ _ _ _ (by decide +kernel) (by decide +kernel), ok4 _ _ _ _ (by decide +kernel) (by decide +kernel), ?_⟩
    show toB _ (.bl (!eqD _ _))
    rw [told4]
    exact two Q E q _ rfl rfl
  · rename_i e
    have e : decide ((256 : Int) < (prodN ns : Nat)) = false := e
    have hle : prodN ns ≤ 256 := by have := of_decide_eq_false e; omega
    refine ⟨rfl, _, rowsD ns, rfl, fr, ?_⟩
    rw [el, if_neg (by omega)]
    refine ⟨rfl, _, rowsD ns, rfl, rw_, by rw [el]; omega, ?_⟩
    rw [el]
    obtain ⟨t1, t2⟩ := pk_ti (ls := ns.map rgL) (fun l hl => by
      obtain ⟨n, h, rfl⟩ := List.mem_map.mp hl
      exact rgL_ti) (by rw [List.length_map]; exact h12) (by rw [rgl_lens]; omega)
    refine ⟨rfl, _, rfl, t1, t2, ?_⟩
    exact two Q E q _ rfl rfl

def sp_law : Sp3 := fun ds Q _ => ∃ xs, ds = [.scr xs] ∧ xs.length ≤ 63 ∧ Q (.bl true)

def t_law : RS := (rSeq (rSet 1 (rCall 1 sp__law_pen (rCons (rVar 0) rNil)))
    (rSeq (rSetL 2 (rLst (rCons (rOp gMul (rTup (rCons (rC (.int 2)) rNil)) (rC (.int 8))) (rCons (rOp gAdd (rOp gMul (rTup (rCons (rC (.int 2)) rNil)) (rC (.int 7))) (rTup (rCons (rC (.int 3)) rNil))) (rCons (rTup (rCons (rC (.int 4)) (rCons (rC (.int 4)) (rCons (rC (.int 4)) (rCons (rC (.int 4)) rNil))))) (rCons (rTup (rCons (rC (.int 2)) (rCons (rC (.int 3)) (rCons (rC (.int 4)) (rCons (rC (.int 11)) rNil))))) (rCons (rTup (rCons (rC (.int 1)) (rCons (rC (.int 8)) (rCons (rC (.int 8)) (rCons (rC (.int 4)) rNil))))) (rCons (rOp gMul (rTup (rCons (rC (.int 2)) rNil)) (rC (.int 6))) (rCons (rOp gAdd (rOp gMul (rTup (rCons (rC (.int 2)) rNil)) (rC (.int 6))) (rTup (rCons (rC (.int 1)) (rCons (rC (.int 3)) rNil)))) (rCons (rTup (rCons (rC (.int 3)) (rCons (rC (.int 3)) (rCons (rC (.int 2)) rNil)))) (rCons (rTup (rCons (rC (.int 2)) (rCons (rC (.int 2)) (rCons (rC (.int 12)) (rCons (rC (.int 1)) rNil))))) rNil)))))))))))
    (rSeq (rFor (rRange1 (rCons (rC (.int 3)) rNil)) (g3N 3) (rSeq (rFrz 2 (rSet 4 (rCall 2 sp__law_pick (rCons (rVar 1) (rCons (rVar 2) rNil)))))
    (rSeq (rIf (rTV (rOp gEq (rCall 2 sp__law_draw (rCons (rVar 1) (rCons (rC (.int 2)) rNil))) (rC (.int 0)))) (rSet 4 (rCB gTuple (rCons (rL (rComp (rRange1 (rCons (rOp gAdd (rC (.int 1)) (rCall 2 sp__law_draw (rCons (rVar 1) (rCons (rC (.int 6)) rNil)))) rNil)) (g3N 5) (rC true) (rCall 2 sp__law_pick (rCons (rVar 1) (rCons (rL (rLst (rCons (rC (.int 1)) (rCons (rC (.int 1)) (rCons (rC (.int 2)) (rCons (rC (.int 2)) (rCons (rC (.int 3)) (rCons (rC (.int 5)) (rCons (rC (.int 9)) rNil))))))))) rNil))) [5])) rNil))) rNext)
    (rIf (rNot (rTV (rCall 1 sp__law_told_right (rCons (rCB gTuple (rCons (rCall 2 sp__law_shuffled (rCons (rVar 1) (rCons (rL (rListOf (rVar 4))) rNil))) rNil)) rNil)))) (rRet (rC (.bl false))) rNext))))
    (rRet (rC (.bl true))))))

theorem pl_law : ∀ (ds : List D) (Q : D → Prop) (E : XD → Prop), ds.length = 1 → sp_law ds Q E → t_law { nx := fun _ => Q .non, rt := Q, ex := E } (start3 6 ds) := fun ds Q E hl h => by
  obtain ⟨xs, rfl, hx, q⟩ := h
  -- counts that are right: 1 to 12 of 1 to 12
  let G : D → Prop := fun d => ∃ ns : List Nat, d = .tup (ns.map fun n => .int (n : Nat)) ∧ 1 ≤ ns.length ∧ ns.length ≤ 12 ∧ ∀ n ∈ ns, 1 ≤ n ∧ n ≤ 12
  have mk : ∀ ns : List Nat, 1 ≤ ns.length → ns.length ≤ 12 → (∀ n ∈ ns, 1 ≤ n ∧ n ≤ 12) → G (.tup (ns.map fun n => .int (n : Nat))) := fun ns a b c => ⟨ns, rfl, a, b, c⟩
  refine ⟨rfl, xs, rfl, hx, by show 2 < 6; decide, ?_⟩
  refine ⟨by show 1 ≤ sizeLine; decide, ⟨by simp, by decide, by decide, by show 1 ≤ 1000; decide⟩, ?_⟩
  refine ⟨by show 1 ≤ sizeLine; decide, ⟨by simp, by decide, by decide, by show 1 ≤ 1000; decide⟩, by show 1 ≤ sizeLine; decide, by show 7 + 1 ≤ sizeLine; decide, ?_⟩
  refine ⟨by show 4 ≤ sizeLine; decide, by show 4 ≤ sizeLine; decide, by show 4 ≤ sizeLine; decide, ?_⟩
  refine ⟨by show 1 ≤ sizeLine; decide, ⟨by simp, by decide, by decide, by show 1 ≤ 1000; decide⟩, ?_⟩
  refine ⟨by show 1 ≤ sizeLine; decide, ⟨by simp, by decide, by decide, by show 1 ≤ 1000; decide⟩, by show 2 ≤ sizeLine; decide, by show 6 + 2 ≤ sizeLine; decide, ?_⟩
  refine ⟨by show 3 ≤ sizeLine; decide, by show 4 ≤ sizeLine; decide, by show 9 ≤ sizeLine; decide, ?_⟩
  refine ⟨⟨by decide, by decide⟩, ?_⟩
  let ed : List D := [.tup ([2, 2, 2, 2, 2, 2, 2, 2].map fun n : Nat => .int (n : Nat)), .tup ([2, 2, 2, 2, 2, 2, 2, 3].map fun n : Nat => .int (n : Nat)), .tup ([4, 4, 4, 4].map fun n : Nat => .int (n : Nat)), .tup ([2, 3, 4, 11].map fun n : Nat => .int (n : Nat)), .tup ([1, 8, 8, 4].map fun n : Nat => .int (n : Nat)), .tup ([2, 2, 2, 2, 2, 2].map fun n : Nat => .int (n : Nat)), .tup ([2, 2, 2, 2, 2, 2, 1, 3].map fun n : Nat => .int (n : Nat)), .tup ([3, 3, 2].map fun n : Nat => .int (n : Nat)), .tup ([2, 2, 12, 1].map fun n : Nat => .int (n : Nat))]
  have hed : ∀ d ∈ ed, G d := by
    intro d hd
    simp only [ed, List.mem_cons, List.mem_nil_iff, or_false] at hd
    rcases hd with rfl | rfl | rfl | rfl | rfl | rfl | rfl | rfl | rfl <;> exact mk _ (by decide) (by decide) (by decide)
  let I : List D → Env3 → Prop := fun l ρ => ∃ (a b c : Sl) (e : Sl), (e = .own ed ∨ e = .val (.lst ed)) ∧ ρ = [.val (.scr xs), .val .pen, e, a, b, c]
  refine for_inv I (fun d l ρ K hI hK => ?_) (fun ρ hI => ?_) _ _ ⟨.emp, .emp, .emp, _, .inl rfl, rfl⟩
  · obtain ⟨a, b, c, e, he, rfl⟩ := hI
    have rest : ∀ (cd : D) (c : Sl), G cd → ∀ N : En3, N.nx = K → N.rt = Q → (rIf (rNot (rTV (rCall 1 sp__law_told_right (rCons (rCB gTuple (rCons (rCall 2 sp__law_shuffled (rCons (rVar 1) (rCons (rL (rListOf (rVar 4))) rNil))) rNil)) rNil)))) (rRet (rC (.bl false))) rNext) N [.val (.scr xs), .val .pen, .val (.lst ed), .val d, .val cd, c] := by
      intro cd c hG N e1 e2
      obtain ⟨ns, rfl, h1, h12, hn⟩ := hG
      refine ⟨by show (ns.map fun n => D.int (n : Nat)).length ≤ sizeLine; rw [List.length_map]; exact le_size (by omega), rfl, _, rfl, by rw [List.length_map]; omega, fun ys hy hm => ?_⟩
      obtain ⟨ms, rfl, hms⟩ : ∃ ms : List Nat, ys = ms.map (fun n => D.int (n : Nat)) ∧ ∀ m ∈ ms, m ∈ ns := by
        clear hy
        induction ys with
        | nil => exact ⟨[], rfl, by simp⟩
        | cons y ys ih =>
          obtain ⟨ms, rfl, h⟩ := ih fun z hz => hm z (by simp [hz])
          obtain ⟨m, hm1, rfl⟩ := List.mem_map.mp (hm y (by simp))
          refine ⟨m :: ms, rfl, fun z hz => ?_⟩
          rcases (List.mem_cons.mp hz) with rfl | hz
          · exact hm1
          · exact h z hz
      rw [List.length_map, List.length_map] at hy
      refine ⟨rfl, ms, rfl, by omega, by omega, fun m hm => hn m (hms m hm), ?_⟩
      show N.nx _
      rw [e1]
      exact hK _ ⟨_, _, _, _, .inr rfl, rfl⟩
    have pick : ∀ e : Sl, (e = .own ed ∨ e = .val (.lst ed)) → ∀ (N : En3), (∀ cd, G cd → N.nx [.val (.scr xs), .val .pen, .val (.lst ed), .val d, .val cd, c]) → rFrz 2 (rSet 4 (rCall 2 sp__law_pick (rCons (rVar 1) (rCons (rVar 2) rNil)))) N [.val (.scr xs), .val .pen, e, .val d, b, c] := by
      intro e he N hN
      rcases he with rfl | rfl
      · exact ⟨rfl, _, ed, rfl, .inr rfl, by decide, by decide, fun x hx => hN x (hed x hx)⟩
      · exact ⟨rfl, _, ed, rfl, .inr rfl, by decide, by decide, fun x hx => hN x (hed x hx)⟩
    refine pick e he _ fun cd hG => ?_
    refine ⟨rfl, ⟨by decide, by decide⟩, fun k k0 k1 => ?_⟩
    conv => whnf
    split
    · refine ⟨rfl, ⟨by decide, by decide⟩, fun t t0 t1 => ?_⟩
      refine ⟨⟨by omega, by omega⟩, ?_⟩
      refine ⟨by rw [rangeD_len]; exact le_size (by omega), comp_dem (P := fun y => ∃ n : Nat, y = .int (n : Nat) ∧ 1 ≤ n ∧ n ≤ 12) _ [] (fun z hz K' k' => ?_) (fun ys hy hP => ?_)⟩
      · refine ⟨by show 7 ≤ sizeLine; decide, rfl, _, [.int 1, .int 1, .int 2, .int 2, .int 3, .int 5, .int 9], rfl, .inr rfl, by decide, by decide, fun x hx => k' x ?_⟩
        simp only [List.mem_cons, List.mem_nil_iff, or_false] at hx
        rcases hx with rfl | rfl | rfl | rfl | rfl | rfl | rfl
        · exact ⟨1, rfl, by decide, by decide⟩
        · exact ⟨1, rfl, by decide, by decide⟩
        · exact ⟨2, rfl, by decide, by decide⟩
        · exact ⟨2, rfl, by decide, by decide⟩
        · exact ⟨3, rfl, by decide, by decide⟩
        · exact ⟨5, rfl, by decide, by decide⟩
        · exact ⟨9, rfl, by decide, by decide⟩
      · rw [rangeD_len] at hy
        obtain ⟨ms, rfl, hms⟩ : ∃ ms : List Nat, ys = ms.map (fun n => D.int (n : Nat)) ∧ ∀ m ∈ ms, 1 ≤ m ∧ m ≤ 12 := by
          clear hy
          induction ys with
          | nil => exact ⟨[], rfl, by simp⟩
          | cons y ys ih =>
            obtain ⟨ms, rfl, h⟩ := ih fun z hz => hP z (by simp [hz])
            obtain ⟨m, rfl, hm1⟩ := hP y (by simp)
            refine ⟨m :: ms, rfl, fun z hz => ?_⟩
            rcases (List.mem_cons.mp hz) with rfl | hz
            · exact hm1
            · exact h z hz
        rw [List.length_map] at hy
        rw [List.nil_append]
        exact rest _ _ (mk ms (by omega) (by omega) hms) _ rfl rfl
    · exact rest _ _ hG _ rfl rfl
  · exact q

end Cl
namespace Cl
open PySem PySem.Spec L2 L3
open PyProof.Rows hiding St
def topS (i : Nat) : Stmt := PySem.Challenge.pw_onerests_k05_choices_and_forks.main.body.getD i (.Pass ⟨0, 0, 0, 0⟩)
structure DefAt (K : PySem.W.Frag) (mg : Str → Option Value) (ps : List Str) (f : Addr) (fd : FuncData) : Prop where
  k : PySem.W.keepIn K (.ref f) = true
  b : Binds K fd ps []
structure DefG (K : PySem.W.Frag) (mg : Str → Option Value) (x : Str) (ps : List Str) (f : Addr) (fd : FuncData) : Prop extends DefAt K mg ps f fd where
  g : mg x = some (.ref f)
def suiteOf (st : Stmt) : List Stmt := match defBody st with
  | _ :: .Try _ (.ExceptHandler _ _ b _ :: _) _ _ _ :: _ => b
  | _ => []
def suiteOf0 (st : Stmt) : Stmt := (suiteOf st).getD 0 (.Pass ⟨0, 0, 0, 0⟩)
def suiteOf1 (st : Stmt) : List Stmt := (suiteOf st).drop 1
structure Zn (mg : Str → Option Value) : Prop where
  ValueError : mg "ValueError" = none
  all : mg "all" = none
  bool : mg "bool" = none
  int : mg "int" = none
  isinstance : mg "isinstance" = none
  len : mg "len" = none
  list : mg "list" = none
  max : mg "max" = none
  range : mg "range" = none
  str : mg "str" = none
  tuple : mg "tuple" = none
  c_MOST_CHOICES : ∃ t, mg "MOST_CHOICES" = some (.int 256 t)
  c_MOST_FORKS : ∃ t, mg "MOST_FORKS" = some (.int 64 t)
  c_MOST_PLACES : ∃ t, mg "MOST_PLACES" = some (.int 12 t)
  c_MOST_ROWS : ∃ t, mg "MOST_ROWS" = some (.int 12 t)
  f_gcd : mg "gcd" = some (.builtin "math.gcd")
structure Yn (K : PySem.W.Frag) (mg : Str → Option Value) : Prop where
  Frame_rows : FldOk K mg "Frame" "rows"
structure XnOk (K : PySem.W.Frag) (mg : Str → Option Value) : Prop where
  m_BadFrame : mg "BadFrame" = some (.ref (cmOf mg "BadFrame"))
  k_BadFrame : ∀ c ∈ excN, XcC K (cmOf mg c) ∧ PySem.W.kitOne K (.ref (cmOf mg c)) (.ref (cmOf mg "BadFrame")) = some (c == "BadFrame")
  m_BadHouse : mg "BadHouse" = some (.ref (cmOf mg "BadHouse"))
  k_BadHouse : ∀ c ∈ excN, XcC K (cmOf mg c) ∧ PySem.W.kitOne K (.ref (cmOf mg c)) (.ref (cmOf mg "BadHouse")) = some (c == "BadHouse")
  m_BadLoad : mg "BadLoad" = some (.ref (cmOf mg "BadLoad"))
  k_BadLoad : ∀ c ∈ excN, XcC K (cmOf mg c) ∧ PySem.W.kitOne K (.ref (cmOf mg c)) (.ref (cmOf mg "BadLoad")) = some (c == "BadLoad")
  m_BadName : mg "BadName" = some (.ref (cmOf mg "BadName"))
  k_BadName : ∀ c ∈ excN, XcC K (cmOf mg c) ∧ PySem.W.kitOne K (.ref (cmOf mg c)) (.ref (cmOf mg "BadName")) = some (c == "BadName")
  m_BadNet : mg "BadNet" = some (.ref (cmOf mg "BadNet"))
  k_BadNet : ∀ c ∈ excN, XcC K (cmOf mg c) ∧ PySem.W.kitOne K (.ref (cmOf mg c)) (.ref (cmOf mg "BadNet")) = some (c == "BadNet")
  m_BadNumber : mg "BadNumber" = some (.ref (cmOf mg "BadNumber"))
  k_BadNumber : ∀ c ∈ excN, XcC K (cmOf mg c) ∧ PySem.W.kitOne K (.ref (cmOf mg c)) (.ref (cmOf mg "BadNumber")) = some (c == "BadNumber")
  m_BadRow : mg "BadRow" = some (.ref (cmOf mg "BadRow"))
  k_BadRow : ∀ c ∈ excN, XcC K (cmOf mg c) ∧ PySem.W.kitOne K (.ref (cmOf mg c)) (.ref (cmOf mg "BadRow")) = some (c == "BadRow")
  m_BadTable : mg "BadTable" = some (.ref (cmOf mg "BadTable"))
  k_BadTable : ∀ c ∈ excN, XcC K (cmOf mg c) ∧ PySem.W.kitOne K (.ref (cmOf mg c)) (.ref (cmOf mg "BadTable")) = some (c == "BadTable")
  m_BadText : mg "BadText" = some (.ref (cmOf mg "BadText"))
  k_BadText : ∀ c ∈ excN, XcC K (cmOf mg c) ∧ PySem.W.kitOne K (.ref (cmOf mg c)) (.ref (cmOf mg "BadText")) = some (c == "BadText")
  m_BadWeb : mg "BadWeb" = some (.ref (cmOf mg "BadWeb"))
  k_BadWeb : ∀ c ∈ excN, XcC K (cmOf mg c) ∧ PySem.W.kitOne K (.ref (cmOf mg c)) (.ref (cmOf mg "BadWeb")) = some (c == "BadWeb")
  m_Flat : mg "Flat" = some (.ref (cmOf mg "Flat"))
  k_Flat : ∀ c ∈ excN, XcC K (cmOf mg c) ∧ PySem.W.kitOne K (.ref (cmOf mg c)) (.ref (cmOf mg "Flat")) = some (c == "Flat")
  m_NoName : mg "NoName" = some (.ref (cmOf mg "NoName"))
  k_NoName : ∀ c ∈ excN, XcC K (cmOf mg c) ∧ PySem.W.kitOne K (.ref (cmOf mg c)) (.ref (cmOf mg "NoName")) = some (c == "NoName")
  m_NoPlace : mg "NoPlace" = some (.ref (cmOf mg "NoPlace"))
  k_NoPlace : ∀ c ∈ excN, XcC K (cmOf mg c) ∧ PySem.W.kitOne K (.ref (cmOf mg c)) (.ref (cmOf mg "NoPlace")) = some (c == "NoPlace")
  m_NoRow : mg "NoRow" = some (.ref (cmOf mg "NoRow"))
  k_NoRow : ∀ c ∈ excN, XcC K (cmOf mg c) ∧ PySem.W.kitOne K (.ref (cmOf mg c)) (.ref (cmOf mg "NoRow")) = some (c == "NoRow")
  m_NoWall : mg "NoWall" = some (.ref (cmOf mg "NoWall"))
  k_NoWall : ∀ c ∈ excN, XcC K (cmOf mg c) ∧ PySem.W.kitOne K (.ref (cmOf mg c)) (.ref (cmOf mg "NoWall")) = some (c == "NoWall")
  m_NotKept : mg "NotKept" = some (.ref (cmOf mg "NotKept"))
  k_NotKept : ∀ c ∈ excN, XcC K (cmOf mg c) ∧ PySem.W.kitOne K (.ref (cmOf mg c)) (.ref (cmOf mg "NotKept")) = some (c == "NotKept")
  m_NotOnce : mg "NotOnce" = some (.ref (cmOf mg "NotOnce"))
  k_NotOnce : ∀ c ∈ excN, XcC K (cmOf mg c) ∧ PySem.W.kitOne K (.ref (cmOf mg c)) (.ref (cmOf mg "NotOnce")) = some (c == "NotOnce")
  m_NotPlain : mg "NotPlain" = some (.ref (cmOf mg "NotPlain"))
  k_NotPlain : ∀ c ∈ excN, XcC K (cmOf mg c) ∧ PySem.W.kitOne K (.ref (cmOf mg c)) (.ref (cmOf mg "NotPlain")) = some (c == "NotPlain")
  m_NothingToRedo : mg "NothingToRedo" = some (.ref (cmOf mg "NothingToRedo"))
  k_NothingToRedo : ∀ c ∈ excN, XcC K (cmOf mg c) ∧ PySem.W.kitOne K (.ref (cmOf mg c)) (.ref (cmOf mg "NothingToRedo")) = some (c == "NothingToRedo")
  m_NothingToUndo : mg "NothingToUndo" = some (.ref (cmOf mg "NothingToUndo"))
  k_NothingToUndo : ∀ c ∈ excN, XcC K (cmOf mg c) ∧ PySem.W.kitOne K (.ref (cmOf mg c)) (.ref (cmOf mg "NothingToUndo")) = some (c == "NothingToUndo")
  m_TakenName : mg "TakenName" = some (.ref (cmOf mg "TakenName"))
  k_TakenName : ∀ c ∈ excN, XcC K (cmOf mg c) ∧ PySem.W.kitOne K (.ref (cmOf mg c)) (.ref (cmOf mg "TakenName")) = some (c == "TakenName")
  m_TooMany : mg "TooMany" = some (.ref (cmOf mg "TooMany"))
  k_TooMany : ∀ c ∈ excN, XcC K (cmOf mg c) ∧ PySem.W.kitOne K (.ref (cmOf mg c)) (.ref (cmOf mg "TooMany")) = some (c == "TooMany")
  m_Unlike : mg "Unlike" = some (.ref (cmOf mg "Unlike"))
  k_Unlike : ∀ c ∈ excN, XcC K (cmOf mg c) ∧ PySem.W.kitOne K (.ref (cmOf mg c)) (.ref (cmOf mg "Unlike")) = some (c == "Unlike")
  v_ValueError : ∀ c ∈ excN, XcC K (cmOf mg c) ∧ PySem.W.kitOne K (.ref (cmOf mg c)) (.type "ValueError") = some true
  f_TooMany_limit : XfOk K mg "TooMany" "limit"
  f_TooMany_many : XfOk K mg "TooMany" "many"
  f_TooMany_what : XfOk K mg "TooMany" "what"
def XrOk (K : PySem.W.Frag) (mg : Str → Option Value) (CS : Addr) : Prop := ∀ c ∈ excN, PySem.W.exmOne K (.ref (cmOf mg c)) (.ref CS) = some true
theorem x_one {P : Str → Prop} (h : P "TooMany") : ∀ c ∈ excN, P c := fun c hc => by
  rw [List.mem_singleton.mp hc]
  exact h
theorem fn_zero {P : Program} {w : World} {K : PySem.W.Frag} {mg : Str → Option Value} {base : Heap} {k : Nat} {f : Addr} {fd : FuncData} {ps : List Str} {KK : KC} {n : Nat} {sp : Sp3} (h : ∀ ds Q E, sp ds Q E → False) : FnOk P w K mg base (L2.CX P w) k f fd ps (lSp KK n sp) := by
  refine ⟨fun vs H Q E z => ?_, fun A outer s H args us vs Q E _ _ _ _ z => ?_⟩
  · obtain ⟨_, _, _, _, _, _, _, _, _, _, hs, _⟩ := z
    exact (h _ _ _ hs).elim
  · obtain ⟨_, _, _, _, _, _, _, _, _, _, hs, _⟩ := z
    exact (h _ _ _ hs).elim
theorem jn_none' (F : Hp) : jn F (fun _ => none) = F := by
  funext a
  unfold jn
  cases F a <;> rfl
abbrev s_BadFrame___init__ : Stmt := inClass (topS 6) 0
theorem sc_BadFrame___init__ : FnScope ["self", "what", "place"] ["self", "what", "place"] (defScope s_BadFrame___init__) := ⟨rfl, rfl, rfl, by decide +kernel, rfl, by decide +kernel, by decide +kernel⟩
abbrev s_TooMany___init__ : Stmt := inClass (topS 22) 0
theorem sc_TooMany___init__ : FnScope ["self", "what", "many", "limit"] ["self", "what", "many", "limit"] (defScope s_TooMany___init__) := ⟨rfl, rfl, rfl, by decide +kernel, rfl, by decide +kernel, by decide +kernel⟩
abbrev s__law_draw : Stmt := topS 49
theorem sc__law_draw : FnScope ["pen", "many", "cell", "digit", "blend"] ["pen", "many"] (defScope s__law_draw) := ⟨rfl, rfl, rfl, by decide +kernel, rfl, by decide +kernel, by decide +kernel⟩
set_option maxHeartbeats 8100000 in
theorem ok__law_draw {P : Program} {w : World} {K : PySem.W.Frag} {mg : Str → Option Value} {base : Heap} {T : List (Addr × Str)} (zlen : mg "len" = none) (zint : mg "int" = none) {f : Addr} {fd : FuncData} (F : Fun K "_law_draw" "_law_draw" s__law_draw f fd) :
    FnOk P w K mg base (L2.CX P w) 1 f fd ["pen", "many"] (lSp ⟨K, cmOf mg, [], T⟩ 2 sp__law_draw) := by
  refine F.okX sc__law_draw (fun vs H Q E h => ?_) (fun cdv A outer s H vs Q E hr h => ?_)
  · obtain ⟨_, _, _, _, _, _, _, _, _, hl, _⟩ := h
    exact hl
  · have hu := hu_of hr
    have gk : ∀ {X : Cx} {e : Expr} {pos : Pos} {k : Str} {j : Nat} {p2 : Pos}, X.A.units + 1 < cLine → PE X e (tVar 0) → PE X (.Subscript e (.Constant (.str k) j p2) pos) (tDGet (tVar 0) (tC (.str k))) := fun hu he => pe_dget hu he pe_str (fun _ _ => rfl)
    have int1 : ∀ {X : Cx} {e : Expr} {p pos : Pos} {te : TE}, Gl X "int" → X.mg "int" = none → PE X e te → starEach (e :: []) X.env = (false, eval e X.env) :: starEach [] X.env → (backTo pos (starEach [] X.env)).any (·.1) = false → PE X (.Call (.Name "int" p) [e] [] pos) (tCB cbInt (tCons te tNil)) :=
      fun hg hm he h1 h2 => pe_callTy call_int1 hg hm (by decide +kernel) (pa_cons he pa_nil h1) (by decide) (by decide) h1 h2
    refine ⟨_, pss_cons (ps_dput hu (pv 0) pe_str (pe_op op_add (gk hu (pv 0)) pe_int) rfl)
      (pss_cons (ps_if (PW.pt (pw_and (pt_cmpR op_eq (gk hu (pv 0)) pe_int (nobehind _ (by decide) (by decide))) (pw_and1 (pt_cmpR op_lt (gk hu (pv 0)) (by exact pe_callB call_len_seq rfl zlen (by decide +kernel) (by exact pa_cons (gk hu (pv 0)) pa_nil)) (nobehind _ (by decide) (by decide))))))
        (pss_cons (ps_set (i := 2) sc__law_draw.nd rfl (.inl rfl) (pe_ix ix_list (gk hu (pv 0)) (gk hu (pv 0)) (fun _ _ => rfl)))
          (pss_cons (ps_dput hu (pv 0) pe_str (pe_op op_add (gk hu (pv 0)) pe_int) rfl)
            (pss_one (ps_if (pt_cmpR op_ge (pv 2) (pe_op op_pow pe_int pe_int) (nobehind _ (by decide) (by decide)))
              (pss_one (ps_dput hu (pv 0) pe_str (pe_op op_sub (pv 2) (pe_op op_pow pe_int pe_int)) rfl))
              (pss_one (ps_dput hu (pv 0) pe_str (pe_op op_mod (by exact int1 rfl zint (pe_op op_add (pe_op op_mul (gk hu (pv 0)) pe_int) (pv 2)) rfl rfl) pe_int) rfl)))))) pss_nil)
      (pss_cons (ps_if (pt_cmpR op_gt (gk hu (pv 0)) pe_int (nobehind _ (by decide) (by decide)))
        (pss_cons (ps_set (i := 3) sc__law_draw.nd rfl (.inl rfl) (pe_op op_mod (by exact int1 rfl zint (gk hu (pv 0)) rfl rfl) (pv 1)))
          (pss_cons (ps_dput hu (pv 0) pe_str (pe_op op_fdiv (gk hu (pv 0)) (pv 1)) rfl)
            (pss_one (ps_ret (pv 3))))) pss_nil)
      (pss_cons (ps_set (i := 4) sc__law_draw.nd rfl (.inl rfl) (pe_op op_mod (by exact int1 rfl zint (pe_op op_add (pe_op op_add (pe_op op_mul (gk hu (pv 0)) pe_int) (pe_op op_mul (gk hu (pv 0)) pe_int)) pe_int) rfl rfl) pe_int))
      (pss_cons (ps_set (i := 4) sc__law_draw.nd rfl (.inl rfl) (pe_op op_mod (by exact int1 rfl zint (pe_op op_add (pe_op op_add (pe_op op_mul (pv 4) (pv 4)) (pe_op op_mul pe_int (pv 4))) (gk hu (pv 0))) rfl rfl) pe_int))
      (pss_cons (ps_dput hu (pv 0) pe_str (pe_op op_mod (by exact int1 rfl zint (pe_op op_add (pe_op op_mul (pv 4) pe_int) pe_int) rfl rfl) pe_int) rfl)
      (pss_one (ps_ret (pe_op op_mod (by exact int1 rfl zint (pe_op op_fdiv (pv 4) pe_int) rfl rfl) (pv 1))))))))), ?_⟩
    exact pure_draw (K := ⟨K, cmOf mg, [], T⟩) h
abbrev s_is_integer : Stmt := topS 27
theorem sc_is_integer : FnScope ["value"] ["value"] (defScope s_is_integer) := ⟨rfl, rfl, rfl, by decide +kernel, rfl, by decide +kernel, by decide +kernel⟩
theorem dv_is_integer {P : Program} {w : World} {K : PySem.W.Frag} {mg : Str → Option Value} {base : Heap} {B : Bs} (Z : Zn mg) (Y : Yn K mg)
    {f : Addr} {cdv : Value} {fd : FuncData} {A : Around} {outer : List Env} {s : Shared} {H : Hp} {E : XK} (hr : Room 0 (A.deeper (envOfC "is_integer" (defScope s_is_integer) s.heap.objs.size f cdv)))
    (tk : Takes (cxOf (L2.CX P w) P w K mg base ["value"] "is_integer" (defScope s_is_integer) f cdv A outer s H E) (WD E)) :
    DSs B (cxOf (L2.CX P w) P w K mg base ["value"] "is_integer" (defScope s_is_integer) f cdv A outer s H E) (WD E) (defBody s_is_integer) t_is_integer :=
    (dss_one (ds_ret (de_and (de_is rfl Z.isinstance rfl Z.int (by decide +kernel) (by decide +kernel) (de_name (pv 0))) (de_one (de_not (de_is rfl Z.isinstance rfl Z.bool (by decide +kernel) (by decide +kernel) (de_name (pv 0))))))))

abbrev s_is_ratio : Stmt := topS 28
theorem sc_is_ratio : FnScope ["value"] ["value"] (defScope s_is_ratio) := ⟨rfl, rfl, rfl, by decide +kernel, rfl, by decide +kernel, by decide +kernel⟩
theorem dv_is_ratio {P : Program} {w : World} {K : PySem.W.Frag} {mg : Str → Option Value} {base : Heap} {B : Bs} (Z : Zn mg) (Y : Yn K mg)
    {f_is_integer : Addr} {fd_is_integer : FuncData} (D_is_integer : DefG K mg "is_integer" ["value"] f_is_integer fd_is_integer) (G_is_integer : FnOk P w K mg base (L2.CX P w) 1 f_is_integer fd_is_integer ["value"] (lSp ⟨K, cmOf mg, [], B.T⟩ 1 sp_is_integer))
    {f : Addr} {cdv : Value} {fd : FuncData} {A : Around} {outer : List Env} {s : Shared} {H : Hp} {E : XK} (hr : Room 1 (A.deeper (envOfC "is_ratio" (defScope s_is_ratio) s.heap.objs.size f cdv)))
    (tk : Takes (cxOf (L2.CX P w) P w K mg base ["value"] "is_ratio" (defScope s_is_ratio) f cdv A outer s H E) (WD E)) :
    DSs B (cxOf (L2.CX P w) P w K mg base ["value"] "is_ratio" (defScope s_is_ratio) f cdv A outer s H E) (WD E) (defBody s_is_ratio) t_is_ratio :=
    (dss_cons (ds_if (dt_not (dt_val (de_is rfl Z.isinstance rfl Z.tuple (by decide +kernel) (by decide +kernel) (de_name (pv 0))))) (dss_one (ds_ret (de_call G_is_integer (hr.mono (by decide)) rfl D_is_integer.g D_is_integer.k D_is_integer.b tk (by exact (da_cons (de_name (pv 0)) da_nil))))) dss_nil)
    (dss_cons (ds_if (dt_w (dw_or (dt_cmp (op2_ne hr.units) (de_cb cr_len rfl Z.len (by decide +kernel) (by exact (da_cons (de_name (pv 0)) da_nil))) de_int (nobehind _ (by decide) (by decide))) (dw_or (dt_not (dt_val (de_call G_is_integer (hr.mono (by decide)) rfl D_is_integer.g D_is_integer.k D_is_integer.b tk (by exact (da_cons (de_ix (de_name (pv 0)) de_int (fun _ _ => rfl)) da_nil))))) (dw_or1 (dt_not (dt_val (de_call G_is_integer (hr.mono (by decide)) rfl D_is_integer.g D_is_integer.k D_is_integer.b tk (by exact (da_cons (de_ix (de_name (pv 0)) de_int (fun _ _ => rfl)) da_nil))))))))) (dss_one (ds_ret de_bl)) dss_nil)
    (dss_one (ds_ret (de_and (de_cmp op2_gt (de_ix (de_name (pv 0)) de_int (fun _ _ => rfl)) de_int (nobehind _ (by decide) (by decide))) (de_one (de_cmp (op2_eq hr.units) (de_cf cr_gcd3 rfl Z.f_gcd (by exact (da_cons (de_ix (de_name (pv 0)) de_int (fun _ _ => rfl)) (da_cons (de_ix (de_name (pv 0)) de_int (fun _ _ => rfl)) da_nil)))) de_int (nobehind _ (by decide) (by decide)))))))))

abbrev s_as_tuples : Stmt := topS 30
theorem sc_as_tuples : FnScope ["value", "one"] ["value"] (defScope s_as_tuples) := ⟨rfl, rfl, rfl, by decide +kernel, rfl, by decide +kernel, by decide +kernel⟩
theorem dv_as_tuples {P : Program} {w : World} {K : PySem.W.Frag} {mg : Str → Option Value} {base : Heap} {B : Bs} (Z : Zn mg) (Y : Yn K mg)
    {f : Addr} {cdv : Value} {fd : FuncData} {A : Around} {outer : List Env} {s : Shared} {H : Hp} {E : XK}
    {d : Nat} {spS : Sp3} (D_self : DefG K mg "as_tuples" ["value"] f fd) (G_self : FnOk P w K mg base (L2.CX P w) (0 + d) f fd ["value"] (lSp ⟨K, cmOf mg, [], B.T⟩ 1 spS)) (hr : Room (0 + d) (A.deeper (envOfC "as_tuples" (defScope s_as_tuples) s.heap.objs.size f cdv)))
    (tk : Takes (cxOf (L2.CX P w) P w K mg base ["value", "one"] "as_tuples" (defScope s_as_tuples) f cdv A outer s H E) (WD E)) :
    DSs B (cxOf (L2.CX P w) P w K mg base ["value", "one"] "as_tuples" (defScope s_as_tuples) f cdv A outer s H E) (WD E) (defBody s_as_tuples) (t_as_tuples spS) :=
    (dss_cons (ds_if (dt_val (de_is2 rfl Z.isinstance rfl Z.list (by decide +kernel) rfl Z.tuple (by decide +kernel) (by decide +kernel) (by decide +kernel) (de_name (pv 0)))) (dss_one (ds_ret (de_ct cr_tuple rfl Z.tuple (by decide +kernel) (by exact (da_cons (de_new (by exact (fe_comp rfl sc_as_tuples.nd (by exact (di_seq (de_name (pv 0)))) (blkOk_by (own := [("one", 1)]) (N := ["value", "one"]) (sc := defScope s_as_tuples) (by decide +kernel)) (fun _ _ _ _ _ => by exact (dg_name sc_as_tuples.nd rfl (by first | exact Or.inl rfl | exact Or.inr rfl))) (fun _ _ _ _ _ => by exact dts_nil) (fun _ _ _ _ _ => by exact (de_call G_self (hr.mono (by omega)) rfl D_self.g D_self.k D_self.b takes0 (by exact (da_cons (de_name (pv 1)) da_nil)))) (by decide)))) da_nil))))) dss_nil)
    (dss_one (ds_ret (de_name (pv 0)))))

abbrev s_is_list : Stmt := topS 31
theorem sc_is_list : FnScope ["value"] ["value"] (defScope s_is_list) := ⟨rfl, rfl, rfl, by decide +kernel, rfl, by decide +kernel, by decide +kernel⟩
theorem dv_is_list {P : Program} {w : World} {K : PySem.W.Frag} {mg : Str → Option Value} {base : Heap} {B : Bs} (Z : Zn mg) (Y : Yn K mg)
    {f : Addr} {cdv : Value} {fd : FuncData} {A : Around} {outer : List Env} {s : Shared} {H : Hp} {E : XK} (hr : Room 0 (A.deeper (envOfC "is_list" (defScope s_is_list) s.heap.objs.size f cdv)))
    (tk : Takes (cxOf (L2.CX P w) P w K mg base ["value"] "is_list" (defScope s_is_list) f cdv A outer s H E) (WD E)) :
    DSs B (cxOf (L2.CX P w) P w K mg base ["value"] "is_list" (defScope s_is_list) f cdv A outer s H E) (WD E) (defBody s_is_list) t_is_list :=
    (dss_one (ds_ret (de_is2 rfl Z.isinstance rfl Z.list (by decide +kernel) rfl Z.tuple (by decide +kernel) (by decide +kernel) (by decide +kernel) (de_name (pv 0)))))

abbrev s_is_row : Stmt := topS 32
theorem sc_is_row : FnScope ["value", "many", "one"] ["value", "many"] (defScope s_is_row) := ⟨rfl, rfl, rfl, by decide +kernel, rfl, by decide +kernel, by decide +kernel⟩
theorem dv_is_row {P : Program} {w : World} {K : PySem.W.Frag} {mg : Str → Option Value} {base : Heap} {B : Bs} (Z : Zn mg) (Y : Yn K mg)
    {f_is_list : Addr} {fd_is_list : FuncData} (D_is_list : DefG K mg "is_list" ["value"] f_is_list fd_is_list) (G_is_list : FnOk P w K mg base (L2.CX P w) 1 f_is_list fd_is_list ["value"] (lSp ⟨K, cmOf mg, [], B.T⟩ 1 sp_is_list))
    {f_is_ratio : Addr} {fd_is_ratio : FuncData} (D_is_ratio : DefG K mg "is_ratio" ["value"] f_is_ratio fd_is_ratio) (G_is_ratio : FnOk P w K mg base (L2.CX P w) 2 f_is_ratio fd_is_ratio ["value"] (lSp ⟨K, cmOf mg, [], B.T⟩ 1 sp_is_ratio))
    {f : Addr} {cdv : Value} {fd : FuncData} {A : Around} {outer : List Env} {s : Shared} {H : Hp} {E : XK} (hr : Room 2 (A.deeper (envOfC "is_row" (defScope s_is_row) s.heap.objs.size f cdv)))
    (tk : Takes (cxOf (L2.CX P w) P w K mg base ["value", "many", "one"] "is_row" (defScope s_is_row) f cdv A outer s H E) (WD E)) :
    DSs B (cxOf (L2.CX P w) P w K mg base ["value", "many", "one"] "is_row" (defScope s_is_row) f cdv A outer s H E) (WD E) (defBody s_is_row) t_is_row :=
    (dss_one (ds_ret (de_and (de_call G_is_list (hr.mono (by decide)) rfl D_is_list.g D_is_list.k D_is_list.b tk (by exact (da_cons (de_name (pv 0)) da_nil))) (de_and (de_cmp (op2_eq hr.units) (de_cb cr_len rfl Z.len (by decide +kernel) (by exact (da_cons (de_name (pv 0)) da_nil))) (de_name (pv 1)) (nobehind _ (by decide) (by decide))) (de_one (de_cb (cr_all3 rfl) rfl Z.all (by decide +kernel) (by exact (da_cons (de_new (by exact (fe_comp rfl sc_is_row.nd (by exact (di_seq (de_name (pv 0)))) (blkOk_by (own := [("one", 2)]) (N := ["value", "many", "one"]) (sc := defScope s_is_row) (by decide +kernel)) (fun _ _ _ _ _ => by exact (dg_name sc_is_row.nd rfl (by first | exact Or.inl rfl | exact Or.inr rfl))) (fun _ _ _ _ _ => by exact dts_nil) (fun _ _ _ _ _ => by exact (de_call G_is_ratio (hr.mono (by decide)) rfl D_is_ratio.g D_is_ratio.k D_is_ratio.b takes0 (by exact (da_cons (de_name (pv 2)) da_nil)))) (by decide)))) da_nil))))))))

abbrev s_Frame___init__ : Stmt := inClass (topS 38) 0
theorem sc_Frame___init__ : FnScope ["self", "rows", "place", "row"] ["self", "rows"] (defScope s_Frame___init__) := ⟨rfl, rfl, rfl, by decide +kernel, rfl, by decide +kernel, by decide +kernel⟩
theorem dv_Frame___init__ {P : Program} {w : World} {K : PySem.W.Frag} {mg : Str → Option Value} {base : Heap} {B : Bs} (Z : Zn mg) (Y : Yn K mg)
    {f_is_list : Addr} {fd_is_list : FuncData} (D_is_list : DefG K mg "is_list" ["value"] f_is_list fd_is_list) (G_is_list : FnOk P w K mg base (L2.CX P w) 1 f_is_list fd_is_list ["value"] (lSp ⟨K, cmOf mg, [], B.T⟩ 1 sp_is_list))
    {C_BadFrame___init__ f_BadFrame___init__ : Addr} {fd_BadFrame___init__ : FuncData} (O_BadFrame : ExOk K mg "BadFrame" C_BadFrame___init__ f_BadFrame___init__ ["what", "place"]) (D_BadFrame___init__ : DefAt K mg ["self", "what", "place"] f_BadFrame___init__ fd_BadFrame___init__) (G_BadFrame___init__ : FnOk P w K mg base (L2.CX P w) 1 f_BadFrame___init__ fd_BadFrame___init__ ["self", "what", "place"] (spInit K ["what", "place"]))
    {f_is_row : Addr} {fd_is_row : FuncData} (D_is_row : DefG K mg "is_row" ["value", "many"] f_is_row fd_is_row) (G_is_row : FnOk P w K mg base (L2.CX P w) 3 f_is_row fd_is_row ["value", "many"] (lSp ⟨K, cmOf mg, [], B.T⟩ 2 sp_is_row))
    {f_as_tuples : Addr} {fd_as_tuples : FuncData} (D_as_tuples : DefG K mg "as_tuples" ["value"] f_as_tuples fd_as_tuples) (G_as_tuples : FnOk P w K mg base (L2.CX P w) 8 f_as_tuples fd_as_tuples ["value"] (lSp ⟨K, cmOf mg, [], B.T⟩ 1 sp_as_tuples))
    {f : Addr} {cdv : Value} {fd : FuncData} {A : Around} {outer : List Env} {s : Shared} {H : Hp} {E : XK} (hr : Room 8 (A.deeper (envOfC "Frame.__init__" (defScope s_Frame___init__) s.heap.objs.size f cdv)))
    (tk : Takes (cxOf (L2.CX P w) P w K mg base ["self", "rows", "place", "row"] "Frame.__init__" (defScope s_Frame___init__) f cdv A outer s H E) (WD E)) :
    DSs B (cxOf (L2.CX P w) P w K mg base ["self", "rows", "place", "row"] "Frame.__init__" (defScope s_Frame___init__) f cdv A outer s H E) (WD E) (defBody s_Frame___init__) t_Frame___init__ :=
    (dss_cons (ds_if (dt_w (dw_or (dt_not (dt_val (de_call G_is_list (hr.mono (by decide)) rfl D_is_list.g D_is_list.k D_is_list.b tk (by exact (da_cons (de_name (pv 1)) da_nil))))) (dw_or1 (dt_not (dt_chain op2_le op2_le de_int (de_cb cr_len rfl Z.len (by decide +kernel) (by exact (da_cons (de_name (pv 1)) da_nil))) (de_c (v := .int 12) (fun _ => of_int _) (pe_glob rfl (Classical.choose_spec Z.c_MOST_PLACES) ⟨_, rfl⟩))))))) (dss_one (ds_raise rfl tk O_BadFrame (by decide) (by decide) G_BadFrame___init__ (hr.mono (by decide)) D_BadFrame___init__.b rfl (by exact (da_cons de_str (da_cons (de_name (pv 1)) da_nil))))) dss_nil)
    (dss_cons (ds_for (passes_of rfl) rfl (di_range1 rfl Z.range (by exact (da_cons (de_cb cr_len rfl Z.len (by decide +kernel) (by exact (da_cons (de_name (pv 1)) da_nil))) da_nil))) (dg_name sc_Frame___init__.nd rfl (by first | exact Or.inl rfl | exact Or.inr rfl)) (fun _ => (dss_cons (ds_if (dt_w (dw_or (dt_not (dt_val (de_call G_is_list (hr.mono (by decide)) rfl D_is_list.g D_is_list.k D_is_list.b tk (by exact (da_cons (de_ix (de_name (pv 1)) (de_name (pv 2)) (fun _ _ => rfl)) da_nil))))) (dw_or1 (dt_not (dt_chain op2_le op2_le de_int (de_cb cr_len rfl Z.len (by decide +kernel) (by exact (da_cons (de_ix (de_name (pv 1)) (de_name (pv 2)) (fun _ _ => rfl)) da_nil))) (de_c (v := .int 12) (fun _ => of_int _) (pe_glob rfl (Classical.choose_spec Z.c_MOST_ROWS) ⟨_, rfl⟩))))))) (dss_one (ds_raise rfl tk O_BadFrame (by decide) (by decide) G_BadFrame___init__ (hr.mono (by decide)) D_BadFrame___init__.b rfl (by exact (da_cons de_str (da_cons (de_name (pv 2)) da_nil))))) dss_nil)
    (dss_one (ds_if (dt_not (dt_val (de_cb (cr_all3 rfl) rfl Z.all (by decide +kernel) (by exact (da_cons (de_new (by exact (fe_comp rfl sc_Frame___init__.nd (by exact (di_seq (de_ix (de_name (pv 1)) (de_name (pv 2)) (fun _ _ => rfl)))) (blkOk_by (own := [("row", 3)]) (N := ["self", "rows", "place", "row"]) (sc := defScope s_Frame___init__) (by decide +kernel)) (fun _ _ _ _ _ => by exact (dg_name sc_Frame___init__.nd rfl (by first | exact Or.inl rfl | exact Or.inr rfl))) (fun _ _ _ _ _ => by exact dts_nil) (fun _ _ _ _ _ => by exact (de_call G_is_row (hr.mono (by decide)) rfl D_is_row.g D_is_row.k D_is_row.b takes0 (by exact (da_cons (de_name (pv 3)) (da_cons (de_cb cr_len rfl Z.len (by decide +kernel) (by exact (da_cons (de_name (pv 1)) da_nil))) da_nil))))) (by decide)))) da_nil))))) (dss_one (ds_raise rfl tk O_BadFrame (by decide) (by decide) G_BadFrame___init__ (hr.mono (by decide)) D_BadFrame___init__.b rfl (by exact (da_cons de_str (da_cons (de_name (pv 2)) da_nil))))) dss_nil)))))
    (dss_one (ds_selfC Y.Frame_rows (pv 0) (de_call G_as_tuples (hr.mono (by decide)) rfl D_as_tuples.g D_as_tuples.k D_as_tuples.b tk (by exact (da_cons (de_name (pv 1)) da_nil)))))))

abbrev s_counts : Stmt := topS 39
theorem sc_counts : FnScope ["frame", "bundle"] ["frame"] (defScope s_counts) := ⟨rfl, rfl, rfl, by decide +kernel, rfl, by decide +kernel, by decide +kernel⟩
theorem dv_counts {P : Program} {w : World} {K : PySem.W.Frag} {mg : Str → Option Value} {base : Heap} {B : Bs} (Z : Zn mg) (Y : Yn K mg)
    {f : Addr} {cdv : Value} {fd : FuncData} {A : Around} {outer : List Env} {s : Shared} {H : Hp} {E : XK} (hr : Room 0 (A.deeper (envOfC "counts" (defScope s_counts) s.heap.objs.size f cdv)))
    (tk : Takes (cxOf (L2.CX P w) P w K mg base ["frame", "bundle"] "counts" (defScope s_counts) f cdv A outer s H E) (WD E)) :
    DSs B (cxOf (L2.CX P w) P w K mg base ["frame", "bundle"] "counts" (defScope s_counts) f cdv A outer s H E) (WD E) (defBody s_counts) t_counts :=
    (dss_one (ds_ret (de_new (by exact (fe_comp rfl sc_counts.nd (by exact (di_seq (de_fld Y.Frame_rows (de_name (pv 0))))) (blkOk_by (own := [("bundle", 1)]) (N := ["frame", "bundle"]) (sc := defScope s_counts) (by decide +kernel)) (fun _ _ _ _ _ => by exact (dg_name sc_counts.nd rfl (by first | exact Or.inl rfl | exact Or.inr rfl))) (fun _ _ _ _ _ => by exact dts_nil) (fun _ _ _ _ _ => by exact (de_cb cr_len rfl Z.len (by decide +kernel) (by exact (da_cons (de_name (pv 1)) da_nil)))) (by decide))))))

abbrev s_all_picks : Stmt := topS 40
theorem sc_all_picks : FnScope ["lists", "found", "items", "pick", "item"] ["lists"] (defScope s_all_picks) := ⟨rfl, rfl, rfl, by decide +kernel, rfl, by decide +kernel, by decide +kernel⟩
theorem dv_all_picks {P : Program} {w : World} {K : PySem.W.Frag} {mg : Str → Option Value} {base : Heap} {B : Bs} (Z : Zn mg) (Y : Yn K mg)
    {f : Addr} {cdv : Value} {fd : FuncData} {A : Around} {outer : List Env} {s : Shared} {H : Hp} {E : XK} (hr : Room 0 (A.deeper (envOfC "all_picks" (defScope s_all_picks) s.heap.objs.size f cdv)))
    (tk : Takes (cxOf (L2.CX P w) P w K mg base ["lists", "found", "items", "pick", "item"] "all_picks" (defScope s_all_picks) f cdv A outer s H E) (WD E)) :
    DSs B (cxOf (L2.CX P w) P w K mg base ["lists", "found", "items", "pick", "item"] "all_picks" (defScope s_all_picks) f cdv A outer s H E) (WD E) (defBody s_all_picks) t_all_picks :=
    (dss_cons (ds_setL sc_all_picks.nd rfl (by first | exact Or.inl rfl | exact Or.inr rfl) (fe_lst (by exact (da_cons (de_tup (by exact da_nil)) da_nil))))
    (dss_cons (ds_for (passes_of rfl) rfl (di_seq (de_name (pv 0))) (dg_name sc_all_picks.nd rfl (by first | exact Or.inl rfl | exact Or.inr rfl)) (fun _ => (dss_one (ds_frz 1 (ds_setLc2 rfl sc_all_picks.nd rfl rfl (sw_true rfl rfl rfl (by decide +kernel)) (by exact (di_seq (de_name (pv 1)))) (blkOk_by (own := [("pick", 3), ("item", 4)]) (N := ["lists", "found", "items", "pick", "item"]) (sc := defScope s_all_picks) (by decide +kernel)) (vs1 := [4]) (by decide) (fun _ _ _ _ _ => by exact (dg_name sc_all_picks.nd rfl (by first | exact Or.inl rfl | exact Or.inr rfl))) (fun _ _ _ _ _ => by exact dts_nil) (fun _ _ _ _ _ => by exact (di_seq (de_name (pv 2)))) (fun _ _ _ _ _ => by exact (dg_name sc_all_picks.nd rfl (by first | exact Or.inl rfl | exact Or.inr rfl))) (fun _ _ _ _ _ => by exact dts_nil) (fun _ _ _ _ _ => by exact (de_op op2_add (de_name (pv 3)) (de_tup (by exact (da_cons (de_name (pv 4)) da_nil))))) (by decide) (by decide))))))
    (dss_one (ds_frz 1 (ds_ret (de_ct cr_tuple rfl Z.tuple (by decide +kernel) (by exact (da_cons (de_name (pv 1)) da_nil))))))))

abbrev s_multiplied_all : Stmt := topS 41
theorem sc_multiplied_all : FnScope ["numbers", "found", "number"] ["numbers"] (defScope s_multiplied_all) := ⟨rfl, rfl, rfl, by decide +kernel, rfl, by decide +kernel, by decide +kernel⟩
theorem dv_multiplied_all {P : Program} {w : World} {K : PySem.W.Frag} {mg : Str → Option Value} {base : Heap} {B : Bs} (Z : Zn mg) (Y : Yn K mg)
    {f : Addr} {cdv : Value} {fd : FuncData} {A : Around} {outer : List Env} {s : Shared} {H : Hp} {E : XK} (hr : Room 0 (A.deeper (envOfC "multiplied_all" (defScope s_multiplied_all) s.heap.objs.size f cdv)))
    (tk : Takes (cxOf (L2.CX P w) P w K mg base ["numbers", "found", "number"] "multiplied_all" (defScope s_multiplied_all) f cdv A outer s H E) (WD E)) :
    DSs B (cxOf (L2.CX P w) P w K mg base ["numbers", "found", "number"] "multiplied_all" (defScope s_multiplied_all) f cdv A outer s H E) (WD E) (defBody s_multiplied_all) t_multiplied_all :=
    (dss_cons (ds_set sc_multiplied_all.nd rfl (by first | exact Or.inl rfl | exact Or.inr rfl) de_int)
    (dss_cons (ds_for (passes_of rfl) rfl (di_seq (de_name (pv 0))) (dg_name sc_multiplied_all.nd rfl (by first | exact Or.inl rfl | exact Or.inr rfl)) (fun _ => (dss_one (ds_set sc_multiplied_all.nd rfl (by first | exact Or.inl rfl | exact Or.inr rfl) (de_op op2_mul (de_name (pv 1)) (de_name (pv 2)))))))
    (dss_one (ds_ret (de_name (pv 1))))))

abbrev s_need_choices : Stmt := topS 42
theorem sc_need_choices : FnScope ["frame", "many"] ["frame"] (defScope s_need_choices) := ⟨rfl, rfl, rfl, by decide +kernel, rfl, by decide +kernel, by decide +kernel⟩
theorem dv_need_choices {P : Program} {w : World} {K : PySem.W.Frag} {mg : Str → Option Value} {base : Heap} {B : Bs} (Z : Zn mg) (Y : Yn K mg)
    {f_multiplied_all : Addr} {fd_multiplied_all : FuncData} (D_multiplied_all : DefG K mg "multiplied_all" ["numbers"] f_multiplied_all fd_multiplied_all) (G_multiplied_all : FnOk P w K mg base (L2.CX P w) 1 f_multiplied_all fd_multiplied_all ["numbers"] (lSp ⟨K, cmOf mg, [], B.T⟩ 1 sp_multiplied_all))
    {f_counts : Addr} {fd_counts : FuncData} (D_counts : DefG K mg "counts" ["frame"] f_counts fd_counts) (G_counts : FnOk P w K mg base (L2.CX P w) 1 f_counts fd_counts ["frame"] (lSp ⟨K, cmOf mg, [], B.T⟩ 1 sp_counts))
    {C_TooMany___init__ f_TooMany___init__ : Addr} {fd_TooMany___init__ : FuncData} (O_TooMany : ExOk K mg "TooMany" C_TooMany___init__ f_TooMany___init__ ["what", "many", "limit"]) (D_TooMany___init__ : DefAt K mg ["self", "what", "many", "limit"] f_TooMany___init__ fd_TooMany___init__) (G_TooMany___init__ : FnOk P w K mg base (L2.CX P w) 1 f_TooMany___init__ fd_TooMany___init__ ["self", "what", "many", "limit"] (spInit K ["what", "many", "limit"]))
    {f : Addr} {cdv : Value} {fd : FuncData} {A : Around} {outer : List Env} {s : Shared} {H : Hp} {E : XK} (hr : Room 2 (A.deeper (envOfC "need_choices" (defScope s_need_choices) s.heap.objs.size f cdv)))
    (tk : Takes (cxOf (L2.CX P w) P w K mg base ["frame", "many"] "need_choices" (defScope s_need_choices) f cdv A outer s H E) (WD E)) :
    DSs B (cxOf (L2.CX P w) P w K mg base ["frame", "many"] "need_choices" (defScope s_need_choices) f cdv A outer s H E) (WD E) (defBody s_need_choices) t_need_choices :=
    (dss_cons (ds_set sc_need_choices.nd rfl (by first | exact Or.inl rfl | exact Or.inr rfl) (de_call G_multiplied_all (hr.mono (by decide)) rfl D_multiplied_all.g D_multiplied_all.k D_multiplied_all.b tk (by exact (da_cons (de_call G_counts (hr.mono (by decide)) rfl D_counts.g D_counts.k D_counts.b tk (by exact (da_cons (de_name (pv 0)) da_nil))) da_nil))))
    (dss_one (ds_if (dt_cmp op2_gt (de_name (pv 1)) (de_c (v := .int 256) (fun _ => of_int _) (pe_glob rfl (Classical.choose_spec Z.c_MOST_CHOICES) ⟨_, rfl⟩)) (nobehind _ (by decide) (by decide))) (dss_one (ds_raise rfl tk O_TooMany (by decide) (by decide) G_TooMany___init__ (hr.mono (by decide)) D_TooMany___init__.b rfl (by exact (da_cons de_str (da_cons (de_name (pv 1)) (da_cons (de_c (v := .int 256) (fun _ => of_int _) (pe_glob rfl (Classical.choose_spec Z.c_MOST_CHOICES) ⟨_, rfl⟩)) da_nil)))))) dss_nil)))

abbrev s_choices : Stmt := topS 43
theorem sc_choices : FnScope ["frame", "many"] ["frame"] (defScope s_choices) := ⟨rfl, rfl, rfl, by decide +kernel, rfl, by decide +kernel, by decide +kernel⟩
theorem dv_choices {P : Program} {w : World} {K : PySem.W.Frag} {mg : Str → Option Value} {base : Heap} {B : Bs} (Z : Zn mg) (Y : Yn K mg)
    {f_need_choices : Addr} {fd_need_choices : FuncData} (D_need_choices : DefG K mg "need_choices" ["frame"] f_need_choices fd_need_choices) (G_need_choices : FnOk P w K mg base (L2.CX P w) 3 f_need_choices fd_need_choices ["frame"] (lSp ⟨K, cmOf mg, [], B.T⟩ 1 sp_need_choices))
    {f_all_picks : Addr} {fd_all_picks : FuncData} (D_all_picks : DefG K mg "all_picks" ["lists"] f_all_picks fd_all_picks) (G_all_picks : FnOk P w K mg base (L2.CX P w) 1 f_all_picks fd_all_picks ["lists"] (lSp ⟨K, cmOf mg, [], B.T⟩ 1 sp_all_picks))
    {f_counts : Addr} {fd_counts : FuncData} (D_counts : DefG K mg "counts" ["frame"] f_counts fd_counts) (G_counts : FnOk P w K mg base (L2.CX P w) 1 f_counts fd_counts ["frame"] (lSp ⟨K, cmOf mg, [], B.T⟩ 1 sp_counts))
    {f : Addr} {cdv : Value} {fd : FuncData} {A : Around} {outer : List Env} {s : Shared} {H : Hp} {E : XK} (hr : Room 3 (A.deeper (envOfC "choices" (defScope s_choices) s.heap.objs.size f cdv)))
    (tk : Takes (cxOf (L2.CX P w) P w K mg base ["frame", "many"] "choices" (defScope s_choices) f cdv A outer s H E) (WD E)) :
    DSs B (cxOf (L2.CX P w) P w K mg base ["frame", "many"] "choices" (defScope s_choices) f cdv A outer s H E) (WD E) (defBody s_choices) t_choices :=
    (dss_cons (ds_expr (de_call G_need_choices (hr.mono (by decide)) rfl D_need_choices.g D_need_choices.k D_need_choices.b tk (by exact (da_cons (de_name (pv 0)) da_nil))))
    (dss_one (ds_ret (de_call G_all_picks (hr.mono (by decide)) rfl D_all_picks.g D_all_picks.k D_all_picks.b tk (by exact (da_cons (de_new (by exact (fe_comp rfl sc_choices.nd (by exact (di_seq (de_call G_counts (hr.mono (by decide)) rfl D_counts.g D_counts.k D_counts.b tk (by exact (da_cons (de_name (pv 0)) da_nil))))) (blkOk_by (own := [("many", 1)]) (N := ["frame", "many"]) (sc := defScope s_choices) (by decide +kernel)) (fun _ _ _ _ _ => by exact (dg_name sc_choices.nd rfl (by first | exact Or.inl rfl | exact Or.inr rfl))) (fun _ _ _ _ _ => by exact dts_nil) (fun _ _ _ _ _ => by exact (de_new (by exact (fe_listRange1 rfl Z.list rfl Z.range (de_name (pv 1)))))) (by decide)))) da_nil))))))

abbrev s_fork_pairs : Stmt := topS 44
theorem sc_fork_pairs : FnScope ["many", "up", "down"] ["many"] (defScope s_fork_pairs) := ⟨rfl, rfl, rfl, by decide +kernel, rfl, by decide +kernel, by decide +kernel⟩
theorem dv_fork_pairs {P : Program} {w : World} {K : PySem.W.Frag} {mg : Str → Option Value} {base : Heap} {B : Bs} (Z : Zn mg) (Y : Yn K mg)
    {f : Addr} {cdv : Value} {fd : FuncData} {A : Around} {outer : List Env} {s : Shared} {H : Hp} {E : XK} (hr : Room 0 (A.deeper (envOfC "fork_pairs" (defScope s_fork_pairs) s.heap.objs.size f cdv)))
    (tk : Takes (cxOf (L2.CX P w) P w K mg base ["many", "up", "down"] "fork_pairs" (defScope s_fork_pairs) f cdv A outer s H E) (WD E)) :
    DSs B (cxOf (L2.CX P w) P w K mg base ["many", "up", "down"] "fork_pairs" (defScope s_fork_pairs) f cdv A outer s H E) (WD E) (defBody s_fork_pairs) t_fork_pairs :=
    (dss_cons (ds_if (dt_cmp (op2_eq hr.units) (de_name (pv 0)) de_int (nobehind _ (by decide) (by decide))) (dss_one (ds_ret (de_new (by exact (fe_lst (by exact (da_cons (de_tup (by exact (da_cons de_int (da_cons de_int da_nil)))) da_nil))))))) dss_nil)
    (dss_one (ds_ret (de_new (by exact (fe_comp2 rfl sc_fork_pairs.nd (by exact (di_range1 rfl Z.range (by exact (da_cons (de_name (pv 0)) da_nil)))) (blkOk_by (own := [("up", 1), ("down", 2)]) (N := ["many", "up", "down"]) (sc := defScope s_fork_pairs) (by decide +kernel)) (vs1 := [2]) (by decide) (fun _ _ _ _ _ => by exact (dg_name sc_fork_pairs.nd rfl (by first | exact Or.inl rfl | exact Or.inr rfl))) (fun _ _ _ _ _ => by exact dts_nil) (fun _ _ _ _ _ => by exact (di_range1 rfl Z.range (by exact (da_cons (de_name (pv 0)) da_nil)))) (fun _ _ _ _ _ => by exact (dg_name sc_fork_pairs.nd rfl (by first | exact Or.inl rfl | exact Or.inr rfl))) (fun _ _ _ _ _ => by exact (dts_one (dt_cmp (op2_ne hr.units) (de_name (pv 1)) (de_name (pv 2)) (nobehind _ (by decide) (by decide))))) (fun _ _ _ _ _ => by exact (de_tup (by exact (da_cons (de_name (pv 1)) (da_cons (de_name (pv 2)) da_nil))))) (by decide) (by decide)))))))

abbrev s_need_forks : Stmt := topS 45
theorem sc_need_forks : FnScope ["frame", "many", "count"] ["frame"] (defScope s_need_forks) := ⟨rfl, rfl, rfl, by decide +kernel, rfl, by decide +kernel, by decide +kernel⟩
theorem dv_need_forks {P : Program} {w : World} {K : PySem.W.Frag} {mg : Str → Option Value} {base : Heap} {B : Bs} (Z : Zn mg) (Y : Yn K mg)
    {f_multiplied_all : Addr} {fd_multiplied_all : FuncData} (D_multiplied_all : DefG K mg "multiplied_all" ["numbers"] f_multiplied_all fd_multiplied_all) (G_multiplied_all : FnOk P w K mg base (L2.CX P w) 1 f_multiplied_all fd_multiplied_all ["numbers"] (lSp ⟨K, cmOf mg, [], B.T⟩ 1 sp_multiplied_all))
    {f_counts : Addr} {fd_counts : FuncData} (D_counts : DefG K mg "counts" ["frame"] f_counts fd_counts) (G_counts : FnOk P w K mg base (L2.CX P w) 1 f_counts fd_counts ["frame"] (lSp ⟨K, cmOf mg, [], B.T⟩ 1 sp_counts))
    {C_TooMany___init__ f_TooMany___init__ : Addr} {fd_TooMany___init__ : FuncData} (O_TooMany : ExOk K mg "TooMany" C_TooMany___init__ f_TooMany___init__ ["what", "many", "limit"]) (D_TooMany___init__ : DefAt K mg ["self", "what", "many", "limit"] f_TooMany___init__ fd_TooMany___init__) (G_TooMany___init__ : FnOk P w K mg base (L2.CX P w) 1 f_TooMany___init__ fd_TooMany___init__ ["self", "what", "many", "limit"] (spInit K ["what", "many", "limit"]))
    {f : Addr} {cdv : Value} {fd : FuncData} {A : Around} {outer : List Env} {s : Shared} {H : Hp} {E : XK} (hr : Room 2 (A.deeper (envOfC "need_forks" (defScope s_need_forks) s.heap.objs.size f cdv)))
    (tk : Takes (cxOf (L2.CX P w) P w K mg base ["frame", "many", "count"] "need_forks" (defScope s_need_forks) f cdv A outer s H E) (WD E)) :
    DSs B (cxOf (L2.CX P w) P w K mg base ["frame", "many", "count"] "need_forks" (defScope s_need_forks) f cdv A outer s H E) (WD E) (defBody s_need_forks) t_need_forks :=
    (dss_cons (ds_set sc_need_forks.nd rfl (by first | exact Or.inl rfl | exact Or.inr rfl) (de_call G_multiplied_all (hr.mono (by decide)) rfl D_multiplied_all.g D_multiplied_all.k D_multiplied_all.b tk (by exact (da_cons (de_new (by exact (fe_comp rfl sc_need_forks.nd (by exact (di_seq (de_call G_counts (hr.mono (by decide)) rfl D_counts.g D_counts.k D_counts.b tk (by exact (da_cons (de_name (pv 0)) da_nil))))) (blkOk_by (own := [("count", 2)]) (N := ["frame", "many", "count"]) (sc := defScope s_need_forks) (by decide +kernel)) (fun _ _ _ _ _ => by exact (dg_name sc_need_forks.nd rfl (by first | exact Or.inl rfl | exact Or.inr rfl))) (fun _ _ _ _ _ => by exact dts_nil) (fun _ _ _ _ _ => by exact (de_cb (cr_max2 rfl) rfl Z.max (by decide +kernel) (by exact (da_cons de_int (da_cons (de_op op2_mul (de_name (pv 2)) (de_op op2_sub (de_name (pv 2)) de_int)) da_nil))))) (by decide)))) da_nil))))
    (dss_one (ds_if (dt_cmp op2_gt (de_name (pv 1)) (de_c (v := .int 64) (fun _ => of_int _) (pe_glob rfl (Classical.choose_spec Z.c_MOST_FORKS) ⟨_, rfl⟩)) (nobehind _ (by decide) (by decide))) (dss_one (ds_raise rfl tk O_TooMany (by decide) (by decide) G_TooMany___init__ (hr.mono (by decide)) D_TooMany___init__.b rfl (by exact (da_cons de_str (da_cons (de_name (pv 1)) (da_cons (de_c (v := .int 64) (fun _ => of_int _) (pe_glob rfl (Classical.choose_spec Z.c_MOST_FORKS) ⟨_, rfl⟩)) da_nil)))))) dss_nil)))

abbrev s_forks : Stmt := topS 46
theorem sc_forks : FnScope ["frame", "many"] ["frame"] (defScope s_forks) := ⟨rfl, rfl, rfl, by decide +kernel, rfl, by decide +kernel, by decide +kernel⟩
theorem dv_forks {P : Program} {w : World} {K : PySem.W.Frag} {mg : Str → Option Value} {base : Heap} {B : Bs} (Z : Zn mg) (Y : Yn K mg)
    {f_need_forks : Addr} {fd_need_forks : FuncData} (D_need_forks : DefG K mg "need_forks" ["frame"] f_need_forks fd_need_forks) (G_need_forks : FnOk P w K mg base (L2.CX P w) 3 f_need_forks fd_need_forks ["frame"] (lSp ⟨K, cmOf mg, [], B.T⟩ 1 sp_need_forks))
    {f_all_picks : Addr} {fd_all_picks : FuncData} (D_all_picks : DefG K mg "all_picks" ["lists"] f_all_picks fd_all_picks) (G_all_picks : FnOk P w K mg base (L2.CX P w) 1 f_all_picks fd_all_picks ["lists"] (lSp ⟨K, cmOf mg, [], B.T⟩ 1 sp_all_picks))
    {f_counts : Addr} {fd_counts : FuncData} (D_counts : DefG K mg "counts" ["frame"] f_counts fd_counts) (G_counts : FnOk P w K mg base (L2.CX P w) 1 f_counts fd_counts ["frame"] (lSp ⟨K, cmOf mg, [], B.T⟩ 1 sp_counts))
    {f_fork_pairs : Addr} {fd_fork_pairs : FuncData} (D_fork_pairs : DefG K mg "fork_pairs" ["many"] f_fork_pairs fd_fork_pairs) (G_fork_pairs : FnOk P w K mg base (L2.CX P w) 1 f_fork_pairs fd_fork_pairs ["many"] (lSp ⟨K, cmOf mg, [], B.T⟩ 1 sp_fork_pairs))
    {f : Addr} {cdv : Value} {fd : FuncData} {A : Around} {outer : List Env} {s : Shared} {H : Hp} {E : XK} (hr : Room 3 (A.deeper (envOfC "forks" (defScope s_forks) s.heap.objs.size f cdv)))
    (tk : Takes (cxOf (L2.CX P w) P w K mg base ["frame", "many"] "forks" (defScope s_forks) f cdv A outer s H E) (WD E)) :
    DSs B (cxOf (L2.CX P w) P w K mg base ["frame", "many"] "forks" (defScope s_forks) f cdv A outer s H E) (WD E) (defBody s_forks) t_forks :=
    (dss_cons (ds_expr (de_call G_need_forks (hr.mono (by decide)) rfl D_need_forks.g D_need_forks.k D_need_forks.b tk (by exact (da_cons (de_name (pv 0)) da_nil))))
    (dss_one (ds_ret (de_call G_all_picks (hr.mono (by decide)) rfl D_all_picks.g D_all_picks.k D_all_picks.b tk (by exact (da_cons (de_new (by exact (fe_comp rfl sc_forks.nd (by exact (di_seq (de_call G_counts (hr.mono (by decide)) rfl D_counts.g D_counts.k D_counts.b tk (by exact (da_cons (de_name (pv 0)) da_nil))))) (blkOk_by (own := [("many", 1)]) (N := ["frame", "many"]) (sc := defScope s_forks) (by decide +kernel)) (fun _ _ _ _ _ => by exact (dg_name sc_forks.nd rfl (by first | exact Or.inl rfl | exact Or.inr rfl))) (fun _ _ _ _ _ => by exact dts_nil) (fun _ _ _ _ _ => by exact (de_call G_fork_pairs (hr.mono (by decide)) rfl D_fork_pairs.g D_fork_pairs.k D_fork_pairs.b takes0 (by exact (da_cons (de_name (pv 1)) da_nil)))) (by decide)))) da_nil))))))

abbrev s__law_pen : Stmt := topS 48
theorem sc__law_pen : FnScope ["script", "fold", "cell"] ["script"] (defScope s__law_pen) := ⟨rfl, rfl, rfl, by decide +kernel, rfl, by decide +kernel, by decide +kernel⟩
theorem dv__law_pen {P : Program} {w : World} {K : PySem.W.Frag} {mg : Str → Option Value} {base : Heap} {B : Bs} (Z : Zn mg) (Y : Yn K mg)
    {f : Addr} {cdv : Value} {fd : FuncData} {A : Around} {outer : List Env} {s : Shared} {H : Hp} {E : XK} (hr : Room 0 (A.deeper (envOfC "_law_pen" (defScope s__law_pen) s.heap.objs.size f cdv)))
    (tk : Takes (cxOf (L2.CX P w) P w K mg base ["script", "fold", "cell"] "_law_pen" (defScope s__law_pen) f cdv A outer s H E) (WD E)) :
    DSs B (cxOf (L2.CX P w) P w K mg base ["script", "fold", "cell"] "_law_pen" (defScope s__law_pen) f cdv A outer s H E) (WD E) (defBody s__law_pen) t__law_pen :=
    (dss_cons (ds_set sc__law_pen.nd rfl (by first | exact Or.inl rfl | exact Or.inr rfl) de_int)
    (dss_cons (ds_for (passes_of rfl) rfl (di_seq (de_name (pv 0))) (dg_name sc__law_pen.nd rfl (by first | exact Or.inl rfl | exact Or.inr rfl)) (fun _ => (dss_one (ds_set sc__law_pen.nd rfl (by first | exact Or.inl rfl | exact Or.inr rfl) (de_op op2_mod (de_ct cr_int rfl Z.int (by decide +kernel) (by exact (da_cons (de_op op2_add (de_op op2_mul (de_name (pv 1)) de_int) (de_name (pv 2))) da_nil))) de_int)))))
    (dss_one (ds_ret (de_penNew (by exact (fe_list rfl Z.list (de_name (pv 0)))) (by exact (de_name (pv 1))))))))

abbrev s__law_pick : Stmt := topS 50
theorem sc__law_pick : FnScope ["pen", "some"] ["pen", "some"] (defScope s__law_pick) := ⟨rfl, rfl, rfl, by decide +kernel, rfl, by decide +kernel, by decide +kernel⟩
theorem dv__law_pick {P : Program} {w : World} {K : PySem.W.Frag} {mg : Str → Option Value} {base : Heap} {B : Bs} (Z : Zn mg) (Y : Yn K mg)
    {f__law_draw : Addr} {fd__law_draw : FuncData} (D__law_draw : DefG K mg "_law_draw" ["pen", "many"] f__law_draw fd__law_draw) (G__law_draw : FnOk P w K mg base (L2.CX P w) 1 f__law_draw fd__law_draw ["pen", "many"] (lSp ⟨K, cmOf mg, [], B.T⟩ 2 sp__law_draw))
    {f : Addr} {cdv : Value} {fd : FuncData} {A : Around} {outer : List Env} {s : Shared} {H : Hp} {E : XK} (hr : Room 1 (A.deeper (envOfC "_law_pick" (defScope s__law_pick) s.heap.objs.size f cdv)))
    (tk : Takes (cxOf (L2.CX P w) P w K mg base ["pen", "some"] "_law_pick" (defScope s__law_pick) f cdv A outer s H E) (WD E)) :
    DSs B (cxOf (L2.CX P w) P w K mg base ["pen", "some"] "_law_pick" (defScope s__law_pick) f cdv A outer s H E) (WD E) (defBody s__law_pick) t__law_pick :=
    (dss_one (ds_ret (de_ix (de_name (pv 1)) (de_call G__law_draw (hr.mono (by decide)) rfl D__law_draw.g D__law_draw.k D__law_draw.b tk (by exact (da_cons (de_name (pv 0)) (da_cons (de_cb cr_len rfl Z.len (by decide +kernel) (by exact (da_cons (de_name (pv 1)) da_nil))) da_nil)))) (fun _ _ => rfl))))

abbrev s__law_shuffled : Stmt := topS 51
theorem sc__law_shuffled : FnScope ["pen", "some", "left", "found", "lap"] ["pen", "some"] (defScope s__law_shuffled) := ⟨rfl, rfl, rfl, by decide +kernel, rfl, by decide +kernel, by decide +kernel⟩
theorem dv__law_shuffled {P : Program} {w : World} {K : PySem.W.Frag} {mg : Str → Option Value} {base : Heap} {B : Bs} (Z : Zn mg) (Y : Yn K mg)
    {f__law_draw : Addr} {fd__law_draw : FuncData} (D__law_draw : DefG K mg "_law_draw" ["pen", "many"] f__law_draw fd__law_draw) (G__law_draw : FnOk P w K mg base (L2.CX P w) 1 f__law_draw fd__law_draw ["pen", "many"] (lSp ⟨K, cmOf mg, [], B.T⟩ 2 sp__law_draw))
    {f : Addr} {cdv : Value} {fd : FuncData} {A : Around} {outer : List Env} {s : Shared} {H : Hp} {E : XK} (hr : Room 1 (A.deeper (envOfC "_law_shuffled" (defScope s__law_shuffled) s.heap.objs.size f cdv)))
    (tk : Takes (cxOf (L2.CX P w) P w K mg base ["pen", "some", "left", "found", "lap"] "_law_shuffled" (defScope s__law_shuffled) f cdv A outer s H E) (WD E)) :
    DSs B (cxOf (L2.CX P w) P w K mg base ["pen", "some", "left", "found", "lap"] "_law_shuffled" (defScope s__law_shuffled) f cdv A outer s H E) (WD E) (defBody s__law_shuffled) t__law_shuffled :=
    (dss_cons (ds_parLL rfl sc__law_shuffled.nd rfl rfl (by decide) rfl rfl (by exact (fe_list rfl Z.list (de_name (pv 1)))) (by exact (fe_lst (by exact da_nil))) rfl)
    (dss_cons (ds_for (passes_of rfl) rfl (di_range1 rfl Z.range (by exact (da_cons (de_cb cr_len rfl Z.len (by decide +kernel) (by exact (da_cons (de_name (pv 1)) da_nil))) da_nil))) (dg_name sc__law_shuffled.nd rfl (by first | exact Or.inl rfl | exact Or.inr rfl)) (fun _ => (dss_one (ds_appPop (by decide) (pv 3) (pv 2) (de_call G__law_draw (hr.mono (by decide)) rfl D__law_draw.g D__law_draw.k D__law_draw.b tk (by exact (da_cons (de_name (pv 0)) (da_cons (de_lenO rfl Z.len (pv 2)) da_nil))))))))
    (dss_one (ds_frz 3 (ds_ret (de_name (pv 3)))))))

abbrev s__law_is : Stmt := topS 52
theorem sc__law_is : FnScope ["told", "due", "at"] ["told", "due"] (defScope s__law_is) := ⟨rfl, rfl, rfl, by decide +kernel, rfl, by decide +kernel, by decide +kernel⟩
theorem dv__law_is {P : Program} {w : World} {K : PySem.W.Frag} {mg : Str → Option Value} {base : Heap} {B : Bs} (Z : Zn mg) (Y : Yn K mg)
    {f : Addr} {cdv : Value} {fd : FuncData} {A : Around} {outer : List Env} {s : Shared} {H : Hp} {E : XK}
    {d : Nat} {spS : Sp3} (D_self : DefG K mg "_law_is" ["told", "due"] f fd) (G_self : FnOk P w K mg base (L2.CX P w) (0 + d) f fd ["told", "due"] (lSp ⟨K, cmOf mg, [], B.T⟩ 2 spS)) (hr : Room (0 + d) (A.deeper (envOfC "_law_is" (defScope s__law_is) s.heap.objs.size f cdv)))
    (tk : Takes (cxOf (L2.CX P w) P w K mg base ["told", "due", "at"] "_law_is" (defScope s__law_is) f cdv A outer s H E) (WD E)) :
    DSs B (cxOf (L2.CX P w) P w K mg base ["told", "due", "at"] "_law_is" (defScope s__law_is) f cdv A outer s H E) (WD E) (defBody s__law_is) (t__law_is spS) :=
    (dss_cons (ds_if (dt_val (de_is rfl Z.isinstance rfl Z.tuple (by decide +kernel) (by decide +kernel) (de_name (pv 1)))) (dss_cons (ds_if (dt_w (dw_or (dt_not (dt_val (de_is rfl Z.isinstance rfl Z.tuple (by decide +kernel) (by decide +kernel) (de_name (pv 0))))) (dw_or1 (dt_cmp (op2_ne hr.units) (de_cb cr_len rfl Z.len (by decide +kernel) (by exact (da_cons (de_name (pv 0)) da_nil))) (de_cb cr_len rfl Z.len (by decide +kernel) (by exact (da_cons (de_name (pv 1)) da_nil))) (nobehind _ (by decide) (by decide)))))) (dss_one (ds_ret de_bl)) dss_nil)
    (dss_one (ds_ret (de_cmp (op2_eq hr.units) (de_new (by exact (fe_comp rfl sc__law_is.nd (by exact (di_range1 rfl Z.range (by exact (da_cons (de_cb cr_len rfl Z.len (by decide +kernel) (by exact (da_cons (de_name (pv 1)) da_nil))) da_nil)))) (blkOk_by (own := [("at", 2)]) (N := ["told", "due", "at"]) (sc := defScope s__law_is) (by decide +kernel)) (fun _ _ _ _ _ => by exact (dg_name sc__law_is.nd rfl (by first | exact Or.inl rfl | exact Or.inr rfl))) (fun _ _ _ _ _ => by exact (dts_one (dt_not (dt_val (de_call G_self (hr.mono (by omega)) rfl D_self.g D_self.k D_self.b takes0 (by exact (da_cons (de_ix (de_name (pv 0)) (de_name (pv 2)) (fun _ _ => rfl)) (da_cons (de_ix (de_name (pv 1)) (de_name (pv 2)) (fun _ _ => rfl)) da_nil)))))))) (fun _ _ _ _ _ => by exact (de_name (pv 2))) (by decide)))) (de_new (by exact (fe_lst (by exact da_nil)))) (nobehind _ (by decide) (by decide)))))) dss_nil)
    (dss_cons (ds_if (dt_isN (de_name (pv 1))) (dss_one (ds_ret (de_isN (de_name (pv 0))))) dss_nil)
    (dss_cons (ds_if (dt_isB (de_name (pv 1))) (dss_one (ds_ret (de_isB (de_name (pv 0))))) dss_nil)
    (dss_cons (ds_if (dt_isB (de_name (pv 1))) (dss_one (ds_ret (de_isB (de_name (pv 0))))) dss_nil)
    (dss_cons (ds_if (dt_val (de_is rfl Z.isinstance rfl Z.str (by decide +kernel) (by decide +kernel) (de_name (pv 1)))) (dss_one (ds_ret (de_and (de_is rfl Z.isinstance rfl Z.str (by decide +kernel) (by decide +kernel) (de_name (pv 0))) (de_one (de_cmp (op2_eq hr.units) (de_name (pv 0)) (de_name (pv 1)) (nobehind _ (by decide) (by decide))))))) dss_nil)
    (dss_one (ds_ret (de_and (de_is rfl Z.isinstance rfl Z.int (by decide +kernel) (by decide +kernel) (de_name (pv 0))) (de_and (de_not (de_is rfl Z.isinstance rfl Z.bool (by decide +kernel) (by decide +kernel) (de_name (pv 0)))) (de_one (de_cmp (op2_eq hr.units) (de_name (pv 0)) (de_name (pv 1)) (nobehind _ (by decide) (by decide)))))))))))))

abbrev s__law_choices : Stmt := topS 53
theorem sc__law_choices : FnScope ["rows", "found", "bundle", "longer", "choice", "index"] ["rows"] (defScope s__law_choices) := ⟨rfl, rfl, rfl, by decide +kernel, rfl, by decide +kernel, by decide +kernel⟩
theorem dv__law_choices {P : Program} {w : World} {K : PySem.W.Frag} {mg : Str → Option Value} {base : Heap} {B : Bs} (Z : Zn mg) (Y : Yn K mg)
    {f : Addr} {cdv : Value} {fd : FuncData} {A : Around} {outer : List Env} {s : Shared} {H : Hp} {E : XK} (hr : Room 0 (A.deeper (envOfC "_law_choices" (defScope s__law_choices) s.heap.objs.size f cdv)))
    (tk : Takes (cxOf (L2.CX P w) P w K mg base ["rows", "found", "bundle", "longer", "choice", "index"] "_law_choices" (defScope s__law_choices) f cdv A outer s H E) (WD E)) :
    DSs B (cxOf (L2.CX P w) P w K mg base ["rows", "found", "bundle", "longer", "choice", "index"] "_law_choices" (defScope s__law_choices) f cdv A outer s H E) (WD E) (defBody s__law_choices) t__law_choices :=
    (dss_cons (ds_setL sc__law_choices.nd rfl (by first | exact Or.inl rfl | exact Or.inr rfl) (fe_lst (by exact (da_cons (de_tup (by exact da_nil)) da_nil))))
    (dss_cons (ds_for (passes_of rfl) rfl (di_seq (de_name (pv 0))) (dg_name sc__law_choices.nd rfl (by first | exact Or.inl rfl | exact Or.inr rfl)) (fun _ => (dss_cons (ds_setL sc__law_choices.nd rfl (by first | exact Or.inl rfl | exact Or.inr rfl) (fe_lst (by exact da_nil)))
    (dss_cons (ds_frz 1 (ds_for (passes_of rfl) rfl (di_seq (de_new (by exact (fe_list rfl Z.list (de_name (pv 1)))))) (dg_name sc__law_choices.nd rfl (by first | exact Or.inl rfl | exact Or.inr rfl)) (fun _ => (dss_one (ds_ext (pv 3) (de_new (by exact (fe_comp rfl sc__law_choices.nd (by exact (di_range1 rfl Z.range (by exact (da_cons (de_cb cr_len rfl Z.len (by decide +kernel) (by exact (da_cons (de_name (pv 2)) da_nil))) da_nil)))) (blkOk_by (own := [("index", 5)]) (N := ["rows", "found", "bundle", "longer", "choice", "index"]) (sc := defScope s__law_choices) (by decide +kernel)) (fun _ _ _ _ _ => by exact (dg_name sc__law_choices.nd rfl (by first | exact Or.inl rfl | exact Or.inr rfl))) (fun _ _ _ _ _ => by exact dts_nil) (fun _ _ _ _ _ => by exact (de_op op2_add (de_name (pv 4)) (de_tup (by exact (da_cons (de_name (pv 5)) da_nil))))) (by decide)))))))))
    (dss_one (ds_frz 3 (ds_setL sc__law_choices.nd rfl (by first | exact Or.inl rfl | exact Or.inr rfl) (fe_list rfl Z.list (de_name (pv 3))))))))))
    (dss_one (ds_frz 1 (ds_ret (de_ct cr_tuple rfl Z.tuple (by decide +kernel) (by exact (da_cons (de_name (pv 1)) da_nil))))))))

abbrev s__law_forks : Stmt := topS 54
theorem sc__law_forks : FnScope ["rows", "found", "bundle", "longer", "pairs", "up", "down", "fork", "pair"] ["rows"] (defScope s__law_forks) := ⟨rfl, rfl, rfl, by decide +kernel, rfl, by decide +kernel, by decide +kernel⟩
theorem dv__law_forks {P : Program} {w : World} {K : PySem.W.Frag} {mg : Str → Option Value} {base : Heap} {B : Bs} (Z : Zn mg) (Y : Yn K mg)
    {f : Addr} {cdv : Value} {fd : FuncData} {A : Around} {outer : List Env} {s : Shared} {H : Hp} {E : XK} (hr : Room 0 (A.deeper (envOfC "_law_forks" (defScope s__law_forks) s.heap.objs.size f cdv)))
    (tk : Takes (cxOf (L2.CX P w) P w K mg base ["rows", "found", "bundle", "longer", "pairs", "up", "down", "fork", "pair"] "_law_forks" (defScope s__law_forks) f cdv A outer s H E) (WD E)) :
    DSs B (cxOf (L2.CX P w) P w K mg base ["rows", "found", "bundle", "longer", "pairs", "up", "down", "fork", "pair"] "_law_forks" (defScope s__law_forks) f cdv A outer s H E) (WD E) (defBody s__law_forks) t__law_forks :=
    (dss_cons (ds_setL sc__law_forks.nd rfl (by first | exact Or.inl rfl | exact Or.inr rfl) (fe_lst (by exact (da_cons (de_tup (by exact da_nil)) da_nil))))
    (dss_cons (ds_for (passes_of rfl) rfl (di_seq (de_name (pv 0))) (dg_name sc__law_forks.nd rfl (by first | exact Or.inl rfl | exact Or.inr rfl)) (fun _ => (dss_cons (ds_parLL rfl sc__law_forks.nd rfl rfl (by decide) rfl rfl (by exact (fe_lst (by exact da_nil))) (by exact (fe_lst (by exact da_nil))) rfl)
    (dss_cons (ds_for (passes_of rfl) rfl (di_range1 rfl Z.range (by exact (da_cons (de_cb cr_len rfl Z.len (by decide +kernel) (by exact (da_cons (de_name (pv 2)) da_nil))) da_nil))) (dg_name sc__law_forks.nd rfl (by first | exact Or.inl rfl | exact Or.inr rfl)) (fun _ => (dss_one (ds_ext (pv 4) (de_new (by exact (fe_comp rfl sc__law_forks.nd (by exact (di_range1 rfl Z.range (by exact (da_cons (de_cb cr_len rfl Z.len (by decide +kernel) (by exact (da_cons (de_name (pv 2)) da_nil))) da_nil)))) (blkOk_by (own := [("down", 6)]) (N := ["rows", "found", "bundle", "longer", "pairs", "up", "down", "fork", "pair"]) (sc := defScope s__law_forks) (by decide +kernel)) (fun _ _ _ _ _ => by exact (dg_name sc__law_forks.nd rfl (by first | exact Or.inl rfl | exact Or.inr rfl))) (fun _ _ _ _ _ => by exact (dts_one (dt_w (dw_or (dt_cmp (op2_ne hr.units) (de_name (pv 6)) (de_name (pv 5)) (nobehind _ (by decide) (by decide))) (dw_or1 (dt_cmp (op2_eq hr.units) (de_cb cr_len rfl Z.len (by decide +kernel) (by exact (da_cons (de_name (pv 2)) da_nil))) de_int (nobehind _ (by decide) (by decide)))))))) (fun _ _ _ _ _ => by exact (de_tup (by exact (da_cons (de_name (pv 5)) (da_cons (de_name (pv 6)) da_nil))))) (by decide))))))))
    (dss_cons (ds_frz 1 (ds_for (passes_of rfl) rfl (di_seq (de_new (by exact (fe_list rfl Z.list (de_name (pv 1)))))) (dg_name sc__law_forks.nd rfl (by first | exact Or.inl rfl | exact Or.inr rfl)) (fun _ => (dss_one (ds_frz 4 (ds_ext (pv 3) (de_new (by exact (fe_comp rfl sc__law_forks.nd (by exact (di_seq (de_name (pv 4)))) (blkOk_by (own := [("pair", 8)]) (N := ["rows", "found", "bundle", "longer", "pairs", "up", "down", "fork", "pair"]) (sc := defScope s__law_forks) (by decide +kernel)) (fun _ _ _ _ _ => by exact (dg_name sc__law_forks.nd rfl (by first | exact Or.inl rfl | exact Or.inr rfl))) (fun _ _ _ _ _ => by exact dts_nil) (fun _ _ _ _ _ => by exact (de_op op2_add (de_name (pv 7)) (de_tup (by exact (da_cons (de_name (pv 8)) da_nil))))) (by decide))))))))))
    (dss_one (ds_frz 3 (ds_setL sc__law_forks.nd rfl (by first | exact Or.inl rfl | exact Or.inr rfl) (fe_list rfl Z.list (de_name (pv 3)))))))))))
    (dss_one (ds_frz 1 (ds_ret (de_ct cr_tuple rfl Z.tuple (by decide +kernel) (by exact (da_cons (de_name (pv 1)) da_nil))))))))

abbrev s__law_made : Stmt := topS 55
theorem sc__law_made : FnScope ["rows"] ["rows"] (defScope s__law_made) := ⟨rfl, rfl, rfl, by decide +kernel, rfl, by decide +kernel, by decide +kernel⟩
theorem dv__law_made {P : Program} {w : World} {K : PySem.W.Frag} {mg : Str → Option Value} {base : Heap} {B : Bs} (Z : Zn mg) (Y : Yn K mg)
    {C_Frame___init__ f_Frame___init__ : Addr} {fd_Frame___init__ : FuncData} (M_Frame : MkOk K mg "Frame" C_Frame___init__ f_Frame___init__) (D_Frame___init__ : DefAt K mg ["self", "rows"] f_Frame___init__ fd_Frame___init__) (G_Frame___init__ : FnOk P w K mg base (L2.CX P w) 9 f_Frame___init__ fd_Frame___init__ ["self", "rows"] (lSpI ⟨K, cmOf mg, [], B.T⟩ 1 "Frame" sp_Frame___init__))
    {f : Addr} {cdv : Value} {fd : FuncData} {A : Around} {outer : List Env} {s : Shared} {H : Hp} {E : XK} (hr : Room 10 (A.deeper (envOfC "_law_made" (defScope s__law_made) s.heap.objs.size f cdv)))
    (tk : Takes (cxOf (L2.CX P w) P w K mg base ["rows"] "_law_made" (defScope s__law_made) f cdv A outer s H E) (WD E)) :
    DSs B (cxOf (L2.CX P w) P w K mg base ["rows"] "_law_made" (defScope s__law_made) f cdv A outer s H E) (WD E) (defBody s__law_made) t__law_made :=
    (dss_one (ds_ret (de_make M_Frame G_Frame___init__ (hr.mono (by decide)) rfl D_Frame___init__.b tk (by exact (da_cons (de_name (pv 0)) da_nil)))))

abbrev s__law_more_kinds : Stmt := topS 57
theorem sc__law_more_kinds : FnScope ["e", "found"] ["e"] (defScope s__law_more_kinds) := ⟨rfl, rfl, rfl, by decide +kernel, rfl, by decide +kernel, by decide +kernel⟩
theorem dv__law_more_kinds {P : Program} {w : World} {K : PySem.W.Frag} {mg : Str → Option Value} {base : Heap} {B : Bs} (Z : Zn mg) (Y : Yn K mg)
    (Xn : XnOk K mg)
    {f : Addr} {cdv : Value} {A : Around} {outer : List Env} {s : Shared} {H : Hp} {p : Addr × Obj} (hr : RoomP false 0 (A.deeper (envOfC "_law_more_kinds" (defScope s__law_more_kinds) s.heap.objs.size f cdv))) :
    DSs B (cxP P w K mg base ["e", "found"] "_law_more_kinds" (defScope s__law_more_kinds) f cdv A outer s H p) W0 (defBody s__law_more_kinds) t__law_more_kinds :=
    (dss_cons (ds_setL sc__law_more_kinds.nd rfl (by first | exact Or.inl rfl | exact Or.inr rfl) (fe_lst (by exact da_nil)))
    (dss_cons (ds_if (dt_val (de_isXc (nm := excN) (f := (· == "NoPlace")) rfl Z.isinstance rfl Xn.m_NoPlace Xn.k_NoPlace (de_name (pv 0)))) (dss_one (ds_app (pv 1) (de_tup (by exact (da_cons de_str (da_cons de_never da_nil)))))) dss_nil)
    (dss_cons (ds_if (dt_val (de_isXc (nm := excN) (f := (· == "NoRow")) rfl Z.isinstance rfl Xn.m_NoRow Xn.k_NoRow (de_name (pv 0)))) (dss_one (ds_app (pv 1) (de_tup (by exact (da_cons de_str (da_cons de_never (da_cons de_never da_nil))))))) dss_nil)
    (dss_cons (ds_if (dt_val (de_isXc (nm := excN) (f := (· == "NoWall")) rfl Z.isinstance rfl Xn.m_NoWall Xn.k_NoWall (de_name (pv 0)))) (dss_one (ds_app (pv 1) (de_tup (by exact (da_cons de_str (da_cons de_never da_nil)))))) dss_nil)
    (dss_cons (ds_if (dt_val (de_isXc (nm := excN) (f := (· == "NoName")) rfl Z.isinstance rfl Xn.m_NoName Xn.k_NoName (de_name (pv 0)))) (dss_one (ds_app (pv 1) (de_tup (by exact (da_cons de_str (da_cons de_never da_nil)))))) dss_nil)
    (dss_cons (ds_if (dt_val (de_isXc (nm := excN) (f := (· == "TakenName")) rfl Z.isinstance rfl Xn.m_TakenName Xn.k_TakenName (de_name (pv 0)))) (dss_one (ds_app (pv 1) (de_tup (by exact (da_cons de_str (da_cons de_never da_nil)))))) dss_nil)
    (dss_cons (ds_if (dt_val (de_isXc (nm := excN) (f := (· == "Unlike")) rfl Z.isinstance rfl Xn.m_Unlike Xn.k_Unlike (de_name (pv 0)))) (dss_one (ds_app (pv 1) (de_tup (by exact (da_cons de_str (da_cons de_never da_nil)))))) dss_nil)
    (dss_cons (ds_if (dt_val (de_isXc (nm := excN) (f := (· == "Flat")) rfl Z.isinstance rfl Xn.m_Flat Xn.k_Flat (de_name (pv 0)))) (dss_one (ds_app (pv 1) (de_tup (by exact (da_cons de_str (da_cons de_never da_nil)))))) dss_nil)
    (dss_cons (ds_if (dt_val (de_isXc (nm := excN) (f := (· == "NotOnce")) rfl Z.isinstance rfl Xn.m_NotOnce Xn.k_NotOnce (de_name (pv 0)))) (dss_one (ds_app (pv 1) (de_tup (by exact (da_cons de_str (da_cons de_never da_nil)))))) dss_nil)
    (dss_cons (ds_if (dt_val (de_isXc (nm := excN) (f := (· == "NotPlain")) rfl Z.isinstance rfl Xn.m_NotPlain Xn.k_NotPlain (de_name (pv 0)))) (dss_one (ds_app (pv 1) (de_tup (by exact (da_cons de_str (da_cons de_never da_nil)))))) dss_nil)
    (dss_cons (ds_if (dt_val (de_isXc (nm := excN) (f := (· == "TooMany")) rfl Z.isinstance rfl Xn.m_TooMany Xn.k_TooMany (de_name (pv 0)))) (dss_one (ds_app (pv 1) (de_tup (by exact (da_cons de_str (da_cons (de_xf Xn.f_TooMany_what (de_name (pv 0))) (da_cons (de_xf Xn.f_TooMany_many (de_name (pv 0))) (da_cons (de_xf Xn.f_TooMany_limit (de_name (pv 0))) da_nil)))))))) dss_nil)
    (dss_cons (ds_if (dt_val (de_isXc (nm := excN) (f := (· == "NotKept")) rfl Z.isinstance rfl Xn.m_NotKept Xn.k_NotKept (de_name (pv 0)))) (dss_one (ds_app (pv 1) (de_tup (by exact (da_cons de_str (da_cons de_never (da_cons de_never da_nil))))))) dss_nil)
    (dss_cons (ds_if (dt_val (de_isXc (nm := excN) (f := (· == "NothingToUndo")) rfl Z.isinstance rfl Xn.m_NothingToUndo Xn.k_NothingToUndo (de_name (pv 0)))) (dss_one (ds_app (pv 1) (de_tup (by exact (da_cons de_str da_nil))))) dss_nil)
    (dss_cons (ds_if (dt_val (de_isXc (nm := excN) (f := (· == "NothingToRedo")) rfl Z.isinstance rfl Xn.m_NothingToRedo Xn.k_NothingToRedo (de_name (pv 0)))) (dss_one (ds_app (pv 1) (de_tup (by exact (da_cons de_str da_nil))))) dss_nil)
    (dss_one (ds_frz 1 (ds_ret (de_name (pv 1)))))))))))))))))))

abbrev s__law_kinds : Stmt := topS 56
theorem sc__law_kinds : FnScope ["e", "found"] ["e"] (defScope s__law_kinds) := ⟨rfl, rfl, rfl, by decide +kernel, rfl, by decide +kernel, by decide +kernel⟩
theorem dv__law_kinds {P : Program} {w : World} {K : PySem.W.Frag} {mg : Str → Option Value} {base : Heap} {B : Bs} (Z : Zn mg) (Y : Yn K mg)
    {f__law_more_kinds : Addr} {fd__law_more_kinds : FuncData} (D__law_more_kinds : DefG K mg "_law_more_kinds" ["e"] f__law_more_kinds fd__law_more_kinds) (G__law_more_kinds : FnP P w K mg base false 1 f__law_more_kinds fd__law_more_kinds ["e"] (lSpP ⟨K, cmOf mg, [], B.T⟩ sp__law_more_kinds))
    (Xn : XnOk K mg)
    {f : Addr} {cdv : Value} {A : Around} {outer : List Env} {s : Shared} {H : Hp} {p : Addr × Obj} (hr : RoomP false 1 (A.deeper (envOfC "_law_kinds" (defScope s__law_kinds) s.heap.objs.size f cdv))) :
    DSs B (cxP P w K mg base ["e", "found"] "_law_kinds" (defScope s__law_kinds) f cdv A outer s H p) W0 (defBody s__law_kinds) t__law_kinds :=
    (dss_cons (ds_setL sc__law_kinds.nd rfl (by first | exact Or.inl rfl | exact Or.inr rfl) (fe_lst (by exact da_nil)))
    (dss_cons (ds_if (dt_val (de_isXc (nm := excN) (f := (· == "BadNumber")) rfl Z.isinstance rfl Xn.m_BadNumber Xn.k_BadNumber (de_name (pv 0)))) (dss_one (ds_app (pv 1) (de_tup (by exact (da_cons de_str (da_cons de_never (da_cons de_never da_nil))))))) dss_nil)
    (dss_cons (ds_if (dt_val (de_isXc (nm := excN) (f := (· == "BadRow")) rfl Z.isinstance rfl Xn.m_BadRow Xn.k_BadRow (de_name (pv 0)))) (dss_one (ds_app (pv 1) (de_tup (by exact (da_cons de_str (da_cons de_never (da_cons de_never da_nil))))))) dss_nil)
    (dss_cons (ds_if (dt_val (de_isXc (nm := excN) (f := (· == "BadTable")) rfl Z.isinstance rfl Xn.m_BadTable Xn.k_BadTable (de_name (pv 0)))) (dss_one (ds_app (pv 1) (de_tup (by exact (da_cons de_str (da_cons de_never da_nil)))))) dss_nil)
    (dss_cons (ds_if (dt_val (de_isXc (nm := excN) (f := (· == "BadFrame")) rfl Z.isinstance rfl Xn.m_BadFrame Xn.k_BadFrame (de_name (pv 0)))) (dss_one (ds_app (pv 1) (de_tup (by exact (da_cons de_str (da_cons de_never (da_cons de_never da_nil))))))) dss_nil)
    (dss_cons (ds_if (dt_val (de_isXc (nm := excN) (f := (· == "BadLoad")) rfl Z.isinstance rfl Xn.m_BadLoad Xn.k_BadLoad (de_name (pv 0)))) (dss_one (ds_app (pv 1) (de_tup (by exact (da_cons de_str (da_cons de_never da_nil)))))) dss_nil)
    (dss_cons (ds_if (dt_val (de_isXc (nm := excN) (f := (· == "BadNet")) rfl Z.isinstance rfl Xn.m_BadNet Xn.k_BadNet (de_name (pv 0)))) (dss_one (ds_app (pv 1) (de_tup (by exact (da_cons de_str (da_cons de_never (da_cons de_never da_nil))))))) dss_nil)
    (dss_cons (ds_if (dt_val (de_isXc (nm := excN) (f := (· == "BadHouse")) rfl Z.isinstance rfl Xn.m_BadHouse Xn.k_BadHouse (de_name (pv 0)))) (dss_one (ds_app (pv 1) (de_tup (by exact (da_cons de_str (da_cons de_never (da_cons de_never da_nil))))))) dss_nil)
    (dss_cons (ds_if (dt_val (de_isXc (nm := excN) (f := (· == "BadWeb")) rfl Z.isinstance rfl Xn.m_BadWeb Xn.k_BadWeb (de_name (pv 0)))) (dss_one (ds_app (pv 1) (de_tup (by exact (da_cons de_str (da_cons de_never (da_cons de_never da_nil))))))) dss_nil)
    (dss_cons (ds_if (dt_val (de_isXc (nm := excN) (f := (· == "BadName")) rfl Z.isinstance rfl Xn.m_BadName Xn.k_BadName (de_name (pv 0)))) (dss_one (ds_app (pv 1) (de_tup (by exact (da_cons de_str (da_cons de_never da_nil)))))) dss_nil)
    (dss_cons (ds_if (dt_val (de_isXc (nm := excN) (f := (· == "BadText")) rfl Z.isinstance rfl Xn.m_BadText Xn.k_BadText (de_name (pv 0)))) (dss_one (ds_app (pv 1) (de_tup (by exact (da_cons de_str (da_cons de_never (da_cons de_never da_nil))))))) dss_nil)
    (dss_one (ds_frz 1 (ds_ret (de_op op2_add (de_name (pv 1)) (de_callP G__law_more_kinds (hr.mono (by decide)) rfl D__law_more_kinds.g D__law_more_kinds.k D__law_more_kinds.b (de_name (pv 0))))))))))))))))))

abbrev s__law_fault : Stmt := topS 58
theorem sc__law_fault : FnScope ["call", "found", "e"] ["call"] (defScope s__law_fault) := ⟨rfl, rfl, rfl, by decide +kernel, rfl, by decide +kernel, by decide +kernel⟩
theorem dv__law_fault {P : Program} {w : World} {K : PySem.W.Frag} {mg : Str → Option Value} {base : Heap} {B : Bs} (Z : Zn mg) (Y : Yn K mg)
    {f__law_kinds : Addr} {fd__law_kinds : FuncData} (D__law_kinds : DefG K mg "_law_kinds" ["e"] f__law_kinds fd__law_kinds) (G__law_kinds : FnP P w K mg base false 2 f__law_kinds fd__law_kinds ["e"] (lSpP ⟨K, cmOf mg, [], B.T⟩ sp__law_kinds))
    (Xn : XnOk K mg) {X : Cx} (eP : X.prog = P) (eK : X.K = K) (em : X.mg = mg) (eb : X.base = base) (ew : X.w = w) {g a : Addr} {cdg : Value} {s : Shared} {H : Hp} {oe : Obj} {pn : List (Addr × Obj)} (hr : RoomP false 2 ((cxF X "_law_fault" (defScope s__law_fault) g cdg s H).suite a ((a, oe) :: pn)).A) :
    DSs B ((cxF X "_law_fault" (defScope s__law_fault) g cdg s H).suite a ((a, oe) :: pn)) W0 (suiteOf s__law_fault) t__law_fault := by
  subst eP eK em eb ew
  exact (dss_cons (ds_set sc__law_fault.nd rfl (by first | exact Or.inl rfl | exact Or.inr rfl) (de_callP G__law_kinds (hr.mono (by decide)) rfl D__law_kinds.g D__law_kinds.k D__law_kinds.b (de_name (pv 2))))
    (dss_one (ds_set sc__law_fault.nd rfl (by first | exact Or.inl rfl | exact Or.inr rfl) (de_ite (dt_w (dw_and (dt_cmp (op2_eq hr.units) (de_cb cr_len rfl Z.len (by decide +kernel) (by exact (da_cons (de_name (pv 1)) da_nil))) de_int (nobehind _ (by decide) (by decide))) (dw_and1 (dt_val (de_isXt (nm := excN) (f := fun _ => true) rfl Z.isinstance rfl Z.ValueError (by decide +kernel) Xn.v_ValueError (de_name (pv 2))))))) (de_ix (de_name (pv 1)) de_int (fun _ _ => rfl)) (de_tup (by exact (da_cons de_str (da_cons (de_cb cr_len rfl Z.len (by decide +kernel) (by exact (da_cons (de_name (pv 1)) da_nil))) da_nil))))))))
theorem gv__law_fault {X : Cx} {q : Str} {T : List (Addr × Str)} (Z : Zn X.mg) (Y : Yn X.K X.mg) (Xn : XnOk X.K X.mg) {f__law_kinds CS g : Addr} {cdv : Value} {fd__law_kinds : FuncData} (D__law_kinds : DefG X.K X.mg "_law_kinds" ["e"] f__law_kinds fd__law_kinds) (G__law_kinds : FnP X.prog X.w X.K X.mg X.base false 2 f__law_kinds fd__law_kinds ["e"] (lSpP ⟨X.K, cmOf X.mg, [], T⟩ sp__law_kinds)) (hRE : X.mg "RestsError" = some (.ref CS)) (XR : XrOk X.K X.mg CS) (hr : Room 3 X.A) :
    LamX.GivesTo X ["call", "found", "e"] "_law_fault" (defScope s__law_fault) g cdv (defBody s__law_fault) "call" q (TTf ⟨X.K, cmOf X.mg, [], T⟩ ft__law_fault) := by
  exact fault_gives (X := X) (x := "_law_fault") (q := q) (sg := defScope s__law_fault) (g := g) (cdg := cdv) (gd := false) (k := 1) (T := T) (rs := t__law_fault) (ft := ft__law_fault) (b0 := suiteOf0 s__law_fault) (suite := suiteOf1 s__law_fault) (CS := CS) rfl hRE rfl rfl hr (fun z => by cases z) (fun s H a oe pn B hB rm => by
    subst hB
    exact dv__law_fault Z Y D__law_kinds G__law_kinds Xn rfl rfl rfl rfl rfl rm) (fun y Q hy => ⟨XR y.cls (ft__law_fault_cls y Q hy), pl__law_fault y Q hy⟩)

abbrev s__law_rows_of : Stmt := topS 59
theorem sc__law_rows_of : FnScope ["counts_v", "many", "unit", "count"] ["counts_v"] (defScope s__law_rows_of) := ⟨rfl, rfl, rfl, by decide +kernel, rfl, by decide +kernel, by decide +kernel⟩
theorem dv__law_rows_of {P : Program} {w : World} {K : PySem.W.Frag} {mg : Str → Option Value} {base : Heap} {B : Bs} (Z : Zn mg) (Y : Yn K mg)
    {f : Addr} {cdv : Value} {fd : FuncData} {A : Around} {outer : List Env} {s : Shared} {H : Hp} {E : XK} (hr : Room 0 (A.deeper (envOfC "_law_rows_of" (defScope s__law_rows_of) s.heap.objs.size f cdv)))
    (tk : Takes (cxOf (L2.CX P w) P w K mg base ["counts_v", "many", "unit", "count"] "_law_rows_of" (defScope s__law_rows_of) f cdv A outer s H E) (WD E)) :
    DSs B (cxOf (L2.CX P w) P w K mg base ["counts_v", "many", "unit", "count"] "_law_rows_of" (defScope s__law_rows_of) f cdv A outer s H E) (WD E) (defBody s__law_rows_of) t__law_rows_of :=
    (dss_cons (ds_set sc__law_rows_of.nd rfl (by first | exact Or.inl rfl | exact Or.inr rfl) (de_cb cr_len rfl Z.len (by decide +kernel) (by exact (da_cons (de_name (pv 0)) da_nil))))
    (dss_cons (ds_set sc__law_rows_of.nd rfl (by first | exact Or.inl rfl | exact Or.inr rfl) (de_op op2_add (de_tup (by exact (da_cons de_int da_nil))) (de_op op2_mul (de_tup (by exact (da_cons de_int da_nil))) (de_op op2_sub (de_name (pv 1)) de_int))))
    (dss_one (ds_ret (de_ct cr_tuple rfl Z.tuple (by decide +kernel) (by exact (da_cons (de_new (by exact (fe_comp rfl sc__law_rows_of.nd (by exact (di_seq (de_name (pv 0)))) (blkOk_by (own := [("count", 3)]) (N := ["counts_v", "many", "unit", "count"]) (sc := defScope s__law_rows_of) (by decide +kernel)) (fun _ _ _ _ _ => by exact (dg_name sc__law_rows_of.nd rfl (by first | exact Or.inl rfl | exact Or.inr rfl))) (fun _ _ _ _ _ => by exact dts_nil) (fun _ _ _ _ _ => by exact (de_op op2_mul (de_tup (by exact (da_cons (de_name (pv 2)) da_nil))) (de_name (pv 3)))) (by decide)))) da_nil)))))))

abbrev s__law_many : Stmt := topS 60
theorem sc__law_many : FnScope ["counts_v", "found", "pairs", "count"] ["counts_v"] (defScope s__law_many) := ⟨rfl, rfl, rfl, by decide +kernel, rfl, by decide +kernel, by decide +kernel⟩
theorem dv__law_many {P : Program} {w : World} {K : PySem.W.Frag} {mg : Str → Option Value} {base : Heap} {B : Bs} (Z : Zn mg) (Y : Yn K mg)
    {f : Addr} {cdv : Value} {fd : FuncData} {A : Around} {outer : List Env} {s : Shared} {H : Hp} {E : XK} (hr : Room 0 (A.deeper (envOfC "_law_many" (defScope s__law_many) s.heap.objs.size f cdv)))
    (tk : Takes (cxOf (L2.CX P w) P w K mg base ["counts_v", "found", "pairs", "count"] "_law_many" (defScope s__law_many) f cdv A outer s H E) (WD E)) :
    DSs B (cxOf (L2.CX P w) P w K mg base ["counts_v", "found", "pairs", "count"] "_law_many" (defScope s__law_many) f cdv A outer s H E) (WD E) (defBody s__law_many) t__law_many :=
    (dss_cons (ds_asg (de_tup (by exact (da_cons de_int (da_cons de_int da_nil)))) (dg_tup rfl (dgs_cons (dg_name sc__law_many.nd rfl (by first | exact Or.inl rfl | exact Or.inr rfl)) (dgs_cons (dg_name sc__law_many.nd rfl (by first | exact Or.inl rfl | exact Or.inr rfl)) dgs_nil))))
    (dss_cons (ds_for (passes_of rfl) rfl (di_seq (de_name (pv 0))) (dg_name sc__law_many.nd rfl (by first | exact Or.inl rfl | exact Or.inr rfl)) (fun _ => (dss_one (ds_par rfl sc__law_many.nd rfl rfl (by decide) rfl rfl (by exact (da_cons (de_op op2_mul (de_name (pv 1)) (de_name (pv 3))) (da_cons (de_op op2_mul (de_name (pv 2)) (de_cb (cr_max2 rfl) rfl Z.max (by decide +kernel) (by exact (da_cons de_int (da_cons (de_op op2_mul (de_name (pv 3)) (de_op op2_sub (de_name (pv 3)) de_int)) da_nil))))) da_nil))) rfl))))
    (dss_one (ds_ret (de_tup (by exact (da_cons (de_name (pv 1)) (da_cons (de_name (pv 2)) da_nil))))))))

abbrev s__law_told_right : Stmt := topS 61
theorem sc__law_told_right : FnScope ["counts_v", "rows", "frame", "many", "pairs"] ["counts_v"] (defScope s__law_told_right) := ⟨rfl, rfl, rfl, by decide +kernel, rfl, by decide +kernel, by decide +kernel⟩
theorem dv__law_told_right {P : Program} {w : World} {K : PySem.W.Frag} {mg : Str → Option Value} {base : Heap} {B : Bs} (Z : Zn mg) (Y : Yn K mg)
    {f__law_rows_of : Addr} {fd__law_rows_of : FuncData} (D__law_rows_of : DefG K mg "_law_rows_of" ["counts_v"] f__law_rows_of fd__law_rows_of) (G__law_rows_of : FnOk P w K mg base (L2.CX P w) 1 f__law_rows_of fd__law_rows_of ["counts_v"] (lSp ⟨K, cmOf mg, [], B.T⟩ 1 sp__law_rows_of))
    {f__law_many : Addr} {fd__law_many : FuncData} (D__law_many : DefG K mg "_law_many" ["counts_v"] f__law_many fd__law_many) (G__law_many : FnOk P w K mg base (L2.CX P w) 1 f__law_many fd__law_many ["counts_v"] (lSp ⟨K, cmOf mg, [], B.T⟩ 1 sp__law_many))
    {f__law_made : Addr} {fd__law_made : FuncData} (D__law_made : DefG K mg "_law_made" ["rows"] f__law_made fd__law_made) (G__law_made : FnOk P w K mg base (L2.CX P w) 11 f__law_made fd__law_made ["rows"] (lSp ⟨K, cmOf mg, [], B.T⟩ 1 sp__law_made))
    {f_choices : Addr} {fd_choices : FuncData} (D_choices : DefG K mg "choices" ["frame"] f_choices fd_choices) (G_choices : FnOk P w K mg base (L2.CX P w) 4 f_choices fd_choices ["frame"] (lSp ⟨K, cmOf mg, [], B.T⟩ 1 sp_choices))
    {f__law_is : Addr} {fd__law_is : FuncData} (D__law_is : DefG K mg "_law_is" ["told", "due"] f__law_is fd__law_is) (G__law_is : FnOk P w K mg base (L2.CX P w) 8 f__law_is fd__law_is ["told", "due"] (lSp ⟨K, cmOf mg, [], B.T⟩ 2 sp__law_is))
    {f__law_choices : Addr} {fd__law_choices : FuncData} (D__law_choices : DefG K mg "_law_choices" ["rows"] f__law_choices fd__law_choices) (G__law_choices : FnOk P w K mg base (L2.CX P w) 1 f__law_choices fd__law_choices ["rows"] (lSp ⟨K, cmOf mg, [], B.T⟩ 1 sp__law_choices))
    {f_forks : Addr} {fd_forks : FuncData} (D_forks : DefG K mg "forks" ["frame"] f_forks fd_forks) (G_forks : FnOk P w K mg base (L2.CX P w) 4 f_forks fd_forks ["frame"] (lSp ⟨K, cmOf mg, [], B.T⟩ 1 sp_forks))
    {f__law_forks : Addr} {fd__law_forks : FuncData} (D__law_forks : DefG K mg "_law_forks" ["rows"] f__law_forks fd__law_forks) (G__law_forks : FnOk P w K mg base (L2.CX P w) 1 f__law_forks fd__law_forks ["rows"] (lSp ⟨K, cmOf mg, [], B.T⟩ 1 sp__law_forks))
    {f__law_fault : Addr} {fd__law_fault : FuncData} (D__law_fault : DefG K mg "_law_fault" ["call"] f__law_fault fd__law_fault) (Fu__law_fault : Fun K "_law_fault" "_law_fault" s__law_fault f__law_fault fd__law_fault)
    {CS fk cT PT : Addr} {fdk : FuncData} (Xn : XnOk K mg) (hRE : mg "RestsError" = some (.ref CS)) (D__law_kinds : DefG K mg "_law_kinds" ["e"] fk fdk) (G__law_kinds : FnP P w K mg base false 2 fk fdk ["e"] (lSpP ⟨K, cmOf mg, [], B.T⟩ sp__law_kinds)) (XR : XrOk K mg CS) (TB : LamX.TabB base mg cT PT) (hmT : (PT, ("_law_told_right.<locals>.<lambda>" : Str)) ∈ B.T) (hu : ∀ p ∈ B.T, p.1 = PT → p.2 = ("_law_told_right.<locals>.<lambda>" : Str))
    {f : Addr} {cdv : Value} {fd : FuncData} {A : Around} {outer : List Env} {s : Shared} {H : Hp} {E : XK} (hcode : cdv = .ref cT) (hr : Room 13 (A.deeper (envOfC "_law_told_right" (defScope s__law_told_right) s.heap.objs.size f cdv)))
    (tk : Takes (cxOf (L2.CX P w) P w K mg base ["counts_v", "rows", "frame", "many", "pairs"] "_law_told_right" (defScope s__law_told_right) f cdv A outer s H E) (WD E)) :
    DSs B (cxOf (L2.CX P w) P w K mg base ["counts_v", "rows", "frame", "many", "pairs"] "_law_told_right" (defScope s__law_told_right) f cdv A outer s H E) (WD E) (defBody s__law_told_right) t__law_told_right :=
    (dss_cons (ds_set sc__law_told_right.nd rfl (by first | exact Or.inl rfl | exact Or.inr rfl) (de_call G__law_rows_of (hr.mono (by decide)) rfl D__law_rows_of.g D__law_rows_of.k D__law_rows_of.b tk (by exact (da_cons (de_name (pv 0)) da_nil))))
    (dss_cons (ds_asg (de_tup (by exact (da_cons (de_call G__law_made (hr.mono (by decide)) rfl D__law_made.g D__law_made.k D__law_made.b tk (by exact (da_cons (de_name (pv 1)) da_nil))) (da_cons (de_call G__law_many (hr.mono (by decide)) rfl D__law_many.g D__law_many.k D__law_many.b tk (by exact (da_cons (de_name (pv 0)) da_nil))) da_nil)))) (dg_tup rfl (dgs_cons (dg_name sc__law_told_right.nd rfl (by first | exact Or.inl rfl | exact Or.inr rfl)) (dgs_cons (dg_tup rfl (dgs_cons (dg_name sc__law_told_right.nd rfl (by first | exact Or.inl rfl | exact Or.inr rfl)) (dgs_cons (dg_name sc__law_told_right.nd rfl (by first | exact Or.inl rfl | exact Or.inr rfl)) dgs_nil))) dgs_nil))))
    (dss_cons (ds_if (dt_cmp op2_gt (de_name (pv 3)) de_int (nobehind _ (by decide) (by decide))) (dss_one (ds_if (dt_cmp (op2_ne hr.units) (de_fault rfl Fu__law_fault rfl D__law_fault.g D__law_fault.k D__law_fault.b sc__law_fault (.inl rfl) (fun cdv => by exact gv__law_fault Z Y Xn D__law_kinds G__law_kinds hRE XR (hr.mono (by decide))) (k := 11) TB hcode hmT hu (hr.mono (by decide)) (LamX.lamS_by (sc := defScope s__law_told_right) (by decide +kernel)) rfl (fun _ _ _ _ _ => rfl) (fun _ _ _ _ _ _ _ hr tk => by exact (de_call G_choices (hr.mono (by decide)) rfl D_choices.g D_choices.k D_choices.b tk (by exact (da_cons (de_name (pv 2)) da_nil))))) (de_tup (by exact (da_cons de_str (da_cons de_str (da_cons (de_name (pv 3)) (da_cons de_int da_nil)))))) (nobehind _ (by decide) (by decide))) (dss_one (ds_ret de_bl)) dss_nil)) (dss_one (ds_if (dt_not (dt_val (de_call G__law_is (hr.mono (by decide)) rfl D__law_is.g D__law_is.k D__law_is.b tk (by exact (da_cons (de_call G_choices (hr.mono (by decide)) rfl D_choices.g D_choices.k D_choices.b tk (by exact (da_cons (de_name (pv 2)) da_nil))) (da_cons (de_call G__law_choices (hr.mono (by decide)) rfl D__law_choices.g D__law_choices.k D__law_choices.b tk (by exact (da_cons (de_name (pv 1)) da_nil))) da_nil)))))) (dss_one (ds_ret de_bl)) dss_nil)))
    (dss_cons (ds_if (dt_cmp op2_gt (de_name (pv 4)) de_int (nobehind _ (by decide) (by decide))) (dss_one (ds_ret (de_cmp (op2_eq hr.units) (de_fault rfl Fu__law_fault rfl D__law_fault.g D__law_fault.k D__law_fault.b sc__law_fault (.inl rfl) (fun cdv => by exact gv__law_fault Z Y Xn D__law_kinds G__law_kinds hRE XR (hr.mono (by decide))) (k := 11) TB hcode hmT hu (hr.mono (by decide)) (LamX.lamS_by (sc := defScope s__law_told_right) (by decide +kernel)) rfl (fun _ _ _ _ _ => rfl) (fun _ _ _ _ _ _ _ hr tk => by exact (de_call G_forks (hr.mono (by decide)) rfl D_forks.g D_forks.k D_forks.b tk (by exact (da_cons (de_name (pv 2)) da_nil))))) (de_tup (by exact (da_cons de_str (da_cons de_str (da_cons (de_name (pv 4)) (da_cons de_int da_nil)))))) (nobehind _ (by decide) (by decide))))) dss_nil)
    (dss_one (ds_ret (de_call G__law_is (hr.mono (by decide)) rfl D__law_is.g D__law_is.k D__law_is.b tk (by exact (da_cons (de_call G_forks (hr.mono (by decide)) rfl D_forks.g D_forks.k D_forks.b tk (by exact (da_cons (de_name (pv 2)) da_nil))) (da_cons (de_call G__law_forks (hr.mono (by decide)) rfl D__law_forks.g D__law_forks.k D__law_forks.b tk (by exact (da_cons (de_name (pv 1)) da_nil))) da_nil))))))))))

abbrev s_law : Stmt := topS 62
theorem sc_law : FnScope ["script", "pen", "edges", "lap", "counts_v", "at"] ["script"] (defScope s_law) := ⟨rfl, rfl, rfl, by decide +kernel, rfl, by decide +kernel, by decide +kernel⟩
theorem dv_law {P : Program} {w : World} {K : PySem.W.Frag} {mg : Str → Option Value} {base : Heap} {B : Bs} (Z : Zn mg) (Y : Yn K mg)
    {f__law_pen : Addr} {fd__law_pen : FuncData} (D__law_pen : DefG K mg "_law_pen" ["script"] f__law_pen fd__law_pen) (G__law_pen : FnOk P w K mg base (L2.CX P w) 1 f__law_pen fd__law_pen ["script"] (lSp ⟨K, cmOf mg, [], B.T⟩ 1 sp__law_pen))
    {f__law_pick : Addr} {fd__law_pick : FuncData} (D__law_pick : DefG K mg "_law_pick" ["pen", "some"] f__law_pick fd__law_pick) (G__law_pick : FnOk P w K mg base (L2.CX P w) 2 f__law_pick fd__law_pick ["pen", "some"] (lSp ⟨K, cmOf mg, [], B.T⟩ 2 sp__law_pick))
    {f__law_draw : Addr} {fd__law_draw : FuncData} (D__law_draw : DefG K mg "_law_draw" ["pen", "many"] f__law_draw fd__law_draw) (G__law_draw : FnOk P w K mg base (L2.CX P w) 1 f__law_draw fd__law_draw ["pen", "many"] (lSp ⟨K, cmOf mg, [], B.T⟩ 2 sp__law_draw))
    {f__law_told_right : Addr} {fd__law_told_right : FuncData} (D__law_told_right : DefG K mg "_law_told_right" ["counts_v"] f__law_told_right fd__law_told_right) (G__law_told_right : FnOk P w K mg base (L2.CX P w) 14 f__law_told_right fd__law_told_right ["counts_v"] (lSp ⟨K, cmOf mg, [], B.T⟩ 1 sp__law_told_right))
    {f__law_shuffled : Addr} {fd__law_shuffled : FuncData} (D__law_shuffled : DefG K mg "_law_shuffled" ["pen", "some"] f__law_shuffled fd__law_shuffled) (G__law_shuffled : FnOk P w K mg base (L2.CX P w) 2 f__law_shuffled fd__law_shuffled ["pen", "some"] (lSp ⟨K, cmOf mg, [], B.T⟩ 2 sp__law_shuffled))
    {f : Addr} {cdv : Value} {fd : FuncData} {A : Around} {outer : List Env} {s : Shared} {H : Hp} {E : XK} (hr : Room 14 (A.deeper (envOfC "law" (defScope s_law) s.heap.objs.size f cdv)))
    (tk : Takes (cxOf (L2.CX P w) P w K mg base ["script", "pen", "edges", "lap", "counts_v", "at"] "law" (defScope s_law) f cdv A outer s H E) (WD E)) :
    DSs B (cxOf (L2.CX P w) P w K mg base ["script", "pen", "edges", "lap", "counts_v", "at"] "law" (defScope s_law) f cdv A outer s H E) (WD E) (defBody s_law) t_law :=
    (dss_cons (ds_set sc_law.nd rfl (by first | exact Or.inl rfl | exact Or.inr rfl) (de_call G__law_pen (hr.mono (by decide)) rfl D__law_pen.g D__law_pen.k D__law_pen.b tk (by exact (da_cons (de_name (pv 0)) da_nil))))
    (dss_cons (ds_setL sc_law.nd rfl (by first | exact Or.inl rfl | exact Or.inr rfl) (fe_lst (by exact (da_cons (de_op op2_mul (de_tup (by exact (da_cons de_int da_nil))) de_int) (da_cons (de_op op2_add (de_op op2_mul (de_tup (by exact (da_cons de_int da_nil))) de_int) (de_tup (by exact (da_cons de_int da_nil)))) (da_cons (de_tup (by exact (da_cons de_int (da_cons de_int (da_cons de_int (da_cons de_int da_nil)))))) (da_cons (de_tup (by exact (da_cons de_int (da_cons de_int (da_cons de_int (da_cons de_int da_nil)))))) (da_cons (de_tup (by exact (da_cons de_int (da_cons de_int (da_cons de_int (da_cons de_int da_nil)))))) (da_cons (de_op op2_mul (de_tup (by exact (da_cons de_int da_nil))) de_int) (da_cons (de_op op2_add (de_op op2_mul (de_tup (by exact (da_cons de_int da_nil))) de_int) (de_tup (by exact (da_cons de_int (da_cons de_int da_nil))))) (da_cons (de_tup (by exact (da_cons de_int (da_cons de_int (da_cons de_int da_nil))))) (da_cons (de_tup (by exact (da_cons de_int (da_cons de_int (da_cons de_int (da_cons de_int da_nil)))))) da_nil))))))))))))
    (dss_cons (ds_for (passes_of rfl) rfl (di_range1 rfl Z.range (by exact (da_cons de_int da_nil))) (dg_name sc_law.nd rfl (by first | exact Or.inl rfl | exact Or.inr rfl)) (fun _ => (dss_cons (ds_frz 2 (ds_set sc_law.nd rfl (by first | exact Or.inl rfl | exact Or.inr rfl) (de_call G__law_pick (hr.mono (by decide)) rfl D__law_pick.g D__law_pick.k D__law_pick.b tk (by exact (da_cons (de_name (pv 1)) (da_cons (de_name (pv 2)) da_nil))))))
    (dss_cons (ds_if (dt_cmp (op2_eq hr.units) (de_call G__law_draw (hr.mono (by decide)) rfl D__law_draw.g D__law_draw.k D__law_draw.b tk (by exact (da_cons (de_name (pv 1)) (da_cons de_int da_nil)))) de_int (nobehind _ (by decide) (by decide))) (dss_one (ds_set sc_law.nd rfl (by first | exact Or.inl rfl | exact Or.inr rfl) (de_ct cr_tuple rfl Z.tuple (by decide +kernel) (by exact (da_cons (de_new (by exact (fe_comp rfl sc_law.nd (by exact (di_range1 rfl Z.range (by exact (da_cons (de_op op2_add de_int (de_call G__law_draw (hr.mono (by decide)) rfl D__law_draw.g D__law_draw.k D__law_draw.b tk (by exact (da_cons (de_name (pv 1)) (da_cons de_int da_nil))))) da_nil)))) (blkOk_by (own := [("at", 5)]) (N := ["script", "pen", "edges", "lap", "counts_v", "at"]) (sc := defScope s_law) (by decide +kernel)) (fun _ _ _ _ _ => by exact (dg_name sc_law.nd rfl (by first | exact Or.inl rfl | exact Or.inr rfl))) (fun _ _ _ _ _ => by exact dts_nil) (fun _ _ _ _ _ => by exact (de_call G__law_pick (hr.mono (by decide)) rfl D__law_pick.g D__law_pick.k D__law_pick.b takes0 (by exact (da_cons (de_name (pv 1)) (da_cons (de_new (by exact (fe_lst (by exact (da_cons de_int (da_cons de_int (da_cons de_int (da_cons de_int (da_cons de_int (da_cons de_int (da_cons de_int da_nil))))))))))) da_nil))))) (by decide)))) da_nil))))) dss_nil)
    (dss_one (ds_if (dt_not (dt_val (de_call G__law_told_right (hr.mono (by decide)) rfl D__law_told_right.g D__law_told_right.k D__law_told_right.b tk (by exact (da_cons (de_ct cr_tuple rfl Z.tuple (by decide +kernel) (by exact (da_cons (de_call G__law_shuffled (hr.mono (by decide)) rfl D__law_shuffled.g D__law_shuffled.k D__law_shuffled.b tk (by exact (da_cons (de_name (pv 1)) (da_cons (de_new (by exact (fe_list rfl Z.list (de_name (pv 4))))) da_nil)))) da_nil))) da_nil))))) (dss_one (ds_ret de_bl)) dss_nil))))))
    (dss_one (ds_ret de_bl)))))

theorem ok_is_integer {P : Program} {w : World} {K : PySem.W.Frag} {mg : Str → Option Value} {base : Heap} {T : List (Addr × Str)} (Z : Zn mg) (Y : Yn K mg)
    {f : Addr} {fd : FuncData} (Fu : Fun K "is_integer" "is_integer" s_is_integer f fd) : FnOk P w K mg base (L2.CX P w) 1 f fd ["value"] (lSp ⟨K, cmOf mg, [], T⟩ 1 sp_is_integer) :=
  fn3 Fu sc_is_integer rfl (fun cdv A outer s H E B hB hr tk => by subst hB; exact dv_is_integer (fd := fd) Z Y  hr tk) pl_is_integer

theorem ok_is_ratio {P : Program} {w : World} {K : PySem.W.Frag} {mg : Str → Option Value} {base : Heap} {T : List (Addr × Str)} (Z : Zn mg) (Y : Yn K mg)
    {f_is_integer : Addr} {fd_is_integer : FuncData} (D_is_integer : DefG K mg "is_integer" ["value"] f_is_integer fd_is_integer) (G_is_integer : FnOk P w K mg base (L2.CX P w) 1 f_is_integer fd_is_integer ["value"] (lSp ⟨K, cmOf mg, [], T⟩ 1 sp_is_integer))
    {f : Addr} {fd : FuncData} (Fu : Fun K "is_ratio" "is_ratio" s_is_ratio f fd) : FnOk P w K mg base (L2.CX P w) 2 f fd ["value"] (lSp ⟨K, cmOf mg, [], T⟩ 1 sp_is_ratio) :=
  fn3 Fu sc_is_ratio rfl (fun cdv A outer s H E B hB hr tk => by subst hB; exact dv_is_ratio (fd := fd) Z Y D_is_integer G_is_integer hr tk) pl_is_ratio

theorem ok_as_tuples {P : Program} {w : World} {K : PySem.W.Frag} {mg : Str → Option Value} {base : Heap} {T : List (Addr × Str)} (Z : Zn mg) (Y : Yn K mg)
    {f : Addr} {fd : FuncData} (D_self : DefG K mg "as_tuples" ["value"] f fd) (Fu : Fun K "as_tuples" "as_tuples" s_as_tuples f fd) : ∀ d : Nat, FnOk P w K mg base (L2.CX P w) (0 + d) f fd ["value"] (lSp ⟨K, cmOf mg, [], T⟩ 1 (sr_as_tuples d))
  | 0 => fn_zero zr_as_tuples
  | d + 1 => fn3 Fu sc_as_tuples rfl (fun cdv A outer s H E B hB hr tk => by subst hB; exact dv_as_tuples Z Y  D_self (ok_as_tuples Z Y  D_self Fu d) hr tk) (pl_as_tuples d)

theorem ok_is_list {P : Program} {w : World} {K : PySem.W.Frag} {mg : Str → Option Value} {base : Heap} {T : List (Addr × Str)} (Z : Zn mg) (Y : Yn K mg)
    {f : Addr} {fd : FuncData} (Fu : Fun K "is_list" "is_list" s_is_list f fd) : FnOk P w K mg base (L2.CX P w) 1 f fd ["value"] (lSp ⟨K, cmOf mg, [], T⟩ 1 sp_is_list) :=
  fn3 Fu sc_is_list rfl (fun cdv A outer s H E B hB hr tk => by subst hB; exact dv_is_list (fd := fd) Z Y  hr tk) pl_is_list

theorem ok_is_row {P : Program} {w : World} {K : PySem.W.Frag} {mg : Str → Option Value} {base : Heap} {T : List (Addr × Str)} (Z : Zn mg) (Y : Yn K mg)
    {f_is_list : Addr} {fd_is_list : FuncData} (D_is_list : DefG K mg "is_list" ["value"] f_is_list fd_is_list) (G_is_list : FnOk P w K mg base (L2.CX P w) 1 f_is_list fd_is_list ["value"] (lSp ⟨K, cmOf mg, [], T⟩ 1 sp_is_list))
    {f_is_ratio : Addr} {fd_is_ratio : FuncData} (D_is_ratio : DefG K mg "is_ratio" ["value"] f_is_ratio fd_is_ratio) (G_is_ratio : FnOk P w K mg base (L2.CX P w) 2 f_is_ratio fd_is_ratio ["value"] (lSp ⟨K, cmOf mg, [], T⟩ 1 sp_is_ratio))
    {f : Addr} {fd : FuncData} (Fu : Fun K "is_row" "is_row" s_is_row f fd) : FnOk P w K mg base (L2.CX P w) 3 f fd ["value", "many"] (lSp ⟨K, cmOf mg, [], T⟩ 2 sp_is_row) :=
  fn3 Fu sc_is_row rfl (fun cdv A outer s H E B hB hr tk => by subst hB; exact dv_is_row (fd := fd) Z Y D_is_list G_is_list D_is_ratio G_is_ratio hr tk) pl_is_row

theorem ok_Frame___init__ {P : Program} {w : World} {K : PySem.W.Frag} {mg : Str → Option Value} {base : Heap} {T : List (Addr × Str)} (Z : Zn mg) (Y : Yn K mg)
    {f_is_list : Addr} {fd_is_list : FuncData} (D_is_list : DefG K mg "is_list" ["value"] f_is_list fd_is_list) (G_is_list : FnOk P w K mg base (L2.CX P w) 1 f_is_list fd_is_list ["value"] (lSp ⟨K, cmOf mg, [], T⟩ 1 sp_is_list))
    {C_BadFrame___init__ f_BadFrame___init__ : Addr} {fd_BadFrame___init__ : FuncData} (O_BadFrame : ExOk K mg "BadFrame" C_BadFrame___init__ f_BadFrame___init__ ["what", "place"]) (D_BadFrame___init__ : DefAt K mg ["self", "what", "place"] f_BadFrame___init__ fd_BadFrame___init__) (G_BadFrame___init__ : FnOk P w K mg base (L2.CX P w) 1 f_BadFrame___init__ fd_BadFrame___init__ ["self", "what", "place"] (spInit K ["what", "place"]))
    {f_is_row : Addr} {fd_is_row : FuncData} (D_is_row : DefG K mg "is_row" ["value", "many"] f_is_row fd_is_row) (G_is_row : FnOk P w K mg base (L2.CX P w) 3 f_is_row fd_is_row ["value", "many"] (lSp ⟨K, cmOf mg, [], T⟩ 2 sp_is_row))
    {f_as_tuples : Addr} {fd_as_tuples : FuncData} (D_as_tuples : DefG K mg "as_tuples" ["value"] f_as_tuples fd_as_tuples) (G_as_tuples : FnOk P w K mg base (L2.CX P w) 8 f_as_tuples fd_as_tuples ["value"] (lSp ⟨K, cmOf mg, [], T⟩ 1 sp_as_tuples))
    {f : Addr} {fd : FuncData} (Fu : Fun K "__init__" "Frame.__init__" s_Frame___init__ f fd) : FnOk P w K mg base (L2.CX P w) 9 f fd ["self", "rows"] (lSpI ⟨K, cmOf mg, [], T⟩ 1 "Frame" sp_Frame___init__) :=
  fnI Fu sc_Frame___init__ rfl (fun cdv A outer s H E B hB hr tk => by subst hB; exact dv_Frame___init__ (fd := fd) Z Y D_is_list G_is_list O_BadFrame D_BadFrame___init__ G_BadFrame___init__ D_is_row G_is_row D_as_tuples G_as_tuples hr tk) pl_Frame___init__

theorem ok_counts {P : Program} {w : World} {K : PySem.W.Frag} {mg : Str → Option Value} {base : Heap} {T : List (Addr × Str)} (Z : Zn mg) (Y : Yn K mg)
    {f : Addr} {fd : FuncData} (Fu : Fun K "counts" "counts" s_counts f fd) : FnOk P w K mg base (L2.CX P w) 1 f fd ["frame"] (lSp ⟨K, cmOf mg, [], T⟩ 1 sp_counts) :=
  fn3 Fu sc_counts rfl (fun cdv A outer s H E B hB hr tk => by subst hB; exact dv_counts (fd := fd) Z Y  hr tk) pl_counts

theorem ok_all_picks {P : Program} {w : World} {K : PySem.W.Frag} {mg : Str → Option Value} {base : Heap} {T : List (Addr × Str)} (Z : Zn mg) (Y : Yn K mg)
    {f : Addr} {fd : FuncData} (Fu : Fun K "all_picks" "all_picks" s_all_picks f fd) : FnOk P w K mg base (L2.CX P w) 1 f fd ["lists"] (lSp ⟨K, cmOf mg, [], T⟩ 1 sp_all_picks) :=
  fn3 Fu sc_all_picks rfl (fun cdv A outer s H E B hB hr tk => by subst hB; exact dv_all_picks (fd := fd) Z Y  hr tk) pl_all_picks

theorem ok_multiplied_all {P : Program} {w : World} {K : PySem.W.Frag} {mg : Str → Option Value} {base : Heap} {T : List (Addr × Str)} (Z : Zn mg) (Y : Yn K mg)
    {f : Addr} {fd : FuncData} (Fu : Fun K "multiplied_all" "multiplied_all" s_multiplied_all f fd) : FnOk P w K mg base (L2.CX P w) 1 f fd ["numbers"] (lSp ⟨K, cmOf mg, [], T⟩ 1 sp_multiplied_all) :=
  fn3 Fu sc_multiplied_all rfl (fun cdv A outer s H E B hB hr tk => by subst hB; exact dv_multiplied_all (fd := fd) Z Y  hr tk) pl_multiplied_all

theorem ok_need_choices {P : Program} {w : World} {K : PySem.W.Frag} {mg : Str → Option Value} {base : Heap} {T : List (Addr × Str)} (Z : Zn mg) (Y : Yn K mg)
    {f_multiplied_all : Addr} {fd_multiplied_all : FuncData} (D_multiplied_all : DefG K mg "multiplied_all" ["numbers"] f_multiplied_all fd_multiplied_all) (G_multiplied_all : FnOk P w K mg base (L2.CX P w) 1 f_multiplied_all fd_multiplied_all ["numbers"] (lSp ⟨K, cmOf mg, [], T⟩ 1 sp_multiplied_all))
    {f_counts : Addr} {fd_counts : FuncData} (D_counts : DefG K mg "counts" ["frame"] f_counts fd_counts) (G_counts : FnOk P w K mg base (L2.CX P w) 1 f_counts fd_counts ["frame"] (lSp ⟨K, cmOf mg, [], T⟩ 1 sp_counts))
    {C_TooMany___init__ f_TooMany___init__ : Addr} {fd_TooMany___init__ : FuncData} (O_TooMany : ExOk K mg "TooMany" C_TooMany___init__ f_TooMany___init__ ["what", "many", "limit"]) (D_TooMany___init__ : DefAt K mg ["self", "what", "many", "limit"] f_TooMany___init__ fd_TooMany___init__) (G_TooMany___init__ : FnOk P w K mg base (L2.CX P w) 1 f_TooMany___init__ fd_TooMany___init__ ["self", "what", "many", "limit"] (spInit K ["what", "many", "limit"]))
    {f : Addr} {fd : FuncData} (Fu : Fun K "need_choices" "need_choices" s_need_choices f fd) : FnOk P w K mg base (L2.CX P w) 3 f fd ["frame"] (lSp ⟨K, cmOf mg, [], T⟩ 1 sp_need_choices) :=
  fn3 Fu sc_need_choices rfl (fun cdv A outer s H E B hB hr tk => by subst hB; exact dv_need_choices (fd := fd) Z Y D_multiplied_all G_multiplied_all D_counts G_counts O_TooMany D_TooMany___init__ G_TooMany___init__ hr tk) pl_need_choices

theorem ok_choices {P : Program} {w : World} {K : PySem.W.Frag} {mg : Str → Option Value} {base : Heap} {T : List (Addr × Str)} (Z : Zn mg) (Y : Yn K mg)
    {f_need_choices : Addr} {fd_need_choices : FuncData} (D_need_choices : DefG K mg "need_choices" ["frame"] f_need_choices fd_need_choices) (G_need_choices : FnOk P w K mg base (L2.CX P w) 3 f_need_choices fd_need_choices ["frame"] (lSp ⟨K, cmOf mg, [], T⟩ 1 sp_need_choices))
    {f_all_picks : Addr} {fd_all_picks : FuncData} (D_all_picks : DefG K mg "all_picks" ["lists"] f_all_picks fd_all_picks) (G_all_picks : FnOk P w K mg base (L2.CX P w) 1 f_all_picks fd_all_picks ["lists"] (lSp ⟨K, cmOf mg, [], T⟩ 1 sp_all_picks))
    {f_counts : Addr} {fd_counts : FuncData} (D_counts : DefG K mg "counts" ["frame"] f_counts fd_counts) (G_counts : FnOk P w K mg base (L2.CX P w) 1 f_counts fd_counts ["frame"] (lSp ⟨K, cmOf mg, [], T⟩ 1 sp_counts))
    {f : Addr} {fd : FuncData} (Fu : Fun K "choices" "choices" s_choices f fd) : FnOk P w K mg base (L2.CX P w) 4 f fd ["frame"] (lSp ⟨K, cmOf mg, [], T⟩ 1 sp_choices) :=
  fn3 Fu sc_choices rfl (fun cdv A outer s H E B hB hr tk => by subst hB; exact dv_choices (fd := fd) Z Y D_need_choices G_need_choices D_all_picks G_all_picks D_counts G_counts hr tk) pl_choices

theorem ok_fork_pairs {P : Program} {w : World} {K : PySem.W.Frag} {mg : Str → Option Value} {base : Heap} {T : List (Addr × Str)} (Z : Zn mg) (Y : Yn K mg)
    {f : Addr} {fd : FuncData} (Fu : Fun K "fork_pairs" "fork_pairs" s_fork_pairs f fd) : FnOk P w K mg base (L2.CX P w) 1 f fd ["many"] (lSp ⟨K, cmOf mg, [], T⟩ 1 sp_fork_pairs) :=
  fn3 Fu sc_fork_pairs rfl (fun cdv A outer s H E B hB hr tk => by subst hB; exact dv_fork_pairs (fd := fd) Z Y  hr tk) pl_fork_pairs

theorem ok_need_forks {P : Program} {w : World} {K : PySem.W.Frag} {mg : Str → Option Value} {base : Heap} {T : List (Addr × Str)} (Z : Zn mg) (Y : Yn K mg)
    {f_multiplied_all : Addr} {fd_multiplied_all : FuncData} (D_multiplied_all : DefG K mg "multiplied_all" ["numbers"] f_multiplied_all fd_multiplied_all) (G_multiplied_all : FnOk P w K mg base (L2.CX P w) 1 f_multiplied_all fd_multiplied_all ["numbers"] (lSp ⟨K, cmOf mg, [], T⟩ 1 sp_multiplied_all))
    {f_counts : Addr} {fd_counts : FuncData} (D_counts : DefG K mg "counts" ["frame"] f_counts fd_counts) (G_counts : FnOk P w K mg base (L2.CX P w) 1 f_counts fd_counts ["frame"] (lSp ⟨K, cmOf mg, [], T⟩ 1 sp_counts))
    {C_TooMany___init__ f_TooMany___init__ : Addr} {fd_TooMany___init__ : FuncData} (O_TooMany : ExOk K mg "TooMany" C_TooMany___init__ f_TooMany___init__ ["what", "many", "limit"]) (D_TooMany___init__ : DefAt K mg ["self", "what", "many", "limit"] f_TooMany___init__ fd_TooMany___init__) (G_TooMany___init__ : FnOk P w K mg base (L2.CX P w) 1 f_TooMany___init__ fd_TooMany___init__ ["self", "what", "many", "limit"] (spInit K ["what", "many", "limit"]))
    {f : Addr} {fd : FuncData} (Fu : Fun K "need_forks" "need_forks" s_need_forks f fd) : FnOk P w K mg base (L2.CX P w) 3 f fd ["frame"] (lSp ⟨K, cmOf mg, [], T⟩ 1 sp_need_forks) :=
  fn3 Fu sc_need_forks rfl (fun cdv A outer s H E B hB hr tk => by subst hB; exact dv_need_forks (fd := fd) Z Y D_multiplied_all G_multiplied_all D_counts G_counts O_TooMany D_TooMany___init__ G_TooMany___init__ hr tk) pl_need_forks

theorem ok_forks {P : Program} {w : World} {K : PySem.W.Frag} {mg : Str → Option Value} {base : Heap} {T : List (Addr × Str)} (Z : Zn mg) (Y : Yn K mg)
    {f_need_forks : Addr} {fd_need_forks : FuncData} (D_need_forks : DefG K mg "need_forks" ["frame"] f_need_forks fd_need_forks) (G_need_forks : FnOk P w K mg base (L2.CX P w) 3 f_need_forks fd_need_forks ["frame"] (lSp ⟨K, cmOf mg, [], T⟩ 1 sp_need_forks))
    {f_all_picks : Addr} {fd_all_picks : FuncData} (D_all_picks : DefG K mg "all_picks" ["lists"] f_all_picks fd_all_picks) (G_all_picks : FnOk P w K mg base (L2.CX P w) 1 f_all_picks fd_all_picks ["lists"] (lSp ⟨K, cmOf mg, [], T⟩ 1 sp_all_picks))
    {f_counts : Addr} {fd_counts : FuncData} (D_counts : DefG K mg "counts" ["frame"] f_counts fd_counts) (G_counts : FnOk P w K mg base (L2.CX P w) 1 f_counts fd_counts ["frame"] (lSp ⟨K, cmOf mg, [], T⟩ 1 sp_counts))
    {f_fork_pairs : Addr} {fd_fork_pairs : FuncData} (D_fork_pairs : DefG K mg "fork_pairs" ["many"] f_fork_pairs fd_fork_pairs) (G_fork_pairs : FnOk P w K mg base (L2.CX P w) 1 f_fork_pairs fd_fork_pairs ["many"] (lSp ⟨K, cmOf mg, [], T⟩ 1 sp_fork_pairs))
    {f : Addr} {fd : FuncData} (Fu : Fun K "forks" "forks" s_forks f fd) : FnOk P w K mg base (L2.CX P w) 4 f fd ["frame"] (lSp ⟨K, cmOf mg, [], T⟩ 1 sp_forks) :=
  fn3 Fu sc_forks rfl (fun cdv A outer s H E B hB hr tk => by subst hB; exact dv_forks (fd := fd) Z Y D_need_forks G_need_forks D_all_picks G_all_picks D_counts G_counts D_fork_pairs G_fork_pairs hr tk) pl_forks

theorem ok__law_pen {P : Program} {w : World} {K : PySem.W.Frag} {mg : Str → Option Value} {base : Heap} {T : List (Addr × Str)} (Z : Zn mg) (Y : Yn K mg)
    {f : Addr} {fd : FuncData} (Fu : Fun K "_law_pen" "_law_pen" s__law_pen f fd) : FnOk P w K mg base (L2.CX P w) 1 f fd ["script"] (lSp ⟨K, cmOf mg, [], T⟩ 1 sp__law_pen) :=
  fn3 Fu sc__law_pen rfl (fun cdv A outer s H E B hB hr tk => by subst hB; exact dv__law_pen (fd := fd) Z Y  hr tk) pl__law_pen

theorem ok__law_pick {P : Program} {w : World} {K : PySem.W.Frag} {mg : Str → Option Value} {base : Heap} {T : List (Addr × Str)} (Z : Zn mg) (Y : Yn K mg)
    {f__law_draw : Addr} {fd__law_draw : FuncData} (D__law_draw : DefG K mg "_law_draw" ["pen", "many"] f__law_draw fd__law_draw) (G__law_draw : FnOk P w K mg base (L2.CX P w) 1 f__law_draw fd__law_draw ["pen", "many"] (lSp ⟨K, cmOf mg, [], T⟩ 2 sp__law_draw))
    {f : Addr} {fd : FuncData} (Fu : Fun K "_law_pick" "_law_pick" s__law_pick f fd) : FnOk P w K mg base (L2.CX P w) 2 f fd ["pen", "some"] (lSp ⟨K, cmOf mg, [], T⟩ 2 sp__law_pick) :=
  fn3 Fu sc__law_pick rfl (fun cdv A outer s H E B hB hr tk => by subst hB; exact dv__law_pick (fd := fd) Z Y D__law_draw G__law_draw hr tk) pl__law_pick

theorem ok__law_shuffled {P : Program} {w : World} {K : PySem.W.Frag} {mg : Str → Option Value} {base : Heap} {T : List (Addr × Str)} (Z : Zn mg) (Y : Yn K mg)
    {f__law_draw : Addr} {fd__law_draw : FuncData} (D__law_draw : DefG K mg "_law_draw" ["pen", "many"] f__law_draw fd__law_draw) (G__law_draw : FnOk P w K mg base (L2.CX P w) 1 f__law_draw fd__law_draw ["pen", "many"] (lSp ⟨K, cmOf mg, [], T⟩ 2 sp__law_draw))
    {f : Addr} {fd : FuncData} (Fu : Fun K "_law_shuffled" "_law_shuffled" s__law_shuffled f fd) : FnOk P w K mg base (L2.CX P w) 2 f fd ["pen", "some"] (lSp ⟨K, cmOf mg, [], T⟩ 2 sp__law_shuffled) :=
  fn3 Fu sc__law_shuffled rfl (fun cdv A outer s H E B hB hr tk => by subst hB; exact dv__law_shuffled (fd := fd) Z Y D__law_draw G__law_draw hr tk) pl__law_shuffled

theorem ok__law_is {P : Program} {w : World} {K : PySem.W.Frag} {mg : Str → Option Value} {base : Heap} {T : List (Addr × Str)} (Z : Zn mg) (Y : Yn K mg)
    {f : Addr} {fd : FuncData} (D_self : DefG K mg "_law_is" ["told", "due"] f fd) (Fu : Fun K "_law_is" "_law_is" s__law_is f fd) : ∀ d : Nat, FnOk P w K mg base (L2.CX P w) (0 + d) f fd ["told", "due"] (lSp ⟨K, cmOf mg, [], T⟩ 2 (sr__law_is d))
  | 0 => fn_zero zr__law_is
  | d + 1 => fn3 Fu sc__law_is rfl (fun cdv A outer s H E B hB hr tk => by subst hB; exact dv__law_is Z Y  D_self (ok__law_is Z Y  D_self Fu d) hr tk) (pl__law_is d)

theorem ok__law_choices {P : Program} {w : World} {K : PySem.W.Frag} {mg : Str → Option Value} {base : Heap} {T : List (Addr × Str)} (Z : Zn mg) (Y : Yn K mg)
    {f : Addr} {fd : FuncData} (Fu : Fun K "_law_choices" "_law_choices" s__law_choices f fd) : FnOk P w K mg base (L2.CX P w) 1 f fd ["rows"] (lSp ⟨K, cmOf mg, [], T⟩ 1 sp__law_choices) :=
  fn3 Fu sc__law_choices rfl (fun cdv A outer s H E B hB hr tk => by subst hB; exact dv__law_choices (fd := fd) Z Y  hr tk) pl__law_choices

theorem ok__law_forks {P : Program} {w : World} {K : PySem.W.Frag} {mg : Str → Option Value} {base : Heap} {T : List (Addr × Str)} (Z : Zn mg) (Y : Yn K mg)
    {f : Addr} {fd : FuncData} (Fu : Fun K "_law_forks" "_law_forks" s__law_forks f fd) : FnOk P w K mg base (L2.CX P w) 1 f fd ["rows"] (lSp ⟨K, cmOf mg, [], T⟩ 1 sp__law_forks) :=
  fn3 Fu sc__law_forks rfl (fun cdv A outer s H E B hB hr tk => by subst hB; exact dv__law_forks (fd := fd) Z Y  hr tk) pl__law_forks

theorem ok__law_made {P : Program} {w : World} {K : PySem.W.Frag} {mg : Str → Option Value} {base : Heap} {T : List (Addr × Str)} (Z : Zn mg) (Y : Yn K mg)
    {C_Frame___init__ f_Frame___init__ : Addr} {fd_Frame___init__ : FuncData} (M_Frame : MkOk K mg "Frame" C_Frame___init__ f_Frame___init__) (D_Frame___init__ : DefAt K mg ["self", "rows"] f_Frame___init__ fd_Frame___init__) (G_Frame___init__ : FnOk P w K mg base (L2.CX P w) 9 f_Frame___init__ fd_Frame___init__ ["self", "rows"] (lSpI ⟨K, cmOf mg, [], T⟩ 1 "Frame" sp_Frame___init__))
    {f : Addr} {fd : FuncData} (Fu : Fun K "_law_made" "_law_made" s__law_made f fd) : FnOk P w K mg base (L2.CX P w) 11 f fd ["rows"] (lSp ⟨K, cmOf mg, [], T⟩ 1 sp__law_made) :=
  fn3 Fu sc__law_made rfl (fun cdv A outer s H E B hB hr tk => by subst hB; exact dv__law_made (fd := fd) Z Y M_Frame D_Frame___init__ G_Frame___init__ hr tk) pl__law_made

theorem ok__law_more_kinds {P : Program} {w : World} {K : PySem.W.Frag} {mg : Str → Option Value} {base : Heap} {T : List (Addr × Str)} (Z : Zn mg) (Y : Yn K mg)
    (Xn : XnOk K mg)
    {f : Addr} {fd : FuncData} (Fu : Fun K "_law_more_kinds" "_law_more_kinds" s__law_more_kinds f fd) : FnP P w K mg base false 1 f fd ["e"] (lSpP ⟨K, cmOf mg, [], T⟩ sp__law_more_kinds) :=
  fnP Fu sc__law_more_kinds (fun cdv A outer s H p B hB hr => by subst hB; exact dv__law_more_kinds Z Y Xn hr) pl__law_more_kinds

theorem ok__law_kinds {P : Program} {w : World} {K : PySem.W.Frag} {mg : Str → Option Value} {base : Heap} {T : List (Addr × Str)} (Z : Zn mg) (Y : Yn K mg)
    {f__law_more_kinds : Addr} {fd__law_more_kinds : FuncData} (D__law_more_kinds : DefG K mg "_law_more_kinds" ["e"] f__law_more_kinds fd__law_more_kinds) (G__law_more_kinds : FnP P w K mg base false 1 f__law_more_kinds fd__law_more_kinds ["e"] (lSpP ⟨K, cmOf mg, [], T⟩ sp__law_more_kinds))
    (Xn : XnOk K mg)
    {f : Addr} {fd : FuncData} (Fu : Fun K "_law_kinds" "_law_kinds" s__law_kinds f fd) : FnP P w K mg base false 2 f fd ["e"] (lSpP ⟨K, cmOf mg, [], T⟩ sp__law_kinds) :=
  fnP Fu sc__law_kinds (fun cdv A outer s H p B hB hr => by subst hB; exact dv__law_kinds Z Y D__law_more_kinds G__law_more_kinds Xn hr) pl__law_kinds


theorem ok__law_rows_of {P : Program} {w : World} {K : PySem.W.Frag} {mg : Str → Option Value} {base : Heap} {T : List (Addr × Str)} (Z : Zn mg) (Y : Yn K mg)
    {f : Addr} {fd : FuncData} (Fu : Fun K "_law_rows_of" "_law_rows_of" s__law_rows_of f fd) : FnOk P w K mg base (L2.CX P w) 1 f fd ["counts_v"] (lSp ⟨K, cmOf mg, [], T⟩ 1 sp__law_rows_of) :=
  fn3 Fu sc__law_rows_of rfl (fun cdv A outer s H E B hB hr tk => by subst hB; exact dv__law_rows_of (fd := fd) Z Y  hr tk) pl__law_rows_of

theorem ok__law_many {P : Program} {w : World} {K : PySem.W.Frag} {mg : Str → Option Value} {base : Heap} {T : List (Addr × Str)} (Z : Zn mg) (Y : Yn K mg)
    {f : Addr} {fd : FuncData} (Fu : Fun K "_law_many" "_law_many" s__law_many f fd) : FnOk P w K mg base (L2.CX P w) 1 f fd ["counts_v"] (lSp ⟨K, cmOf mg, [], T⟩ 1 sp__law_many) :=
  fn3 Fu sc__law_many rfl (fun cdv A outer s H E B hB hr tk => by subst hB; exact dv__law_many (fd := fd) Z Y  hr tk) pl__law_many

theorem ok__law_told_right {P : Program} {w : World} {K : PySem.W.Frag} {mg : Str → Option Value} {base : Heap} {T : List (Addr × Str)} (Z : Zn mg) (Y : Yn K mg)
    {f__law_rows_of : Addr} {fd__law_rows_of : FuncData} (D__law_rows_of : DefG K mg "_law_rows_of" ["counts_v"] f__law_rows_of fd__law_rows_of) (G__law_rows_of : FnOk P w K mg base (L2.CX P w) 1 f__law_rows_of fd__law_rows_of ["counts_v"] (lSp ⟨K, cmOf mg, [], T⟩ 1 sp__law_rows_of))
    {f__law_many : Addr} {fd__law_many : FuncData} (D__law_many : DefG K mg "_law_many" ["counts_v"] f__law_many fd__law_many) (G__law_many : FnOk P w K mg base (L2.CX P w) 1 f__law_many fd__law_many ["counts_v"] (lSp ⟨K, cmOf mg, [], T⟩ 1 sp__law_many))
    {f__law_made : Addr} {fd__law_made : FuncData} (D__law_made : DefG K mg "_law_made" ["rows"] f__law_made fd__law_made) (G__law_made : FnOk P w K mg base (L2.CX P w) 11 f__law_made fd__law_made ["rows"] (lSp ⟨K, cmOf mg, [], T⟩ 1 sp__law_made))
    {f_choices : Addr} {fd_choices : FuncData} (D_choices : DefG K mg "choices" ["frame"] f_choices fd_choices) (G_choices : FnOk P w K mg base (L2.CX P w) 4 f_choices fd_choices ["frame"] (lSp ⟨K, cmOf mg, [], T⟩ 1 sp_choices))
    {f__law_is : Addr} {fd__law_is : FuncData} (D__law_is : DefG K mg "_law_is" ["told", "due"] f__law_is fd__law_is) (G__law_is : FnOk P w K mg base (L2.CX P w) 8 f__law_is fd__law_is ["told", "due"] (lSp ⟨K, cmOf mg, [], T⟩ 2 sp__law_is))
    {f__law_choices : Addr} {fd__law_choices : FuncData} (D__law_choices : DefG K mg "_law_choices" ["rows"] f__law_choices fd__law_choices) (G__law_choices : FnOk P w K mg base (L2.CX P w) 1 f__law_choices fd__law_choices ["rows"] (lSp ⟨K, cmOf mg, [], T⟩ 1 sp__law_choices))
    {f_forks : Addr} {fd_forks : FuncData} (D_forks : DefG K mg "forks" ["frame"] f_forks fd_forks) (G_forks : FnOk P w K mg base (L2.CX P w) 4 f_forks fd_forks ["frame"] (lSp ⟨K, cmOf mg, [], T⟩ 1 sp_forks))
    {f__law_forks : Addr} {fd__law_forks : FuncData} (D__law_forks : DefG K mg "_law_forks" ["rows"] f__law_forks fd__law_forks) (G__law_forks : FnOk P w K mg base (L2.CX P w) 1 f__law_forks fd__law_forks ["rows"] (lSp ⟨K, cmOf mg, [], T⟩ 1 sp__law_forks))
    {f__law_fault : Addr} {fd__law_fault : FuncData} (D__law_fault : DefG K mg "_law_fault" ["call"] f__law_fault fd__law_fault) (Fu__law_fault : Fun K "_law_fault" "_law_fault" s__law_fault f__law_fault fd__law_fault)
    {CS fk cT PT : Addr} {fdk : FuncData} (Xn : XnOk K mg) (hRE : mg "RestsError" = some (.ref CS)) (D__law_kinds : DefG K mg "_law_kinds" ["e"] fk fdk) (G__law_kinds : FnP P w K mg base false 2 fk fdk ["e"] (lSpP ⟨K, cmOf mg, [], T⟩ sp__law_kinds)) (XR : XrOk K mg CS) (TB : LamX.TabB base mg cT PT) (hmT : (PT, ("_law_told_right.<locals>.<lambda>" : Str)) ∈ T) (hu : ∀ p ∈ T, p.1 = PT → p.2 = ("_law_told_right.<locals>.<lambda>" : Str))
    {f : Addr} {fd : FuncData} (hcode : fd.code = .ref cT) (Fu : Fun K "_law_told_right" "_law_told_right" s__law_told_right f fd) : FnOk P w K mg base (L2.CX P w) 14 f fd ["counts_v"] (lSp ⟨K, cmOf mg, [], T⟩ 1 sp__law_told_right) :=
  fn3L Fu sc__law_told_right rfl (fun A outer s H E B hB hr tk => by subst hB; exact dv__law_told_right (fd := fd) Z Y D__law_rows_of G__law_rows_of D__law_many G__law_many D__law_made G__law_made D_choices G_choices D__law_is G__law_is D__law_choices G__law_choices D_forks G_forks D__law_forks G__law_forks D__law_fault Fu__law_fault Xn hRE D__law_kinds G__law_kinds XR TB hmT hu hcode hr tk) pl__law_told_right

theorem ok_law {P : Program} {w : World} {K : PySem.W.Frag} {mg : Str → Option Value} {base : Heap} {T : List (Addr × Str)} (Z : Zn mg) (Y : Yn K mg)
    {f__law_pen : Addr} {fd__law_pen : FuncData} (D__law_pen : DefG K mg "_law_pen" ["script"] f__law_pen fd__law_pen) (G__law_pen : FnOk P w K mg base (L2.CX P w) 1 f__law_pen fd__law_pen ["script"] (lSp ⟨K, cmOf mg, [], T⟩ 1 sp__law_pen))
    {f__law_pick : Addr} {fd__law_pick : FuncData} (D__law_pick : DefG K mg "_law_pick" ["pen", "some"] f__law_pick fd__law_pick) (G__law_pick : FnOk P w K mg base (L2.CX P w) 2 f__law_pick fd__law_pick ["pen", "some"] (lSp ⟨K, cmOf mg, [], T⟩ 2 sp__law_pick))
    {f__law_draw : Addr} {fd__law_draw : FuncData} (D__law_draw : DefG K mg "_law_draw" ["pen", "many"] f__law_draw fd__law_draw) (G__law_draw : FnOk P w K mg base (L2.CX P w) 1 f__law_draw fd__law_draw ["pen", "many"] (lSp ⟨K, cmOf mg, [], T⟩ 2 sp__law_draw))
    {f__law_told_right : Addr} {fd__law_told_right : FuncData} (D__law_told_right : DefG K mg "_law_told_right" ["counts_v"] f__law_told_right fd__law_told_right) (G__law_told_right : FnOk P w K mg base (L2.CX P w) 14 f__law_told_right fd__law_told_right ["counts_v"] (lSp ⟨K, cmOf mg, [], T⟩ 1 sp__law_told_right))
    {f__law_shuffled : Addr} {fd__law_shuffled : FuncData} (D__law_shuffled : DefG K mg "_law_shuffled" ["pen", "some"] f__law_shuffled fd__law_shuffled) (G__law_shuffled : FnOk P w K mg base (L2.CX P w) 2 f__law_shuffled fd__law_shuffled ["pen", "some"] (lSp ⟨K, cmOf mg, [], T⟩ 2 sp__law_shuffled))
    {f : Addr} {fd : FuncData} (Fu : Fun K "law" "law" s_law f fd) : FnOk P w K mg base (L2.CX P w) 15 f fd ["script"] (lSp ⟨K, cmOf mg, [], T⟩ 1 sp_law) :=
  fn3 Fu sc_law rfl (fun cdv A outer s H E B hB hr tk => by subst hB; exact dv_law (fd := fd) Z Y D__law_pen G__law_pen D__law_pick G__law_pick D__law_draw G__law_draw D__law_told_right G__law_told_right D__law_shuffled G__law_shuffled hr tk) pl_law

end Cl
namespace Cl
open PySem PySem.Spec L2 L3
open PyProof.Rows hiding St
theorem all_mk {l : PySem.W.OpenLaw} {w : World} {K : PySem.W.Frag} {h : Heap} {mg : Str → Option Value} {fa : Addr} (X : K.In h) (G : h.Ns mainGlobals mg) (hfa : mg "law" = some (.ref fa))
    {C_BadFrame : Addr}
    {C_BadHouse : Addr}
    {C_BadLoad : Addr}
    {C_BadName : Addr}
    {C_BadNet : Addr}
    {C_BadNumber : Addr}
    {C_BadRow : Addr}
    {C_BadTable : Addr}
    {C_BadText : Addr}
    {C_BadWeb : Addr}
    {C_Flat : Addr}
    {C_Frame : Addr}
    {C_NoName : Addr}
    {C_NoPlace : Addr}
    {C_NoRow : Addr}
    {C_NoWall : Addr}
    {C_NotKept : Addr}
    {C_NotOnce : Addr}
    {C_NotPlain : Addr}
    {C_NothingToRedo : Addr}
    {C_NothingToUndo : Addr}
    {C_RestsError : Addr}
    {C_TakenName : Addr}
    {C_TooMany : Addr}
    {C_Unlike : Addr}
    {f_is_integer : Addr} {od_is_integer an_is_integer : Option Addr} {sl_is_integer : Array (Option Value)} {oc_is_integer kV_is_integer dc_is_integer pm_is_integer cd_is_integer ct_is_integer : Value}
    {f_is_ratio : Addr} {od_is_ratio an_is_ratio : Option Addr} {sl_is_ratio : Array (Option Value)} {oc_is_ratio kV_is_ratio dc_is_ratio pm_is_ratio cd_is_ratio ct_is_ratio : Value}
    {f_as_tuples : Addr} {od_as_tuples an_as_tuples : Option Addr} {sl_as_tuples : Array (Option Value)} {oc_as_tuples kV_as_tuples dc_as_tuples pm_as_tuples cd_as_tuples ct_as_tuples : Value}
    {f_is_list : Addr} {od_is_list an_is_list : Option Addr} {sl_is_list : Array (Option Value)} {oc_is_list kV_is_list dc_is_list pm_is_list cd_is_list ct_is_list : Value}
    {f_is_row : Addr} {od_is_row an_is_row : Option Addr} {sl_is_row : Array (Option Value)} {oc_is_row kV_is_row dc_is_row pm_is_row cd_is_row ct_is_row : Value}
    {f_Frame___init__ : Addr} {od_Frame___init__ an_Frame___init__ : Option Addr} {sl_Frame___init__ : Array (Option Value)} {oc_Frame___init__ kV_Frame___init__ dc_Frame___init__ pm_Frame___init__ cd_Frame___init__ ct_Frame___init__ : Value}
    {f_counts : Addr} {od_counts an_counts : Option Addr} {sl_counts : Array (Option Value)} {oc_counts kV_counts dc_counts pm_counts cd_counts ct_counts : Value}
    {f_all_picks : Addr} {od_all_picks an_all_picks : Option Addr} {sl_all_picks : Array (Option Value)} {oc_all_picks kV_all_picks dc_all_picks pm_all_picks cd_all_picks ct_all_picks : Value}
    {f_multiplied_all : Addr} {od_multiplied_all an_multiplied_all : Option Addr} {sl_multiplied_all : Array (Option Value)} {oc_multiplied_all kV_multiplied_all dc_multiplied_all pm_multiplied_all cd_multiplied_all ct_multiplied_all : Value}
    {f_need_choices : Addr} {od_need_choices an_need_choices : Option Addr} {sl_need_choices : Array (Option Value)} {oc_need_choices kV_need_choices dc_need_choices pm_need_choices cd_need_choices ct_need_choices : Value}
    {f_choices : Addr} {od_choices an_choices : Option Addr} {sl_choices : Array (Option Value)} {oc_choices kV_choices dc_choices pm_choices cd_choices ct_choices : Value}
    {f_fork_pairs : Addr} {od_fork_pairs an_fork_pairs : Option Addr} {sl_fork_pairs : Array (Option Value)} {oc_fork_pairs kV_fork_pairs dc_fork_pairs pm_fork_pairs cd_fork_pairs ct_fork_pairs : Value}
    {f_need_forks : Addr} {od_need_forks an_need_forks : Option Addr} {sl_need_forks : Array (Option Value)} {oc_need_forks kV_need_forks dc_need_forks pm_need_forks cd_need_forks ct_need_forks : Value}
    {f_forks : Addr} {od_forks an_forks : Option Addr} {sl_forks : Array (Option Value)} {oc_forks kV_forks dc_forks pm_forks cd_forks ct_forks : Value}
    {f__law_pen : Addr} {od__law_pen an__law_pen : Option Addr} {sl__law_pen : Array (Option Value)} {oc__law_pen kV__law_pen dc__law_pen pm__law_pen cd__law_pen ct__law_pen : Value}
    {f__law_draw : Addr} {od__law_draw an__law_draw : Option Addr} {sl__law_draw : Array (Option Value)} {oc__law_draw kV__law_draw dc__law_draw pm__law_draw cd__law_draw ct__law_draw : Value}
    {f__law_pick : Addr} {od__law_pick an__law_pick : Option Addr} {sl__law_pick : Array (Option Value)} {oc__law_pick kV__law_pick dc__law_pick pm__law_pick cd__law_pick ct__law_pick : Value}
    {f__law_shuffled : Addr} {od__law_shuffled an__law_shuffled : Option Addr} {sl__law_shuffled : Array (Option Value)} {oc__law_shuffled kV__law_shuffled dc__law_shuffled pm__law_shuffled cd__law_shuffled ct__law_shuffled : Value}
    {f__law_is : Addr} {od__law_is an__law_is : Option Addr} {sl__law_is : Array (Option Value)} {oc__law_is kV__law_is dc__law_is pm__law_is cd__law_is ct__law_is : Value}
    {f__law_choices : Addr} {od__law_choices an__law_choices : Option Addr} {sl__law_choices : Array (Option Value)} {oc__law_choices kV__law_choices dc__law_choices pm__law_choices cd__law_choices ct__law_choices : Value}
    {f__law_forks : Addr} {od__law_forks an__law_forks : Option Addr} {sl__law_forks : Array (Option Value)} {oc__law_forks kV__law_forks dc__law_forks pm__law_forks cd__law_forks ct__law_forks : Value}
    {f__law_made : Addr} {od__law_made an__law_made : Option Addr} {sl__law_made : Array (Option Value)} {oc__law_made kV__law_made dc__law_made pm__law_made cd__law_made ct__law_made : Value}
    {f__law_more_kinds : Addr} {od__law_more_kinds an__law_more_kinds : Option Addr} {sl__law_more_kinds : Array (Option Value)} {oc__law_more_kinds kV__law_more_kinds dc__law_more_kinds pm__law_more_kinds cd__law_more_kinds ct__law_more_kinds : Value}
    {f__law_kinds : Addr} {od__law_kinds an__law_kinds : Option Addr} {sl__law_kinds : Array (Option Value)} {oc__law_kinds kV__law_kinds dc__law_kinds pm__law_kinds cd__law_kinds ct__law_kinds : Value}
    {f__law_fault : Addr} {od__law_fault an__law_fault : Option Addr} {sl__law_fault : Array (Option Value)} {oc__law_fault kV__law_fault dc__law_fault pm__law_fault cd__law_fault ct__law_fault : Value}
    {f__law_rows_of : Addr} {od__law_rows_of an__law_rows_of : Option Addr} {sl__law_rows_of : Array (Option Value)} {oc__law_rows_of kV__law_rows_of dc__law_rows_of pm__law_rows_of cd__law_rows_of ct__law_rows_of : Value}
    {f__law_many : Addr} {od__law_many an__law_many : Option Addr} {sl__law_many : Array (Option Value)} {oc__law_many kV__law_many dc__law_many pm__law_many cd__law_many ct__law_many : Value}
    {f__law_told_right : Addr} {od__law_told_right an__law_told_right : Option Addr} {sl__law_told_right : Array (Option Value)} {oc__law_told_right kV__law_told_right dc__law_told_right pm__law_told_right cd__law_told_right ct__law_told_right : Value}
    {f_law : Addr} {od_law an_law : Option Addr} {sl_law : Array (Option Value)} {oc_law kV_law dc_law pm_law cd_law ct_law : Value}
    {f_BadFrame___init__ : Addr} {od_BadFrame___init__ an_BadFrame___init__ : Option Addr} {sl_BadFrame___init__ : Array (Option Value)} {oc_BadFrame___init__ kV_BadFrame___init__ dc_BadFrame___init__ pm_BadFrame___init__ cd_BadFrame___init__ ct_BadFrame___init__ : Value}
    {nm_BadFrame q_BadFrame : Str} {N_BadFrame : Addr} {bs_BadFrame : List Value} {sn_BadFrame : List Str} {su_BadFrame : List Value} {ab_BadFrame : Bool} {co_BadFrame : Option Bool} {dd_BadFrame : Option Addr} {m0_BadFrame m1_BadFrame m2_BadFrame m3_BadFrame m5_BadFrame : Option Value}
    {f_TooMany___init__ : Addr} {od_TooMany___init__ an_TooMany___init__ : Option Addr} {sl_TooMany___init__ : Array (Option Value)} {oc_TooMany___init__ kV_TooMany___init__ dc_TooMany___init__ pm_TooMany___init__ cd_TooMany___init__ ct_TooMany___init__ : Value}
    {nm_TooMany q_TooMany : Str} {N_TooMany : Addr} {bs_TooMany : List Value} {sn_TooMany : List Str} {su_TooMany : List Value} {ab_TooMany : Bool} {co_TooMany : Option Bool} {dd_TooMany : Option Addr} {m0_TooMany m1_TooMany m2_TooMany m3_TooMany m5_TooMany : Option Value}
    {t_MOST_CHOICES : Tok}
    {t_MOST_FORKS : Tok}
    {t_MOST_PLACES : Tok}
    {t_MOST_ROWS : Tok}
    {cT PT : Addr}
    (A_BadFrame : PySem.W.nsIn K mainGlobals "BadFrame" = some (some (.ref C_BadFrame)))
    (A_BadHouse : PySem.W.nsIn K mainGlobals "BadHouse" = some (some (.ref C_BadHouse)))
    (A_BadLoad : PySem.W.nsIn K mainGlobals "BadLoad" = some (some (.ref C_BadLoad)))
    (A_BadName : PySem.W.nsIn K mainGlobals "BadName" = some (some (.ref C_BadName)))
    (A_BadNet : PySem.W.nsIn K mainGlobals "BadNet" = some (some (.ref C_BadNet)))
    (A_BadNumber : PySem.W.nsIn K mainGlobals "BadNumber" = some (some (.ref C_BadNumber)))
    (A_BadRow : PySem.W.nsIn K mainGlobals "BadRow" = some (some (.ref C_BadRow)))
    (A_BadTable : PySem.W.nsIn K mainGlobals "BadTable" = some (some (.ref C_BadTable)))
    (A_BadText : PySem.W.nsIn K mainGlobals "BadText" = some (some (.ref C_BadText)))
    (A_BadWeb : PySem.W.nsIn K mainGlobals "BadWeb" = some (some (.ref C_BadWeb)))
    (A_Flat : PySem.W.nsIn K mainGlobals "Flat" = some (some (.ref C_Flat)))
    (A_Frame : PySem.W.nsIn K mainGlobals "Frame" = some (some (.ref C_Frame)))
    (A_NoName : PySem.W.nsIn K mainGlobals "NoName" = some (some (.ref C_NoName)))
    (A_NoPlace : PySem.W.nsIn K mainGlobals "NoPlace" = some (some (.ref C_NoPlace)))
    (A_NoRow : PySem.W.nsIn K mainGlobals "NoRow" = some (some (.ref C_NoRow)))
    (A_NoWall : PySem.W.nsIn K mainGlobals "NoWall" = some (some (.ref C_NoWall)))
    (A_NotKept : PySem.W.nsIn K mainGlobals "NotKept" = some (some (.ref C_NotKept)))
    (A_NotOnce : PySem.W.nsIn K mainGlobals "NotOnce" = some (some (.ref C_NotOnce)))
    (A_NotPlain : PySem.W.nsIn K mainGlobals "NotPlain" = some (some (.ref C_NotPlain)))
    (A_NothingToRedo : PySem.W.nsIn K mainGlobals "NothingToRedo" = some (some (.ref C_NothingToRedo)))
    (A_NothingToUndo : PySem.W.nsIn K mainGlobals "NothingToUndo" = some (some (.ref C_NothingToUndo)))
    (A_RestsError : PySem.W.nsIn K mainGlobals "RestsError" = some (some (.ref C_RestsError)))
    (A_TakenName : PySem.W.nsIn K mainGlobals "TakenName" = some (some (.ref C_TakenName)))
    (A_TooMany : PySem.W.nsIn K mainGlobals "TooMany" = some (some (.ref C_TooMany)))
    (A_Unlike : PySem.W.nsIn K mainGlobals "Unlike" = some (some (.ref C_Unlike)))
    (a_is_integer : PySem.W.nsIn K mainGlobals "is_integer" = some (some (.ref f_is_integer)))
    (l_is_integer : K.lookup f_is_integer = some ⟨oc_is_integer, od_is_integer, .func (PySem.W.fnOf "is_integer" "is_integer" (defArgs s_is_integer) (defBody s_is_integer) (defScope s_is_integer) .none kV_is_integer dc_is_integer pm_is_integer an_is_integer cd_is_integer ct_is_integer), sl_is_integer⟩)
    (c_is_integer : PySem.W.codeIn K cd_is_integer "is_integer" = true)
    (k_is_integer : PySem.W.keepIn K (.ref f_is_integer) = true)
    (a_is_ratio : PySem.W.nsIn K mainGlobals "is_ratio" = some (some (.ref f_is_ratio)))
    (l_is_ratio : K.lookup f_is_ratio = some ⟨oc_is_ratio, od_is_ratio, .func (PySem.W.fnOf "is_ratio" "is_ratio" (defArgs s_is_ratio) (defBody s_is_ratio) (defScope s_is_ratio) .none kV_is_ratio dc_is_ratio pm_is_ratio an_is_ratio cd_is_ratio ct_is_ratio), sl_is_ratio⟩)
    (c_is_ratio : PySem.W.codeIn K cd_is_ratio "is_ratio" = true)
    (k_is_ratio : PySem.W.keepIn K (.ref f_is_ratio) = true)
    (a_as_tuples : PySem.W.nsIn K mainGlobals "as_tuples" = some (some (.ref f_as_tuples)))
    (l_as_tuples : K.lookup f_as_tuples = some ⟨oc_as_tuples, od_as_tuples, .func (PySem.W.fnOf "as_tuples" "as_tuples" (defArgs s_as_tuples) (defBody s_as_tuples) (defScope s_as_tuples) .none kV_as_tuples dc_as_tuples pm_as_tuples an_as_tuples cd_as_tuples ct_as_tuples), sl_as_tuples⟩)
    (c_as_tuples : PySem.W.codeIn K cd_as_tuples "as_tuples" = true)
    (k_as_tuples : PySem.W.keepIn K (.ref f_as_tuples) = true)
    (a_is_list : PySem.W.nsIn K mainGlobals "is_list" = some (some (.ref f_is_list)))
    (l_is_list : K.lookup f_is_list = some ⟨oc_is_list, od_is_list, .func (PySem.W.fnOf "is_list" "is_list" (defArgs s_is_list) (defBody s_is_list) (defScope s_is_list) .none kV_is_list dc_is_list pm_is_list an_is_list cd_is_list ct_is_list), sl_is_list⟩)
    (c_is_list : PySem.W.codeIn K cd_is_list "is_list" = true)
    (k_is_list : PySem.W.keepIn K (.ref f_is_list) = true)
    (a_is_row : PySem.W.nsIn K mainGlobals "is_row" = some (some (.ref f_is_row)))
    (l_is_row : K.lookup f_is_row = some ⟨oc_is_row, od_is_row, .func (PySem.W.fnOf "is_row" "is_row" (defArgs s_is_row) (defBody s_is_row) (defScope s_is_row) .none kV_is_row dc_is_row pm_is_row an_is_row cd_is_row ct_is_row), sl_is_row⟩)
    (c_is_row : PySem.W.codeIn K cd_is_row "is_row" = true)
    (k_is_row : PySem.W.keepIn K (.ref f_is_row) = true)
    (a_Frame___init__ : PySem.W.findIn K (.ref C_Frame) "__init__" = some (some (.ref f_Frame___init__)))
    (l_Frame___init__ : K.lookup f_Frame___init__ = some ⟨oc_Frame___init__, od_Frame___init__, .func (PySem.W.fnOf "__init__" "Frame.__init__" (defArgs s_Frame___init__) (defBody s_Frame___init__) (defScope s_Frame___init__) .none kV_Frame___init__ dc_Frame___init__ pm_Frame___init__ an_Frame___init__ cd_Frame___init__ ct_Frame___init__), sl_Frame___init__⟩)
    (c_Frame___init__ : PySem.W.codeIn K cd_Frame___init__ "Frame.__init__" = true)
    (k_Frame___init__ : PySem.W.keepIn K (.ref f_Frame___init__) = true)
    (a_counts : PySem.W.nsIn K mainGlobals "counts" = some (some (.ref f_counts)))
    (l_counts : K.lookup f_counts = some ⟨oc_counts, od_counts, .func (PySem.W.fnOf "counts" "counts" (defArgs s_counts) (defBody s_counts) (defScope s_counts) .none kV_counts dc_counts pm_counts an_counts cd_counts ct_counts), sl_counts⟩)
    (c_counts : PySem.W.codeIn K cd_counts "counts" = true)
    (k_counts : PySem.W.keepIn K (.ref f_counts) = true)
    (a_all_picks : PySem.W.nsIn K mainGlobals "all_picks" = some (some (.ref f_all_picks)))
    (l_all_picks : K.lookup f_all_picks = some ⟨oc_all_picks, od_all_picks, .func (PySem.W.fnOf "all_picks" "all_picks" (defArgs s_all_picks) (defBody s_all_picks) (defScope s_all_picks) .none kV_all_picks dc_all_picks pm_all_picks an_all_picks cd_all_picks ct_all_picks), sl_all_picks⟩)
    (c_all_picks : PySem.W.codeIn K cd_all_picks "all_picks" = true)
    (k_all_picks : PySem.W.keepIn K (.ref f_all_picks) = true)
    (a_multiplied_all : PySem.W.nsIn K mainGlobals "multiplied_all" = some (some (.ref f_multiplied_all)))
    (l_multiplied_all : K.lookup f_multiplied_all = some ⟨oc_multiplied_all, od_multiplied_all, .func (PySem.W.fnOf "multiplied_all" "multiplied_all" (defArgs s_multiplied_all) (defBody s_multiplied_all) (defScope s_multiplied_all) .none kV_multiplied_all dc_multiplied_all pm_multiplied_all an_multiplied_all cd_multiplied_all ct_multiplied_all), sl_multiplied_all⟩)
    (c_multiplied_all : PySem.W.codeIn K cd_multiplied_all "multiplied_all" = true)
    (k_multiplied_all : PySem.W.keepIn K (.ref f_multiplied_all) = true)
    (a_need_choices : PySem.W.nsIn K mainGlobals "need_choices" = some (some (.ref f_need_choices)))
    (l_need_choices : K.lookup f_need_choices = some ⟨oc_need_choices, od_need_choices, .func (PySem.W.fnOf "need_choices" "need_choices" (defArgs s_need_choices) (defBody s_need_choices) (defScope s_need_choices) .none kV_need_choices dc_need_choices pm_need_choices an_need_choices cd_need_choices ct_need_choices), sl_need_choices⟩)
    (c_need_choices : PySem.W.codeIn K cd_need_choices "need_choices" = true)
    (k_need_choices : PySem.W.keepIn K (.ref f_need_choices) = true)
    (a_choices : PySem.W.nsIn K mainGlobals "choices" = some (some (.ref f_choices)))
    (l_choices : K.lookup f_choices = some ⟨oc_choices, od_choices, .func (PySem.W.fnOf "choices" "choices" (defArgs s_choices) (defBody s_choices) (defScope s_choices) .none kV_choices dc_choices pm_choices an_choices cd_choices ct_choices), sl_choices⟩)
    (c_choices : PySem.W.codeIn K cd_choices "choices" = true)
    (k_choices : PySem.W.keepIn K (.ref f_choices) = true)
    (a_fork_pairs : PySem.W.nsIn K mainGlobals "fork_pairs" = some (some (.ref f_fork_pairs)))
    (l_fork_pairs : K.lookup f_fork_pairs = some ⟨oc_fork_pairs, od_fork_pairs, .func (PySem.W.fnOf "fork_pairs" "fork_pairs" (defArgs s_fork_pairs) (defBody s_fork_pairs) (defScope s_fork_pairs) .none kV_fork_pairs dc_fork_pairs pm_fork_pairs an_fork_pairs cd_fork_pairs ct_fork_pairs), sl_fork_pairs⟩)
    (c_fork_pairs : PySem.W.codeIn K cd_fork_pairs "fork_pairs" = true)
    (k_fork_pairs : PySem.W.keepIn K (.ref f_fork_pairs) = true)
    (a_need_forks : PySem.W.nsIn K mainGlobals "need_forks" = some (some (.ref f_need_forks)))
    (l_need_forks : K.lookup f_need_forks = some ⟨oc_need_forks, od_need_forks, .func (PySem.W.fnOf "need_forks" "need_forks" (defArgs s_need_forks) (defBody s_need_forks) (defScope s_need_forks) .none kV_need_forks dc_need_forks pm_need_forks an_need_forks cd_need_forks ct_need_forks), sl_need_forks⟩)
    (c_need_forks : PySem.W.codeIn K cd_need_forks "need_forks" = true)
    (k_need_forks : PySem.W.keepIn K (.ref f_need_forks) = true)
    (a_forks : PySem.W.nsIn K mainGlobals "forks" = some (some (.ref f_forks)))
    (l_forks : K.lookup f_forks = some ⟨oc_forks, od_forks, .func (PySem.W.fnOf "forks" "forks" (defArgs s_forks) (defBody s_forks) (defScope s_forks) .none kV_forks dc_forks pm_forks an_forks cd_forks ct_forks), sl_forks⟩)
    (c_forks : PySem.W.codeIn K cd_forks "forks" = true)
    (k_forks : PySem.W.keepIn K (.ref f_forks) = true)
    (a__law_pen : PySem.W.nsIn K mainGlobals "_law_pen" = some (some (.ref f__law_pen)))
    (l__law_pen : K.lookup f__law_pen = some ⟨oc__law_pen, od__law_pen, .func (PySem.W.fnOf "_law_pen" "_law_pen" (defArgs s__law_pen) (defBody s__law_pen) (defScope s__law_pen) .none kV__law_pen dc__law_pen pm__law_pen an__law_pen cd__law_pen ct__law_pen), sl__law_pen⟩)
    (c__law_pen : PySem.W.codeIn K cd__law_pen "_law_pen" = true)
    (k__law_pen : PySem.W.keepIn K (.ref f__law_pen) = true)
    (a__law_draw : PySem.W.nsIn K mainGlobals "_law_draw" = some (some (.ref f__law_draw)))
    (l__law_draw : K.lookup f__law_draw = some ⟨oc__law_draw, od__law_draw, .func (PySem.W.fnOf "_law_draw" "_law_draw" (defArgs s__law_draw) (defBody s__law_draw) (defScope s__law_draw) .none kV__law_draw dc__law_draw pm__law_draw an__law_draw cd__law_draw ct__law_draw), sl__law_draw⟩)
    (c__law_draw : PySem.W.codeIn K cd__law_draw "_law_draw" = true)
    (k__law_draw : PySem.W.keepIn K (.ref f__law_draw) = true)
    (a__law_pick : PySem.W.nsIn K mainGlobals "_law_pick" = some (some (.ref f__law_pick)))
    (l__law_pick : K.lookup f__law_pick = some ⟨oc__law_pick, od__law_pick, .func (PySem.W.fnOf "_law_pick" "_law_pick" (defArgs s__law_pick) (defBody s__law_pick) (defScope s__law_pick) .none kV__law_pick dc__law_pick pm__law_pick an__law_pick cd__law_pick ct__law_pick), sl__law_pick⟩)
    (c__law_pick : PySem.W.codeIn K cd__law_pick "_law_pick" = true)
    (k__law_pick : PySem.W.keepIn K (.ref f__law_pick) = true)
    (a__law_shuffled : PySem.W.nsIn K mainGlobals "_law_shuffled" = some (some (.ref f__law_shuffled)))
    (l__law_shuffled : K.lookup f__law_shuffled = some ⟨oc__law_shuffled, od__law_shuffled, .func (PySem.W.fnOf "_law_shuffled" "_law_shuffled" (defArgs s__law_shuffled) (defBody s__law_shuffled) (defScope s__law_shuffled) .none kV__law_shuffled dc__law_shuffled pm__law_shuffled an__law_shuffled cd__law_shuffled ct__law_shuffled), sl__law_shuffled⟩)
    (c__law_shuffled : PySem.W.codeIn K cd__law_shuffled "_law_shuffled" = true)
    (k__law_shuffled : PySem.W.keepIn K (.ref f__law_shuffled) = true)
    (a__law_is : PySem.W.nsIn K mainGlobals "_law_is" = some (some (.ref f__law_is)))
    (l__law_is : K.lookup f__law_is = some ⟨oc__law_is, od__law_is, .func (PySem.W.fnOf "_law_is" "_law_is" (defArgs s__law_is) (defBody s__law_is) (defScope s__law_is) .none kV__law_is dc__law_is pm__law_is an__law_is cd__law_is ct__law_is), sl__law_is⟩)
    (c__law_is : PySem.W.codeIn K cd__law_is "_law_is" = true)
    (k__law_is : PySem.W.keepIn K (.ref f__law_is) = true)
    (a__law_choices : PySem.W.nsIn K mainGlobals "_law_choices" = some (some (.ref f__law_choices)))
    (l__law_choices : K.lookup f__law_choices = some ⟨oc__law_choices, od__law_choices, .func (PySem.W.fnOf "_law_choices" "_law_choices" (defArgs s__law_choices) (defBody s__law_choices) (defScope s__law_choices) .none kV__law_choices dc__law_choices pm__law_choices an__law_choices cd__law_choices ct__law_choices), sl__law_choices⟩)
    (c__law_choices : PySem.W.codeIn K cd__law_choices "_law_choices" = true)
    (k__law_choices : PySem.W.keepIn K (.ref f__law_choices) = true)
    (a__law_forks : PySem.W.nsIn K mainGlobals "_law_forks" = some (some (.ref f__law_forks)))
    (l__law_forks : K.lookup f__law_forks = some ⟨oc__law_forks, od__law_forks, .func (PySem.W.fnOf "_law_forks" "_law_forks" (defArgs s__law_forks) (defBody s__law_forks) (defScope s__law_forks) .none kV__law_forks dc__law_forks pm__law_forks an__law_forks cd__law_forks ct__law_forks), sl__law_forks⟩)
    (c__law_forks : PySem.W.codeIn K cd__law_forks "_law_forks" = true)
    (k__law_forks : PySem.W.keepIn K (.ref f__law_forks) = true)
    (a__law_made : PySem.W.nsIn K mainGlobals "_law_made" = some (some (.ref f__law_made)))
    (l__law_made : K.lookup f__law_made = some ⟨oc__law_made, od__law_made, .func (PySem.W.fnOf "_law_made" "_law_made" (defArgs s__law_made) (defBody s__law_made) (defScope s__law_made) .none kV__law_made dc__law_made pm__law_made an__law_made cd__law_made ct__law_made), sl__law_made⟩)
    (c__law_made : PySem.W.codeIn K cd__law_made "_law_made" = true)
    (k__law_made : PySem.W.keepIn K (.ref f__law_made) = true)
    (a__law_more_kinds : PySem.W.nsIn K mainGlobals "_law_more_kinds" = some (some (.ref f__law_more_kinds)))
    (l__law_more_kinds : K.lookup f__law_more_kinds = some ⟨oc__law_more_kinds, od__law_more_kinds, .func (PySem.W.fnOf "_law_more_kinds" "_law_more_kinds" (defArgs s__law_more_kinds) (defBody s__law_more_kinds) (defScope s__law_more_kinds) .none kV__law_more_kinds dc__law_more_kinds pm__law_more_kinds an__law_more_kinds cd__law_more_kinds ct__law_more_kinds), sl__law_more_kinds⟩)
    (c__law_more_kinds : PySem.W.codeIn K cd__law_more_kinds "_law_more_kinds" = true)
    (k__law_more_kinds : PySem.W.keepIn K (.ref f__law_more_kinds) = true)
    (a__law_kinds : PySem.W.nsIn K mainGlobals "_law_kinds" = some (some (.ref f__law_kinds)))
    (l__law_kinds : K.lookup f__law_kinds = some ⟨oc__law_kinds, od__law_kinds, .func (PySem.W.fnOf "_law_kinds" "_law_kinds" (defArgs s__law_kinds) (defBody s__law_kinds) (defScope s__law_kinds) .none kV__law_kinds dc__law_kinds pm__law_kinds an__law_kinds cd__law_kinds ct__law_kinds), sl__law_kinds⟩)
    (c__law_kinds : PySem.W.codeIn K cd__law_kinds "_law_kinds" = true)
    (k__law_kinds : PySem.W.keepIn K (.ref f__law_kinds) = true)
    (a__law_fault : PySem.W.nsIn K mainGlobals "_law_fault" = some (some (.ref f__law_fault)))
    (l__law_fault : K.lookup f__law_fault = some ⟨oc__law_fault, od__law_fault, .func (PySem.W.fnOf "_law_fault" "_law_fault" (defArgs s__law_fault) (defBody s__law_fault) (defScope s__law_fault) .none kV__law_fault dc__law_fault pm__law_fault an__law_fault cd__law_fault ct__law_fault), sl__law_fault⟩)
    (c__law_fault : PySem.W.codeIn K cd__law_fault "_law_fault" = true)
    (k__law_fault : PySem.W.keepIn K (.ref f__law_fault) = true)
    (a__law_rows_of : PySem.W.nsIn K mainGlobals "_law_rows_of" = some (some (.ref f__law_rows_of)))
    (l__law_rows_of : K.lookup f__law_rows_of = some ⟨oc__law_rows_of, od__law_rows_of, .func (PySem.W.fnOf "_law_rows_of" "_law_rows_of" (defArgs s__law_rows_of) (defBody s__law_rows_of) (defScope s__law_rows_of) .none kV__law_rows_of dc__law_rows_of pm__law_rows_of an__law_rows_of cd__law_rows_of ct__law_rows_of), sl__law_rows_of⟩)
    (c__law_rows_of : PySem.W.codeIn K cd__law_rows_of "_law_rows_of" = true)
    (k__law_rows_of : PySem.W.keepIn K (.ref f__law_rows_of) = true)
    (a__law_many : PySem.W.nsIn K mainGlobals "_law_many" = some (some (.ref f__law_many)))
    (l__law_many : K.lookup f__law_many = some ⟨oc__law_many, od__law_many, .func (PySem.W.fnOf "_law_many" "_law_many" (defArgs s__law_many) (defBody s__law_many) (defScope s__law_many) .none kV__law_many dc__law_many pm__law_many an__law_many cd__law_many ct__law_many), sl__law_many⟩)
    (c__law_many : PySem.W.codeIn K cd__law_many "_law_many" = true)
    (k__law_many : PySem.W.keepIn K (.ref f__law_many) = true)
    (a__law_told_right : PySem.W.nsIn K mainGlobals "_law_told_right" = some (some (.ref f__law_told_right)))
    (l__law_told_right : K.lookup f__law_told_right = some ⟨oc__law_told_right, od__law_told_right, .func (PySem.W.fnOf "_law_told_right" "_law_told_right" (defArgs s__law_told_right) (defBody s__law_told_right) (defScope s__law_told_right) .none kV__law_told_right dc__law_told_right pm__law_told_right an__law_told_right cd__law_told_right ct__law_told_right), sl__law_told_right⟩)
    (c__law_told_right : PySem.W.codeIn K cd__law_told_right "_law_told_right" = true)
    (k__law_told_right : PySem.W.keepIn K (.ref f__law_told_right) = true)
    (a_law : PySem.W.nsIn K mainGlobals "law" = some (some (.ref f_law)))
    (l_law : K.lookup f_law = some ⟨oc_law, od_law, .func (PySem.W.fnOf "law" "law" (defArgs s_law) (defBody s_law) (defScope s_law) .none kV_law dc_law pm_law an_law cd_law ct_law), sl_law⟩)
    (c_law : PySem.W.codeIn K cd_law "law" = true)
    (k_law : PySem.W.keepIn K (.ref f_law) = true)
    (a_BadFrame___init__ : PySem.W.findIn K (.ref C_BadFrame) "__init__" = some (some (.ref f_BadFrame___init__)))
    (l_BadFrame___init__ : K.lookup f_BadFrame___init__ = some ⟨oc_BadFrame___init__, od_BadFrame___init__, .func (PySem.W.fnOf "__init__" "BadFrame.__init__" (defArgs s_BadFrame___init__) (defBody s_BadFrame___init__) (defScope s_BadFrame___init__) .none kV_BadFrame___init__ dc_BadFrame___init__ pm_BadFrame___init__ an_BadFrame___init__ cd_BadFrame___init__ ct_BadFrame___init__), sl_BadFrame___init__⟩)
    (c_BadFrame___init__ : PySem.W.codeIn K cd_BadFrame___init__ "BadFrame.__init__" = true)
    (k_BadFrame___init__ : PySem.W.keepIn K (.ref f_BadFrame___init__) = true)
    (xL_BadFrame : K.lookup C_BadFrame = some (excClassObj nm_BadFrame q_BadFrame C_BadFrame N_BadFrame bs_BadFrame [.ref C_RestsError, .type "ValueError", .type "Exception", .type "BaseException", .type "object"] true sn_BadFrame su_BadFrame ab_BadFrame co_BadFrame dd_BadFrame m0_BadFrame m1_BadFrame m2_BadFrame m3_BadFrame m5_BadFrame "ValueError.__new__"))
    (sa_BadFrame : PySem.W.findIn K (.ref C_BadFrame) "__setattr__" = some (some (.builtin "object.__setattr__")))
    (eC_BadFrame : PySem.W.subIn K (.ref C_BadFrame) (.type "BaseException") = some true)
    (tC_BadFrame : PySem.W.typeIn K (.ref C_BadFrame) = some (.type "type"))
    (kC_BadFrame : PySem.W.keepIn K (.ref C_BadFrame) = true)
    (tI_BadFrame : PySem.W.typeIn K (.ref f_BadFrame___init__) = some (.type "function"))
    (nb_BadFrame_what : PySem.W.findIn K (.ref C_BadFrame) "what" = some none)
    (nb_BadFrame_place : PySem.W.findIn K (.ref C_BadFrame) "place" = some none)
    (a_TooMany___init__ : PySem.W.findIn K (.ref C_TooMany) "__init__" = some (some (.ref f_TooMany___init__)))
    (l_TooMany___init__ : K.lookup f_TooMany___init__ = some ⟨oc_TooMany___init__, od_TooMany___init__, .func (PySem.W.fnOf "__init__" "TooMany.__init__" (defArgs s_TooMany___init__) (defBody s_TooMany___init__) (defScope s_TooMany___init__) .none kV_TooMany___init__ dc_TooMany___init__ pm_TooMany___init__ an_TooMany___init__ cd_TooMany___init__ ct_TooMany___init__), sl_TooMany___init__⟩)
    (c_TooMany___init__ : PySem.W.codeIn K cd_TooMany___init__ "TooMany.__init__" = true)
    (k_TooMany___init__ : PySem.W.keepIn K (.ref f_TooMany___init__) = true)
    (xL_TooMany : K.lookup C_TooMany = some (excClassObj nm_TooMany q_TooMany C_TooMany N_TooMany bs_TooMany [.ref C_RestsError, .type "ValueError", .type "Exception", .type "BaseException", .type "object"] true sn_TooMany su_TooMany ab_TooMany co_TooMany dd_TooMany m0_TooMany m1_TooMany m2_TooMany m3_TooMany m5_TooMany "ValueError.__new__"))
    (sa_TooMany : PySem.W.findIn K (.ref C_TooMany) "__setattr__" = some (some (.builtin "object.__setattr__")))
    (eC_TooMany : PySem.W.subIn K (.ref C_TooMany) (.type "BaseException") = some true)
    (tC_TooMany : PySem.W.typeIn K (.ref C_TooMany) = some (.type "type"))
    (kC_TooMany : PySem.W.keepIn K (.ref C_TooMany) = true)
    (tI_TooMany : PySem.W.typeIn K (.ref f_TooMany___init__) = some (.type "function"))
    (nb_TooMany_what : PySem.W.findIn K (.ref C_TooMany) "what" = some none)
    (nb_TooMany_many : PySem.W.findIn K (.ref C_TooMany) "many" = some none)
    (nb_TooMany_limit : PySem.W.findIn K (.ref C_TooMany) "limit" = some none)
    (pg_Frame : PySem.W.plainGet K C_Frame Str.empty = true)
    (hd_Frame : PySem.W.hasDictIn K C_Frame = true)
    (po_Frame : PySem.W.plainOver K C_Frame = true)
    (sa_Frame : PySem.W.findIn K (.ref C_Frame) "__setattr__" = some (some (.builtin "object.__setattr__")))
    (mk_Frame : PySem.W.makesIn K C_Frame = true)
    (kC_Frame : PySem.W.keepIn K (.ref C_Frame) = true)
    (i_Frame___init__ : PySem.W.isFn K (.ref f_Frame___init__) = true)
    (na_Frame_rows : PySem.W.findIn K (.ref C_Frame) "rows" = some none)
    (z_ValueError : PySem.W.nsIn K mainGlobals "ValueError" = some none)
    (z_all : PySem.W.nsIn K mainGlobals "all" = some none)
    (z_bool : PySem.W.nsIn K mainGlobals "bool" = some none)
    (z_int : PySem.W.nsIn K mainGlobals "int" = some none)
    (z_isinstance : PySem.W.nsIn K mainGlobals "isinstance" = some none)
    (z_len : PySem.W.nsIn K mainGlobals "len" = some none)
    (z_list : PySem.W.nsIn K mainGlobals "list" = some none)
    (z_max : PySem.W.nsIn K mainGlobals "max" = some none)
    (z_range : PySem.W.nsIn K mainGlobals "range" = some none)
    (z_str : PySem.W.nsIn K mainGlobals "str" = some none)
    (z_tuple : PySem.W.nsIn K mainGlobals "tuple" = some none)
    (z_MOST_CHOICES : PySem.W.nsIn K mainGlobals "MOST_CHOICES" = some (some (.int 256 t_MOST_CHOICES)))
    (z_MOST_FORKS : PySem.W.nsIn K mainGlobals "MOST_FORKS" = some (some (.int 64 t_MOST_FORKS)))
    (z_MOST_PLACES : PySem.W.nsIn K mainGlobals "MOST_PLACES" = some (some (.int 12 t_MOST_PLACES)))
    (z_MOST_ROWS : PySem.W.nsIn K mainGlobals "MOST_ROWS" = some (some (.int 12 t_MOST_ROWS)))
    (z_gcd : PySem.W.nsIn K mainGlobals "gcd" = some (some (.builtin "math.gcd")))
    (cl_TooMany : (PySem.W.clsIn K C_TooMany).isSome = true)
    (ga_TooMany : PySem.W.findIn K (.ref C_TooMany) "__getattribute__" = some (some (.builtin "BaseException.__getattribute__")))
    (gg_TooMany : PySem.W.findIn K (.ref C_TooMany) "__getattr__" = some none)
    (fc_TooMany : PySem.W.findIn K (.ref C_TooMany) "__class__" = some (some (.builtin "object.__class__")))
    (mo_TooMany : PySem.W.mroIn K C_TooMany (.type "object") = some true)
    (hD_TooMany : PySem.W.hasDictIn K C_TooMany = true)
    (ve_TooMany : PySem.W.kitOne K (.ref C_TooMany) (.type "ValueError") = some true)
    (er_TooMany : PySem.W.exmOne K (.ref C_TooMany) (.ref C_RestsError) = some true)
    (kt_TooMany_BadFrame : PySem.W.kitOne K (.ref C_TooMany) (.ref C_BadFrame) = some false)
    (kt_TooMany_BadHouse : PySem.W.kitOne K (.ref C_TooMany) (.ref C_BadHouse) = some false)
    (kt_TooMany_BadLoad : PySem.W.kitOne K (.ref C_TooMany) (.ref C_BadLoad) = some false)
    (kt_TooMany_BadName : PySem.W.kitOne K (.ref C_TooMany) (.ref C_BadName) = some false)
    (kt_TooMany_BadNet : PySem.W.kitOne K (.ref C_TooMany) (.ref C_BadNet) = some false)
    (kt_TooMany_BadNumber : PySem.W.kitOne K (.ref C_TooMany) (.ref C_BadNumber) = some false)
    (kt_TooMany_BadRow : PySem.W.kitOne K (.ref C_TooMany) (.ref C_BadRow) = some false)
    (kt_TooMany_BadTable : PySem.W.kitOne K (.ref C_TooMany) (.ref C_BadTable) = some false)
    (kt_TooMany_BadText : PySem.W.kitOne K (.ref C_TooMany) (.ref C_BadText) = some false)
    (kt_TooMany_BadWeb : PySem.W.kitOne K (.ref C_TooMany) (.ref C_BadWeb) = some false)
    (kt_TooMany_Flat : PySem.W.kitOne K (.ref C_TooMany) (.ref C_Flat) = some false)
    (kt_TooMany_NoName : PySem.W.kitOne K (.ref C_TooMany) (.ref C_NoName) = some false)
    (kt_TooMany_NoPlace : PySem.W.kitOne K (.ref C_TooMany) (.ref C_NoPlace) = some false)
    (kt_TooMany_NoRow : PySem.W.kitOne K (.ref C_TooMany) (.ref C_NoRow) = some false)
    (kt_TooMany_NoWall : PySem.W.kitOne K (.ref C_TooMany) (.ref C_NoWall) = some false)
    (kt_TooMany_NotKept : PySem.W.kitOne K (.ref C_TooMany) (.ref C_NotKept) = some false)
    (kt_TooMany_NotOnce : PySem.W.kitOne K (.ref C_TooMany) (.ref C_NotOnce) = some false)
    (kt_TooMany_NotPlain : PySem.W.kitOne K (.ref C_TooMany) (.ref C_NotPlain) = some false)
    (kt_TooMany_NothingToRedo : PySem.W.kitOne K (.ref C_TooMany) (.ref C_NothingToRedo) = some false)
    (kt_TooMany_NothingToUndo : PySem.W.kitOne K (.ref C_TooMany) (.ref C_NothingToUndo) = some false)
    (kt_TooMany_TakenName : PySem.W.kitOne K (.ref C_TooMany) (.ref C_TakenName) = some false)
    (kt_TooMany_TooMany : PySem.W.kitOne K (.ref C_TooMany) (.ref C_TooMany) = some true)
    (kt_TooMany_Unlike : PySem.W.kitOne K (.ref C_TooMany) (.ref C_Unlike) = some false)
    (spc : PySem.W.specialIn K (.builtin "object.__class__") "__get__" = some (some (.builtin "getset_descriptor.__get__")))
    (tkc : PySem.W.takesIn K (.builtin "object.__class__") = some true)
    (cdT : cd__law_told_right = .ref cT)
    (hdT : PySem.W.codeHdIn K cT PT = true)
    (nT : K.lookup PT = none)
    (hTab : h.get? PT = some { cls := .none, data := .fields #[] })
    : LamX.LawAtS l w K (L2.CX l.prog w) 15 63 "script" mg fa h := by
  have e := hfa.symm.trans (PySem.W.mg_of X G a_law)
  cases e
  have g_BadFrame := PySem.W.mg_of X G A_BadFrame
  have e_BadFrame : cmOf mg "BadFrame" = C_BadFrame := cmOf_eq g_BadFrame
  have g_BadHouse := PySem.W.mg_of X G A_BadHouse
  have e_BadHouse : cmOf mg "BadHouse" = C_BadHouse := cmOf_eq g_BadHouse
  have g_BadLoad := PySem.W.mg_of X G A_BadLoad
  have e_BadLoad : cmOf mg "BadLoad" = C_BadLoad := cmOf_eq g_BadLoad
  have g_BadName := PySem.W.mg_of X G A_BadName
  have e_BadName : cmOf mg "BadName" = C_BadName := cmOf_eq g_BadName
  have g_BadNet := PySem.W.mg_of X G A_BadNet
  have e_BadNet : cmOf mg "BadNet" = C_BadNet := cmOf_eq g_BadNet
  have g_BadNumber := PySem.W.mg_of X G A_BadNumber
  have e_BadNumber : cmOf mg "BadNumber" = C_BadNumber := cmOf_eq g_BadNumber
  have g_BadRow := PySem.W.mg_of X G A_BadRow
  have e_BadRow : cmOf mg "BadRow" = C_BadRow := cmOf_eq g_BadRow
  have g_BadTable := PySem.W.mg_of X G A_BadTable
  have e_BadTable : cmOf mg "BadTable" = C_BadTable := cmOf_eq g_BadTable
  have g_BadText := PySem.W.mg_of X G A_BadText
  have e_BadText : cmOf mg "BadText" = C_BadText := cmOf_eq g_BadText
  have g_BadWeb := PySem.W.mg_of X G A_BadWeb
  have e_BadWeb : cmOf mg "BadWeb" = C_BadWeb := cmOf_eq g_BadWeb
  have g_Flat := PySem.W.mg_of X G A_Flat
  have e_Flat : cmOf mg "Flat" = C_Flat := cmOf_eq g_Flat
  have g_Frame := PySem.W.mg_of X G A_Frame
  have e_Frame : cmOf mg "Frame" = C_Frame := cmOf_eq g_Frame
  have g_NoName := PySem.W.mg_of X G A_NoName
  have e_NoName : cmOf mg "NoName" = C_NoName := cmOf_eq g_NoName
  have g_NoPlace := PySem.W.mg_of X G A_NoPlace
  have e_NoPlace : cmOf mg "NoPlace" = C_NoPlace := cmOf_eq g_NoPlace
  have g_NoRow := PySem.W.mg_of X G A_NoRow
  have e_NoRow : cmOf mg "NoRow" = C_NoRow := cmOf_eq g_NoRow
  have g_NoWall := PySem.W.mg_of X G A_NoWall
  have e_NoWall : cmOf mg "NoWall" = C_NoWall := cmOf_eq g_NoWall
  have g_NotKept := PySem.W.mg_of X G A_NotKept
  have e_NotKept : cmOf mg "NotKept" = C_NotKept := cmOf_eq g_NotKept
  have g_NotOnce := PySem.W.mg_of X G A_NotOnce
  have e_NotOnce : cmOf mg "NotOnce" = C_NotOnce := cmOf_eq g_NotOnce
  have g_NotPlain := PySem.W.mg_of X G A_NotPlain
  have e_NotPlain : cmOf mg "NotPlain" = C_NotPlain := cmOf_eq g_NotPlain
  have g_NothingToRedo := PySem.W.mg_of X G A_NothingToRedo
  have e_NothingToRedo : cmOf mg "NothingToRedo" = C_NothingToRedo := cmOf_eq g_NothingToRedo
  have g_NothingToUndo := PySem.W.mg_of X G A_NothingToUndo
  have e_NothingToUndo : cmOf mg "NothingToUndo" = C_NothingToUndo := cmOf_eq g_NothingToUndo
  have g_RestsError := PySem.W.mg_of X G A_RestsError
  have e_RestsError : cmOf mg "RestsError" = C_RestsError := cmOf_eq g_RestsError
  have g_TakenName := PySem.W.mg_of X G A_TakenName
  have e_TakenName : cmOf mg "TakenName" = C_TakenName := cmOf_eq g_TakenName
  have g_TooMany := PySem.W.mg_of X G A_TooMany
  have e_TooMany : cmOf mg "TooMany" = C_TooMany := cmOf_eq g_TooMany
  have g_Unlike := PySem.W.mg_of X G A_Unlike
  have e_Unlike : cmOf mg "Unlike" = C_Unlike := cmOf_eq g_Unlike
  have Z : Zn mg := ⟨PySem.W.mg_none_of X G z_ValueError, PySem.W.mg_none_of X G z_all, PySem.W.mg_none_of X G z_bool, PySem.W.mg_none_of X G z_int, PySem.W.mg_none_of X G z_isinstance, PySem.W.mg_none_of X G z_len, PySem.W.mg_none_of X G z_list, PySem.W.mg_none_of X G z_max, PySem.W.mg_none_of X G z_range, PySem.W.mg_none_of X G z_str, PySem.W.mg_none_of X G z_tuple, ⟨_, PySem.W.mg_of X G z_MOST_CHOICES⟩, ⟨_, PySem.W.mg_of X G z_MOST_FORKS⟩, ⟨_, PySem.W.mg_of X G z_MOST_PLACES⟩, ⟨_, PySem.W.mg_of X G z_MOST_ROWS⟩, PySem.W.mg_of X G z_gcd⟩
  have Y : Yn K mg := ⟨⟨C_Frame, g_Frame, ⟨pg_Frame, hd_Frame, po_Frame, sa_Frame⟩, na_Frame_rows⟩⟩
  have XC : ∀ c ∈ excN, XcC K (cmOf mg c) := x_one (by rw [e_TooMany]; exact ⟨cl_TooMany, ga_TooMany, gg_TooMany, eC_TooMany, fc_TooMany, spc, tkc, mo_TooMany⟩)
  have Xn : XnOk K mg := ⟨(by rw [e_BadFrame]; exact g_BadFrame),
    (fun c hc => ⟨XC c hc, x_one (P := fun c => PySem.W.kitOne K (.ref (cmOf mg c)) (.ref (cmOf mg "BadFrame")) = some (c == "BadFrame")) (by rw [e_TooMany, e_BadFrame]; exact kt_TooMany_BadFrame) c hc⟩),
    (by rw [e_BadHouse]; exact g_BadHouse),
    (fun c hc => ⟨XC c hc, x_one (P := fun c => PySem.W.kitOne K (.ref (cmOf mg c)) (.ref (cmOf mg "BadHouse")) = some (c == "BadHouse")) (by rw [e_TooMany, e_BadHouse]; exact kt_TooMany_BadHouse) c hc⟩),
    (by rw [e_BadLoad]; exact g_BadLoad),
    (fun c hc => ⟨XC c hc, x_one (P := fun c => PySem.W.kitOne K (.ref (cmOf mg c)) (.ref (cmOf mg "BadLoad")) = some (c == "BadLoad")) (by rw [e_TooMany, e_BadLoad]; exact kt_TooMany_BadLoad) c hc⟩),
    (by rw [e_BadName]; exact g_BadName),
    (fun c hc => ⟨XC c hc, x_one (P := fun c => PySem.W.kitOne K (.ref (cmOf mg c)) (.ref (cmOf mg "BadName")) = some (c == "BadName")) (by rw [e_TooMany, e_BadName]; exact kt_TooMany_BadName) c hc⟩),
    (by rw [e_BadNet]; exact g_BadNet),
    (fun c hc => ⟨XC c hc, x_one (P := fun c => PySem.W.kitOne K (.ref (cmOf mg c)) (.ref (cmOf mg "BadNet")) = some (c == "BadNet")) (by rw [e_TooMany, e_BadNet]; exact kt_TooMany_BadNet) c hc⟩),
    (by rw [e_BadNumber]; exact g_BadNumber),
    (fun c hc => ⟨XC c hc, x_one (P := fun c => PySem.W.kitOne K (.ref (cmOf mg c)) (.ref (cmOf mg "BadNumber")) = some (c == "BadNumber")) (by rw [e_TooMany, e_BadNumber]; exact kt_TooMany_BadNumber) c hc⟩),
    (by rw [e_BadRow]; exact g_BadRow),
    (fun c hc => ⟨XC c hc, x_one (P := fun c => PySem.W.kitOne K (.ref (cmOf mg c)) (.ref (cmOf mg "BadRow")) = some (c == "BadRow")) (by rw [e_TooMany, e_BadRow]; exact kt_TooMany_BadRow) c hc⟩),
    (by rw [e_BadTable]; exact g_BadTable),
    (fun c hc => ⟨XC c hc, x_one (P := fun c => PySem.W.kitOne K (.ref (cmOf mg c)) (.ref (cmOf mg "BadTable")) = some (c == "BadTable")) (by rw [e_TooMany, e_BadTable]; exact kt_TooMany_BadTable) c hc⟩),
    (by rw [e_BadText]; exact g_BadText),
    (fun c hc => ⟨XC c hc, x_one (P := fun c => PySem.W.kitOne K (.ref (cmOf mg c)) (.ref (cmOf mg "BadText")) = some (c == "BadText")) (by rw [e_TooMany, e_BadText]; exact kt_TooMany_BadText) c hc⟩),
    (by rw [e_BadWeb]; exact g_BadWeb),
    (fun c hc => ⟨XC c hc, x_one (P := fun c => PySem.W.kitOne K (.ref (cmOf mg c)) (.ref (cmOf mg "BadWeb")) = some (c == "BadWeb")) (by rw [e_TooMany, e_BadWeb]; exact kt_TooMany_BadWeb) c hc⟩),
    (by rw [e_Flat]; exact g_Flat),
    (fun c hc => ⟨XC c hc, x_one (P := fun c => PySem.W.kitOne K (.ref (cmOf mg c)) (.ref (cmOf mg "Flat")) = some (c == "Flat")) (by rw [e_TooMany, e_Flat]; exact kt_TooMany_Flat) c hc⟩),
    (by rw [e_NoName]; exact g_NoName),
    (fun c hc => ⟨XC c hc, x_one (P := fun c => PySem.W.kitOne K (.ref (cmOf mg c)) (.ref (cmOf mg "NoName")) = some (c == "NoName")) (by rw [e_TooMany, e_NoName]; exact kt_TooMany_NoName) c hc⟩),
    (by rw [e_NoPlace]; exact g_NoPlace),
    (fun c hc => ⟨XC c hc, x_one (P := fun c => PySem.W.kitOne K (.ref (cmOf mg c)) (.ref (cmOf mg "NoPlace")) = some (c == "NoPlace")) (by rw [e_TooMany, e_NoPlace]; exact kt_TooMany_NoPlace) c hc⟩),
    (by rw [e_NoRow]; exact g_NoRow),
    (fun c hc => ⟨XC c hc, x_one (P := fun c => PySem.W.kitOne K (.ref (cmOf mg c)) (.ref (cmOf mg "NoRow")) = some (c == "NoRow")) (by rw [e_TooMany, e_NoRow]; exact kt_TooMany_NoRow) c hc⟩),
    (by rw [e_NoWall]; exact g_NoWall),
    (fun c hc => ⟨XC c hc, x_one (P := fun c => PySem.W.kitOne K (.ref (cmOf mg c)) (.ref (cmOf mg "NoWall")) = some (c == "NoWall")) (by rw [e_TooMany, e_NoWall]; exact kt_TooMany_NoWall) c hc⟩),
    (by rw [e_NotKept]; exact g_NotKept),
    (fun c hc => ⟨XC c hc, x_one (P := fun c => PySem.W.kitOne K (.ref (cmOf mg c)) (.ref (cmOf mg "NotKept")) = some (c == "NotKept")) (by rw [e_TooMany, e_NotKept]; exact kt_TooMany_NotKept) c hc⟩),
    (by rw [e_NotOnce]; exact g_NotOnce),
    (fun c hc => ⟨XC c hc, x_one (P := fun c => PySem.W.kitOne K (.ref (cmOf mg c)) (.ref (cmOf mg "NotOnce")) = some (c == "NotOnce")) (by rw [e_TooMany, e_NotOnce]; exact kt_TooMany_NotOnce) c hc⟩),
    (by rw [e_NotPlain]; exact g_NotPlain),
    (fun c hc => ⟨XC c hc, x_one (P := fun c => PySem.W.kitOne K (.ref (cmOf mg c)) (.ref (cmOf mg "NotPlain")) = some (c == "NotPlain")) (by rw [e_TooMany, e_NotPlain]; exact kt_TooMany_NotPlain) c hc⟩),
    (by rw [e_NothingToRedo]; exact g_NothingToRedo),
    (fun c hc => ⟨XC c hc, x_one (P := fun c => PySem.W.kitOne K (.ref (cmOf mg c)) (.ref (cmOf mg "NothingToRedo")) = some (c == "NothingToRedo")) (by rw [e_TooMany, e_NothingToRedo]; exact kt_TooMany_NothingToRedo) c hc⟩),
    (by rw [e_NothingToUndo]; exact g_NothingToUndo),
    (fun c hc => ⟨XC c hc, x_one (P := fun c => PySem.W.kitOne K (.ref (cmOf mg c)) (.ref (cmOf mg "NothingToUndo")) = some (c == "NothingToUndo")) (by rw [e_TooMany, e_NothingToUndo]; exact kt_TooMany_NothingToUndo) c hc⟩),
    (by rw [e_TakenName]; exact g_TakenName),
    (fun c hc => ⟨XC c hc, x_one (P := fun c => PySem.W.kitOne K (.ref (cmOf mg c)) (.ref (cmOf mg "TakenName")) = some (c == "TakenName")) (by rw [e_TooMany, e_TakenName]; exact kt_TooMany_TakenName) c hc⟩),
    (by rw [e_TooMany]; exact g_TooMany),
    (fun c hc => ⟨XC c hc, x_one (P := fun c => PySem.W.kitOne K (.ref (cmOf mg c)) (.ref (cmOf mg "TooMany")) = some (c == "TooMany")) (by rw [e_TooMany]; exact kt_TooMany_TooMany) c hc⟩),
    (by rw [e_Unlike]; exact g_Unlike),
    (fun c hc => ⟨XC c hc, x_one (P := fun c => PySem.W.kitOne K (.ref (cmOf mg c)) (.ref (cmOf mg "Unlike")) = some (c == "Unlike")) (by rw [e_TooMany, e_Unlike]; exact kt_TooMany_Unlike) c hc⟩),
    (fun c hc => ⟨XC c hc, x_one (P := fun c => PySem.W.kitOne K (.ref (cmOf mg c)) (.type "ValueError") = some true) (by rw [e_TooMany]; exact ve_TooMany) c hc⟩),
    (⟨by rw [e_TooMany]; exact ⟨ga_TooMany, gg_TooMany, eC_TooMany, hD_TooMany⟩, by rw [e_TooMany]; exact nb_TooMany_limit⟩),
    (⟨by rw [e_TooMany]; exact ⟨ga_TooMany, gg_TooMany, eC_TooMany, hD_TooMany⟩, by rw [e_TooMany]; exact nb_TooMany_many⟩),
    (⟨by rw [e_TooMany]; exact ⟨ga_TooMany, gg_TooMany, eC_TooMany, hD_TooMany⟩, by rw [e_TooMany]; exact nb_TooMany_what⟩)⟩
  have XR : XrOk K mg C_RestsError := x_one (P := fun c => PySem.W.exmOne K (.ref (cmOf mg c)) (.ref C_RestsError) = some true) (by rw [e_TooMany]; exact er_TooMany)
  have F_is_integer := fun_mk (st := s_is_integer) l_is_integer c_is_integer k_is_integer
  have b_is_integer := F_is_integer.binds (ps := ["value"]) fun _ _ _ _ _ _ us hl => match us, hl with | [_], _ => rfl
  have D_is_integer : DefG K mg "is_integer" ["value"] _ _ := ⟨⟨k_is_integer, b_is_integer⟩, PySem.W.mg_of X G a_is_integer⟩
  have F_is_ratio := fun_mk (st := s_is_ratio) l_is_ratio c_is_ratio k_is_ratio
  have b_is_ratio := F_is_ratio.binds (ps := ["value"]) fun _ _ _ _ _ _ us hl => match us, hl with | [_], _ => rfl
  have D_is_ratio : DefG K mg "is_ratio" ["value"] _ _ := ⟨⟨k_is_ratio, b_is_ratio⟩, PySem.W.mg_of X G a_is_ratio⟩
  have F_as_tuples := fun_mk (st := s_as_tuples) l_as_tuples c_as_tuples k_as_tuples
  have b_as_tuples := F_as_tuples.binds (ps := ["value"]) fun _ _ _ _ _ _ us hl => match us, hl with | [_], _ => rfl
  have D_as_tuples : DefG K mg "as_tuples" ["value"] _ _ := ⟨⟨k_as_tuples, b_as_tuples⟩, PySem.W.mg_of X G a_as_tuples⟩
  have F_is_list := fun_mk (st := s_is_list) l_is_list c_is_list k_is_list
  have b_is_list := F_is_list.binds (ps := ["value"]) fun _ _ _ _ _ _ us hl => match us, hl with | [_], _ => rfl
  have D_is_list : DefG K mg "is_list" ["value"] _ _ := ⟨⟨k_is_list, b_is_list⟩, PySem.W.mg_of X G a_is_list⟩
  have F_is_row := fun_mk (st := s_is_row) l_is_row c_is_row k_is_row
  have b_is_row := F_is_row.binds (ps := ["value", "many"]) fun _ _ _ _ _ _ us hl => match us, hl with | [_, _], _ => rfl
  have D_is_row : DefG K mg "is_row" ["value", "many"] _ _ := ⟨⟨k_is_row, b_is_row⟩, PySem.W.mg_of X G a_is_row⟩
  have F_Frame___init__ := fun_mk (st := s_Frame___init__) l_Frame___init__ c_Frame___init__ k_Frame___init__
  have b_Frame___init__ := F_Frame___init__.binds (ps := ["self", "rows"]) fun _ _ _ _ _ _ us hl => match us, hl with | [_, _], _ => rfl
  have D_Frame___init__ : DefAt K mg ["self", "rows"] _ _ := ⟨k_Frame___init__, b_Frame___init__⟩
  have F_counts := fun_mk (st := s_counts) l_counts c_counts k_counts
  have b_counts := F_counts.binds (ps := ["frame"]) fun _ _ _ _ _ _ us hl => match us, hl with | [_], _ => rfl
  have D_counts : DefG K mg "counts" ["frame"] _ _ := ⟨⟨k_counts, b_counts⟩, PySem.W.mg_of X G a_counts⟩
  have F_all_picks := fun_mk (st := s_all_picks) l_all_picks c_all_picks k_all_picks
  have b_all_picks := F_all_picks.binds (ps := ["lists"]) fun _ _ _ _ _ _ us hl => match us, hl with | [_], _ => rfl
  have D_all_picks : DefG K mg "all_picks" ["lists"] _ _ := ⟨⟨k_all_picks, b_all_picks⟩, PySem.W.mg_of X G a_all_picks⟩
  have F_multiplied_all := fun_mk (st := s_multiplied_all) l_multiplied_all c_multiplied_all k_multiplied_all
  have b_multiplied_all := F_multiplied_all.binds (ps := ["numbers"]) fun _ _ _ _ _ _ us hl => match us, hl with | [_], _ => rfl
  have D_multiplied_all : DefG K mg "multiplied_all" ["numbers"] _ _ := ⟨⟨k_multiplied_all, b_multiplied_all⟩, PySem.W.mg_of X G a_multiplied_all⟩
  have F_need_choices := fun_mk (st := s_need_choices) l_need_choices c_need_choices k_need_choices
  have b_need_choices := F_need_choices.binds (ps := ["frame"]) fun _ _ _ _ _ _ us hl => match us, hl with | [_], _ => rfl
  have D_need_choices : DefG K mg "need_choices" ["frame"] _ _ := ⟨⟨k_need_choices, b_need_choices⟩, PySem.W.mg_of X G a_need_choices⟩
  have F_choices := fun_mk (st := s_choices) l_choices c_choices k_choices
  have b_choices := F_choices.binds (ps := ["frame"]) fun _ _ _ _ _ _ us hl => match us, hl with | [_], _ => rfl
  have D_choices : DefG K mg "choices" ["frame"] _ _ := ⟨⟨k_choices, b_choices⟩, PySem.W.mg_of X G a_choices⟩
  have F_fork_pairs := fun_mk (st := s_fork_pairs) l_fork_pairs c_fork_pairs k_fork_pairs
  have b_fork_pairs := F_fork_pairs.binds (ps := ["many"]) fun _ _ _ _ _ _ us hl => match us, hl with | [_], _ => rfl
  have D_fork_pairs : DefG K mg "fork_pairs" ["many"] _ _ := ⟨⟨k_fork_pairs, b_fork_pairs⟩, PySem.W.mg_of X G a_fork_pairs⟩
  have F_need_forks := fun_mk (st := s_need_forks) l_need_forks c_need_forks k_need_forks
  have b_need_forks := F_need_forks.binds (ps := ["frame"]) fun _ _ _ _ _ _ us hl => match us, hl with | [_], _ => rfl
  have D_need_forks : DefG K mg "need_forks" ["frame"] _ _ := ⟨⟨k_need_forks, b_need_forks⟩, PySem.W.mg_of X G a_need_forks⟩
  have F_forks := fun_mk (st := s_forks) l_forks c_forks k_forks
  have b_forks := F_forks.binds (ps := ["frame"]) fun _ _ _ _ _ _ us hl => match us, hl with | [_], _ => rfl
  have D_forks : DefG K mg "forks" ["frame"] _ _ := ⟨⟨k_forks, b_forks⟩, PySem.W.mg_of X G a_forks⟩
  have F__law_pen := fun_mk (st := s__law_pen) l__law_pen c__law_pen k__law_pen
  have b__law_pen := F__law_pen.binds (ps := ["script"]) fun _ _ _ _ _ _ us hl => match us, hl with | [_], _ => rfl
  have D__law_pen : DefG K mg "_law_pen" ["script"] _ _ := ⟨⟨k__law_pen, b__law_pen⟩, PySem.W.mg_of X G a__law_pen⟩
  have F__law_draw := fun_mk (st := s__law_draw) l__law_draw c__law_draw k__law_draw
  have b__law_draw := F__law_draw.binds (ps := ["pen", "many"]) fun _ _ _ _ _ _ us hl => match us, hl with | [_, _], _ => rfl
  have D__law_draw : DefG K mg "_law_draw" ["pen", "many"] _ _ := ⟨⟨k__law_draw, b__law_draw⟩, PySem.W.mg_of X G a__law_draw⟩
  have F__law_pick := fun_mk (st := s__law_pick) l__law_pick c__law_pick k__law_pick
  have b__law_pick := F__law_pick.binds (ps := ["pen", "some"]) fun _ _ _ _ _ _ us hl => match us, hl with | [_, _], _ => rfl
  have D__law_pick : DefG K mg "_law_pick" ["pen", "some"] _ _ := ⟨⟨k__law_pick, b__law_pick⟩, PySem.W.mg_of X G a__law_pick⟩
  have F__law_shuffled := fun_mk (st := s__law_shuffled) l__law_shuffled c__law_shuffled k__law_shuffled
  have b__law_shuffled := F__law_shuffled.binds (ps := ["pen", "some"]) fun _ _ _ _ _ _ us hl => match us, hl with | [_, _], _ => rfl
  have D__law_shuffled : DefG K mg "_law_shuffled" ["pen", "some"] _ _ := ⟨⟨k__law_shuffled, b__law_shuffled⟩, PySem.W.mg_of X G a__law_shuffled⟩
  have F__law_is := fun_mk (st := s__law_is) l__law_is c__law_is k__law_is
  have b__law_is := F__law_is.binds (ps := ["told", "due"]) fun _ _ _ _ _ _ us hl => match us, hl with | [_, _], _ => rfl
  have D__law_is : DefG K mg "_law_is" ["told", "due"] _ _ := ⟨⟨k__law_is, b__law_is⟩, PySem.W.mg_of X G a__law_is⟩
  have F__law_choices := fun_mk (st := s__law_choices) l__law_choices c__law_choices k__law_choices
  have b__law_choices := F__law_choices.binds (ps := ["rows"]) fun _ _ _ _ _ _ us hl => match us, hl with | [_], _ => rfl
  have D__law_choices : DefG K mg "_law_choices" ["rows"] _ _ := ⟨⟨k__law_choices, b__law_choices⟩, PySem.W.mg_of X G a__law_choices⟩
  have F__law_forks := fun_mk (st := s__law_forks) l__law_forks c__law_forks k__law_forks
  have b__law_forks := F__law_forks.binds (ps := ["rows"]) fun _ _ _ _ _ _ us hl => match us, hl with | [_], _ => rfl
  have D__law_forks : DefG K mg "_law_forks" ["rows"] _ _ := ⟨⟨k__law_forks, b__law_forks⟩, PySem.W.mg_of X G a__law_forks⟩
  have F__law_made := fun_mk (st := s__law_made) l__law_made c__law_made k__law_made
  have b__law_made := F__law_made.binds (ps := ["rows"]) fun _ _ _ _ _ _ us hl => match us, hl with | [_], _ => rfl
  have D__law_made : DefG K mg "_law_made" ["rows"] _ _ := ⟨⟨k__law_made, b__law_made⟩, PySem.W.mg_of X G a__law_made⟩
  have F__law_more_kinds := fun_mk (st := s__law_more_kinds) l__law_more_kinds c__law_more_kinds k__law_more_kinds
  have b__law_more_kinds := F__law_more_kinds.binds (ps := ["e"]) fun _ _ _ _ _ _ us hl => match us, hl with | [_], _ => rfl
  have D__law_more_kinds : DefG K mg "_law_more_kinds" ["e"] _ _ := ⟨⟨k__law_more_kinds, b__law_more_kinds⟩, PySem.W.mg_of X G a__law_more_kinds⟩
  have F__law_kinds := fun_mk (st := s__law_kinds) l__law_kinds c__law_kinds k__law_kinds
  have b__law_kinds := F__law_kinds.binds (ps := ["e"]) fun _ _ _ _ _ _ us hl => match us, hl with | [_], _ => rfl
  have D__law_kinds : DefG K mg "_law_kinds" ["e"] _ _ := ⟨⟨k__law_kinds, b__law_kinds⟩, PySem.W.mg_of X G a__law_kinds⟩
  have F__law_fault := fun_mk (st := s__law_fault) l__law_fault c__law_fault k__law_fault
  have b__law_fault := F__law_fault.binds (ps := ["call"]) fun _ _ _ _ _ _ us hl => match us, hl with | [_], _ => rfl
  have D__law_fault : DefG K mg "_law_fault" ["call"] _ _ := ⟨⟨k__law_fault, b__law_fault⟩, PySem.W.mg_of X G a__law_fault⟩
  have F__law_rows_of := fun_mk (st := s__law_rows_of) l__law_rows_of c__law_rows_of k__law_rows_of
  have b__law_rows_of := F__law_rows_of.binds (ps := ["counts_v"]) fun _ _ _ _ _ _ us hl => match us, hl with | [_], _ => rfl
  have D__law_rows_of : DefG K mg "_law_rows_of" ["counts_v"] _ _ := ⟨⟨k__law_rows_of, b__law_rows_of⟩, PySem.W.mg_of X G a__law_rows_of⟩
  have F__law_many := fun_mk (st := s__law_many) l__law_many c__law_many k__law_many
  have b__law_many := F__law_many.binds (ps := ["counts_v"]) fun _ _ _ _ _ _ us hl => match us, hl with | [_], _ => rfl
  have D__law_many : DefG K mg "_law_many" ["counts_v"] _ _ := ⟨⟨k__law_many, b__law_many⟩, PySem.W.mg_of X G a__law_many⟩
  have F__law_told_right := fun_mk (st := s__law_told_right) l__law_told_right c__law_told_right k__law_told_right
  have b__law_told_right := F__law_told_right.binds (ps := ["counts_v"]) fun _ _ _ _ _ _ us hl => match us, hl with | [_], _ => rfl
  have D__law_told_right : DefG K mg "_law_told_right" ["counts_v"] _ _ := ⟨⟨k__law_told_right, b__law_told_right⟩, PySem.W.mg_of X G a__law_told_right⟩
  have F_law := fun_mk (st := s_law) l_law c_law k_law
  have b_law := F_law.binds (ps := ["script"]) fun _ _ _ _ _ _ us hl => match us, hl with | [_], _ => rfl
  have D_law : DefG K mg "law" ["script"] _ _ := ⟨⟨k_law, b_law⟩, PySem.W.mg_of X G a_law⟩
  have F_BadFrame___init__ := fun_mk (st := s_BadFrame___init__) l_BadFrame___init__ c_BadFrame___init__ k_BadFrame___init__
  have b_BadFrame___init__ := F_BadFrame___init__.binds (ps := ["self", "what", "place"]) fun _ _ _ _ _ _ us hl => match us, hl with | [_, _, _], _ => rfl
  have D_BadFrame___init__ : DefAt K mg ["self", "what", "place"] _ _ := ⟨k_BadFrame___init__, b_BadFrame___init__⟩
  have no_BadFrame : ∀ f ∈ (["what", "place"] : List Str), PySem.W.findIn K (.ref C_BadFrame) f = some none := fun f hf => by
    simp only [List.mem_cons, List.mem_nil_iff, or_false] at hf
    rcases hf with rfl | rfl
    · exact nb_BadFrame_what
    · exact nb_BadFrame_place
  have O_BadFrame : ExOk K mg "BadFrame" C_BadFrame f_BadFrame___init__ ["what", "place"] := { gC := g_BadFrame, ox := ⟨⟨nm_BadFrame, q_BadFrame, N_BadFrame, bs_BadFrame, _, sn_BadFrame, su_BadFrame, ab_BadFrame, co_BadFrame, dd_BadFrame, m0_BadFrame, m1_BadFrame, m2_BadFrame, m3_BadFrame, m5_BadFrame, xL_BadFrame, by rfl⟩, sa_BadFrame, eC_BadFrame, tC_BadFrame, kC_BadFrame⟩, no := no_BadFrame, iC := a_BadFrame___init__, tI := tI_BadFrame }
  have F_TooMany___init__ := fun_mk (st := s_TooMany___init__) l_TooMany___init__ c_TooMany___init__ k_TooMany___init__
  have b_TooMany___init__ := F_TooMany___init__.binds (ps := ["self", "what", "many", "limit"]) fun _ _ _ _ _ _ us hl => match us, hl with | [_, _, _, _], _ => rfl
  have D_TooMany___init__ : DefAt K mg ["self", "what", "many", "limit"] _ _ := ⟨k_TooMany___init__, b_TooMany___init__⟩
  have no_TooMany : ∀ f ∈ (["what", "many", "limit"] : List Str), PySem.W.findIn K (.ref C_TooMany) f = some none := fun f hf => by
    simp only [List.mem_cons, List.mem_nil_iff, or_false] at hf
    rcases hf with rfl | rfl | rfl
    · exact nb_TooMany_what
    · exact nb_TooMany_many
    · exact nb_TooMany_limit
  have O_TooMany : ExOk K mg "TooMany" C_TooMany f_TooMany___init__ ["what", "many", "limit"] := { gC := g_TooMany, ox := ⟨⟨nm_TooMany, q_TooMany, N_TooMany, bs_TooMany, _, sn_TooMany, su_TooMany, ab_TooMany, co_TooMany, dd_TooMany, m0_TooMany, m1_TooMany, m2_TooMany, m3_TooMany, m5_TooMany, xL_TooMany, by rfl⟩, sa_TooMany, eC_TooMany, tC_TooMany, kC_TooMany⟩, no := no_TooMany, iC := a_TooMany___init__, tI := tI_TooMany }
  have M_Frame : MkOk K mg "Frame" C_Frame f_Frame___init__ := ⟨g_Frame, ⟨mk_Frame, a_Frame___init__, i_Frame___init__, kC_Frame⟩⟩
  let T : List (Addr × Str) := [(PT, ("_law_told_right.<locals>.<lambda>" : Str))]
  have hu : ∀ p ∈ T, p.1 = PT → p.2 = ("_law_told_right.<locals>.<lambda>" : Str) := fun p hp _ => by rw [List.mem_singleton.mp hp]
  have hmT : (PT, ("_law_told_right.<locals>.<lambda>" : Str)) ∈ T := List.mem_singleton.mpr rfl
  refine ⟨PySem.W.fnOf "law" "law" (defArgs s_law) (defBody s_law) (defScope s_law) .none kV_law dc_law pm_law an_law cd_law ct_law, [(cT, PT)], lSp ⟨K, cmOf mg, [], T⟩ 1 sp_law, ?_, ?_, ?_, fun s u => .of_eq rfl, fun H a ns hn hb hT hS => ?_, fun base hK hN hTB => ?_⟩
  · intro p hp
    rw [List.mem_singleton.mp hp]
    exact hTab
  · intro p hp
    rw [List.mem_singleton.mp hp]
    exact nT
  · intro p hp
    rw [List.mem_singleton.mp hp]
    exact PySem.W.codeHd_of_K X hdT
  · refine ⟨H, fun _ => none, [.scr ns], fun d => d = .bl true, fun _ => False, (jn_none' H).symm, ⟨fun _ _ _ => rfl, fun _ _ z => by cases z⟩, ?_, ?_, rfl, ⟨ns, rfl, hn, rfl⟩, ⟨fun v d F' x dj rv q => by rw [q] at rv; exact rep_bl rv⟩, fun _ _ _ _ _ _ _ z => z.elim⟩
    · intro p hp
      rw [List.mem_singleton.mp hp]
      exact LamX.TabS.nil (hT (cT, PT) (List.mem_singleton.mpr rfl))
    · exact Reps.cons (by unfold Rep; exact ⟨a, rfl, hS⟩) Reps.nil
  · have TB := hTB (cT, PT) (List.mem_singleton.mpr rfl)
    have G_BadFrame___init__ : FnOk l.prog w K mg base (L2.CX l.prog w) 1 _ _ ["self", "what", "place"] (spInit K ["what", "place"]) := ok_init2 F_BadFrame___init__ sc_BadFrame___init__ rfl (.inl rfl) (.inl rfl) rfl rfl (.inl rfl) rfl rfl
    have G_TooMany___init__ : FnOk l.prog w K mg base (L2.CX l.prog w) 1 _ _ ["self", "what", "many", "limit"] (spInit K ["what", "many", "limit"]) := ok_init3 F_TooMany___init__ sc_TooMany___init__ rfl (.inl rfl) (.inl rfl) rfl rfl (.inl rfl) rfl rfl (.inl rfl) rfl rfl
    have G_is_integer := ok_is_integer (P := l.prog) (w := w) (base := base) (T := T) Z Y  F_is_integer
    have G_is_ratio := ok_is_ratio (P := l.prog) (w := w) (base := base) (T := T) Z Y D_is_integer G_is_integer F_is_ratio
    have G_as_tuples := ok_as_tuples (P := l.prog) (w := w) (base := base) (T := T) Z Y  D_as_tuples F_as_tuples 8
    have G_is_list := ok_is_list (P := l.prog) (w := w) (base := base) (T := T) Z Y  F_is_list
    have G_is_row := ok_is_row (P := l.prog) (w := w) (base := base) (T := T) Z Y D_is_list G_is_list D_is_ratio G_is_ratio F_is_row
    have G_Frame___init__ := ok_Frame___init__ (P := l.prog) (w := w) (base := base) (T := T) Z Y D_is_list G_is_list O_BadFrame D_BadFrame___init__ G_BadFrame___init__ D_is_row G_is_row D_as_tuples G_as_tuples F_Frame___init__
    have G_counts := ok_counts (P := l.prog) (w := w) (base := base) (T := T) Z Y  F_counts
    have G_all_picks := ok_all_picks (P := l.prog) (w := w) (base := base) (T := T) Z Y  F_all_picks
    have G_multiplied_all := ok_multiplied_all (P := l.prog) (w := w) (base := base) (T := T) Z Y  F_multiplied_all
    have G_need_choices := ok_need_choices (P := l.prog) (w := w) (base := base) (T := T) Z Y D_multiplied_all G_multiplied_all D_counts G_counts O_TooMany D_TooMany___init__ G_TooMany___init__ F_need_choices
    have G_choices := ok_choices (P := l.prog) (w := w) (base := base) (T := T) Z Y D_need_choices G_need_choices D_all_picks G_all_picks D_counts G_counts F_choices
    have G_fork_pairs := ok_fork_pairs (P := l.prog) (w := w) (base := base) (T := T) Z Y  F_fork_pairs
    have G_need_forks := ok_need_forks (P := l.prog) (w := w) (base := base) (T := T) Z Y D_multiplied_all G_multiplied_all D_counts G_counts O_TooMany D_TooMany___init__ G_TooMany___init__ F_need_forks
    have G_forks := ok_forks (P := l.prog) (w := w) (base := base) (T := T) Z Y D_need_forks G_need_forks D_all_picks G_all_picks D_counts G_counts D_fork_pairs G_fork_pairs F_forks
    have G__law_pen := ok__law_pen (P := l.prog) (w := w) (base := base) (T := T) Z Y  F__law_pen
    have G__law_draw := ok__law_draw (P := l.prog) (w := w) (base := base) (T := T) (PySem.W.mg_none_of X G z_len) (PySem.W.mg_none_of X G z_int) F__law_draw
    have G__law_pick := ok__law_pick (P := l.prog) (w := w) (base := base) (T := T) Z Y D__law_draw G__law_draw F__law_pick
    have G__law_shuffled := ok__law_shuffled (P := l.prog) (w := w) (base := base) (T := T) Z Y D__law_draw G__law_draw F__law_shuffled
    have G__law_is := ok__law_is (P := l.prog) (w := w) (base := base) (T := T) Z Y  D__law_is F__law_is 8
    have G__law_choices := ok__law_choices (P := l.prog) (w := w) (base := base) (T := T) Z Y  F__law_choices
    have G__law_forks := ok__law_forks (P := l.prog) (w := w) (base := base) (T := T) Z Y  F__law_forks
    have G__law_made := ok__law_made (P := l.prog) (w := w) (base := base) (T := T) Z Y M_Frame D_Frame___init__ G_Frame___init__ F__law_made
    have G__law_more_kinds := ok__law_more_kinds (P := l.prog) (w := w) (base := base) (T := T) Z Y Xn F__law_more_kinds
    have G__law_kinds := ok__law_kinds (P := l.prog) (w := w) (base := base) (T := T) Z Y D__law_more_kinds G__law_more_kinds Xn F__law_kinds
    have G__law_rows_of := ok__law_rows_of (P := l.prog) (w := w) (base := base) (T := T) Z Y  F__law_rows_of
    have G__law_many := ok__law_many (P := l.prog) (w := w) (base := base) (T := T) Z Y  F__law_many
    have G__law_told_right := ok__law_told_right (P := l.prog) (w := w) (base := base) (T := T) Z Y D__law_rows_of G__law_rows_of D__law_many G__law_many D__law_made G__law_made D_choices G_choices D__law_is G__law_is D__law_choices G__law_choices D_forks G_forks D__law_forks G__law_forks D__law_fault F__law_fault Xn g_RestsError D__law_kinds G__law_kinds XR TB hmT hu cdT F__law_told_right
    have G_law := ok_law (P := l.prog) (w := w) (base := base) (T := T) Z Y D__law_pen G__law_pen D__law_pick G__law_pick D__law_draw G__law_draw D__law_told_right G__law_told_right D__law_shuffled G__law_shuffled F_law
    exact G_law
end Cl
open PySem PySem.W in
open PyProof.Rows in
set_option maxRecDepth 120000 in
set_option maxHeartbeats 0 in
theorem PySem.Challenge.cw_onerests_k05_choices_and_forks_holds : PySem.Challenge.rw_onerests_k05_choices_and_forks.Holds := by
  w_on; o_law
  k_head
  (case hw => w_witness2)
  k_fill
  refine LamX.walk_ofTs (l := PySem.Challenge.rw_onerests_k05_choices_and_forks) (n := 63) (k := 15) (x := "script") (CX := fun w => L2.CX PySem.Challenge.rw_onerests_k05_choices_and_forks.prog w) rfl (by decide) rfl ⟨rfl, by decide, by decide⟩ (fun w h Y => PySem.W.km_in_of Y) ?F ?X
  case X =>
    intro w H s e s2 z
    obtain ⟨_, _, _, _, _, _, _, _, _, _, _, _, z⟩ := z
    exact z
  case F =>
    intro w mg fa h Y KX G hmg
    refine' Cl.all_mk KX G hmg ?A_BadFrame ?A_BadHouse ?A_BadLoad ?A_BadName ?A_BadNet ?A_BadNumber ?A_BadRow ?A_BadTable ?A_BadText ?A_BadWeb ?A_Flat ?A_Frame ?A_NoName ?A_NoPlace ?A_NoRow ?A_NoWall ?A_NotKept ?A_NotOnce ?A_NotPlain ?A_NothingToRedo ?A_NothingToUndo ?A_RestsError ?A_TakenName ?A_TooMany ?A_Unlike ?a_is_integer ?l_is_integer ?c_is_integer ?k_is_integer ?a_is_ratio ?l_is_ratio ?c_is_ratio ?k_is_ratio ?a_as_tuples ?l_as_tuples ?c_as_tuples ?k_as_tuples ?a_is_list ?l_is_list ?c_is_list ?k_is_list ?a_is_row ?l_is_row ?c_is_row ?k_is_row ?a_Frame___init__ ?l_Frame___init__ ?c_Frame___init__ ?k_Frame___init__ ?a_counts ?l_counts ?c_counts ?k_counts ?a_all_picks ?l_all_picks ?c_all_picks ?k_all_picks ?a_multiplied_all ?l_multiplied_all ?c_multiplied_all ?k_multiplied_all ?a_need_choices ?l_need_choices ?c_need_choices ?k_need_choices ?a_choices ?l_choices ?c_choices ?k_choices ?a_fork_pairs ?l_fork_pairs ?c_fork_pairs ?k_fork_pairs ?a_need_forks ?l_need_forks ?c_need_forks ?k_need_forks ?a_forks ?l_forks ?c_forks ?k_forks ?a__law_pen ?l__law_pen ?c__law_pen ?k__law_pen ?a__law_draw ?l__law_draw ?c__law_draw ?k__law_draw ?a__law_pick ?l__law_pick ?c__law_pick ?k__law_pick ?a__law_shuffled ?l__law_shuffled ?c__law_shuffled ?k__law_shuffled ?a__law_is ?l__law_is ?c__law_is ?k__law_is ?a__law_choices ?l__law_choices ?c__law_choices ?k__law_choices ?a__law_forks ?l__law_forks ?c__law_forks ?k__law_forks ?a__law_made ?l__law_made ?c__law_made ?k__law_made ?a__law_more_kinds ?l__law_more_kinds ?c__law_more_kinds ?k__law_more_kinds ?a__law_kinds ?l__law_kinds ?c__law_kinds ?k__law_kinds ?a__law_fault ?l__law_fault ?c__law_fault ?k__law_fault ?a__law_rows_of ?l__law_rows_of ?c__law_rows_of ?k__law_rows_of ?a__law_many ?l__law_many ?c__law_many ?k__law_many ?a__law_told_right ?l__law_told_right ?c__law_told_right ?k__law_told_right ?a_law ?l_law ?c_law ?k_law ?a_BadFrame___init__ ?l_BadFrame___init__ ?c_BadFrame___init__ ?k_BadFrame___init__ ?xL_BadFrame ?sa_BadFrame ?eC_BadFrame ?tC_BadFrame ?kC_BadFrame ?tI_BadFrame ?nb_BadFrame_what ?nb_BadFrame_place ?a_TooMany___init__ ?l_TooMany___init__ ?c_TooMany___init__ ?k_TooMany___init__ ?xL_TooMany ?sa_TooMany ?eC_TooMany ?tC_TooMany ?kC_TooMany ?tI_TooMany ?nb_TooMany_what ?nb_TooMany_many ?nb_TooMany_limit ?pg_Frame ?hd_Frame ?po_Frame ?sa_Frame ?mk_Frame ?kC_Frame ?i_Frame___init__ ?na_Frame_rows ?z_ValueError ?z_all ?z_bool ?z_int ?z_isinstance ?z_len ?z_list ?z_max ?z_range ?z_str ?z_tuple ?z_MOST_CHOICES ?z_MOST_FORKS ?z_MOST_PLACES ?z_MOST_ROWS ?z_gcd ?cl_TooMany ?ga_TooMany ?gg_TooMany ?fc_TooMany ?mo_TooMany ?hD_TooMany ?ve_TooMany ?er_TooMany ?kt_TooMany_BadFrame ?kt_TooMany_BadHouse ?kt_TooMany_BadLoad ?kt_TooMany_BadName ?kt_TooMany_BadNet ?kt_TooMany_BadNumber ?kt_TooMany_BadRow ?kt_TooMany_BadTable ?kt_TooMany_BadText ?kt_TooMany_BadWeb ?kt_TooMany_Flat ?kt_TooMany_NoName ?kt_TooMany_NoPlace ?kt_TooMany_NoRow ?kt_TooMany_NoWall ?kt_TooMany_NotKept ?kt_TooMany_NotOnce ?kt_TooMany_NotPlain ?kt_TooMany_NothingToRedo ?kt_TooMany_NothingToUndo ?kt_TooMany_TakenName ?kt_TooMany_TooMany ?kt_TooMany_Unlike ?spc ?tkc ?cdT ?hdT ?nT ?hTab
    (case hTab => exact PySem.W.km_tabs_of Y _ (List.mem_singleton.mpr rfl))
    (case A_BadFrame => k_is)
    (case A_BadHouse => k_is)
    (case A_BadLoad => k_is)
    (case A_BadName => k_is)
    (case A_BadNet => k_is)
    (case A_BadNumber => k_is)
    (case A_BadRow => k_is)
    (case A_BadTable => k_is)
    (case A_BadText => k_is)
    (case A_BadWeb => k_is)
    (case A_Flat => k_is)
    (case A_Frame => k_is)
    (case A_NoName => k_is)
    (case A_NoPlace => k_is)
    (case A_NoRow => k_is)
    (case A_NoWall => k_is)
    (case A_NotKept => k_is)
    (case A_NotOnce => k_is)
    (case A_NotPlain => k_is)
    (case A_NothingToRedo => k_is)
    (case A_NothingToUndo => k_is)
    (case A_RestsError => k_is)
    (case A_TakenName => k_is)
    (case A_TooMany => k_is)
    (case A_Unlike => k_is)
    (case a_is_integer => k_is)
    (case l_is_integer => k_is)
    (case c_is_integer => k_is)
    (case k_is_integer => k_is)
    (case a_is_ratio => k_is)
    (case l_is_ratio => k_is)
    (case c_is_ratio => k_is)
    (case k_is_ratio => k_is)
    (case a_as_tuples => k_is)
    (case l_as_tuples => k_is)
    (case c_as_tuples => k_is)
    (case k_as_tuples => k_is)
    (case a_is_list => k_is)
    (case l_is_list => k_is)
    (case c_is_list => k_is)
    (case k_is_list => k_is)
    (case a_is_row => k_is)
    (case l_is_row => k_is)
    (case c_is_row => k_is)
    (case k_is_row => k_is)
    (case a_Frame___init__ => k_is)
    (case l_Frame___init__ => k_is)
    (case c_Frame___init__ => k_is)
    (case k_Frame___init__ => k_is)
    (case a_counts => k_is)
    (case l_counts => k_is)
    (case c_counts => k_is)
    (case k_counts => k_is)
    (case a_all_picks => k_is)
    (case l_all_picks => k_is)
    (case c_all_picks => k_is)
    (case k_all_picks => k_is)
    (case a_multiplied_all => k_is)
    (case l_multiplied_all => k_is)
    (case c_multiplied_all => k_is)
    (case k_multiplied_all => k_is)
    (case a_need_choices => k_is)
    (case l_need_choices => k_is)
    (case c_need_choices => k_is)
    (case k_need_choices => k_is)
    (case a_choices => k_is)
    (case l_choices => k_is)
    (case c_choices => k_is)
    (case k_choices => k_is)
    (case a_fork_pairs => k_is)
    (case l_fork_pairs => k_is)
    (case c_fork_pairs => k_is)
    (case k_fork_pairs => k_is)
    (case a_need_forks => k_is)
    (case l_need_forks => k_is)
    (case c_need_forks => k_is)
    (case k_need_forks => k_is)
    (case a_forks => k_is)
    (case l_forks => k_is)
    (case c_forks => k_is)
    (case k_forks => k_is)
    (case a__law_pen => k_is)
    (case l__law_pen => k_is)
    (case c__law_pen => k_is)
    (case k__law_pen => k_is)
    (case a__law_draw => k_is)
    (case l__law_draw => k_is)
    (case c__law_draw => k_is)
    (case k__law_draw => k_is)
    (case a__law_pick => k_is)
    (case l__law_pick => k_is)
    (case c__law_pick => k_is)
    (case k__law_pick => k_is)
    (case a__law_shuffled => k_is)
    (case l__law_shuffled => k_is)
    (case c__law_shuffled => k_is)
    (case k__law_shuffled => k_is)
    (case a__law_is => k_is)
    (case l__law_is => k_is)
    (case c__law_is => k_is)
    (case k__law_is => k_is)
    (case a__law_choices => k_is)
    (case l__law_choices => k_is)
    (case c__law_choices => k_is)
    (case k__law_choices => k_is)
    (case a__law_forks => k_is)
    (case l__law_forks => k_is)
    (case c__law_forks => k_is)
    (case k__law_forks => k_is)
    (case a__law_made => k_is)
    (case l__law_made => k_is)
    (case c__law_made => k_is)
    (case k__law_made => k_is)
    (case a__law_more_kinds => k_is)
    (case l__law_more_kinds => k_is)
    (case c__law_more_kinds => k_is)
    (case k__law_more_kinds => k_is)
    (case a__law_kinds => k_is)
    (case l__law_kinds => k_is)
    (case c__law_kinds => k_is)
    (case k__law_kinds => k_is)
    (case a__law_fault => k_is)
    (case l__law_fault => k_is)
    (case c__law_fault => k_is)
    (case k__law_fault => k_is)
    (case a__law_rows_of => k_is)
    (case l__law_rows_of => k_is)
    (case c__law_rows_of => k_is)
    (case k__law_rows_of => k_is)
    (case a__law_many => k_is)
    (case l__law_many => k_is)
    (case c__law_many => k_is)
    (case k__law_many => k_is)
    (case a__law_told_right => k_is)
    (case l__law_told_right => k_is)
    (case c__law_told_right => k_is)
    (case k__law_told_right => k_is)
    (case a_law => k_is)
    (case l_law => k_is)
    (case c_law => k_is)
    (case k_law => k_is)
    (case a_BadFrame___init__ => k_is)
    (case l_BadFrame___init__ => k_is)
    (case c_BadFrame___init__ => k_is)
    (case k_BadFrame___init__ => k_is)
    (case xL_BadFrame => k_is)
    (case sa_BadFrame => k_is)
    (case eC_BadFrame => k_is)
    (case tC_BadFrame => k_is)
    (case kC_BadFrame => k_is)
    (case tI_BadFrame => k_is)
    (case nb_BadFrame_what => k_is)
    (case nb_BadFrame_place => k_is)
    (case a_TooMany___init__ => k_is)
    (case l_TooMany___init__ => k_is)
    (case c_TooMany___init__ => k_is)
    (case k_TooMany___init__ => k_is)
    (case xL_TooMany => k_is)
    (case sa_TooMany => k_is)
    (case eC_TooMany => k_is)
    (case tC_TooMany => k_is)
    (case kC_TooMany => k_is)
    (case tI_TooMany => k_is)
    (case nb_TooMany_what => k_is)
    (case nb_TooMany_many => k_is)
    (case nb_TooMany_limit => k_is)
    (case pg_Frame => k_is)
    (case hd_Frame => k_is)
    (case po_Frame => k_is)
    (case sa_Frame => k_is)
    (case mk_Frame => k_is)
    (case kC_Frame => k_is)
    (case i_Frame___init__ => k_is)
    (case na_Frame_rows => k_is)
    (case z_ValueError => k_is)
    (case z_all => k_is)
    (case z_bool => k_is)
    (case z_int => k_is)
    (case z_isinstance => k_is)
    (case z_len => k_is)
    (case z_list => k_is)
    (case z_max => k_is)
    (case z_range => k_is)
    (case z_str => k_is)
    (case z_tuple => k_is)
    (case z_MOST_CHOICES => k_is)
    (case z_MOST_FORKS => k_is)
    (case z_MOST_PLACES => k_is)
    (case z_MOST_ROWS => k_is)
    (case z_gcd => k_is)
    (case cl_TooMany => kernel_rfl)
    (case ga_TooMany => k_is)
    (case gg_TooMany => k_is)
    (case fc_TooMany => k_is)
    (case mo_TooMany => k_is)
    (case hD_TooMany => k_is)
    (case ve_TooMany => kit_is)
    (case er_TooMany => kts_exm)
    (case kt_TooMany_BadFrame => kit_is)
    (case kt_TooMany_BadHouse => kit_is)
    (case kt_TooMany_BadLoad => kit_is)
    (case kt_TooMany_BadName => kit_is)
    (case kt_TooMany_BadNet => kit_is)
    (case kt_TooMany_BadNumber => kit_is)
    (case kt_TooMany_BadRow => kit_is)
    (case kt_TooMany_BadTable => kit_is)
    (case kt_TooMany_BadText => kit_is)
    (case kt_TooMany_BadWeb => kit_is)
    (case kt_TooMany_Flat => kit_is)
    (case kt_TooMany_NoName => kit_is)
    (case kt_TooMany_NoPlace => kit_is)
    (case kt_TooMany_NoRow => kit_is)
    (case kt_TooMany_NoWall => kit_is)
    (case kt_TooMany_NotKept => kit_is)
    (case kt_TooMany_NotOnce => kit_is)
    (case kt_TooMany_NotPlain => kit_is)
    (case kt_TooMany_NothingToRedo => kit_is)
    (case kt_TooMany_NothingToUndo => kit_is)
    (case kt_TooMany_TakenName => kit_is)
    (case kt_TooMany_TooMany => kit_is)
    (case kt_TooMany_Unlike => kit_is)
    (case spc => k_is)
    (case tkc => k_is)
    (case cdT => rfl)
    (case hdT => kernel_rfl)
    (case nT => kernel_rfl)
