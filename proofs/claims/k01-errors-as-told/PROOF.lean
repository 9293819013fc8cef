import PyProof.Rows.All
import Wide.All
import OpenK.AllK
import Wide.FinOn
import HandS.ForMost
import HandS.ForExc
import HandS.Lambda
import HandS.Walk
import HandS.Zip
import HandS.HotCalls
import HandS.ExcField
import KE.KExcIs
import HandS.EndTab
import HandS.HeadWalk
import KE.RegKIsAll
import KE.RegKTryMore
import HandS.Head3
import HandS.TupMul
import HandS.TupAny
import HandS.Gcd
import HandS.IsInst
import HandS.Style
import HandS.ExcInit
import HandS.Conv
import PyProof.ReprBulk
import KE.GoesEnum
import HandS.List
import KE.GoesMore
import PyProof.NeKinds
import PySem.Challenge.RW_onerests_k01_errors_as_told
set_option Elab.async false
set_option linter.all false
set_option maxRecDepth 100000
set_option maxHeartbeats 4100000
section CRun
open PySem PySem.W PySem.Calls  PyProof.Rows
theorem Cl.km_ob {K : PySem.Params → PySem.W.Frag} {as : List PySem.Addr} {e : ∀ P, as = (K P).map (·.1)} {ts : List PySem.Addr} (s : PySem.W.SharedT) : (as.map (HandSHeadRun.getT s), ts.map (HandSHeadRun.getT s)) = (PySem.W.kmHook K as e ts).obs s.abs := by
  show (as.map (HandSHeadRun.getT s), ts.map (HandSHeadRun.getT s)) = (as.map s.abs.heap.get?, ts.map s.abs.heap.get?)
  have h : HandSHeadRun.getT s = s.abs.heap.get? := funext (HandSHeadRun.getT_eq s)
  rw [h]
def Cl.looseN : List PySem.Str := (["RestsError", "BadNumber", "BadRow", "BadTable", "BadFrame", "BadLoad", "BadNet", "BadHouse", "BadWeb", "BadName", "BadText", "NoPlace", "NoWall", "NoRow", "NoName", "TakenName", "Unlike", "Flat", "NotOnce", "NotPlain", "TooMany", "NotKept", "NothingToUndo", "NothingToRedo", "_law_pen", "_law_draw", "_law_pick", "_law_kinds", "_law_more_kinds", "_law_value"] : List PySem.Str) ++ (["_law_first", "_law_second", "_law_told", "_law_due"] : List PySem.Str)
def Cl.qv : PySem.Program := PySem.W.view (PySem.W.OpenLaw.row PySem.Challenge.rw_onerests_k01_errors_as_told).prog [36]
def Cl.dl : DefRec := HandSHeadRun.topDef (PySem.W.OpenLaw.row PySem.Challenge.rw_onerests_k01_errors_as_told).prog 36
local macro_rules | `(tactic| o_head (kmHook $_ $_ $_ $_)) => `(tactic| assumption)
local macro_rules | `(tactic| o_head (kHook $_ $_ $_)) => `(tactic| assumption)
theorem Cl.early (h : PySem.W.OpenRow.Holds (PySem.W.OpenLaw.row PySem.Challenge.rw_onerests_k01_errors_as_told)) : PySem.W.OpenRow.Holds (PySem.W.OpenLaw.row PySem.Challenge.rw_onerests_k01_errors_as_told) := by k_head
def Cl.asC : List PySem.Addr := ([2, 3, 15, 22, 23, 24, 25, 28, 35, 37, 38, 40, 41, 42, 43, 44, 47, 54, 56, 57, 59, 60, 61, 62, 63, 66, 73, 75, 76, 78, 79, 80, 81, 82, 85, 92, 94, 95, 97, 98, 99, 100, 101, 104, 111, 113, 114, 116, 117, 118, 119, 120, 123, 130, 132, 133, 135, 136, 137, 138] : List PySem.Addr) ++ ([139, 142, 149, 151, 152, 154, 155, 156, 157, 158, 161, 168, 170, 171, 173, 174, 175, 176, 177, 180, 187, 189, 190, 192, 193, 194, 195, 196, 199, 206, 208, 209, 211, 212, 213, 214, 215, 218, 225, 227, 228, 230, 231, 232, 233, 234, 237, 244, 246, 247, 249, 250, 251, 252, 253, 256, 263, 265, 266, 268] : List PySem.Addr) ++ ([269, 270, 271, 272, 275, 282, 284, 285, 287, 288, 289, 290, 291, 294, 301, 303, 304, 306, 307, 308, 309, 310, 313, 320, 322, 323, 325, 326, 327, 328, 329, 332, 339, 341, 342, 344, 345, 346, 347, 348, 351, 358, 360, 361, 363, 364, 365, 366, 367, 370, 377, 379, 380, 382, 383, 384, 385, 386, 389, 396] : List PySem.Addr) ++ ([398, 399, 401, 402, 403, 404, 405, 408, 415, 417, 418, 420, 421, 422, 423, 424, 427, 434, 435, 436, 439, 446, 447, 448, 451, 453, 454, 456, 457, 458, 460, 461, 463, 464, 465, 467, 468, 470, 471, 472, 474, 475, 477, 478, 479, 481, 482, 484, 485, 486, 488, 489, 491, 492, 493, 495, 496, 498, 499, 500] : List PySem.Addr) ++ ([502, 503, 505, 506, 507, 509, 510, 512, 513, 514, 516, 517, 519, 520, 521, 523, 524, 526, 527] : List PySem.Addr)
def Cl.tsC : List PySem.Addr := []
theorem Cl.eC : ∀ P, Cl.asC = (Cl.early.heap_1 P).map (·.1) := fun _ => by kernel_rfl
noncomputable def Cl.hkC : PySem.W.Hook := PySem.W.kmHook Cl.early.heap_1 Cl.asC Cl.eC Cl.tsC
noncomputable def Cl.obC : PySem.W.SharedT → Cl.hkC.α := fun s => (List.map (HandSHeadRun.getT s) Cl.asC, List.map (HandSHeadRun.getT s) Cl.tsC)
/-- sys.modules stands -/
def Cl.isDct : PySem.Data → Bool
  | .dict _ _ => true
  | _ => false
def Cl.smO : Option PySem.Obj → Bool
  | some o => Cl.isDct o.data
  | none => false
theorem Cl.sm_of {h : PySem.Heap} (e : Cl.smO (h.get? PySem.sysModules) = true) : ∃ o es n, h.get? PySem.sysModules = some o ∧ o.data = .dict es n := by
  cases q : h.get? PySem.sysModules with
  | none => rw [q] at e; cases  e
  | some o =>
    rw [q] at e
    have e : Cl.isDct o.data = true := e
    cases d : o.data with
    | dict es n => exact ⟨o, es, n, rfl, d⟩
    | _ => rw [d] at e; cases e
noncomputable def Cl.hkS : PySem.W.Hook where
  α := Cl.hkC.α × Bool
  obs := fun s => (Cl.hkC.obs s, Cl.smO (s.heap.get? PySem.sysModules))
  val := fun w => (Cl.hkC.val w, true)
  says := fun w h => Cl.hkC.says w h ∧ Cl.smO (h.get? PySem.sysModules) = true
  of := fun w s x => ⟨Cl.hkC.of w s (Prod.mk.inj x).1, (Prod.mk.inj x).2⟩
  keeps := fun w h h' x k => ⟨Cl.hkC.keeps w h h' x.1 k, by
    obtain ⟨o, es, n, e, d⟩ := Cl.sm_of x.2
    rw [k _ _ e]
    show Cl.isDct o.data = true
    rw [d]
    rfl⟩
noncomputable def Cl.obS : PySem.W.SharedT → Cl.hkS.α := fun s => (Cl.obC s, Cl.smO (HandSHeadRun.getT s PySem.sysModules))
theorem Cl.km_obS (s : PySem.W.SharedT) : Cl.obS s = Cl.hkS.obs s.abs := by
  show (Cl.obC s, Cl.smO (HandSHeadRun.getT s PySem.sysModules)) = (Cl.hkC.obs s.abs, Cl.smO (s.abs.heap.get? PySem.sysModules))
  rw [show Cl.obC s = Cl.hkC.obs s.abs from Cl.km_ob s, HandSHeadRun.getT_eq s]
theorem Cl.run_h : ∀ w, HandSHeadRun.RunEqI (PySem.W.OpenLaw.row PySem.Challenge.rw_onerests_k01_errors_as_told) Cl.qv Cl.hkS Cl.obS 30000 Cl.looseN w := fun w => by
  unfold HandSHeadRun.RunEqI
  kernel_rfl
end CRun
namespace L3
open PySem PySem.Spec L2
open PyProof.Rows hiding St

/-- the written part, where the classes of the text stand, the exception at hand, the tables of code objects -/
structure KC where
  K : PySem.W.Frag
  cm : Str → Addr
  pn : List (Addr × Obj)
  T : List (Addr × Str)
def cmOf (mg : Str → Option Value) : Str → Addr := fun c => match mg c with
  | some (.ref a) => a
  | _ => 0
abbrev kc (T : List (Addr × Str)) (X : Cx) : KC := ⟨X.K, cmOf X.mg, X.pn, T⟩
theorem cmOf_eq {mg : Str → Option Value} {c : Str} {C : Addr} (h : mg c = some (.ref C)) : cmOf mg c = C := by unfold cmOf; rw [h]
/-- deep data: what a value is, with what it holds; lists by value -/
inductive D where
  | non | bl (b : Bool) | int (i : Int) | str (x : Str)
  | tup (xs : List D) | lst (xs : List D)
  | scr (xs : List Int)
  | dct (kvs : List (Key × D))
  | ins (c : Str) (fs : List (Str × D))
  | pen
  | exc (c : Str) (fs : List (Str × D))

/-- the pen: a dict of the law's own, with the cells and four counters -/
def PenAt (K : KC) (H : Hp) (kvs : List (Key × V)) : Prop := ∃ (c : Addr) (xs : List Int) (i g n f : Int),
  kvs = [(.inr "cells", .ref c), (.inr "at", .int i), (.inr "digits", .int g), (.inr "count", .int n), (.inr "fold", .int f)] ∧
  SqL K.K H c (xs.map V.int) ∧ 0 ≤ i ∧ 0 ≤ g ∧ 0 ≤ f ∧ f < 2147483647

mutual
def Rep (K : KC) (H : Hp) : V → D → Prop
  | v, .non => v = .non
  | v, .bl b => v = .bl b
  | v, .int i => v = .int i
  | v, .str x => v = .str x
  | v, .tup ds => ∃ a vs, v = .ref a ∧ H a = some (.tup vs) ∧ Reps K H vs ds
  | v, .lst ds => ∃ a vs, v = .ref a ∧ H a = some (.lst vs) ∧ Reps K H vs ds
  | v, .scr xs => ∃ a, v = .ref a ∧ SqL K.K H a (xs.map V.int)
  | v, .dct ds => ∃ a kvs, v = .ref a ∧ H a = some (.dK kvs) ∧ kvs.length < 4 ∧ RepK K H kvs ds
  | v, .ins c ds => ∃ a dx fs, v = .ref a ∧ H a = some (.ins (K.cm c) dx fs) ∧ RepF K H fs ds
  | v, .pen => ∃ a kvs, v = .ref a ∧ H a = some (.dK kvs) ∧ PenAt K H kvs
  | v, .exc c ds => ∃ a oe od, v = .ref a ∧ (a, oe) ∈ K.pn ∧ Zc (.ref (K.cm c)) od oe ∧ (∃ vs, oe.data = .fields vs) ∧ ((ds = [] ∧ od = none) ∨ ∃ dd fs, od = some dd ∧ H dd = some (.xd fs) ∧ RepF { K with pn := [] } H fs ds)
def Reps (K : KC) (H : Hp) : List V → List D → Prop
  | vs, [] => vs = []
  | vs, d :: ds => ∃ v r, vs = v :: r ∧ Rep K H v d ∧ Reps K H r ds
def RepK (K : KC) (H : Hp) : List (Key × V) → List (Key × D) → Prop
  | vs, [] => vs = []
  | vs, (k, d) :: ds => ∃ v r, vs = (k, v) :: r ∧ Rep K H v d ∧ RepK K H r ds
def RepF (K : KC) (H : Hp) : List (Str × V) → List (Str × D) → Prop
  | vs, [] => vs = []
  | vs, (k, d) :: ds => ∃ v r, vs = (k, v) :: r ∧ Rep K H v d ∧ RepF K H r ds
end

/-- the shared heap grows; a pen may turn -/
structure Ext (K : KC) (H H' : Hp) : Prop where
  at_ : ∀ a o, H a = some o → H' a = some o ∨ (∃ kvs kvs', o = .dK kvs ∧ kvs.length = 5 ∧ H' a = some (.dK kvs') ∧ kvs'.length = 5 ∧ PenAt K H' kvs') ∨ ∃ ps, o = .tbl ps
  tab : LamX.Tabs K.T H → LamX.Tabs K.T H'
section
variable {K : KC} {H H' H1 H2 : Hp}
theorem Ext.refl (H : Hp) : Ext K H H := ⟨fun _ _ e => .inl e, id⟩
/-- what is neither a pen nor a table stands -/
theorem Ext.keep (x : Ext K H H') {a : Addr} {o : HO} (h : H a = some o) (h1 : ∀ kvs, o = .dK kvs → kvs.length ≠ 5) (h2 : ∀ ps, o ≠ .tbl ps) : H' a = some o := by
  rcases x.at_ a o h with h | ⟨kvs, _, e, l, _⟩ | ⟨ps, e⟩
  · exact h
  · exact absurd l (h1 kvs e)
  · exact absurd e (h2 ps)
theorem Ext.tup (x : Ext K H H') {a : Addr} {vs : List V} (h : H a = some (.tup vs)) : H' a = some (.tup vs) := x.keep h (fun _ z => by cases z) fun _ z => by cases z
theorem Ext.lst (x : Ext K H H') {a : Addr} {vs : List V} (h : H a = some (.lst vs)) : H' a = some (.lst vs) := x.keep h (fun _ z => by cases z) fun _ z => by cases z
theorem Ext.frz (x : Ext K H H') {a : Addr} {o : Obj} {u : HO} (h : H a = some (.frz o u)) : H' a = some (.frz o u) := x.keep h (fun _ z => by cases z) fun _ z => by cases z
theorem Ext.xd (x : Ext K H H') {a : Addr} {fs : List (Str × V)} (h : H a = some (.xd fs)) : H' a = some (.xd fs) := x.keep h (fun _ z => by cases z) fun _ z => by cases z
theorem Ext.ins (x : Ext K H H') {a C dx : Addr} {fs : List (Str × V)} (h : H a = some (.ins C dx fs)) : H' a = some (.ins C dx fs) := x.keep h (fun _ z => by cases z) fun _ z => by cases z
theorem Ext.seqT (x : Ext K H H') {a : Addr} {vs : List V} (h : SqT K.K H a vs) : SqT K.K H' a vs := by
  rcases (h) with (h | ⟨o, h⟩) | h
  · exact .inl (.inl (x.tup h))
  · exact .inl (.inr ⟨o, x.frz h⟩)
  · exact .inr h
theorem Ext.seqL (x : Ext K H H') {a : Addr} {vs : List V} (h : SqL K.K H a vs) : SqL K.K H' a vs := by
  rcases (h) with (h | ⟨o, h⟩) | h
  · exact .inl (.inl (x.lst h))
  · exact .inl (.inr ⟨o, x.frz h⟩)
  · exact .inr h
theorem Ext.penAt (x : Ext K H H') {kvs : List (Key × V)} (h : PenAt K H kvs) : PenAt K H' kvs := by
  obtain ⟨c, xs, i, g, n, f, e, hl, r⟩ := h
  exact ⟨c, xs, i, g, n, f, e, x.seqL hl, r⟩
theorem PenAt.len {kvs : List (Key × V)} (h : PenAt K H kvs) : kvs.length = 5 := by
  obtain ⟨c, xs, i, g, n, f, rfl, _⟩ := h
  rfl
theorem Ext.trans (x : Ext K H H1) (y : Ext K H1 H2) : Ext K H H2 := ⟨fun a o e => by
  rcases x.at_ a o e with e1 | ⟨kvs, kvs', rfl, l0, e1, l1, p1⟩ | ⟨ps, rfl⟩
  · exact y.at_ a o e1
  · rcases y.at_ a _ e1 with e2 | ⟨k1, k2, _, _, e2, l2, p2⟩ | ⟨_, z⟩
    · exact .inr (.inl ⟨_, _, rfl, l0, e2, l1, y.penAt p1⟩)
    · exact .inr (.inl ⟨_, _, rfl, l0, e2, l2, p2⟩)
    · cases z
  · exact .inr (.inr ⟨_, rfl⟩), fun t => y.tab (x.tab t)⟩
theorem Ext.bare (x : Ext K H H') : Ext { K with pn := [] } H H' := ⟨x.at_, x.tab⟩
mutual
theorem Rep.ext {K : KC} (x : Ext K H H') : ∀ (d : D) (v : V), Rep K H v d → Rep K H' v d
  | .non, _, h => by simpa [Rep] using h
  | .bl _, _, h => by simpa [Rep] using h
  | .int _, _, h => by simpa [Rep] using h
  | .str _, _, h => by simpa [Rep] using h
  | .tup ds, v, h => by
    unfold Rep at h ⊢
    obtain ⟨a, vs, e, s, r⟩ := h
    exact ⟨a, vs, e, x.tup s, Reps.ext x ds vs r⟩
  | .lst ds, v, h => by
    unfold Rep at h ⊢
    obtain ⟨a, vs, e, s, r⟩ := h
    exact ⟨a, vs, e, x.lst s, Reps.ext x ds vs r⟩
  | .scr xs, v, h => by
    unfold Rep at h ⊢
    obtain ⟨a, e, s⟩ := h
    exact ⟨a, e, x.seqL s⟩
  | .dct ds, v, h => by
    unfold Rep at h ⊢
    obtain ⟨a, kvs, e, s, l, r⟩ := h
    exact ⟨a, kvs, e, x.keep s (fun k e5 => by cases e5; omega) (fun _ z => by cases z), l, RepK.ext x ds kvs r⟩
  | .ins C ds, v, h => by
    unfold Rep at h ⊢
    obtain ⟨a, dx, fs, e, s, r⟩ := h
    exact ⟨a, dx, fs, e, x.ins s, RepF.ext x ds fs r⟩
  | .pen, v, h => by
    unfold Rep at h ⊢
    obtain ⟨a, kvs, e, s, p⟩ := h
    rcases x.at_ _ _ s with s | ⟨_, k', z, _, s, _, p'⟩ | ⟨_, z⟩
    · exact ⟨a, kvs, e, s, x.penAt p⟩
    · exact ⟨a, k', e, s, p'⟩
    · cases z
  | .exc c ds, v, h => by
    unfold Rep at h ⊢
    obtain ⟨a, oe, od, e, m, z, d, q⟩ := h
    refine ⟨a, oe, od, e, m, z, d, q.imp id ?_⟩
    rintro ⟨dd, fs, e1, e2, r⟩
    exact ⟨dd, fs, e1, x.xd e2, RepF.ext x.bare ds fs r⟩
theorem Reps.ext {K : KC} (x : Ext K H H') : ∀ (ds : List D) (vs : List V), Reps K H vs ds → Reps K H' vs ds
  | [], _, h => by simpa [Reps] using h
  | d :: ds, vs, h => by
    unfold Reps at h ⊢
    obtain ⟨v, r, e, h1, h2⟩ := h
    exact ⟨v, r, e, Rep.ext x d v h1, Reps.ext x ds r h2⟩
theorem RepK.ext {K : KC} (x : Ext K H H') : ∀ (ds : List (Key × D)) (vs : List (Key × V)), RepK K H vs ds → RepK K H' vs ds
  | [], _, h => by simpa [RepK] using h
  | (k, d) :: ds, vs, h => by
    unfold RepK at h ⊢
    obtain ⟨v, r, e, h1, h2⟩ := h
    exact ⟨v, r, e, Rep.ext x d v h1, RepK.ext x ds r h2⟩
theorem RepF.ext {K : KC} (x : Ext K H H') : ∀ (ds : List (Str × D)) (vs : List (Str × V)), RepF K H vs ds → RepF K H' vs ds
  | [], _, h => by simpa [RepF] using h
  | (k, d) :: ds, vs, h => by
    unfold RepF at h ⊢
    obtain ⟨v, r, e, h1, h2⟩ := h
    exact ⟨v, r, e, Rep.ext x d v h1, RepF.ext x ds r h2⟩
end
end

/-! ### two heaps side by side: what is shared, and the rest -/
def jn (F R : Hp) : Hp := fun a => match F a with
  | some o => some o
  | none => R a
/-- no object in both; the rest holds no tables and no code -/
def NT : HO → Prop
  | .tbl _ => False
  | .ext _ => False
  | _ => True
structure Dj (F R : Hp) : Prop where
  dj : ∀ a o, F a = some o → R a = none
  nt : ∀ a o, R a = some o → NT o
instance {F R : Hp} : CoeFun (Dj F R) (fun _ => ∀ a o, F a = some o → R a = none) := ⟨Dj.dj⟩
section
variable {K : KC} {F F' R : Hp} {a : Addr} {o : HO}
theorem jn_l (h : F a = some o) : jn F R a = some o := by unfold jn; rw [h]
theorem jn_r (h : F a = none) : jn F R a = R a := by unfold jn; rw [h]
theorem jn_none (h : jn F R a = none) : F a = none ∧ R a = none := by
  unfold jn at h
  cases e : F a with
  | none => rw [e] at h; exact ⟨rfl, h⟩
  | some o => rw [e] at h; cases h
theorem jn_of_r (dj : Dj F R) (h : R a = some o) : F a = none ∧ jn F R a = some o := by
  have e : F a = none := by
    cases e : F a with
    | none => rfl
    | some u => have := dj _ _ e; rw [h] at this; cases this
  exact ⟨e, (jn_r e).trans h⟩
/-- a new object, shared -/
theorem jn_newF (h : jn F R a = none) : upd (jn F R) a o = jn (upd F a o) R := by
  funext b
  by_cases hb : b = a
  · subst hb; rw [upd_same]; exact (jn_l upd_same).symm
  · rw [upd_ne hb]; unfold jn; rw [upd_ne hb]
theorem Dj.newF (dj : Dj F R) (h : jn F R a = none) : Dj (upd F a o) R := ⟨fun b u e => by
  by_cases hb : b = a
  · subst hb; exact (jn_none h).2
  · rw [upd_ne hb] at e; exact dj b u e, dj.nt⟩
theorem Ext.of (h : ∀ b u, F b = some u → F' b = some u) : Ext K F F' := ⟨fun b u e => .inl (h b u e), fun t => t.ext h⟩
theorem Ext.newF (h : jn F R a = none) : Ext K F (upd F a o) := .of fun b u e => by
  have : b ≠ a := fun z => by subst z; rw [(jn_none h).1] at e; cases e
  rw [upd_ne this]
  exact e
/-- a new object, of the rest; one of the rest written -/
theorem jn_updR (h : F a = none) : upd (jn F R) a o = jn F (upd R a o) := by
  funext b
  by_cases hb : b = a
  · subst hb; rw [upd_same, jn_r h, upd_same]
  · rw [upd_ne hb]; unfold jn; rw [upd_ne hb]
theorem Dj.updR (dj : Dj F R) (h : F a = none) (ho : NT o := by trivial) : Dj F (upd R a o) := ⟨fun b u e => by
  have : b ≠ a := fun z => by subst z; rw [h] at e; cases e
  rw [upd_ne this]; exact dj b u e, fun b ps e => by
  by_cases hb : b = a
  · subst hb; rw [upd_same] at e; rw [← Option.some.inj e]; exact ho
  · rw [upd_ne hb] at e; exact dj.nt b ps e⟩
def dlt (R : Hp) (a : Addr) : Hp := fun b => if b = a then none else R b
theorem dlt_ne {b : Addr} (h : b ≠ a) : dlt R a b = R b := if_neg h
theorem dlt_same : dlt R a a = none := if_pos rfl
/-- an object of the rest becomes shared -/
theorem jn_move (dj : Dj F R) (h : R a = some o) : jn F R = jn (upd F a o) (dlt R a) := by
  funext b
  by_cases hb : b = a
  · subst hb; rw [jn_l upd_same]; exact (jn_of_r dj h).2
  · unfold jn; rw [upd_ne hb, dlt_ne hb]
theorem Dj.move (dj : Dj F R) (h : R a = some o) : Dj (upd F a o) (dlt R a) := ⟨fun b u e => by
  by_cases hb : b = a
  · subst hb; exact dlt_same
  · rw [upd_ne hb] at e; rw [dlt_ne hb]; exact dj b u e, fun b ps e => by
  by_cases hb : b = a
  · subst hb; rw [dlt_same] at e; cases e
  · rw [dlt_ne hb] at e; exact dj.nt b ps e⟩
theorem Ext.move (dj : Dj F R) (h : R a = some o) : Ext K F (upd F a o) := .of fun b u e => by
  have : b ≠ a := fun z => by subst z; rw [(jn_of_r dj h).1] at e; cases e
  rw [upd_ne this]
  exact e
/-- the rest without the object at p -/
theorem dj_down (np : R a = none) (dj : Dj F (upd R a o)) : F a = none ∧ Dj F R := by
  have n : F a = none := by
    cases e : F a with
    | none => rfl
    | some u =>
      have := dj a u e
      rw [upd_same] at this
      cases this
  refine ⟨n, fun b u e => ?_, fun b ps e => ?_⟩
  · have := dj b u e
    by_cases hb : b = a
    · rw [hb]; exact np
    · rw [upd_ne hb] at this; exact this
  · by_cases hb : b = a
    · rw [hb, np] at e; cases e
    · exact dj.nt b ps (by rw [upd_ne hb]; exact e)
end
end L3
namespace L3
open PySem PySem.Spec L2
open PyProof.Rows hiding St
/-- an exception as data -/
structure XD where
  cls : Str
  fs : List (Str × D)
inductive Sl where
  | emp | val (d : D) | own (ds : List D) | obj (c : Str) (a : Addr) (fs : List (Str × D))
abbrev Env3 := List Sl
/-- what a piece of code gives, over data: the wish of its value, the wish of its exception -/
abbrev RG (α : Type) := Env3 → (α → Prop) → (XD → Prop) → Prop
abbrev RE := RG D
abbrev RT := RG Bool
abbrev RA := RG (List D)

def RepX (K : KC) (H : Hp) (cls : Value) (od : Option Addr) (x : XD) : Prop :=
  cls = .ref (K.cm x.cls) ∧ ((x.fs = [] ∧ od = none) ∨ ∃ dd fs, od = some dd ∧ H dd = some (.xd fs) ∧ RepF K H fs x.fs)
theorem RepX.ext {K : KC} {H H' : Hp} {cls : Value} {od : Option Addr} {x : XD} (h : RepX K H cls od x) (e : Ext K H H') : RepX K H' cls od x := by
  obtain ⟨c, h | ⟨dd, fs, ho, hd, r⟩⟩ := h
  · exact ⟨c, .inl h⟩
  · exact ⟨c, .inr ⟨dd, fs, ho, e.xd hd, RepF.ext e _ _ r⟩⟩

/-- what is shared at a def's entry; what the callers own -/
structure Bs where
  F0 : Hp
  Fr : Hp
  T : List (Addr × Str)
/-- the slots hold what is told of them: shared data, or a list of one's own. B: what is shared at the def's entry, and the callers' own -/
structure Wd (K : KC) (B : Bs) (σ : St) (F R : Hp) (ρ : Env3) : Prop where
  tb : LamX.Tabs K.T F
  ex : Ext K B.F0 F
  fr : ∀ a o, B.Fr a = some o → R a = some o
  dj : Dj F R
  len : σ.length = ρ.length
  val : ∀ (i : Nat) (d : D), ρ[i]? = some (.val d) → ∃ v, σ[i]? = some (some v) ∧ Rep K F v d
  own : ∀ (i : Nat) (ds : List D), ρ[i]? = some (.own ds) → ∃ a vs, σ[i]? = some (some (.ref a)) ∧ R a = some (.lst vs) ∧ Reps K F vs ds ∧ B.Fr a = none
  obj : ∀ (i : Nat) (c : Str) (a : Addr) (fs : List (Str × D)), ρ[i]? = some (.obj c a fs) → i = 0 ∧ ∃ dx ws, σ[i]? = some (some (.ref a)) ∧ R a = some (.ins (K.cm c) dx ws) ∧ R dx = some (.own a) ∧ RepF K F ws fs ∧ B.Fr a = none ∧ B.Fr dx = none
  sep : ∀ (i j : Nat) (a : Addr) (di dj : List D), ρ[i]? = some (.own di) → ρ[j]? = some (.own dj) → σ[i]? = some (some (.ref a)) → σ[j]? = some (some (.ref a)) → i = j
theorem Wd.ext {K : KC} {B : Bs} {σ : St} {F F' R : Hp} {ρ : Env3} (w : Wd K B σ F R ρ) (e : Ext K F F') (dj : Dj F' R) : Wd K B σ F' R ρ where
  tb := e.tab w.tb
  ex := w.ex.trans e
  fr := w.fr
  dj := dj
  len := w.len
  val := fun i d h => let ⟨v, a, b⟩ := w.val i d h; ⟨v, a, Rep.ext e _ _ b⟩
  own := fun i ds h => let ⟨a, vs, p, q, r, n⟩ := w.own i ds h; ⟨a, vs, p, q, Reps.ext e _ _ r, n⟩
  obj := fun i c a fs h => let ⟨z, dx, ws, p, q, r, s, t⟩ := w.obj i c a fs h; ⟨z, dx, ws, p, q, r, RepF.ext e _ _ s, t⟩
  sep := w.sep

/-- what is wanted behind, from F on -/
structure Kont {α β : Type} (rep : Hp → β → α → Prop) (K : KC) (W : WX) (σ : St) (Q : β → Hp → Prop) (F R : Hp) (Q' : α → Prop) (E' : XD → Prop) : Prop where
  ok : ∀ v d F', Ext K F F' → Dj F' R → rep F' v d → Q' d → Q v (jn F' R)
  ex : ∀ x cls od F', Ext K F F' → Dj F' R → RepX K F' cls od x → E' x → W cls od σ (jn F' R)
theorem Kont.ext {α β : Type} {rep : Hp → β → α → Prop} {K : KC} {W : WX} {σ : St} {Q : β → Hp → Prop} {F F1 R : Hp} {Q' : α → Prop} {E' : XD → Prop} (k : Kont rep K W σ Q F R Q' E') (e : Ext K F F1) : Kont rep K W σ Q F1 R Q' E' :=
  ⟨fun v d F' x => k.ok v d F' (e.trans x), fun x cls od F' y => k.ex x cls od F' (e.trans y)⟩

def lf {α β : Type} (rep : Hp → β → α → Prop) (K : KC) (B : Bs) (W : WX) (r : RG α) : St → Hp → (β → Hp → Prop) → Prop := fun σ H Q =>
  ∃ F R ρ Q' E', H = jn F R ∧ Wd K B σ F R ρ ∧ r ρ Q' E' ∧ Kont rep K W σ Q F R Q' E'
abbrev repB : Hp → Bool → Bool → Prop := fun _ b c => b = c
abbrev lE (K : KC) (B : Bs) (W : WX) (r : RE) : TE := lf (Rep K) K B W r
abbrev lT (K : KC) (B : Bs) (W : WX) (r : RT) : TT := lf repB K B W r
abbrev lA (K : KC) (B : Bs) (W : WX) (r : RA) : TA := lf (Reps K) K B W r
abbrev DE (B : Bs) (X : Cx) (W : WX) (e : Expr) (r : RE) : Prop := PE X e (lE (kc B.T X) B W r)
abbrev DT (B : Bs) (X : Cx) (W : WX) (e : Expr) (r : RT) : Prop := PT X e (lT (kc B.T X) B W r)
abbrev DA (B : Bs) (X : Cx) (W : WX) (es : List Expr) (r : RA) : Prop := PA X es (lA (kc B.T X) B W r)
/-- one behind the other -/
def rB {α γ : Type} (a : RG α) (k : α → RG γ) : RG γ := fun ρ Q E => a ρ (fun d => k d ρ Q E) E

theorem lf_then {α β γ δ : Type} {rep : Hp → β → α → Prop} {rep2 : Hp → δ → γ → Prop} {K : KC} {B : Bs} {W : WX} {a : RG α} {k : α → RG γ} {σ : St} {H : Hp} {Q : δ → Hp → Prop} {Z : β → Hp → Prop}
    (h : lf rep2 K B W (rB a k) σ H Q)
    (hz : ∀ v d F R ρ Q' E', Wd K B σ F R ρ → rep F v d → k d ρ Q' E' → Kont rep2 K W σ Q F R Q' E' → Z v (jn F R)) : lf rep K B W a σ H Z := by
  obtain ⟨F, R, ρ, Q', E', rfl, w, r, c⟩ := h
  exact ⟨F, R, ρ, _, E', rfl, w, r, fun v d F' x dj rp q => hz v d F' R ρ Q' E' (w.ext x dj) rp q (c.ext x), c.ex⟩
theorem _root_.L2.PE.imp {X : Cx} {e : Expr} {t t' : TE} (h : PE X e t) (i : ∀ σ H Q, t' σ H Q → t σ H Q) : PE X e t' := ⟨fun pins s σ H Q I q => h.run pins s σ H Q I (i σ H Q q)⟩
theorem _root_.L2.PT.imp {X : Cx} {e : Expr} {t t' : TT} (h : PT X e t) (i : ∀ σ H Q, t' σ H Q → t σ H Q) : PT X e t' := ⟨fun pins s σ H Q I q => h.run pins s σ H Q I (i σ H Q q)⟩
theorem _root_.L2.PW.imp {X : Cx} {e : Expr} {t t' : TT} (h : PW X e t) (i : ∀ σ H Q, t' σ H Q → t σ H Q) : PW X e t' := ⟨fun wh pins s σ H Q I q => h.run wh pins s σ H Q I (i σ H Q q)⟩
theorem _root_.L2.PA.imp {X : Cx} {es : List Expr} {t t' : TA} (h : PA X es t) (i : ∀ σ H Q, t' σ H Q → t σ H Q) : PA X es t' := ⟨fun p pins s σ H Q I q => h.run p pins s σ H Q I (i σ H Q q)⟩
theorem _root_.L2.PS.imp {X : Cx} {st : Stmt} {t t' : TS} (h : PS X st t) (i : ∀ D σ H, t' D σ H → t D σ H) : PS X st t' := ⟨fun pins s σ H D I q => h.run pins s σ H D I (i D σ H q)⟩
theorem _root_.L2.PSs.imp {X : Cx} {st : List Stmt} {t t' : TS} (h : PSs X st t) (i : ∀ D σ H, t' D σ H → t D σ H) : PSs X st t' := ⟨fun pins s σ H D I q => h.run pins s σ H D I (i D σ H q)⟩

section
variable {B : Bs} {X : Cx} {W : WX} {a b c e : Expr} {es rest : List Expr} {ra rb rc re : RE} {rt : RT} {rs : RA} {pos : Pos}
/-! ### names, constants -/
def rVar (i : Nat) : RE := fun ρ Q _ => match ρ[i]? with
  | some (.val d) => Q d
  | _ => False
theorem de_name {x : Str} {i : Nat} (h : PE X (.Name x pos) (tVar i)) : DE B X W (.Name x pos) (rVar i) := h.imp fun σ H Q ⟨F, R, ρ, Q', E', e, w, r, k⟩ => by
  subst e
  unfold rVar at r
  split at r
  · rename_i d hd
    obtain ⟨v, hv, rp⟩ := w.val i d hd
    exact ⟨v, hv, k.ok v d F (.refl _) w.dj rp r⟩
  · exact r.elim
/-- a constant -/
def rC {α : Type} (d : α) : RG α := fun _ Q _ => Q d
theorem de_c {v : V} {d : D} (hr : ∀ H, Rep (kc B.T X) H v d) (h : PE X e (tC v)) : DE B X W e (rC d) := h.imp fun σ H Q ⟨F, R, ρ, Q', E', e, w, r, k⟩ => by
  subst e
  exact k.ok v d F (.refl _) w.dj (hr _) r
theorem de_int {i : Int} {j : Nat} : DE B X W (.Constant (.int i) j pos) (rC (.int i)) := de_c (fun _ => by simp [Rep]) pe_int
theorem de_bl {b : Bool} {j : Nat} : DE B X W (.Constant (.bool b) j pos) (rC (.bl b)) := de_c (fun _ => by simp [Rep]) pe_bl
theorem de_non {j : Nat} : DE B X W (.Constant .none j pos) (rC .non) := de_c (fun _ => by simp [Rep]) pe_non
theorem de_str {x : Str} {j : Nat} : DE B X W (.Constant (.str x) j pos) (rC (.str x)) := de_c (fun _ => by simp [Rep]) pe_str

/-! ### operators -/
abbrev G2 := D → D → (D → Prop) → Prop
abbrev G1 := D → (D → Prop) → Prop
/-- what a wish over data asks of a value that is made -/
structure KV1 (K : KC) (F R : Hp) (Q' : D → Prop) (Q : VK) : Prop where
  ok : ∀ v d F', Ext K F F' → Dj F' R → Rep K F' v d → Q' d → Q v (jn F' R)
theorem Kont.kv {K : KC} {σ : St} {Q : VK} {F R : Hp} {Q' : D → Prop} {E' : XD → Prop} (k : Kont (Rep K) K W σ Q F R Q' E') : KV1 K F R Q' Q := ⟨k.ok⟩
theorem KV1.now {K : KC} {F R : Hp} {Q' : D → Prop} {Q : VK} (k : KV1 K F R Q' Q) {v : V} {d : D} (dj : Dj F R) (r : Rep K F v d) (q : Q' d) : Q v (jn F R) := k.ok v d F (.refl _) dj r q
def l2 (K : KC) (g : G2) : R2 := fun x y H Q => ∃ F R d e Q', H = jn F R ∧ Dj F R ∧ Rep K F x d ∧ Rep K F y e ∧ g d e Q' ∧ KV1 K F R Q' Q
def l1 (K : KC) (g : G1) : V → Hp → VK → Prop := fun x H Q => ∃ F R d Q', H = jn F R ∧ Dj F R ∧ Rep K F x d ∧ g d Q' ∧ KV1 K F R Q' Q
abbrev Op2 (X : Cx) (f : Value → Value → Sem Value) (g : G2) : Prop := ∀ T, OpR X f (l2 (kc T X) g)
def rOp (g : G2) (ra rb : RE) : RE := fun ρ Q E => ra ρ (fun d => rb ρ (fun e => g d e Q) E) E
def rUn (g : G1) (ra : RE) : RE := fun ρ Q E => ra ρ (fun d => g d Q) E
theorem lE_op {K : KC} {g : G2} {σ : St} {H : Hp} {Q : VK} (h : lE K B W (rOp g ra rb) σ H Q) : tOp (l2 K g) (lE K B W ra) (lE K B W rb) σ H Q := by
  refine lf_then (k := fun d ρ Q E => rb ρ (fun e => g d e Q) E) h fun v d F R ρ Q' E' w rv q k => ?_
  refine ⟨F, R, ρ, _, E', rfl, w, q, fun u e F' x dj ru q2 => ?_, k.ex⟩
  exact ⟨F', R, d, e, Q', rfl, dj, Rep.ext x _ _ rv, ru, q2, (k.ext x).kv⟩
theorem de_op {op : Operator} {g : G2} (ho : Op2 X (binaryOp op) g) (ha : DE B X W a ra) (hb : DE B X W b rb) : DE B X W (.BinOp a op b pos) (rOp g ra rb) := (pe_op (ho B.T) ha hb).imp fun _ _ _ h => lE_op h
theorem de_cmp {op : CmpOp} {g : G2} (ho : Op2 X (compareOp op) g) (ha : DE B X W a ra) (hb : DE B X W b rb) (hm : behindInMarks op b = false) : DE B X W (.Compare a [op] [b] pos) (rOp g ra rb) :=
  (pe_cmpR (ho B.T) ha hb hm).imp fun _ _ _ h => lE_op h
theorem de_un {op : UnaryOp} {g : G1} (ho : UnR X (unaryOp op) (l1 (kc B.T X) g)) (ha : DE B X W a ra) : DE B X W (.UnaryOp op a pos) (rUn g ra) := (pe_un ho ha).imp fun σ H Q h => by
  refine lf_then (k := fun d _ Q _ => g d Q) h fun v d F R ρ Q' E' w rv q k => ?_
  exact ⟨F, R, d, Q', rfl, w.dj, rv, q, k.kv⟩
/-! ### tests -/
/-- a value that is a bool -/
def toB (Q : Bool → Prop) : D → Prop
  | .bl b => Q b
  | _ => False
def rTV (ra : RE) : RT := fun ρ Q E => ra ρ (toB Q) E
theorem dt_val (h : DE B X W e ra) (he : ∀ whole, isTrue e X.env whole = (do let v ← whole; standAt e.pos; holding [v] (truthy v)) := by intro _; rfl) : DT B X W e (rTV ra) := (pt_val h he).imp fun σ H Q ⟨F, R, ρ, Q', E', e, w, r, k⟩ => by
  subst e
  refine ⟨F, R, ρ, _, E', rfl, w, r, fun v d F' x dj rv q => ?_, k.ex⟩
  cases d with
  | bl b => exact ⟨b, by simpa [Rep] using rv, k.ok b b F' x dj rfl q⟩
  | _ => exact (show False from q).elim
theorem dt_cmp {op : CmpOp} {g : G2} (ho : Op2 X (compareOp op) g) (ha : DE B X W a ra) (hb : DE B X W b rb) (hm : behindInMarks op b = false) : DT B X W (.Compare a [op] [b] pos) (rTV (rOp g ra rb)) :=
  (pt_cmpR (ho B.T) ha hb hm).imp fun σ H Q ⟨F, R, ρ, Q', E', e, w, r, k⟩ => by
    subst e
    show tOp (l2 (kc B.T X) g) (lE (kc B.T X) B W ra) (lE (kc B.T X) B W rb) σ _ _
    refine lE_op ⟨F, R, ρ, _, E', rfl, w, r, fun v d F' x dj rv q => ?_, k.ex⟩
    cases d with
    | bl b => exact ⟨b, by simpa [Rep] using rv, k.ok b b F' x dj rfl q⟩
    | _ => exact (show False from q).elim
def rNot (t : RT) : RT := fun ρ Q E => t ρ (fun b => Q (!b)) E
def rAnd (t u : RT) : RT := fun ρ Q E => t ρ (fun b => match b with | true => u ρ Q E | false => Q false) E
def rOr (t u : RT) : RT := fun ρ Q E => t ρ (fun b => match b with | true => Q true | false => u ρ Q E) E
theorem dt_not (h : DT B X W a rt) : DT B X W (.UnaryOp .Not a pos) (rNot rt) := (pt_not h).imp fun σ H Q ⟨F, R, ρ, Q', E', e, w, r, k⟩ => by
  subst e
  exact ⟨F, R, ρ, _, E', rfl, w, r, fun v d F' x dj rv q => k.ok (!v) (!d) F' x dj (congrArg _ rv) q, k.ex⟩
abbrev DW (B : Bs) (X : Cx) (W : WX) (e : Expr) (r : RT) : Prop := PW X e (lT (kc B.T X) B W r)
variable {ta tb : RT}
theorem dw_and1 (ha : DT B X W a ta) : DW B X W (.BoolOp .And [a] pos) ta := pw_and1 ha
theorem dw_or1 (ha : DT B X W a ta) : DW B X W (.BoolOp .Or [a] pos) ta := pw_or1 ha
theorem dw_and (ha : DT B X W a ta) (hb : DW B X W (.BoolOp .And (b :: rest) pos) tb) : DW B X W (.BoolOp .And (a :: b :: rest) pos) (rAnd ta tb) := (pw_and ha hb).imp fun σ H Q ⟨F, R, ρ, Q', E', e, w, r, k⟩ => by
  subst e
  refine ⟨F, R, ρ, _, E', rfl, w, r, fun v d F' x dj rv q => ?_, k.ex⟩
  cases rv
  cases v with
  | true => exact ⟨F', R, ρ, Q', E', rfl, w.ext x dj, q, k.ext x⟩
  | false => exact k.ok false false F' x dj rfl q
theorem dw_or (ha : DT B X W a ta) (hb : DW B X W (.BoolOp .Or (b :: rest) pos) tb) : DW B X W (.BoolOp .Or (a :: b :: rest) pos) (rOr ta tb) := (pw_or ha hb).imp fun σ H Q ⟨F, R, ρ, Q', E', e, w, r, k⟩ => by
  subst e
  refine ⟨F, R, ρ, _, E', rfl, w, r, fun v d F' x dj rv q => ?_, k.ex⟩
  cases rv
  cases v with
  | false => exact ⟨F', R, ρ, Q', E', rfl, w.ext x dj, q, k.ext x⟩
  | true => exact k.ok true true F' x dj rfl q
theorem dt_w (h : DW B X W e rt) : DT B X W e rt := PW.pt h
/-- a if c else b -/
def rIte {α : Type} (t : RT) (a b : RG α) : RG α := fun ρ Q E => t ρ (fun c => match c with | true => a ρ Q E | false => b ρ Q E) E
theorem de_ite (hc : DT B X W c rt) (ha : DE B X W a ra) (hb : DE B X W b rb) : DE B X W (.IfExp c a b pos) (rIte rt ra rb) := (pe_ifExp hc ha hb).imp fun σ H Q ⟨F, R, ρ, Q', E', e, w, r, k⟩ => by
  subst e
  refine ⟨F, R, ρ, _, E', rfl, w, r, fun v d F' x dj rv q => ?_, k.ex⟩
  cases rv
  cases v with
  | true => exact ⟨F', R, ρ, Q', E', rfl, w.ext x dj, q, k.ext x⟩
  | false => exact ⟨F', R, ρ, Q', E', rfl, w.ext x dj, q, k.ext x⟩
/-- and, or, not as values -/
def rAndV (a b : RE) : RE := fun ρ Q E => a ρ (toB fun c => match c with | true => b ρ Q E | false => Q (.bl false)) E
def rOrV (a b : RE) : RE := fun ρ Q E => a ρ (toB fun c => match c with | true => Q (.bl true) | false => b ρ Q E) E
def rNotV (a : RE) : RE := fun ρ Q E => a ρ (toB fun c => Q (.bl (!c))) E
theorem de_one {op : BoolOp} (h : DE B X W a ra) : DE B X W (.BoolOp op [a] pos) ra := pe_one h
theorem de_and (ha : DE B X W a ra) (hb : DE B X W (.BoolOp .And (b :: rest) pos) rb) : DE B X W (.BoolOp .And (a :: b :: rest) pos) (rAndV ra rb) := (pe_and ha hb).imp fun σ H Q ⟨F, R, ρ, Q', E', e, w, r, k⟩ => by
  subst e
  refine ⟨F, R, ρ, _, E', rfl, w, r, fun v d F' x dj rv q => ?_, k.ex⟩
  cases d with
  | bl c =>
    refine ⟨c, by simpa [Rep] using rv, ?_⟩
    cases c with
    | true => exact ⟨F', R, ρ, Q', E', rfl, w.ext x dj, q, k.ext x⟩
    | false => exact k.ok _ _ F' x dj (by simp [Rep]) q
  | _ => exact (show False from q).elim
theorem de_or (ha : DE B X W a ra) (hb : DE B X W (.BoolOp .Or (b :: rest) pos) rb) : DE B X W (.BoolOp .Or (a :: b :: rest) pos) (rOrV ra rb) := (pe_or ha hb).imp fun σ H Q ⟨F, R, ρ, Q', E', e, w, r, k⟩ => by
  subst e
  refine ⟨F, R, ρ, _, E', rfl, w, r, fun v d F' x dj rv q => ?_, k.ex⟩
  cases d with
  | bl c =>
    refine ⟨c, by simpa [Rep] using rv, ?_⟩
    cases c with
    | false => exact ⟨F', R, ρ, Q', E', rfl, w.ext x dj, q, k.ext x⟩
    | true => exact k.ok _ _ F' x dj (by simp [Rep]) q
  | _ => exact (show False from q).elim
theorem de_not (ha : DE B X W a ra) : DE B X W (.UnaryOp .Not a pos) (rNotV ra) := (pe_not ha).imp fun σ H Q ⟨F, R, ρ, Q', E', e, w, r, k⟩ => by
  subst e
  refine ⟨F, R, ρ, _, E', rfl, w, r, fun v d F' x dj rv q => ?_, k.ex⟩
  cases d with
  | bl c => exact ⟨c, by simpa [Rep] using rv, k.ok _ _ F' x dj (by simp [Rep]) q⟩
  | _ => exact (show False from q).elim
/-! ### argument lists, displays -/
def rNil : RA := fun _ Q _ => Q []
def rCons (ra : RE) (rs : RA) : RA := fun ρ Q E => ra ρ (fun d => rs ρ (fun ds => Q (d :: ds)) E) E
theorem da_nil : DA B X W [] rNil := pa_nil.imp fun σ H Q ⟨F, R, ρ, Q', E', e, w, r, k⟩ => by
  subst e
  exact k.ok [] [] F (.refl _) w.dj (by simp [Reps]) r
theorem Reps.cons {K : KC} {F : Hp} {v : V} {vs : List V} {d : D} {ds : List D} (h : Rep K F v d) (hs : Reps K F vs ds) : Reps K F (v :: vs) (d :: ds) := by
  unfold Reps
  exact ⟨v, vs, rfl, h, hs⟩
theorem da_cons (ha : DE B X W e re) (hr : DA B X W es rs) (hs : starEach (e :: es) X.env = (false, eval e X.env) :: starEach es X.env := by rfl) : DA B X W (e :: es) (rCons re rs) := (pa_cons ha hr hs).imp fun σ H Q h => by
  refine lf_then (k := fun d ρ Q E => rs ρ (fun ds => Q (d :: ds)) E) h fun v d F R ρ Q' E' w rv q k => ?_
  exact ⟨F, R, ρ, _, E', rfl, w, q, fun u e F' x dj ru q2 => k.ok _ _ F' x dj (Reps.cons (Rep.ext x _ _ rv) ru) q2, k.ex⟩
theorem Reps.length {K : KC} {F : Hp} : ∀ {ds : List D} {vs : List V}, Reps K F vs ds → vs.length = ds.length
  | [], _, h => by
    unfold Reps at h
    rw [h]
    rfl
  | d :: ds, _, h => by
    unfold Reps at h
    obtain ⟨v, r, rfl, _, h2⟩ := h
    rw [List.length_cons, List.length_cons, Reps.length h2]
def rTup (rs : RA) : RE := fun ρ Q E => rs ρ (fun ds => ds.length ≤ sizeLine ∧ Q (.tup ds)) E
theorem KV1.tup {K : KC} {F R : Hp} {Q' : D → Prop} {Q : VK} (k : KV1 K F R Q' Q) {vs : List V} {ds : List D} (dj : Dj F R) (r : Reps K F vs ds) (q : Q' (.tup ds)) {p : Addr} (hp : jn F R p = none) : Q (.ref p) (upd (jn F R) p (.tup vs)) := by
  rw [jn_newF hp]
  have e : Ext K F (upd F p (.tup vs)) := Ext.newF hp
  refine k.ok _ (.tup ds) _ e (dj.newF hp) ?_ q
  unfold Rep
  exact ⟨p, vs, rfl, upd_same, Reps.ext e _ _ r⟩
theorem KV1.lst {K : KC} {F R : Hp} {Q' : D → Prop} {Q : VK} (k : KV1 K F R Q' Q) {vs : List V} {ds : List D} (dj : Dj F R) (r : Reps K F vs ds) (q : Q' (.lst ds)) {p : Addr} (hp : jn F R p = none) : Q (.ref p) (upd (jn F R) p (.lst vs)) := by
  rw [jn_newF hp]
  have e : Ext K F (upd F p (.lst vs)) := Ext.newF hp
  refine k.ok _ (.lst ds) _ e (dj.newF hp) ?_ q
  unfold Rep
  exact ⟨p, vs, rfl, upd_same, Reps.ext e _ _ r⟩
theorem de_tup {x1 : Nat} (h : DA B X W es rs) : DE B X W (.Tuple es x1 pos) (rTup rs) := (pe_tup h).imp fun σ H Q ⟨F, R, ρ, Q', E', e, w, r, k⟩ => by
  subst e
  refine ⟨F, R, ρ, _, E', rfl, w, r, fun vs ds F' x dj rv q => ?_, k.ex⟩
  exact ⟨by rw [rv.length]; exact q.1, fun p hp => (k.ext x).kv.tup dj rv q.2 hp⟩
/-! ### new lists -/
/-- a piece of code that gives a new list: wanted of its items -/
def lL (K : KC) (B : Bs) (W : WX) (r : RA) : TE := fun σ H Q =>
  ∃ F R ρ Q' E', H = jn F R ∧ Wd K B σ F R ρ ∧ r ρ Q' E' ∧ (∀ p vs ds F', Ext K F F' → Dj F' R → Reps K F' vs ds → vs.length ≤ sizeLine → Q' ds → jn F' R p = none → Q (.ref p) (upd (jn F' R) p (.lst vs))) ∧
    ∀ x cls od F', Ext K F F' → Dj F' R → RepX K F' cls od x → E' x → W cls od σ (jn F' R)
abbrev FE (B : Bs) (X : Cx) (W : WX) (e : Expr) (r : RA) : Prop := PE X e (lL (kc B.T X) B W r)
def rL (rs : RA) : RE := fun ρ Q E => rs ρ (fun ds => Q (.lst ds)) E
/-- .. shared from the start -/
theorem de_new (h : FE B X W e rs) : DE B X W e (rL rs) := PE.imp h fun σ H Q ⟨F, R, ρ, Q', E', e, w, r, k⟩ => by
  subst e
  refine ⟨F, R, ρ, _, E', rfl, w, r, fun p vs ds F' x dj rv _ q hp => ?_, k.ex⟩
  exact (k.ext x).kv.lst dj rv q hp
def rLst (rs : RA) : RA := fun ρ Q E => rs ρ (fun ds => ds.length ≤ sizeLine ∧ Q ds) E
theorem fe_lst (h : DA B X W es rs) : FE B X W (.List es pos) (rLst rs) := (pe_lst h).imp fun σ H Q ⟨F, R, ρ, Q', E', e, w, r, kk, kx⟩ => by
  subst e
  refine ⟨F, R, ρ, _, E', rfl, w, r, fun vs ds F' x dj rv q => ?_, kx⟩
  exact ⟨by rw [rv.length]; exact q.1, fun p hp => kk p vs ds F' x dj rv (by rw [rv.length]; exact q.1) q.2 hp⟩
end
end L3
namespace L3
open PySem PySem.Spec L2
open PyProof.Rows hiding St
theorem tupMulOne (p : Addr) (its : Array Value) (nn : Nat) (dd : Option Addr) (sl : Array (Option Value)) (x : Int) (u : Tok) (cA : (decide (x < -(2 ^ 63)) || decide (x ≥ 2 ^ 63)) = false) (cB : (its.isEmpty || x == 1) = true) :
    Meets (Builtin.«tuple.__mul__» ⟨[.ref p, .int x u], []⟩) (fun _ R s => s.heap.get? p = some { cls := .type "tuple", dict := dd, data := .seq its nn, slots := sl } ∧ R (.ok (.ret (Value.ref p))) s) :=
  .of_wp fun prog w A R s hh => by
    obtain ⟨h0, g0, d0, k0, o0⟩ := s
    obtain ⟨at0, h⟩ := hh
    have f1 := AutoSeq1.idx_int
    wp_walk using wpAny_loadPart' at0
    repeat (first
      | (refine wpAny_ite_false (decide_eq_false (by rw [cA]; exact Bool.false_ne_true)) ?_; wp_walk using wpAny_loadPart' at0)
      | (refine wpAny_ite_true (decide_eq_true (by rw [cB])) ?_; wp_walk using wpAny_loadPart' at0))
    exact ⟨_, rfl, h⟩
theorem tupMulNone (p : Addr) (its : Array Value) (nn : Nat) (dd : Option Addr) (sl : Array (Option Value)) (x : Int) (u : Tok) (cA : (decide (x < -(2 ^ 63)) || decide (x ≥ 2 ^ 63)) = false) (cB : (its.isEmpty || x == 1) = false) (cC : (decide (x ≤ 0) || its.isEmpty) = true) :
    Meets (Builtin.«tuple.__mul__» ⟨[.ref p, .int x u], []⟩) (fun _ R s => s.heap.get? p = some { cls := .type "tuple", dict := dd, data := .seq its nn, slots := sl } ∧ R (.ok (.ret (Value.ref s.heap.objs.size))) { s with heap := s.heap.push { cls := Value.type "tuple", data := Data.seq #[] } }) :=
  .of_wp fun prog w A R s hh => by
    obtain ⟨h0, g0, d0, k0, o0⟩ := s
    obtain ⟨at0, h⟩ := hh
    have f1 := AutoSeq1.idx_int
    wp_walk using wpAny_loadPart' at0
    repeat (first
      | (refine wpAny_ite_false (decide_eq_false (by rw [cA]; exact Bool.false_ne_true)) ?_; wp_walk using wpAny_loadPart' at0)
      | (refine wpAny_ite_false (decide_eq_false (by rw [cB]; exact Bool.false_ne_true)) ?_; wp_walk using wpAny_loadPart' at0)
      | (refine wpAny_ite_true (decide_eq_true (by rw [cC])) ?_; wp_walk using wpAny_loadPart' at0))
    exact ⟨_, rfl, h⟩
def rRepSm (K : PySem.W.Frag) : R2 := fun x y H Q => ∃ p k xs, x = .ref p ∧ y = .int k ∧ SqT K H p xs ∧ xs ≠ [] ∧ ((k = 1 ∧ Q (.ref p) H) ∨ (k ≤ 0 ∧ -1000 ≤ k ∧ ∀ q, H q = none → Q (.ref q) (upd H q (.tup []))))
section
variable {X : Cx}
theorem op_repSm : OpR X (binaryOp .Mult) (rRepSm X.K) := fun pins s σ H x y v u Q I rx ry ⟨p, k, xs, ex, ey, hT, hne, hq⟩ => by
  subst ex ey
  cases rx
  obtain ⟨t, rfl⟩ := ry
  obtain ⟨zs, r, ⟨⟨cls, dd, data, sl⟩, hat, hc, n, hd⟩, hs⟩ := I.tuple hT
  dsimp only at hc hd
  subst hc hd
  have hi : zs.toArray.isEmpty = false := by
    cases zs with
    | nil => cases r; exact absurd rfl hne
    | cons a b => rfl
  have cA : (decide (k < -(2 ^ 63)) || decide (k ≥ 2 ^ 63)) = false := by
    rcases hq with ⟨rfl, _⟩ | ⟨h1, h2, _⟩
    · decide
    · rw [decide_eq_false (by omega), decide_eq_false (by omega)] <;> rfl
  refine wpAny_binaryOp_repeat_ref (T := "tuple") (U := "int") (by decide) ⟨_, hat, rfl⟩ (fun s' => typeIs_int s' k t) noFill_tuple_mul F.fills_int_mul F.slot_int_rmul repeat_tuple F.slot_int_index.lookup
    (call_meets F.slot_int_rmul (typeIs_int s k t) F.entry_int_rmul (F.args_int_rmul_2 _ _) (int_rmul_tuple k t p zs.toArray n dd sl) ⟨hat, rfl, ⟨_, hat, rfl⟩, ?_⟩)
  rcases hq with ⟨rfl, q⟩ | ⟨h1, h2, q⟩
  · exact call_meets F.slot_tuple_mul ⟨_, hat, rfl⟩ F.entry_tuple_mul (F.args_tuple_mul_2 _ _) (tupMulOne p zs.toArray n dd sl 1 t cA (by rw [hi]; rfl)) ⟨hat, ⟨.ref p, H, I, rfl, q⟩⟩
  · refine call_meets F.slot_tuple_mul ⟨_, hat, rfl⟩ F.entry_tuple_mul (F.args_tuple_mul_2 _ _) (tupMulNone p zs.toArray n dd sl k t cA (by rw [hi, Bool.false_or]; exact beq_eq_false_iff_ne.mpr (by omega)) (by rw [decide_eq_true h1]; rfl)) ⟨hat, ?_⟩
    exact ⟨.ref s.heap.objs.size, _, I.laid (t' := s.toks) (o := .tup []) (fun b ob e => Heap.get?_push_of_some _ e) (Nat.le_refl _) ⟨Nat.zero_le _, [], .nil, IsTup.new _ _⟩, rfl, q _ (I.hok.fresh (Nat.le_refl _))⟩
end
end L3
namespace L3
open PySem PySem.Spec L2
open PyProof.Rows hiding St
/-! ### what data are, by their values -/
section
variable {K : KC} {F : Hp} {v : V}
theorem rep_int {i : Int} (h : Rep K F v (.int i)) : v = .int i := by simpa [Rep] using h
theorem rep_bl {b : Bool} (h : Rep K F v (.bl b)) : v = .bl b := by simpa [Rep] using h
theorem rep_str {x : Str} (h : Rep K F v (.str x)) : v = .str x := by simpa [Rep] using h
theorem rep_non (h : Rep K F v .non) : v = .non := by simpa [Rep] using h
theorem rep_tup {ds : List D} (h : Rep K F v (.tup ds)) : ∃ a vs, v = .ref a ∧ F a = some (.tup vs) ∧ Reps K F vs ds := by unfold Rep at h; exact h
theorem rep_lst {ds : List D} (h : Rep K F v (.lst ds)) : ∃ a vs, v = .ref a ∧ F a = some (.lst vs) ∧ Reps K F vs ds := by unfold Rep at h; exact h
theorem rep_scr {xs : List Int} (h : Rep K F v (.scr xs)) : ∃ a, v = .ref a ∧ SqL K.K F a (xs.map V.int) := by unfold Rep at h; exact h
theorem of_int (i : Int) : Rep K F (.int i) (.int i) := by unfold Rep; rfl
theorem of_bl (b : Bool) : Rep K F (.bl b) (.bl b) := by unfold Rep; rfl
theorem of_str (x : Str) : Rep K F (.str x) (.str x) := by unfold Rep; rfl
theorem of_non : Rep K F .non .non := by unfold Rep; rfl
theorem of_tup {a : Addr} {vs : List V} {ds : List D} (h : F a = some (.tup vs)) (r : Reps K F vs ds) : Rep K F (.ref a) (.tup ds) := by unfold Rep; exact ⟨a, vs, rfl, h, r⟩
theorem of_lst {a : Addr} {vs : List V} {ds : List D} (h : F a = some (.lst vs)) (r : Reps K F vs ds) : Rep K F (.ref a) (.lst ds) := by unfold Rep; exact ⟨a, vs, rfl, h, r⟩
theorem sq_l {R : Hp} {a : Addr} {vs : List V} (h : F a = some (.lst vs)) : SqL K.K (jn F R) a vs := .of (jn_l h)
theorem sq_t {R : Hp} {a : Addr} {vs : List V} (h : F a = some (.tup vs)) : SqT K.K (jn F R) a vs := .of (jn_l h)
theorem sq_s {R : Hp} {a : Addr} {vs : List V} (h : SqL K.K F a vs) : SqL K.K (jn F R) a vs := by
  rcases (h) with (h | ⟨o, h⟩) | h
  · exact .inl (.inl (jn_l h))
  · exact .inl (.inr ⟨o, jn_l h⟩)
  · exact .inr h
theorem Reps.nil : Reps K F [] [] := by unfold Reps; rfl
theorem reps_nil {vs : List V} (h : Reps K F vs []) : vs = [] := by unfold Reps at h; exact h
theorem reps_cons {vs : List V} {d : D} {ds : List D} (h : Reps K F vs (d :: ds)) : ∃ v r, vs = v :: r ∧ Rep K F v d ∧ Reps K F r ds := by unfold Reps at h; exact h
theorem Reps.append : ∀ {ds : List D} {vs : List V} {ws : List V} {es : List D}, Reps K F vs ds → Reps K F ws es → Reps K F (vs ++ ws) (ds ++ es)
  | [], _, _, _, h, g => by rw [reps_nil h]; exact g
  | d :: ds, _, _, _, h, g => by
    obtain ⟨v, r, rfl, h1, h2⟩ := reps_cons h
    exact Reps.cons h1 (Reps.append h2 g)
theorem Reps.take : ∀ {ds : List D} {vs : List V} (n : Nat), Reps K F vs ds → Reps K F (vs.take n) (ds.take n)
  | _, _, 0, _ => by simpa using Reps.nil
  | [], _, n + 1, h => by rw [reps_nil h]; simpa using Reps.nil
  | d :: ds, _, n + 1, h => by
    obtain ⟨v, r, rfl, h1, h2⟩ := reps_cons h
    exact Reps.cons h1 (Reps.take n h2)
theorem Reps.drop : ∀ {ds : List D} {vs : List V} (n : Nat), Reps K F vs ds → Reps K F (vs.drop n) (ds.drop n)
  | _, _, 0, h => by simpa using h
  | [], _, n + 1, h => by rw [reps_nil h]; simpa using Reps.nil
  | d :: ds, _, n + 1, h => by
    obtain ⟨v, r, rfl, h1, h2⟩ := reps_cons h
    exact Reps.drop n h2
theorem Reps.get : ∀ {ds : List D} {vs : List V} {n : Nat} {d : D}, Reps K F vs ds → ds[n]? = some d → ∃ v, vs[n]? = some v ∧ Rep K F v d
  | [], _, _, _, _, e => by simp at e
  | d :: ds, _, 0, _, h, e => by
    obtain ⟨v, r, rfl, h1, h2⟩ := reps_cons h
    simp at e
    subst e
    exact ⟨v, rfl, h1⟩
  | d :: ds, _, n + 1, _, h, e => by
    obtain ⟨v, r, rfl, h1, h2⟩ := reps_cons h
    exact by simpa using Reps.get (n := n) h2 (by simpa using e)
theorem Reps.getV : ∀ {ds : List D} {vs : List V} {n : Nat} {v : V}, Reps K F vs ds → vs[n]? = some v → ∃ d, ds[n]? = some d ∧ Rep K F v d
  | [], _, _, _, h, e => by rw [reps_nil h] at e; simp at e
  | d :: ds, _, 0, _, h, e => by
    obtain ⟨v, r, rfl, h1, h2⟩ := reps_cons h
    simp at e
    subst e
    exact ⟨d, rfl, h1⟩
  | d :: ds, _, n + 1, _, h, e => by
    obtain ⟨v, r, rfl, h1, h2⟩ := reps_cons h
    exact by simpa using Reps.getV (n := n) h2 (by simpa using e)
theorem Reps.set : ∀ {ds : List D} {vs : List V} {d : D} {v : V} (n : Nat), Reps K F vs ds → Rep K F v d → Reps K F (vs.set n v) (ds.set n d)
  | [], _, _, _, _, h, _ => by rw [reps_nil h]; simpa using Reps.nil
  | d :: ds, _, _, _, 0, h, g => by
    obtain ⟨v, r, rfl, h1, h2⟩ := reps_cons h
    exact Reps.cons g h2
  | d :: ds, _, _, _, n + 1, h, g => by
    obtain ⟨v, r, rfl, h1, h2⟩ := reps_cons h
    exact Reps.cons h1 (Reps.set n h2 g)
theorem Reps.eraseIdx : ∀ {ds : List D} {vs : List V} (n : Nat), Reps K F vs ds → Reps K F (vs.eraseIdx n) (ds.eraseIdx n)
  | [], _, _, h => by rw [reps_nil h]; simpa using Reps.nil
  | d :: ds, _, 0, h => by
    obtain ⟨v, r, rfl, h1, h2⟩ := reps_cons h
    exact h2
  | d :: ds, _, n + 1, h => by
    obtain ⟨v, r, rfl, h1, h2⟩ := reps_cons h
    exact Reps.cons h1 (Reps.eraseIdx n h2)
theorem Reps.reverse {ds : List D} {vs : List V} (h : Reps K F vs ds) : Reps K F vs.reverse ds.reverse := by
  induction ds generalizing vs with
  | nil => rw [reps_nil h]; simpa using Reps.nil
  | cons d ds ih =>
    obtain ⟨v, r, rfl, h1, h2⟩ := reps_cons h
    rw [(List.reverse_cons), List.reverse_cons]
    exact Reps.append (ih h2) (Reps.cons h1 Reps.nil)
theorem reps_ints {ns : List Int} : Reps K F (ns.map V.int) (ns.map D.int) := by
  induction ns with
  | nil => exact Reps.nil
  | cons n ns ih => exact Reps.cons (of_int n) ih
end
/-! ### == of data -/
mutual
def pyD : D → PyData
  | .non => .none | .bl b => .bool b | .int i => .int i | .str x => .str x
  | .tup ds => .tuple (pyDs ds) | .lst ds => .list (pyDs ds)
  | .scr xs => .list (xs.map PyData.int)
  | _ => .dict []
def pyDs : List D → List PyData
  | [] => []
  | d :: ds => pyD d :: pyDs ds
end
mutual
theorem dp_of {K : KC} {F R : Hp} : ∀ (d : D) (v : V), Rep K F v d → (pyD d).canLay0 = true → Dp K.K (jn F R) v (pyD d)
  | .non, v, h, _ => by rw [rep_non h]; exact .non
  | .bl b, v, h, _ => by rw [rep_bl h]; exact .bl b
  | .int i, v, h, _ => by rw [rep_int h]; exact .int i
  | .str x, v, h, _ => by rw [rep_str h]; exact .str x
  | .tup ds, v, h, c => by
    obtain ⟨a, vs, rfl, s, r⟩ := rep_tup h
    exact .tup (sq_t s) (dps_of ds vs r (by simpa [pyD, PyData.canLay0] using c))
  | .lst ds, v, h, c => by
    obtain ⟨a, vs, rfl, s, r⟩ := rep_lst h
    exact .lst (sq_l s) (dps_of ds vs r (by simpa [pyD, PyData.canLay0] using c))
  | .scr xs, v, h, c => by
    obtain ⟨a, rfl, s⟩ := rep_scr h
    refine .lst (sq_s s) ?_
    clear s h c
    induction xs with
    | nil => exact .nil
    | cons x xs ih => exact .cons (.int x) ih
  | .dct _, _, _, c => by simp [pyD, PyData.canLay0] at c
  | .ins _ _, _, _, c => by simp [pyD, PyData.canLay0] at c
  | .pen, _, _, c => by simp [pyD, PyData.canLay0] at c
  | .exc _ _, _, _, c => by simp [pyD, PyData.canLay0] at c
theorem dps_of {K : KC} {F R : Hp} : ∀ (ds : List D) (vs : List V), Reps K F vs ds → PyData.canLayAll0 (pyDs ds) = true → DpAll K.K (jn F R) vs (pyDs ds)
  | [], vs, h, _ => by rw [reps_nil h]; exact .nil
  | d :: ds, vs, h, c => by
    obtain ⟨v, r, rfl, h1, h2⟩ := reps_cons h
    have c' : (pyD d).canLay0 = true ∧ PyData.canLayAll0 (pyDs ds) = true := by simpa [pyDs, PyData.canLayAll0] using c
    exact .cons (dp_of d v h1 c'.1) (dps_of ds r h2 c'.2)
end
def okEq (d : D) : Bool := SeqAt.shaped (pyD d)
def eqD (d e : D) : Bool := PyData.eqv (pyD d) (pyD e)
def gEq : G2 := fun d e Q => match d, e with
  | .int i, .int j => Q (.bl (decide (i = j)))
  | .str x, .str y => Q (.bl (decide (x = y)))
  | .lst xs, .lst [] => Q (.bl xs.isEmpty)
  | d, e => okEq d = true ∧ okEq e = true ∧ Q (.bl (eqD d e))
def gNe : G2 := fun d e Q => match d, e with
  | .int i, .int j => Q (.bl (!decide (i = j)))
  | .str x, .str y => Q (.bl (!decide (x = y)))
  | d, e => okEq d = true ∧ okEq e = true ∧ Q (.bl (!eqD d e))
section
variable {X : Cx} {T : List (Addr × Str)}
theorem op2_eq (hu : X.A.units + 64 < cLine) : Op2 X (compareOp .Eq) gEq := fun T pins s σ H x y v u Q I rx ry ⟨F, R, d, e, Q', hH, dj, rd, re, g, k⟩ => by
  subst hH
  unfold gEq at g
  split at g
  · rw [rep_int rd] at rx
    rw [rep_int re] at ry
    exact op_eq pins s σ _ _ _ v u Q I rx ry ⟨rfl, k.now dj (by rw [dec_int, ← Bool.beq_eq_decide_eq]; exact of_bl _) g⟩
  · rw [rep_str rd] at rx
    rw [rep_str re] at ry
    exact op_eq pins s σ _ _ _ v u Q I rx ry ⟨rfl, k.now dj (by rw [dec_str, ← Bool.beq_eq_decide_eq]; exact of_bl _) g⟩
  · rename_i xs
    obtain ⟨a, vs, rfl, ha, ra⟩ := rep_lst rd
    obtain ⟨b, ws, rfl, hb, rb⟩ := rep_lst re
    obtain rfl : v = Value.ref a :=  rx
    obtain rfl : u = Value.ref b :=  ry
    obtain rfl := reps_nil rb
    obtain ⟨its, rv, p, _⟩ := I.list (sq_l (K := kc T X) (R := R) ha)
    obtain ⟨its2, rv2, p2, _⟩ := I.list (sq_l (K := kc T X) (R := R) hb)
    cases rv2
    cases xs with
    | nil =>
      obtain rfl := reps_nil ra
      cases rv
      exact SeqAt.eq_listAt (e := fun _ => true) p.isList p2.isList rfl (by omega) (fun j h1 _ => absurd h1 (Nat.not_lt_zero _)) ⟨.bl true, _, I, rfl, k.now dj (of_bl _) g⟩
    | cons x xs =>
      obtain ⟨v1, vs1, rfl, _, _⟩ := reps_cons ra
      cases rv
      exact SeqAt.eq_list_lengthsAt p.isList p2.isList (by simp) (by omega) ⟨.bl false, _, I, rfl, k.now dj (of_bl _) g⟩
  · obtain ⟨o1, o2, g⟩ := g
    exact op_eqD hu pins s σ _ _ _ v u Q I rx ry ⟨_, _, dp_of _ _ rd (SeqAt.canLay_of_shaped o1), dp_of _ _ re (SeqAt.canLay_of_shaped o2), o1, o2, k.now dj (of_bl _) g⟩
theorem op2_ne (hu : X.A.units + 64 < cLine) : Op2 X (compareOp .NotEq) gNe := fun T pins s σ H x y v u Q I rx ry ⟨F, R, d, e, Q', hH, dj, rd, re, g, k⟩ => by
  subst hH
  unfold gNe at g
  split at g
  · rw [rep_int rd] at rx
    rw [rep_int re] at ry
    exact op_ne pins s σ _ _ _ v u Q I rx ry ⟨rfl, k.now dj (by rw [dec_int, ← Bool.beq_eq_decide_eq]; exact of_bl _) g⟩
  · rw [rep_str rd] at rx
    rw [rep_str re] at ry
    exact op_ne pins s σ _ _ _ v u Q I rx ry ⟨rfl, k.now dj (by rw [dec_str, ← Bool.beq_eq_decide_eq]; exact of_bl _) g⟩
  · obtain ⟨o1, o2, g⟩ := g
    exact op_neD hu pins s σ _ _ _ v u Q I rx ry ⟨_, _, dp_of _ _ rd (SeqAt.canLay_of_shaped o1), dp_of _ _ re (SeqAt.canLay_of_shaped o2), o1, o2, k.now dj (of_bl _) g⟩
/-! ### ints -/
def gI (f : Int → Int → Bool) : G2 := fun d e Q => match d, e with
  | .int i, .int j => Q (.bl (f i j))
  | _, _ => False
theorem op2_I {f : Int → Int → Bool} {op : CmpOp} (h : OpR X (compareOp op) (rI0 fun i j => .bl (f i j))) : Op2 X (compareOp op) (gI f) := fun T pins s σ H x y v u Q I rx ry ⟨F, R, d, e, Q', hH, dj, rd, re, g, k⟩ => by
  subst hH
  unfold gI at g
  split at g
  · rw [rep_int rd] at rx
    rw [rep_int re] at ry
    exact h pins s σ _ _ _ v u Q I rx ry ⟨_, _, rfl, rfl, k.now dj (of_bl _) g⟩
  · exact g.elim
abbrev gLt : G2 := gI fun i j => decide (i < j)
abbrev gLe : G2 := gI fun i j => decide (i ≤ j)
abbrev gGt : G2 := gI fun i j => decide (j < i)
abbrev gGe : G2 := gI fun i j => decide (j ≤ i)
theorem op2_lt : Op2 X (compareOp .Lt) gLt := op2_I op_lt
theorem op2_le : Op2 X (compareOp .LtE) gLe := op2_I op_le
theorem op2_gt : Op2 X (compareOp .Gt) gGt := op2_I op_gt
theorem op2_ge : Op2 X (compareOp .GtE) gGe := op2_I op_ge
def gAdd : G2 := fun d e Q => match d, e with
  | .int i, .int j => Q (.int (i + j))
  | .tup xs, .tup ys => xs.length + ys.length ≤ sizeLine ∧ Q (.tup (xs ++ ys))
  | .lst xs, .lst ys => xs.length + ys.length ≤ sizeLine ∧ Q (.lst (xs ++ ys))
  | .str x, .str y => x.length + y.length ≤ sizeLine ∧ Q (.str (x ++ y))
  | _, _ => False
theorem op2_add : Op2 X (binaryOp .Add) gAdd := fun T pins s σ H x y v u Q I rx ry ⟨F, R, d, e, Q', hH, dj, rd, re, g, k⟩ => by
  subst hH
  unfold gAdd at g
  split at g
  · rw [rep_int rd] at rx
    rw [rep_int re] at ry
    exact op_add pins s σ _ _ _ v u Q I rx ry ⟨_, _, rfl, rfl, k.now dj (of_int _) g⟩
  · obtain ⟨a, vs, rfl, ha, ra⟩ := rep_tup rd
    obtain ⟨b, ws, rfl, hb, rb⟩ := rep_tup re
    refine op_catA pins s σ _ _ _ v u Q I rx ry ⟨a, b, vs, ws, rfl, rfl, sq_t (K := kc T X) ha, sq_t (K := kc T X) hb, by rw [ra.length, rb.length]; exact g.1, fun z => ?_, fun _ z => ?_, fun _ _ p hp => ?_⟩
    · have e0 := ra.length
      rw [z] at e0
      rw [List.eq_nil_of_length_eq_zero e0.symm, List.nil_append] at g
      exact k.now dj re g.2
    · have e0 := rb.length
      rw [z] at e0
      rw [List.eq_nil_of_length_eq_zero e0.symm, List.append_nil] at g
      exact k.now dj rd g.2
    · exact k.tup dj (ra.append rb) g.2 hp
  · obtain ⟨a, vs, rfl, ha, ra⟩ := rep_lst rd
    obtain ⟨b, ws, rfl, hb, rb⟩ := rep_lst re
    exact op_cat pins s σ _ _ _ v u Q I rx ry ⟨a, b, vs, ws, rfl, rfl, jn_l ha, jn_l hb, by rw [ra.length, rb.length]; exact g.1, fun p hp => k.lst dj (ra.append rb) g.2 hp⟩
  · rw [rep_str rd] at rx
    rw [rep_str re] at ry
    exact op_add_str pins s σ _ _ _ v u Q I rx ry ⟨_, _, rfl, rfl, g.1, k.now dj (of_str _) g.2⟩
  · exact g.elim
def gSub : G2 := fun d e Q => match d, e with
  | .int i, .int j => Q (.int (i - j))
  | _, _ => False
theorem op2_sub : Op2 X (binaryOp .Sub) gSub := fun T pins s σ H x y v u Q I rx ry ⟨F, R, d, e, Q', hH, dj, rd, re, g, k⟩ => by
  subst hH
  unfold gSub at g
  split at g
  · rw [rep_int rd] at rx
    rw [rep_int re] at ry
    exact op_sub pins s σ _ _ _ v u Q I rx ry ⟨_, _, rfl, rfl, k.now dj (of_int _) g⟩
  · exact g.elim
/-- ints, under C -/
def gC (C : Int → Int → Prop) (f : Int → Int → Int) : G2 := fun d e Q => match d, e with
  | .int i, .int j => C i j ∧ Q (.int (f i j))
  | _, _ => False
theorem op2_C {C : Int → Int → Prop} {f : Int → Int → Int} {h : Value → Value → Sem Value} (hh : OpR X h (rI C fun i j => .int (f i j))) : Op2 X h (gC C f) := fun T pins s σ H x y v u Q I rx ry ⟨F, R, d, e, Q', hH, dj, rd, re, g, k⟩ => by
  subst hH
  unfold gC at g
  split at g
  · rw [rep_int rd] at rx
    rw [rep_int re] at ry
    exact hh pins s σ _ _ _ v u Q I rx ry ⟨_, _, rfl, rfl, g.1, k.now dj (of_int _) g.2⟩
  · exact g.elim
theorem op_mulF : OpR X (binaryOp .Mult) (rI IntMulOk fun i j => .int (i * j)) := opI fun _ _ _ _ _ _ _ hc q => mul_int q hc
/-- // -/
def DivOk (_ j : Int) : Prop := j ≠ 0 ∧ j.natAbs.log2 < 9000
theorem op_divF : OpR X (binaryOp .FloorDiv) (rI DivOk fun i j => .int (i.fdiv j)) := opI fun _ _ _ _ _ _ _ hc q => floordiv_int hc.1 q (.inl (PyProof.noPylong_of_log2 hc.2))
abbrev gDiv : G2 := gC DivOk Int.fdiv
abbrev gMod : G2 := gC (fun _ j => j ≠ 0) Int.fmod
abbrev gPow : G2 := gC CPow fun i j => i ^ j.toNat
theorem op2_div : Op2 X (binaryOp .FloorDiv) gDiv := op2_C op_divF
theorem op2_mod : Op2 X (binaryOp .Mod) gMod := op2_C op_modN
theorem op2_pow : Op2 X (binaryOp .Pow) gPow := op2_C op_pow
def gMul : G2 := fun d e Q => match d, e with
  | .int i, .int j => IntMulOk i j ∧ Q (.int (i * j))
  | .lst xs, .int k => (-2 ^ 63 ≤ k ∧ k < 2 ^ 63 ∧ xs.length * k.toNat ≤ sizeLine) ∧ Q (.lst (List.replicate k.toNat xs).flatten)
  | .tup xs, .int k => (xs ≠ [] ∧ -1000 ≤ k ∧ k ≤ 1000 ∧ xs.length ≤ 1000) ∧ Q (.tup (List.replicate k.toNat xs).flatten)
  | _, _ => False
theorem Reps.rep {K : KC} {F : Hp} {vs : List V} {ds : List D} (h : Reps K F vs ds) : ∀ n : Nat, Reps K F (List.replicate n vs).flatten (List.replicate n ds).flatten
  | 0 => by simpa using Reps.nil
  | n + 1 => by
    rw [List.replicate_succ, List.flatten_cons, List.replicate_succ, List.flatten_cons]
    exact h.append (h.rep n)
theorem op2_mul : Op2 X (binaryOp .Mult) gMul := fun T pins s σ H x y v u Q I rx ry ⟨F, R, d, e, Q', hH, dj, rd, re, g, k⟩ => by
  subst hH
  unfold gMul at g
  split at g
  · rw [rep_int rd] at rx
    rw [rep_int re] at ry
    exact op_mulF pins s σ _ _ _ v u Q I rx ry ⟨_, _, rfl, rfl, g.1, k.now dj (of_int _) g.2⟩
  · obtain ⟨a, vs, rfl, ha, ra⟩ := rep_lst rd
    rw [rep_int re] at ry
    exact op_rep pins s σ _ _ _ v u Q I rx ry ⟨a, _, vs, rfl, rfl, jn_l ha, g.1.1, g.1.2.1, by rw [ra.length]; exact g.1.2.2, fun p hp => k.lst dj (ra.rep _) g.2 hp⟩
  · rename_i ds kk
    obtain ⟨a, vs, rfl, ha, ra⟩ := rep_tup rd
    rw [rep_int re] at ry
    obtain ⟨⟨g1, g2, g3, g4⟩, g⟩ := g
    have nv : vs ≠ [] := fun z => by
      have e0 := ra.length
      rw [z] at e0
      exact g1 (List.eq_nil_of_length_eq_zero e0.symm)
    by_cases h2 : 2 ≤ kk
    · exact op_repT pins s σ _ _ _ v u Q I rx ry ⟨a, _, vs, rfl, rfl, sq_t (K := kc T X) ha, nv, h2, g3, by rw [ra.length]; exact g4, fun p hp => k.tup dj (ra.rep _) g hp⟩
    · refine op_repSm pins s σ _ _ _ v u Q I rx ry ⟨a, _, vs, rfl, rfl, sq_t (K := kc T X) ha, nv, ?_⟩
      by_cases h1 : kk = 1
      · subst h1
        refine .inl ⟨rfl, k.now dj rd ?_⟩
        have e1 : (List.replicate (1 : Int).toNat ds).flatten = ds := by simp
        rw [e1] at g
        exact g
      · refine .inr ⟨by omega, g2, fun p hp => ?_⟩
        have e1 : (List.replicate kk.toNat ds).flatten = [] := by rw [show kk.toNat = 0 by omega]; rfl
        rw [e1] at g
        exact k.tup dj Reps.nil g hp
  · exact g.elim
def gNeg : G1 := fun d Q => match d with
  | .int i => Q (.int (-i))
  | _ => False
theorem un1_neg : UnR X (unaryOp .USub) (l1 (kc T X) gNeg) := fun pins s σ H x v Q I rx ⟨F, R, d, Q', hH, dj, rd, g, k⟩ => by
  subst hH
  unfold gNeg at g
  split at g
  · rw [rep_int rd] at rx
    exact un_neg pins s σ _ _ v Q I rx ⟨_, rfl, k.now dj (of_int _) g⟩
  · exact g.elim
end
end L3
namespace L3
open PySem PySem.Spec L2
open PyProof.Rows hiding St
section
variable {B : Bs} {T : List (Addr × Str)} {X : Cx} {W : WX} {a b c e : Expr} {es rest : List Expr} {ra rb rc re : RE} {rt : RT} {rs : RA} {pos : Pos}
/-! ### subscripts -/
def gIx : G2 := fun d e Q => match d, e with
  | .tup ds, .int i => match atI ds i with
    | some d => Q d
    | none => False
  | .lst ds, .int i => match atI ds i with
    | some d => Q d
    | none => False
  | .scr xs, .int i => match atI xs i with
    | some n => Q (.int n)
    | none => False
  | _, _ => False
theorem Reps.atI {K : KC} {F : Hp} {ds : List D} {vs : List V} {i : Int} {d : D} (h : Reps K F vs ds) (e : L2.atI ds i = some d) : ∃ v, L2.atI vs i = some v ∧ Rep K F v d := by
  unfold L2.atI at e ⊢
  rw [h.length]
  cases hj : ixN ds.length i with
  | none => rw [hj] at e; cases e
  | some j =>
    rw [hj] at e
    exact h.get e
theorem ix2 : IxR X (l2 (kc T X) gIx) := fun value slice pins s σ H x y v u Q I rx ry ⟨F, R, d, e, Q', hH, dj, rd, re, g, k⟩ hs => by
  subst hH
  unfold gIx at g
  split at g
  · rename_i ds i
    obtain ⟨a, vs, rfl, ha, ra⟩ := rep_tup rd
    rw [rep_int re] at ry
    split at g
    · rename_i d' hd
      obtain ⟨v', h1, h2⟩ := ra.atI hd
      exact ix_tup value slice pins s σ _ _ _ v u Q I rx ry ⟨a, vs, i, v', rfl, rfl, sq_t (K := kc T X) ha, h1, k.now dj h2 g⟩ hs
    · exact g.elim
  · rename_i ds i
    obtain ⟨a, vs, rfl, ha, ra⟩ := rep_lst rd
    rw [rep_int re] at ry
    split at g
    · rename_i d' hd
      obtain ⟨v', h1, h2⟩ := ra.atI hd
      exact ix_list value slice pins s σ _ _ _ v u Q I rx ry ⟨a, vs, i, v', rfl, rfl, sq_l (K := kc T X) ha, h1, k.now dj h2 g⟩ hs
    · exact g.elim
  · rename_i xs i
    obtain ⟨a, rfl, ha⟩ := rep_scr rd
    rw [rep_int re] at ry
    split at g
    · rename_i n hd
      refine ix_list value slice pins s σ _ _ _ v u Q I rx ry ⟨a, xs.map V.int, i, .int n, rfl, rfl, sq_s (K := kc T X) ha, ?_, k.now dj (of_int n) g⟩ hs
      unfold L2.atI at hd ⊢
      rw [List.length_map]
      cases hj : ixN xs.length i with
      | none => rw [hj] at hd; cases hd
      | some j =>
        rw [hj] at hd
        show (xs.map V.int)[j]? = some (V.int n)
        rw [List.getElem?_map, show xs[j]? = some n from hd]
        rfl
    · exact g.elim
  · exact g.elim
theorem de_ix (ha : DE B X W a ra) (hb : DE B X W b rb) (hs : PlainIx b) : DE B X W (.Subscript a b pos) (rOp gIx ra rb) := (pe_ix ix2 ha hb hs).imp fun _ _ _ h => lE_op h
/-! ### slices -/
abbrev RO := RG (Option Int)
abbrev repO : Hp → Option Int → Option Int → Prop := fun _ b c => b = c
abbrev DO (B : Bs) (X : Cx) (W : WX) (e : Option Expr) (r : RO) : Prop := PO X e (lf repO (kc B.T X) B W r)
theorem _root_.L2.PO.imp {X : Cx} {e : Option Expr} {t t' : TO} (h : PO X e t) (i : ∀ σ H Q, t' σ H Q → t σ H Q) : PO X e t' := ⟨fun pins s σ H Q I q => h.run pins s σ H Q I (i σ H Q q)⟩
def rPart (re : RE) : RO := fun ρ Q E => re ρ (fun d => match d with
  | .int i => Q (some i)
  | _ => False) E
theorem do_some (h : DE B X W e re) : DO B X W (some e) (rPart re) := (po_some h).imp fun σ H Q ⟨F, R, ρ, Q', E', hH, w, r, k⟩ => by
  subst hH
  refine ⟨F, R, ρ, _, E', rfl, w, r, fun v d F' x dj rv q => ?_, k.ex⟩
  cases d with
  | int i => exact ⟨i, rep_int rv, k.ok (some i) (some i) F' x dj rfl q⟩
  | _ => exact (show False from q).elim
theorem do_none : DO B X W none (rC none) := po_none.imp fun σ H Q ⟨F, R, ρ, Q', E', hH, w, r, k⟩ => by
  subst hH
  exact k.ok none none F (.refl _) w.dj rfl r
def cutD {α : Type} (xs : List α) (lo hi : Option Int) : List α := List.take (HT.sIx xs.length xs.length hi - HT.sIx xs.length 0 lo) (List.drop (HT.sIx xs.length 0 lo) xs)
theorem Reps.cut {K : KC} {F : Hp} {ds : List D} {vs : List V} (h : Reps K F vs ds) (lo hi : Option Int) : Reps K F (cutV vs lo hi) (cutD ds lo hi) := by
  unfold cutV cutD
  rw [h.length]
  exact Reps.take _ (Reps.drop _ h)
def gSl (d : D) (lo hi : Option Int) (Q : D → Prop) : Prop := match d with
  | .tup ds => Q (.tup (cutD ds lo hi))
  | .lst ds => Q (.lst (cutD ds lo hi))
  | _ => False
theorem sl2 : SlR X (fun x lo hi H Q => ∃ F R d Q', H = jn F R ∧ Dj F R ∧ Rep (kc T X) F x d ∧ gSl d lo hi Q' ∧ KV1 (kc T X) F R Q' Q) := fun pins s σ H x v vl vu lo hi sl Q I rx hs pl pu ⟨F, R, d, Q', hH, dj, rd, g, k⟩ => by
  subst hH
  unfold gSl at g
  split at g
  · rename_i ds
    obtain ⟨a, vs, rfl, ha, ra⟩ := rep_tup rd
    refine sl_tupA pins s σ _ _ v vl vu lo hi sl Q I rx hs pl pu ⟨a, vs, rfl, sq_t (K := kc T X) ha, fun z => ?_, fun _ p hp => k.tup dj (ra.cut lo hi) g hp⟩
    refine k.now dj rd ?_
    have e0 : cutD ds lo hi = ds := by
      unfold cutD
      rw [← ra.length, z.1, z.2, List.drop_zero, Nat.sub_zero, ra.length, List.take_length]
    rw [e0] at g
    exact g
  · obtain ⟨a, vs, rfl, ha, ra⟩ := rep_lst rd
    exact sl_list pins s σ _ _ v vl vu lo hi sl Q I rx hs pl pu ⟨a, vs, rfl, sq_l (K := kc T X) ha, fun p hp => k.lst dj (ra.cut lo hi) g hp⟩
  · exact g.elim
def rSl (re : RE) (rl rh : RO) : RE := fun ρ Q E => re ρ (fun d => rl ρ (fun l => rh ρ (fun h => gSl d l h Q) E) E) E
theorem de_slice {lo hi : Option Expr} {rl rh : RO} {p2 : Pos} (he : DE B X W e re) (hl : DO B X W lo rl) (hh : DO B X W hi rh) : DE B X W (.Subscript e (.Slice lo hi none p2) pos) (rSl re rl rh) := (pe_slice sl2 he hl hh).imp fun σ H Q h => by
  refine lf_then (k := fun d ρ Q E => rl ρ (fun l => rh ρ (fun h => gSl d l h Q) E) E) h fun v d F R ρ Q' E' w rv q k => ?_
  refine ⟨F, R, ρ, _, E', rfl, w, q, fun l l' F1 x1 dj1 e1 q1 => ?_, k.ex⟩
  cases e1
  refine ⟨F1, R, ρ, _, E', rfl, w.ext x1 dj1, q1, fun m m' F2 x2 dj2 e2 q2 => ?_, (k.ext x1).ex⟩
  cases e2
  exact ⟨F2, R, d, Q', rfl, dj2, Rep.ext (x1.trans x2) _ _ rv, q2, ((k.ext x1).ext x2).kv⟩
/-! ### calls of built-ins -/
abbrev GC := List D → (D → Prop) → Prop
def lC (K : KC) (g : GC) : List V → Hp → VK → Prop := fun vs H Q => ∃ F R ds Q', H = jn F R ∧ Dj F R ∧ Reps K F vs ds ∧ g ds Q' ∧ KV1 K F R Q' Q
def rCB (g : GC) (rs : RA) : RE := fun ρ Q E => rs ρ (fun ds => g ds Q) E
theorem lE_cb {K : KC} {g : GC} {σ : St} {H : Hp} {Q : VK} (h : lE K B W (rCB g rs) σ H Q) : tCB (lC K g) (lA K B W rs) σ H Q := by
  refine lf_then (k := fun ds _ Q _ => g ds Q) h fun vs ds F R ρ Q' E' w rv q k => ?_
  exact ⟨F, R, ds, Q', rfl, w.dj, rv, q, k.kv⟩
theorem de_cb {x : Str} {p : Pos} {id : String} {g : GC} (hc : CallR X (.builtin id) (lC (kc B.T X) g)) (hg : Gl X x) (hm : X.mg x = none) (hb : bootBuiltins x = some (.builtin id)) (ha : DA B X W (e :: es) rs) (hn : x ≠ "__name__" := by decide) (hd : (x == ("__debug__" : Str)) = false := by decide)
    (he : starEach (e :: es) X.env = (false, eval e X.env) :: starEach es X.env := by rfl) (hpl : (backTo pos (starEach es X.env)).any (·.1) = false := by rfl) : DE B X W (.Call (.Name x p) (e :: es) [] pos) (rCB g rs) :=
  (pe_callB hc hg hm hb ha hn hd he hpl).imp fun _ _ _ h => lE_cb h
theorem de_ct {x : Str} {p : Pos} {T : String} {g : GC} (hc : CallR X (.type T) (lC (kc B.T X) g)) (hg : Gl X x) (hm : X.mg x = none) (hb : bootBuiltins x = some (.type T)) (ha : DA B X W (e :: es) rs) (hn : x ≠ "__name__" := by decide) (hd : (x == ("__debug__" : Str)) = false := by decide)
    (he : starEach (e :: es) X.env = (false, eval e X.env) :: starEach es X.env := by rfl) (hpl : (backTo pos (starEach es X.env)).any (·.1) = false := by rfl) : DE B X W (.Call (.Name x p) (e :: es) [] pos) (rCB g rs) :=
  (pe_callTy hc hg hm hb ha hn hd he hpl).imp fun _ _ _ h => lE_cb h
/-- a built-in that the module has imported -/
theorem de_cf {x : Str} {p : Pos} {id : String} {g : GC} (hc : CallR X (.builtin id) (lC (kc B.T X) g)) (hg : Gl X x) (hm : X.mg x = some (.builtin id)) (ha : DA B X W (e :: es) rs) (hd : (x == ("__debug__" : Str)) = false := by decide)
    (he : starEach (e :: es) X.env = (false, eval e X.env) :: starEach es X.env := by rfl) (hpl : (backTo pos (starEach es X.env)).any (·.1) = false := by rfl) : DE B X W (.Call (.Name x p) (e :: es) [] pos) (rCB g rs) :=
  (pe_callBfun hc hg hm ha hd he hpl).imp fun _ _ _ h => lE_cb h
def gLen : GC := fun ds Q => match ds with
  | [.tup xs] => Q (.int xs.length)
  | [.lst xs] => Q (.int xs.length)
  | [.scr xs] => Q (.int xs.length)
  | _ => False
theorem reps_one {K : KC} {F : Hp} {vs : List V} {d : D} (h : Reps K F vs [d]) : ∃ v, vs = [v] ∧ Rep K F v d := by
  obtain ⟨v, r, rfl, h1, h2⟩ := reps_cons h
  rw [reps_nil h2]
  exact ⟨v, rfl, h1⟩
theorem reps_two {K : KC} {F : Hp} {vs : List V} {d e : D} (h : Reps K F vs [d, e]) : ∃ v u, vs = [v, u] ∧ Rep K F v d ∧ Rep K F u e := by
  obtain ⟨v, r, rfl, h1, h2⟩ := reps_cons h
  obtain ⟨u, rfl, h3⟩ := reps_one h2
  exact ⟨v, u, rfl, h1, h3⟩
theorem cr_len : CallR X (.builtin "len") (lC (kc T X) gLen) := fun pins s σ H xs us Q I r ⟨F, R, ds, Q', hH, dj, rd, g, k⟩ => by
  subst hH
  unfold gLen at g
  split at g
  · obtain ⟨v, rfl, h⟩ := reps_one rd
    obtain ⟨a, vs, rfl, ha, ra⟩ := rep_tup h
    refine call_len_seq pins s σ _ _ us Q I r ⟨a, vs, rfl, .inr (sq_t (K := kc T X) ha), ?_⟩
    rw [ra.length]
    exact k.now dj (of_int _) g
  · obtain ⟨v, rfl, h⟩ := reps_one rd
    obtain ⟨a, vs, rfl, ha, ra⟩ := rep_lst h
    refine call_len_seq pins s σ _ _ us Q I r ⟨a, vs, rfl, .inl (sq_l (K := kc T X) ha), ?_⟩
    rw [ra.length]
    exact k.now dj (of_int _) g
  · obtain ⟨v, rfl, h⟩ := reps_one rd
    obtain ⟨a, rfl, ha⟩ := rep_scr h
    refine call_len_seq pins s σ _ _ us Q I r ⟨a, _, rfl, .inl (sq_s (K := kc T X) ha), ?_⟩
    rw [List.length_map]
    exact k.now dj (of_int _) g
  · exact g.elim
def gAbs : GC := fun ds Q => match ds with
  | [.int i] => Q (.int (if i < 0 then -i else i))
  | _ => False
theorem cr_abs : CallR X (.builtin "abs") (lC (kc T X) gAbs) := fun pins s σ H xs us Q I r ⟨F, R, ds, Q', hH, dj, rd, g, k⟩ => by
  subst hH
  unfold gAbs at g
  split at g
  · obtain ⟨v, rfl, h⟩ := reps_one rd
    rw [rep_int h] at r
    exact call_abs pins s σ _ _ us Q I r ⟨_, rfl, k.now dj (of_int _) g⟩
  · exact g.elim
def gInt : GC := fun ds Q => match ds with
  | [.int i] => Q (.int i)
  | [.bl b] => Q (.int (if b then 1 else 0))
  | _ => False
theorem cr_int : CallR X (.type "int") (lC (kc T X) gInt) := fun pins s σ H xs us Q I r ⟨F, R, ds, Q', hH, dj, rd, g, k⟩ => by
  subst hH
  unfold gInt at g
  split at g
  · obtain ⟨v, rfl, h⟩ := reps_one rd
    rw [rep_int h] at r
    exact call_int1 pins s σ _ _ us Q I r (.inl ⟨_, rfl, k.now dj (of_int _) g⟩)
  · obtain ⟨v, rfl, h⟩ := reps_one rd
    rw [rep_bl h] at r
    exact call_int1 pins s σ _ _ us Q I r (.inr ⟨_, rfl, k.now dj (of_int _) g⟩)
  · exact g.elim
def gMax2 : GC := fun ds Q => match ds with
  | [.int i, .int j] => Q (.int (if j > i then j else i))
  | _ => False
def gMin2 : GC := fun ds Q => match ds with
  | [.int i, .int j] => Q (.int (if j < i then j else i))
  | _ => False
theorem cr_max2 (hc : X.calm = true) : CallR X (.builtin "max") (lC (kc T X) gMax2) := fun pins s σ H xs us Q I r ⟨F, R, ds, Q', hH, dj, rd, g, k⟩ => by
  subst hH
  unfold gMax2 at g
  split at g
  · obtain ⟨v, u, rfl, h, h'⟩ := reps_two rd
    rw [rep_int h, rep_int h'] at r
    exact call_max2 hc pins s σ _ _ us Q I r ⟨_, _, rfl, k.now dj (of_int _) g⟩
  · exact g.elim
theorem cr_min2 (hc : X.calm = true) : CallR X (.builtin "min") (lC (kc T X) gMin2) := fun pins s σ H xs us Q I r ⟨F, R, ds, Q', hH, dj, rd, g, k⟩ => by
  subst hH
  unfold gMin2 at g
  split at g
  · obtain ⟨v, u, rfl, h, h'⟩ := reps_two rd
    rw [rep_int h, rep_int h'] at r
    exact call_min2 hc pins s σ _ _ us Q I r ⟨_, _, rfl, k.now dj (of_int _) g⟩
  · exact g.elim
def gGcd : GC := fun ds Q => match ds with
  | [.int i, .int j] => Q (.int (i.natAbs.gcd j.natAbs : Nat))
  | _ => False
theorem cr_gcd3 : CallR X (.builtin "math.gcd") (lC (kc T X) gGcd) := fun pins s σ H xs us Q I r ⟨F, R, ds, Q', hH, dj, rd, g, k⟩ => by
  subst hH
  unfold gGcd at g
  split at g
  · obtain ⟨v, u, rfl, h, h'⟩ := reps_two rd
    rw [rep_int h, rep_int h'] at r
    exact cr_gcd pins s σ _ _ us Q I r ⟨_, _, rfl, k.now dj (of_int _) g⟩
  · exact g.elim
def gTuple : GC := fun ds Q => match ds with
  | [.tup xs] => Q (.tup xs)
  | [.lst xs] => Q (.tup xs)
  | _ => False
theorem cr_tuple : CallR X (.type "tuple") (lC (kc T X) gTuple) := fun pins s σ H xs us Q I r ⟨F, R, ds, Q', hH, dj, rd, g, k⟩ => by
  subst hH
  unfold gTuple at g
  split at g
  · obtain ⟨v, rfl, h⟩ := reps_one rd
    obtain ⟨a, vs, rfl, ha, ra⟩ := rep_tup h
    exact call_tuple_of pins s σ _ _ us Q I r ⟨a, vs, rfl, .inr ⟨sq_t (K := kc T X) ha, k.now dj h g⟩⟩
  · obtain ⟨v, rfl, h⟩ := reps_one rd
    obtain ⟨a, vs, rfl, ha, ra⟩ := rep_lst h
    exact call_tuple_of pins s σ _ _ us Q I r ⟨a, vs, rfl, .inl ⟨sq_l (K := kc T X) ha, fun p hp => k.tup dj ra g hp⟩⟩
  · exact g.elim
def blOf : D → Option Bool
  | .bl b => some b
  | _ => none
def allBl : List D → Option (List Bool)
  | [] => some []
  | d :: r => match blOf d, allBl r with
    | some b, some bs => some (b :: bs)
    | _, _ => none
theorem rep_blOf {K : KC} {F : Hp} {v : V} {d : D} {b : Bool} (h : Rep K F v d) (e : blOf d = some b) : v = .bl b := by
  cases d with
  | bl c =>
    cases Option.some.inj e
    exact rep_bl h
  | _ => cases e
theorem reps_bls {K : KC} {F : Hp} : ∀ (ds : List D) {vs : List V} {bs : List Bool}, Reps K F vs ds → allBl ds = some bs → vs = bs.map V.bl
  | [], vs, bs, h, e => by
    have e' : [] = bs := Option.some.inj e
    rw [reps_nil h, ← e']
    rfl
  | d :: r, vs, bs, h, e => by
    obtain ⟨v, r', rfl, h1, h2⟩ := reps_cons h
    unfold allBl at e
    cases h4 : blOf d with
    | none => rw [h4] at e; cases e
    | some b =>
      cases h3 : allBl r with
      | none => rw [h4, h3] at e; cases e
      | some bs' =>
        rw [h4, h3] at e
        have e' : b :: bs' = bs := Option.some.inj e
        rw [← e', rep_blOf h1 h4, reps_bls r h2 h3]
        rfl
def gAll : GC := fun ds Q => match ds with
  | [.lst xs] => match allBl xs with
    | some bs => Q (.bl (bs.all id))
    | none => False
  | _ => False
theorem cr_all3 (hc : X.calm = true) : CallR X (.builtin "all") (lC (kc T X) gAll) := fun pins s σ H xs us Q I r ⟨F, R, ds, Q', hH, dj, rd, g, k⟩ => by
  subst hH
  unfold gAll at g
  split at g
  · split at g
    · rename_i bs hb
      obtain ⟨v, rfl, h⟩ := reps_one rd
      obtain ⟨a, vs, rfl, ha, ra⟩ := rep_lst h
      rw [reps_bls _ ra hb] at ha
      exact cr_all hc pins s σ _ _ us Q I r ⟨a, bs, rfl, sq_l (K := kc T X) ha, k.now dj (of_bl _) g⟩
    · exact g.elim
  · exact g.elim
/-- list(x): a new list -/
def itemsOf : D → Option (List D)
  | .tup xs => some xs
  | .lst xs => some xs
  | .scr xs => some (xs.map D.int)
  | _ => none
def rListOf (re : RE) : RA := fun ρ Q E => re ρ (fun d => match itemsOf d with
  | some ds => ds.length ≤ sizeLine ∧ Q ds
  | none => False) E
theorem items_rep {K : KC} {F R : Hp} {v : V} {d : D} {ds : List D} (h : Rep K F v d) (e : itemsOf d = some ds) : ∃ p vs, v = .ref p ∧ (SqL K.K (jn F R) p vs ∨ SqT K.K (jn F R) p vs) ∧ Reps K F vs ds := by
  cases d with
  | tup xs =>
    cases Option.some.inj e
    obtain ⟨a, vs, rfl, ha, ra⟩ := rep_tup h
    exact ⟨a, vs, rfl, .inr (sq_t ha), ra⟩
  | lst xs =>
    cases Option.some.inj e
    obtain ⟨a, vs, rfl, ha, ra⟩ := rep_lst h
    exact ⟨a, vs, rfl, .inl (sq_l ha), ra⟩
  | scr xs =>
    cases Option.some.inj e
    obtain ⟨a, rfl, ha⟩ := rep_scr h
    exact ⟨a, _, rfl, .inl (sq_s ha), reps_ints⟩
  | _ => cases e
theorem fe_list {p : Pos} (hg : Gl X "list") (hm : X.mg "list" = none) (ha : DE B X W e re) (hs : starEach [e] X.env = [(false, eval e X.env)] := by rfl) (hpl : (backTo pos (starEach [] X.env)).any (·.1) = false := by rfl) : FE B X W (.Call (.Name "list" p) [e] [] pos) (rListOf re) :=
  (pe_callTy call_list_of hg hm (by decide +kernel) (pa_cons ha pa_nil hs) (by decide) (by decide) hs hpl).imp fun σ H Q ⟨F, R, ρ, Q', E', hH, w, r, kk, kx⟩ => by
    subst hH
    refine ⟨F, R, ρ, _, E', rfl, w, r, fun v d F' x dj rv q => ?_, kx⟩
    split at q
    · rename_i ds hd
      obtain ⟨q0, vs, rfl, hsq, hr⟩ := items_rep (R := R) rv hd
      exact ⟨q0, vs, rfl, hsq, fun l hl => kk l vs ds F' x dj hr (by rw [hr.length]; exact q.1) q.2 hl⟩
    · exact q.elim
/-! ### isinstance of a built-in class -/
def tyD : D → String
  | .non => "NoneType" | .bl _ => "bool" | .int _ => "int" | .str _ => "str" | .tup _ => "tuple" | .lst _ => "list" | .scr _ => "list" | .dct _ => "dict" | .pen => "dict" | .ins _ _ => "" | .exc _ _ => ""
def noIns : D → Bool
  | .ins _ _ => false
  | .exc _ _ => false
  | _ => true
def isTy (T : String) (d : D) : Bool := tyD d == T || (T == "int" && tyD d == "bool")
theorem tyx_of {K : KC} {F R : Hp} {v : V} {d : D} (h : Rep K F v d) (hd : noIns d = true) : TyX K.K (jn F R) v (.type (tyD d)) := by
  cases d with
  | non => rw [rep_non h]; exact .base .non
  | bl b => rw [rep_bl h]; exact .base (.bl b)
  | int i => rw [rep_int h]; exact .base (.int i)
  | str x => rw [rep_str h]; exact .base (.str x)
  | tup ds =>
    obtain ⟨a, vs, rfl, ha, _⟩ := rep_tup h
    exact .base (.tup (jn_l ha))
  | lst ds =>
    obtain ⟨a, vs, rfl, ha, _⟩ := rep_lst h
    exact .base (.lst (jn_l ha))
  | scr xs =>
    obtain ⟨a, rfl, ha⟩ := rep_scr h
    rcases sq_s (R := R) ha with (h | ⟨o, h⟩) | ⟨o, its, n, h1, h2, _⟩
    · exact .base (.lst h)
    · exact .base (.frz h)
    · exact .kList h1 h2
  | dct kvs =>
    unfold Rep at h
    obtain ⟨a, kvs, rfl, ha, _⟩ := h
    exact .base (.dK (jn_l ha))
  | pen =>
    unfold Rep at h
    obtain ⟨a, kvs, rfl, ha, _⟩ := h
    exact .base (.dK (jn_l ha))
  | ins _ _ => cases hd
  | exc _ _ => cases hd
def rIs (T : String) (re : RE) : RE := fun ρ Q E => re ρ (fun d => noIns d = true ∧ Q (.bl (isTy T d))) E
def rIs2 (T U : String) (re : RE) : RE := fun ρ Q E => re ρ (fun d => noIns d = true ∧ Q (.bl (isTy T d || isTy U d))) E
def tyNames : List String := ["NoneType", "bool", "int", "str", "tuple", "list", "dict"]
theorem tyD_mem {d : D} (h : noIns d = true) : tyD d ∈ tyNames := by
  cases d with
  | ins _ _ => cases h
  | exc _ _ => cases h
  | _ => simp [tyD, tyNames]
theorem kit_all {T : String} (h : tyNames.all (fun U => kitB U T == some (U == T || (T == "int" && U == "bool"))) = true) {K : PySem.W.Frag} {d : D} (hd : noIns d = true) : PySem.W.kitOne K (.type (tyD d)) (.type T) = some (isTy T d) := by
  have := List.all_eq_true.mp h _ (tyD_mem hd)
  exact kit_ty (beq_iff_eq.mp this)
theorem de_is {p p2 : Pos} {T : String} {x : Str} (hg : Gl X "isinstance") (hm : X.mg "isinstance" = none) (hgx : Gl X x) (hmx : X.mg x = none) (hv : bootBuiltins x = some (.type T)) (ht : tyNames.all (fun U => kitB U T == some (U == T || (T == "int" && U == "bool"))) = true) (ha : DE B X W a ra)
    (hnx : x ≠ "__name__" := by decide) (hdx : (x == ("__debug__" : Str)) = false := by decide)
    (h1 : starEach [a, .Name x p2] X.env = (false, eval a X.env) :: starEach [.Name x p2] X.env := by rfl) (hpl : (backTo pos (starEach [.Name x p2] X.env)).any (·.1) = false := by rfl) :
    DE B X W (.Call (.Name "isinstance" p) [a, .Name x p2] [] pos) (rIs T ra) :=
  (pe_callB call_isi hg hm (by decide +kernel) (pa_cons ha (pa_cons (pe_bltn (v := .ty T) hgx hmx hv rfl hnx hdx) pa_nil) h1) (by decide) (by decide) h1 hpl).imp fun σ H Q ⟨F, R, ρ, Q', E', hH, w, r, k⟩ => by
    subst hH
    refine ⟨F, R, ρ, _, E', rfl, w, r, fun v d F' x dj rv q => ?_, k.ex⟩
    exact ⟨v, .ty T, _, _, _, rfl, .ty T, tyx_of (K := kc B.T X) rv q.1, kit_all ht q.1, k.ok _ _ F' x dj (of_bl _) q.2⟩
theorem de_is2 {p p2 p3 p4 : Pos} {k1 : Nat} {T U : String} {x y : Str} (hg : Gl X "isinstance") (hm : X.mg "isinstance" = none) (hgx : Gl X x) (hmx : X.mg x = none) (hv : bootBuiltins x = some (.type T)) (hgy : Gl X y) (hmy : X.mg y = none) (hvy : bootBuiltins y = some (.type U))
    (ht : tyNames.all (fun Z => kitB Z T == some (Z == T || (T == "int" && Z == "bool"))) = true) (hu : tyNames.all (fun Z => kitB Z U == some (Z == U || (U == "int" && Z == "bool"))) = true) (ha : DE B X W a ra)
    (hnx : x ≠ "__name__" := by decide) (hdx : (x == ("__debug__" : Str)) = false := by decide) (hny : y ≠ "__name__" := by decide) (hdy : (y == ("__debug__" : Str)) = false := by decide)
    (h1 : starEach [a, .Tuple [.Name x p2, .Name y p3] k1 p4] X.env = (false, eval a X.env) :: starEach [.Tuple [.Name x p2, .Name y p3] k1 p4] X.env := by rfl) (hpl : (backTo pos (starEach [.Tuple [.Name x p2, .Name y p3] k1 p4] X.env)).any (·.1) = false := by rfl) :
    DE B X W (.Call (.Name "isinstance" p) [a, .Tuple [.Name x p2, .Name y p3] k1 p4] [] pos) (rIs2 T U ra) :=
  (pe_callB call_isiT hg hm (by decide +kernel) (pa_cons ha (pa_cons (pe_tup (pa_cons (pe_bltn (v := .ty T) hgx hmx hv rfl hnx hdx) (pa_cons (pe_bltn (v := .ty U) hgy hmy hvy rfl hny hdy) pa_nil))) pa_nil) h1) (by decide) (by decide) h1 hpl).imp fun σ H Q ⟨F, R, ρ, Q', E', hH, w, r, k⟩ => by
    subst hH
    refine ⟨F, R, ρ, _, E', rfl, w, r, fun v d F' x dj rv q => ?_, k.ex⟩
    refine ⟨by show 2 ≤ sizeLine; decide, fun t ht' => ?_⟩
    have e0 : Ext (kc B.T X) F' (upd F' t (.tup [.ty T, .ty U])) := Ext.newF ht'
    have eH := jn_newF (o := .tup [.ty T, .ty U]) ht'
    have q' := k.ok (.bl (isTy T d || isTy U d)) _ _ (x.trans e0) (dj.newF ht') (of_bl _) q.2
    rw [eH]
    refine ⟨v, t, _, _, _, _, rfl, jn_l upd_same, .cons (.ty T) (.cons (.ty U) .nil), tyx_of (K := kc B.T X) (Rep.ext e0 _ _ rv) q.1, ?_, q'⟩
    refine kitAny_cons (kit_all ht q.1) (fun e1 => ?_) (fun e1 => by rw [e1]; rfl)
    refine kitAny_cons (kit_all hu q.1) (fun e2 => ?_) (fun e2 => by rw [e1, e2]; rfl)
    rw [e1, e2]
    exact kitAny_nil
/-! ### the text's own defs -/
/-- what a def promises, over data: its arguments, the wish of its value, the wish of its exception -/
abbrev Sp3 := List D → (D → Prop) → (XD → Prop) → Prop
def lSp (K : KC) (n : Nat) (sp : Sp3) : Sp := fun vs H Q E => ∃ F R ds Q' E', H = jn F R ∧ Dj F R ∧ LamX.Tabs K.T F ∧ Reps K F vs ds ∧ vs.length = n ∧ sp ds Q' E' ∧ KV1 K F R Q' Q ∧
  ∀ x cls od F', Ext K F F' → Dj F' R → RepX K F' cls od x → E' x → E cls od (jn F' R)
def rCall (n : Nat) (sp : Sp3) (rs : RA) : RE := fun ρ Q E => rs ρ (fun ds => ds.length = n ∧ sp ds Q E) E
theorem de_call {x : Str} {p : Pos} {k n : Nat} {f : Addr} {fd : FuncData} {ps : List Str} {sp : Sp3} (G : FnOk X.prog X.w X.K X.mg X.base (L2.CX X.prog X.w) k f fd ps (lSp (kc B.T X) n sp)) (hr : Room k X.A) (hg : Gl X x) (hm : X.mg x = some (.ref f)) (hk : PySem.W.keepIn X.K (.ref f) = true) (hb : Binds X.K fd ps []) (tk : Takes X W)
    (ha : DA B X W (e :: es) rs) (hd : (x == ("__debug__" : Str)) = false := by decide)
    (he : starEach (e :: es) X.env = (false, eval e X.env) :: starEach es X.env := by rfl) (hpl : (backTo pos (starEach es X.env)).any (·.1) = false := by rfl) : DE B X W (.Call (.Name x p) (e :: es) [] pos) (rCall n sp rs) :=
  (pe_callS G hr hg hm hk hb (fun σ => passAt tk σ) ha hd he hpl).imp fun σ H Q h => by
    refine lf_then (k := fun ds _ Q E => ds.length = n ∧ sp ds Q E) h fun vs ds F R ρ Q' E' w rv q k => ?_
    exact ⟨F, R, ds, Q', E', rfl, w.dj, w.tb, rv, by rw [rv.length]; exact q.1, q.2, k.kv, k.ex⟩
end
end L3
namespace L3
open PySem PySem.Spec L2
open PyProof.Rows hiding St
/-! ### statements over data -/
structure En3 where
  nx : Env3 → Prop
  rt : D → Prop
  ex : XD → Prop
  bk : Env3 → Prop := fun _ => False
  ct : Env3 → Prop := fun _ => False
abbrev RS := En3 → Env3 → Prop
structure SK (K : KC) (B : Bs) (W : WX) (D : Ends) (N : En3) : Prop where
  nx : ∀ σ F R ρ, Wd K B σ F R ρ → N.nx ρ → D.nx σ (jn F R)
  rt : ∀ v d σ F R ρ, Wd K B σ F R ρ → Rep K F v d → N.rt d → D.rt v (jn F R)
  ex : ∀ x cls od σ F R ρ, Wd K B σ F R ρ → RepX K F cls od x → N.ex x → W cls od σ (jn F R)
  bk : ∀ σ F R ρ, Wd K B σ F R ρ → N.bk ρ → D.bk σ (jn F R)
  ct : ∀ σ F R ρ, Wd K B σ F R ρ → N.ct ρ → D.ct σ (jn F R)
def lS (K : KC) (B : Bs) (W : WX) (r : RS) : TS := fun D σ H => ∃ F R ρ N, H = jn F R ∧ Wd K B σ F R ρ ∧ r N ρ ∧ SK K B W D N
abbrev DS (B : Bs) (X : Cx) (W : WX) (st : Stmt) (r : RS) : Prop := PS X st (lS (kc B.T X) B W r)
abbrev DSs (B : Bs) (X : Cx) (W : WX) (st : List Stmt) (r : RS) : Prop := PSs X st (lS (kc B.T X) B W r)
section
variable {K : KC} {B : Bs} {W : WX} {σ : St} {F R : Hp} {ρ : Env3} {D0 : Ends} {N : En3}
/-- an expression's reading, from a statement's -/
theorem SK.lf {α β : Type} {rep : Hp → β → α → Prop} {r : RG α} {Q' : α → Prop} {Q : β → Hp → Prop} (k : SK K B W D0 N) (w : Wd K B σ F R ρ) (h : r ρ Q' N.ex)
    (hq : ∀ v d F', Ext K F F' → Wd K B σ F' R ρ → rep F' v d → Q' d → Q v (jn F' R)) : lf rep K B W r σ (jn F R) Q :=
  ⟨F, R, ρ, Q', N.ex, rfl, w, h, fun v d F' x dj rv q => hq v d F' x (w.ext x dj) rv q, fun x cls od F' e dj rx q => k.ex x cls od σ F' R ρ (w.ext e dj) rx q⟩
theorem Wd.setV (w : Wd K B σ F R ρ) {v : V} {d : D} (r : Rep K F v d) (i : Nat) : Wd K B (σ.set i (some v)) F R (ρ.set i (.val d)) where
  tb := w.tb
  ex := w.ex
  fr := w.fr
  dj := w.dj
  len := by rw [List.length_set, List.length_set]; exact w.len
  val := fun j e h => by
    by_cases hj : i = j
    · subst hj
      by_cases hl : i < ρ.length
      · rw [List.getElem?_set_self hl] at h
        cases h
        exact ⟨v, List.getElem?_set_self (by rw [w.len]; exact hl), r⟩
      · rw [List.getElem?_eq_none (by rw [List.length_set]; omega)] at h
        cases h
    · rw [List.getElem?_set_ne hj] at h
      rw [List.getElem?_set_ne hj]
      exact w.val j e h
  own := fun j ds h => by
    by_cases hj : i = j
    · subst hj
      by_cases hl : i < ρ.length
      · rw [List.getElem?_set_self hl] at h
        cases h
      · rw [List.getElem?_eq_none (by rw [List.length_set]; omega)] at h
        cases h
    · rw [List.getElem?_set_ne hj] at h
      rw [List.getElem?_set_ne hj]
      exact w.own j ds h
  obj := fun j c a fs h => by
    by_cases hj : i = j
    · subst hj
      by_cases hl : i < ρ.length
      · rw [List.getElem?_set_self hl] at h
        cases h
      · rw [List.getElem?_eq_none (by rw [List.length_set]; omega)] at h
        cases h
    · rw [List.getElem?_set_ne hj] at h
      rw [List.getElem?_set_ne hj]
      exact w.obj j c a fs h
  sep := fun j k a dj dk h1 h2 h3 h4 => by
    have key : ∀ {j : Nat} {ds : List D}, (ρ.set i (.val d))[j]? = some (.own ds) → i ≠ j ∧ ρ[j]? = some (.own ds) := fun {j ds} h => by
      by_cases hj : i = j
      · subst hj
        by_cases hl : i < ρ.length
        · rw [List.getElem?_set_self hl] at h
          cases h
        · rw [List.getElem?_eq_none (by rw [List.length_set]; omega)] at h
          cases h
      · rw [List.getElem?_set_ne hj] at h
        exact ⟨hj, h⟩
    obtain ⟨n1, g1⟩ := key h1
    obtain ⟨n2, g2⟩ := key h2
    rw [List.getElem?_set_ne n1] at h3
    rw [List.getElem?_set_ne n2] at h4
    exact w.sep j k a dj dk g1 g2 h3 h4
/-- a new list of one's own -/
theorem Wd.setN (w : Wd K B σ F R ρ) {vs : List V} {ds : List D} (r : Reps K F vs ds) {p : Addr} (hp : jn F R p = none) (i : Nat) (hi : i < ρ.length) : Wd K B (σ.set i (some (.ref p))) F (upd R p (.lst vs)) (ρ.set i (.own ds)) where
  tb := w.tb
  ex := w.ex
  fr := fun a o h => by
    have : a ≠ p := fun z => by
      have h2 := w.fr a o h
      rw [z, (jn_none hp).2] at h2
      cases h2
    rw [upd_ne this]
    exact w.fr a o h
  dj := w.dj.updR (jn_none hp).1
  len := by rw [List.length_set, List.length_set]; exact w.len
  val := fun j e h => by
    by_cases hj : i = j
    · subst hj
      rw [List.getElem?_set_self hi] at h
      cases h
    · rw [List.getElem?_set_ne hj] at h
      rw [List.getElem?_set_ne hj]
      exact w.val j e h
  own := fun j es h => by
    by_cases hj : i = j
    · subst hj
      rw [List.getElem?_set_self hi] at h
      cases h
      refine ⟨p, vs, List.getElem?_set_self (by rw [w.len]; exact hi), upd_same, r, ?_⟩
      cases e : B.Fr p with
      | none => rfl
      | some o =>
        have h2 := w.fr p o e
        rw [(jn_none hp).2] at h2
        cases h2
    · rw [List.getElem?_set_ne hj] at h
      rw [List.getElem?_set_ne hj]
      obtain ⟨a, us, e1, e2, e3, e4⟩ := w.own j es h
      have : a ≠ p := fun z => by rw [z, (jn_none hp).2] at e2; cases e2
      exact ⟨a, us, e1, by rw [upd_ne this]; exact e2, e3, e4⟩
  obj := fun j c a fs h => by
    by_cases hj : i = j
    · subst hj
      rw [List.getElem?_set_self hi] at h
      cases h
    · rw [List.getElem?_set_ne hj] at h
      rw [List.getElem?_set_ne hj]
      obtain ⟨z, dx, ws, e1, e2, e3, e4⟩ := w.obj j c a fs h
      have n1 : a ≠ p := fun z => by rw [z, (jn_none hp).2] at e2; cases e2
      have n2 : dx ≠ p := fun z => by rw [z, (jn_none hp).2] at e3; cases e3
      exact ⟨z, dx, ws, e1, by rw [upd_ne n1]; exact e2, by rw [upd_ne n2]; exact e3, e4⟩
  sep := fun j k a dj dk h1 h2 h3 h4 => by
    have key : ∀ {j : Nat} {ds' : List D}, (ρ.set i (.own ds))[j]? = some (.own ds') → (σ.set i (some (.ref p)))[j]? = some (some (.ref a)) → (i = j ∧ a = p) ∨ (i ≠ j ∧ ρ[j]? = some (.own ds') ∧ σ[j]? = some (some (.ref a)) ∧ a ≠ p) := fun {j ds'} h h3 => by
      by_cases hj : i = j
      · subst hj
        rw [List.getElem?_set_self (by rw [w.len]; exact hi)] at h3
        cases h3
        exact .inl ⟨rfl, rfl⟩
      · rw [List.getElem?_set_ne hj] at h h3
        obtain ⟨a', us, e1, e2, _⟩ := w.own j ds' h
        rw [h3] at e1
        cases e1
        exact .inr ⟨hj, h, h3, fun z => by rw [z, (jn_none hp).2] at e2; cases e2⟩
    rcases key h1 h3 with ⟨e1, e2⟩ | ⟨n1, g1, g3, z1⟩
    · rcases key h2 h4 with ⟨e3, e4⟩ | ⟨_, _, _, z2⟩
      · rw [← e1, ← e3]
      · exact absurd e2 z2
    · rcases key h2 h4 with ⟨e3, e4⟩ | ⟨n2, g2, g4, _⟩
      · exact absurd e4 z1
      · exact w.sep j k a dj dk g1 g2 g3 g4
/-- a list of one's own changes -/
theorem Wd.chg (w : Wd K B σ F R ρ) {i : Nat} {ds es : List D} (h : ρ[i]? = some (.own ds)) {a : Addr} {us : List V} (ha : σ[i]? = some (some (.ref a))) (r : Reps K F us es) : Wd K B σ F (upd R a (.lst us)) (ρ.set i (.own es)) := by
  obtain ⟨a', vs, e1, e2, e3, e4⟩ := w.own i ds h
  rw [ha] at e1
  cases e1
  have hi : i < ρ.length := (List.getElem?_eq_some_iff.mp h).1
  refine ⟨w.tb, w.ex, fun b o hb => ?_, w.dj.updR (jn_of_r w.dj e2).1, by rw [List.length_set]; exact w.len, fun j e hj => ?_, fun j es' hj => ?_, fun j c b fs hj => ?_, fun j k b dj dk h1 h2 h3 h4 => ?_⟩
  · have : b ≠ a := fun z => by rw [z, e4] at hb; cases hb
    rw [upd_ne this]
    exact w.fr b o hb
  · by_cases q : i = j
    · subst q
      rw [List.getElem?_set_self hi] at hj
      cases hj
    · rw [List.getElem?_set_ne q] at hj
      exact w.val j e hj
  · by_cases q : i = j
    · subst q
      rw [List.getElem?_set_self hi] at hj
      cases hj
      exact ⟨a, us, ha, upd_same, r, e4⟩
    · rw [List.getElem?_set_ne q] at hj
      obtain ⟨b, ws, g1, g2, g3, g4⟩ := w.own j es' hj
      have : b ≠ a := fun z => by
        subst z
        exact q (w.sep i j b _ _ h hj ha g1)
      exact ⟨b, ws, g1, by rw [upd_ne this]; exact g2, g3, g4⟩
  · by_cases q : i = j
    · subst q
      rw [List.getElem?_set_self hi] at hj
      cases hj
    · rw [List.getElem?_set_ne q] at hj
      obtain ⟨z, dx, ws, g1, g2, g3, g4⟩ := w.obj j c b fs hj
      have n1 : b ≠ a := fun z => by rw [z, e2] at g2; cases g2
      have n2 : dx ≠ a := fun z => by rw [z, e2] at g3; cases g3
      exact ⟨z, dx, ws, g1, by rw [upd_ne n1]; exact g2, by rw [upd_ne n2]; exact g3, g4⟩
  · have key : ∀ {j : Nat} {ds' : List D}, (ρ.set i (.own es))[j]? = some (.own ds') → ∃ ds'', ρ[j]? = some (.own ds'') := fun {j ds'} hh => by
      by_cases q : i = j
      · subst q
        exact ⟨ds, h⟩
      · rw [List.getElem?_set_ne q] at hh
        exact ⟨_, hh⟩
    obtain ⟨_, g1⟩ := key h1
    obtain ⟨_, g2⟩ := key h2
    exact w.sep j k b _ _ g1 g2 h3 h4
/-- a list of one's own becomes shared -/
theorem Wd.frz (w : Wd K B σ F R ρ) {i : Nat} {ds : List D} (h : ρ[i]? = some (.own ds)) : ∃ F' R', jn F R = jn F' R' ∧ Ext K F F' ∧ Wd K B σ F' R' (ρ.set i (.val (.lst ds))) := by
  obtain ⟨a, vs, e1, e2, e3, e4⟩ := w.own i ds h
  have hi : i < ρ.length := (List.getElem?_eq_some_iff.mp h).1
  have x : Ext K F (upd F a (.lst vs)) := Ext.move w.dj e2
  refine ⟨upd F a (.lst vs), dlt R a, jn_move w.dj e2, x, x.tab w.tb, w.ex.trans x, fun b o hb => ?_, w.dj.move e2, by rw [List.length_set]; exact w.len, fun j e hj => ?_, fun j es' hj => ?_, fun j c b fs hj => ?_, fun j k b dj dk h1 h2 h3 h4 => ?_⟩
  · have : b ≠ a := fun z => by rw [z, e4] at hb; cases hb
    rw [dlt_ne this]
    exact w.fr b o hb
  · by_cases q : i = j
    · subst q
      rw [List.getElem?_set_self hi] at hj
      cases hj
      exact ⟨_, e1, of_lst upd_same (Reps.ext x _ _ e3)⟩
    · rw [List.getElem?_set_ne q] at hj
      obtain ⟨v, g1, g2⟩ := w.val j e hj
      exact ⟨v, g1, Rep.ext x _ _ g2⟩
  · by_cases q : i = j
    · subst q
      rw [List.getElem?_set_self hi] at hj
      cases hj
    · rw [List.getElem?_set_ne q] at hj
      obtain ⟨b, ws, g1, g2, g3, g4⟩ := w.own j es' hj
      have : b ≠ a := fun z => by
        subst z
        exact q (w.sep i j b _ _ h hj e1 g1)
      exact ⟨b, ws, g1, by rw [dlt_ne this]; exact g2, Reps.ext x _ _ g3, g4⟩
  · by_cases q : i = j
    · subst q
      rw [List.getElem?_set_self hi] at hj
      cases hj
    · rw [List.getElem?_set_ne q] at hj
      obtain ⟨z, dx, ws, g1, g2, g3, g4, g5⟩ := w.obj j c b fs hj
      have n1 : b ≠ a := fun z => by rw [z, e2] at g2; cases g2
      have n2 : dx ≠ a := fun z => by rw [z, e2] at g3; cases g3
      exact ⟨z, dx, ws, g1, by rw [dlt_ne n1]; exact g2, by rw [dlt_ne n2]; exact g3, RepF.ext x _ _ g4, g5⟩
  · have key : ∀ {j : Nat} {ds' : List D}, (ρ.set i (.val (.lst ds)))[j]? = some (.own ds') → ρ[j]? = some (.own ds') := fun {j ds'} hh => by
      by_cases q : i = j
      · subst q
        rw [List.getElem?_set_self hi] at hh
        cases hh
      · rw [List.getElem?_set_ne q] at hh
        exact hh
    exact w.sep j k b _ _ (key h1) (key h2) h3 h4
end
section
variable {B : Bs} {T : List (Addr × Str)} {X : Cx} {W : WX} {a b c e : Expr} {es rest : List Expr} {ra rb rc re : RE} {rt : RT} {rs : RA} {pos : Pos} {st : Stmt} {sts body : List Stmt} {r r1 r2 : RS}
/-- the list in slot i is shared from here on -/
def rFrz (i : Nat) (r : RS) : RS := fun N ρ => match ρ[i]? with
  | some (.own ds) => r N (ρ.set i (.val (.lst ds)))
  | _ => r N ρ
theorem lS_frz {K : KC} {i : Nat} {D0 : Ends} {σ : St} {H : Hp} (h : lS K B W (rFrz i r) D0 σ H) : lS K B W r D0 σ H := by
  obtain ⟨F, R, ρ, N, rfl, w, q, k⟩ := h
  unfold rFrz at q
  split at q
  · rename_i ds hd
    obtain ⟨F', R', e, _, w'⟩ := w.frz hd
    exact ⟨F', R', _, N, e, w', q, k⟩
  · exact ⟨F, R, ρ, N, rfl, w, q, k⟩
theorem ds_frz (i : Nat) (h : DS B X W st r) : DS B X W st (rFrz i r) := PS.imp h fun _ _ _ q => lS_frz q
theorem dss_frz (i : Nat) (h : DSs B X W sts r) : DSs B X W sts (rFrz i r) := PSs.imp h fun _ _ _ q => lS_frz q
/-! ### blocks -/
def rNext : RS := fun N ρ => N.nx ρ
def rSeq (r1 r2 : RS) : RS := fun N ρ => r1 { N with nx := r2 N } ρ
theorem dss_nil : DSs B X W [] rNext := pss_nil.imp fun D σ H ⟨F, R, ρ, N, hH, w, q, k⟩ => by
  subst hH
  exact k.nx σ F R ρ w q
theorem dss_cons (h1 : DS B X W st r1) (h2 : DSs B X W sts r2) : DSs B X W (st :: sts) (rSeq r1 r2) := (pss_cons h1 h2).imp fun D σ H ⟨F, R, ρ, N, hH, w, q, k⟩ => by
  subst hH
  exact ⟨F, R, ρ, { N with nx := r2 N }, rfl, w, q, fun σ' F' R' ρ' w' q' => ⟨F', R', ρ', N, rfl, w', q', k⟩, k.rt, k.ex, k.bk, k.ct⟩
theorem dss_one (h1 : DS B X W st r1) : DSs B X W [st] r1 := pss_one h1
def rBreak : RS := fun N ρ => N.bk ρ
def rCont : RS := fun N ρ => N.ct ρ
theorem ds_pass : DS B X W (.Pass pos) rNext := ps_pass.imp fun D σ H ⟨F, R, ρ, N, hH, w, q, k⟩ => by subst hH; exact k.nx σ F R ρ w q
theorem ds_break : DS B X W (.Break pos) rBreak := ps_break.imp fun D σ H ⟨F, R, ρ, N, hH, w, q, k⟩ => by subst hH; exact k.bk σ F R ρ w q
theorem ds_cont : DS B X W (.Continue pos) rCont := ps_continue.imp fun D σ H ⟨F, R, ρ, N, hH, w, q, k⟩ => by subst hH; exact k.ct σ F R ρ w q
def rRet (re : RE) : RS := fun N ρ => re ρ N.rt N.ex
theorem ds_ret (he : DE B X W e re) : DS B X W (.Return (some e) pos) (rRet re) := (ps_ret he).imp fun D σ H ⟨F, R, ρ, N, hH, w, q, k⟩ => by
  subst hH
  exact k.lf w q fun v d F' x w' rv q' => k.rt v d σ F' R ρ w' rv q'
def rDrop (re : RE) : RS := fun N ρ => re ρ (fun _ => N.nx ρ) N.ex
theorem ds_expr (he : DE B X W e re) (hs : swapsWith e none pos.line X.env = pure false := by rfl) : DS B X W (.Expr e pos) (rDrop re) := (ps_expr he hs).imp fun D σ H ⟨F, R, ρ, N, hH, w, q, k⟩ => by
  subst hH
  exact k.lf w q fun v d F' x w' rv q' => k.nx σ F' R ρ w' q'
def rIf (t : RT) (r1 r2 : RS) : RS := fun N ρ => t ρ (fun b => match b with | true => r1 N ρ | false => r2 N ρ) N.ex
theorem ds_if {bt bf : List Stmt} (hc : DT B X W c rt) (h1 : DSs B X W bt r1) (h2 : DSs B X W bf r2) : DS B X W (.If c bt bf pos) (rIf rt r1 r2) := (ps_if hc h1 h2).imp fun D σ H ⟨F, R, ρ, N, hH, w, q, k⟩ => by
  subst hH
  refine k.lf w q fun v d F' x w' rv q' => ?_
  cases rv
  cases v with
  | true => exact ⟨F', R, ρ, N, rfl, w', q', k⟩
  | false => exact ⟨F', R, ρ, N, rfl, w', q', k⟩
/-! ### assignments -/
def rSet (i : Nat) (re : RE) : RS := fun N ρ => re ρ (fun d => N.nx (ρ.set i (.val d))) N.ex
theorem ds_setT {i : Nat} {te : TE} (h : PS X st (tAsg te (gName i))) (hi : ∀ σ H Q, lE (kc B.T X) B W re σ H Q → te σ H Q) : DS B X W st (rSet i re) := h.imp fun D σ H ⟨F, R, ρ, N, hH, w, q, k⟩ => by
  subst hH
  exact hi _ _ _ (k.lf w q fun v d F' x w' rv q' => k.nx _ F' R _ (w'.setV rv i) q')
theorem ds_set {i : Nat} {x : Str} {p : Pos} (hN : X.N.Nodup) (hi : X.N[i]? = some x) (hx : Loc X.env.scope x) (he : DE B X W e re) (hs : swapsWith e (some (.Name x p)) pos.line X.env = pure false := by rfl) (hf : X.fn x = true ∨ X.env.scope.names.lookup x = some .local := by first | exact .inl rfl | exact .inr rfl) :
    DS B X W (.Assign [.Name x p] e pos) (rSet i re) := ds_setT (ps_set hN hi hx he hs hf) fun _ _ _ h => h
/-- a new list, one's own -/
def rSetL (i : Nat) (rs : RA) : RS := fun N ρ => i < ρ.length ∧ rs ρ (fun ds => N.nx (ρ.set i (.own ds))) N.ex
theorem ds_setLT {i : Nat} {te : TE} (h : PS X st (tAsg te (gName i))) (hi : ∀ σ H Q, lL (kc B.T X) B W rs σ H Q → te σ H Q) : DS B X W st (rSetL i rs) := h.imp fun D σ H ⟨F, R, ρ, N, hH, w, q, k⟩ => by
  subst hH
  refine hi _ _ _ ⟨F, R, ρ, _, N.ex, rfl, w, q.2, fun p vs ds F' x dj rv _ q' hp => ?_, fun x cls od F' e dj rx q' => k.ex x cls od σ F' R ρ (w.ext e dj) rx q'⟩
  have w' := (w.ext x dj).setN rv hp i q.1
  rw [jn_updR (jn_none hp).1]
  exact k.nx _ F' _ _ w' q'
theorem ds_setL {i : Nat} {x : Str} {p : Pos} (hN : X.N.Nodup) (hi : X.N[i]? = some x) (hx : Loc X.env.scope x) (he : FE B X W e rs) (hs : swapsWith e (some (.Name x p)) pos.line X.env = pure false := by rfl) (hf : X.fn x = true ∨ X.env.scope.names.lookup x = some .local := by first | exact .inl rfl | exact .inr rfl) :
    DS B X W (.Assign [.Name x p] e pos) (rSetL i rs) := ds_setLT (ps_set hN hi hx he hs hf) fun _ _ _ h => h
/-! ### targets -/
abbrev G3 := D → Env3 → (Env3 → Prop) → Prop
abbrev G3s := List D → Env3 → (Env3 → Prop) → Prop
/-- a list of one's own stood there before -/
def Osub (σ : St) (ρ : Env3) (σ' : St) (ρ' : Env3) : Prop := ∀ (j : Nat) (es : List D), ρ'[j]? = some (.own es) → ρ[j]? = some (.own es) ∧ σ'[j]? = σ[j]?
/-- only the slots of is changed -/
def Chg (is : List Nat) (σ σ' : St) : Prop := σ'.length = σ.length ∧ ∀ j, j ∉ is → σ'[j]? = σ[j]?
def lG (K : KC) (is : List Nat) (g : G3) : TG := fun v σ H Q => ∃ B F R ρ d Q', H = jn F R ∧ Wd K B σ F R ρ ∧ Rep K F v d ∧ g d ρ Q' ∧ ∀ σ' ρ', Wd K B σ' F R ρ' → Chg is σ σ' → Osub σ ρ σ' ρ' → Q' ρ' → Q σ' (jn F R)
def lGs (K : KC) (is : List Nat) (g : G3s) : TGs := fun vs σ H Q => ∃ B F R ρ ds Q', H = jn F R ∧ Wd K B σ F R ρ ∧ Reps K F vs ds ∧ g ds ρ Q' ∧ ∀ σ' ρ', Wd K B σ' F R ρ' → Chg is σ σ' → Osub σ ρ σ' ρ' → Q' ρ' → Q σ' (jn F R)
abbrev DG (T : List (Addr × Str)) (X : Cx) (is : List Nat) (t : Expr) (g : G3) : Prop := PG X t (lG (kc T X) is g)
abbrev DGs (T : List (Addr × Str)) (X : Cx) (is : List Nat) (t : List Expr) (g : G3s) : Prop := PGs X t (lGs (kc T X) is g)
theorem _root_.L2.PG.imp {t : Expr} {g g' : TG} (h : PG X t g) (i : ∀ v σ H Q, g' v σ H Q → g v σ H Q) : PG X t g' := ⟨fun pins s σ H v u Q I r q => h.run pins s σ H v u Q I r (i v σ H Q q)⟩
theorem _root_.L2.PGs.imp {t : List Expr} {g g' : TGs} (h : PGs X t g) (i : ∀ v σ H Q, g' v σ H Q → g v σ H Q) : PGs X t g' := ⟨fun pins s σ H v u Q I r q => h.run pins s σ H v u Q I r (i v σ H Q q)⟩
def g3N (i : Nat) : G3 := fun d ρ Q => Q (ρ.set i (.val d))
theorem Osub.refl (σ : St) (ρ : Env3) : Osub σ ρ σ ρ := fun _ _ h => ⟨h, rfl⟩
theorem osub_set {σ : St} {ρ : Env3} {v : V} {d : D} (i : Nat) : Osub σ ρ (σ.set i (some v)) (ρ.set i (.val d)) := fun j es h => by
  by_cases hj : i = j
  · subst hj
    by_cases hl : i < ρ.length
    · rw [List.getElem?_set_self hl] at h
      cases h
    · rw [List.getElem?_eq_none (by rw [List.length_set]; omega)] at h
      cases h
  · rw [List.getElem?_set_ne hj] at h
    exact ⟨h, List.getElem?_set_ne hj⟩
theorem Osub.trans {σ σ1 σ2 : St} {ρ ρ1 ρ2 : Env3} (x : Osub σ ρ σ1 ρ1) (y : Osub σ1 ρ1 σ2 ρ2) : Osub σ ρ σ2 ρ2 := fun j es h =>
  let ⟨h1, e1⟩ := y j es h
  let ⟨h2, e2⟩ := x j es h1
  ⟨h2, e1.trans e2⟩
theorem Chg.refl (is : List Nat) (σ : St) : Chg is σ σ := ⟨rfl, fun _ _ => rfl⟩
theorem dg_name {i : Nat} {x : Str} (hN : X.N.Nodup) (hi : X.N[i]? = some x) (hx : Loc X.env.scope x) (hf : X.fn x = true ∨ X.env.scope.names.lookup x = some .local := by first | exact .inl rfl | exact .inr rfl) : DG T X [i] (.Name x pos) (g3N i) :=
  (pg_name hN hi hx hf).imp fun v σ H Q ⟨B, F, R, ρ, d, Q', hH, w, rv, q, k⟩ => by
    subst hH
    exact k _ _ (w.setV rv i) ⟨by rw [List.length_set], fun j hj => List.getElem?_set_ne fun z => hj (by simp [z])⟩ (osub_set i) q
def g3Nil : G3s := fun ds ρ Q => match ds with
  | [] => Q ρ
  | _ => False
def g3Cons (g : G3) (gs : G3s) : G3s := fun ds ρ Q => match ds with
  | d :: r => g d ρ (fun ρ' => gs r ρ' Q)
  | [] => False
theorem dgs_nil : DGs T X [] [] g3Nil := pgs_nil.imp fun vs σ H Q ⟨B, F, R, ρ, ds, Q', hH, w, rv, q, k⟩ => by
  subst hH
  cases ds with
  | nil =>
    rw [reps_nil rv]
    exact ⟨rfl, k _ _ w (.refl _ _) (.refl _ _) q⟩
  | cons d r => exact (show False from q).elim
theorem dgs_cons {is js : List Nat} {g : G3} {gs : G3s} (h1 : DG T X is e g) (h2 : DGs T X js es gs) (hs : (assignEach (e :: es) X.env).map (·.2) = assign e X.env :: (assignEach es X.env).map (·.2) := by rfl) : DGs T X (is ++ js) (e :: es) (g3Cons g gs) := (pgs_cons h1 h2 hs).imp fun vs σ H Q ⟨B, F, R, ρ, ds, Q', hH, w, rv, q, k⟩ => by
  subst hH
  cases ds with
  | nil => exact (show False from q).elim
  | cons d r =>
    obtain ⟨v, vr, rfl, r1, r2⟩ := reps_cons rv
    refine ⟨v, vr, rfl, B, F, R, ρ, d, _, rfl, w, r1, q, fun σ' ρ' w' c' o' q' => ?_⟩
    refine ⟨B, F, R, ρ', r, Q', rfl, w', r2, q', fun σ2 ρ2 w2 c2 o2 q2 => k σ2 ρ2 w2 ⟨c2.1.trans c'.1, fun j hj => ?_⟩ (o'.trans o2) q2⟩
    have n1 : j ∉ is := fun z => hj (List.mem_append_left _ z)
    have n2 : j ∉ js := fun z => hj (List.mem_append_right _ z)
    exact (c2.2 j n2).trans (c'.2 j n1)
def g3Tup (n : Nat) (gs : G3s) : G3 := fun d ρ Q => match d with
  | .tup ds => ds.length = n ∧ gs ds ρ Q
  | _ => False
theorem dg_tup {is : List Nat} {gs : G3s} {k1 n : Nat} (hc : X.calm = true) (h : DGs T X is es gs) (hn : (assignEach es X.env).length = n := by rfl) (hst : (assignEach es X.env).findIdx? (·.1) = none := by rfl) : DG T X is (.Tuple es k1 pos) (g3Tup n gs) :=
  (pg_tup hc h hn hst).imp fun v σ H Q ⟨B, F, R, ρ, d, Q', hH, w, rv, q, k⟩ => by
    subst hH
    cases d with
    | tup ds =>
      obtain ⟨a, vs, rfl, ha, ra⟩ := rep_tup rv
      exact ⟨a, vs, rfl, sq_t (K := kc B.T X) ha, by rw [ra.length]; exact q.1, B, F, R, ρ, ds, Q', rfl, w, ra, q.2, k⟩
    | _ => exact (show False from q).elim
def rAsg (g : G3) (re : RE) : RS := fun N ρ => re ρ (fun d => g d ρ N.nx) N.ex
theorem ds_asg {is : List Nat} {tg : Expr} {g : G3} (he : DE B X W e re) (hg : DG B.T X is tg g) (hs : swapsWithSole [tg] e pos.line X.env = pure false := by rfl) (hw : swappedStores [tg] e X.env = pure none := by rfl) (ha : (assignEach [tg] X.env).map (·.2) = [assign tg X.env] := by rfl) :
    DS B X W (.Assign [tg] e pos) (rAsg g re) := (ps_asg he hg hs hw ha).imp fun D σ H ⟨F, R, ρ, N, hH, w, q, k⟩ => by
  subst hH
  exact k.lf w q fun v d F' x w' rv q' => ⟨B, F', R, ρ, d, N.nx, rfl, w', rv, q', fun σ' ρ' w2 _ _ q2 => k.nx σ' F' R ρ' w2 q2⟩
/-- a, b = x, y -/
def rPar (i j : Nat) (rs : RA) : RS := fun N ρ => rs ρ (fun ds => match ds with
  | [d, e] => N.nx ((ρ.set i (.val d)).set j (.val e))
  | _ => False) N.ex
theorem ds_par {i j : Nat} {x y : Str} {px py pt pt2 : Pos} {kt k2 : Nat} (hc : X.calm = true) (hN : X.N.Nodup) (hi : X.N[i]? = some x) (hj : X.N[j]? = some y) (hij : i ≠ j) (hx : X.env.scope.names.lookup x = some .local) (hy : X.env.scope.names.lookup y = some .local) (ha : DA B X W [a, b] rs)
    (hw : swappedStores [.Tuple [.Name x px, .Name y py] kt pt] (.Tuple [a, b] k2 pt2) X.env = pure (some [x, y])) (hs : swapsWithSole [.Tuple [.Name x px, .Name y py] kt pt] (.Tuple [a, b] k2 pt2) pos.line X.env = pure false := by rfl) :
    DS B X W (.Assign [.Tuple [.Name x px, .Name y py] kt pt] (.Tuple [a, b] k2 pt2) pos) (rPar i j rs) := (ps_par hc hN hi hj hij hx hy ha hw hs).imp fun D σ H ⟨F, R, ρ, N, hH, w, q, k⟩ => by
  subst hH
  refine k.lf w q fun vs ds F' x w' rv q' => ?_
  split at q'
  · obtain ⟨v, u, rfl, h1, h2⟩ := reps_two rv
    exact ⟨v, u, rfl, k.nx _ F' R _ ((w'.setV h1 i).setV h2 j) q'⟩
  · exact q'.elim
/-! ### lists of one's own -/
def rApp (i : Nat) (re : RE) : RS := fun N ρ => match ρ[i]? with
  | some (.own ds) => re ρ (fun d => ds.length < sizeLine ∧ N.nx (ρ.set i (.own (ds ++ [d])))) N.ex
  | _ => False
theorem upd_own {K : KC} {σ : St} {F R : Hp} {ρ : Env3} (w : Wd K B σ F R ρ) {a : Addr} {o o' : HO} (h : R a = some o) : upd (jn F R) a o' = jn F (upd R a o') := jn_updR (jn_of_r w.dj h).1
theorem ds_app {i : Nat} {x : Str} {p ap cp : Pos} (hv : PE X (.Name x p) (tVar i)) (he : DE B X W e re)
    (hpl : ((backTo cp (starEach (e :: []) X.env)).all (fun x => !x.1) && (backToKw cp (keywordEach [] X.env)).all (fun x => x.1.isSome) && decide ((e :: []).length + ([] : List Keyword).length + (if ([] : List Keyword).isEmpty then 0 else 1) < 30)) = true := by rfl)
    (h0 : attributeBase (.Name x p) "append" X.env (eval (.Name x p) X.env) = eval (.Name x p) X.env := by rfl) (h1 : (ap.endLine == cp.line) = true := by rfl) (h2 : starEach (e :: []) X.env = (false, eval e X.env) :: starEach [] X.env := by rfl) (h3 : (backTo cp (starEach [] X.env)).any (·.1) = false := by rfl)
    (hs : swapsWith (.Call (.Attribute (.Name x p) "append" ap) [e] [] cp) none pos.line X.env = pure false := by rfl) :
    DS B X W (.Expr (.Call (.Attribute (.Name x p) "append" ap) [e] [] cp) pos) (rApp i re) :=
  (ps_expr (pe_bm PySem.F.plainAttrs_list PySem.F.slot_list_append PySem.F.type_list_append mt_append hv (pa_cons he pa_nil h2) h0 hpl h1 h2 h3) hs).imp fun D σ H ⟨F, R, ρ, N, hH, w, q, k⟩ => by
    subst hH
    unfold rApp at q
    split at q
    · rename_i ds hi
      obtain ⟨l, vs, e1, e2, e3, e4⟩ := w.own i ds hi
      refine ⟨_, e1, .inl ⟨rfl, vs, .of (jn_of_r w.dj e2).2⟩, ?_⟩
      refine k.lf w q fun v d F' x w' rv q' => ?_
      obtain ⟨l', vs', g1, g2, g3, g4⟩ := w'.own i ds hi
      rw [e1] at g1
      cases g1
      rw [e2] at g2
      cases g2
      refine ⟨l, vs, v, rfl, rfl, (jn_of_r w'.dj e2).2, by rw [g3.length]; exact q'.1, ?_⟩
      have w2 := w'.chg hi e1 (Reps.append g3 (Reps.cons rv Reps.nil))
      rw [upd_own w' e2]
      exact k.nx _ F' _ _ w2 q'.2
    · exact q.elim
/-- x.extend(e), e a list -/
def rExt (i : Nat) (re : RE) : RS := fun N ρ => match ρ[i]? with
  | some (.own ds) => re ρ (fun d => match d with
    | .lst es => ds.length + es.length ≤ sizeLine ∧ N.nx (ρ.set i (.own (ds ++ es)))
    | _ => False) N.ex
  | _ => False
theorem ds_ext {i : Nat} {x : Str} {p ap cp : Pos} (hv : PE X (.Name x p) (tVar i)) (he : DE B X W e re)
    (hpl : ((backTo cp (starEach (e :: []) X.env)).all (fun x => !x.1) && (backToKw cp (keywordEach [] X.env)).all (fun x => x.1.isSome) && decide ((e :: []).length + ([] : List Keyword).length + (if ([] : List Keyword).isEmpty then 0 else 1) < 30)) = true := by rfl)
    (h0 : attributeBase (.Name x p) "extend" X.env (eval (.Name x p) X.env) = eval (.Name x p) X.env := by rfl) (h1 : (ap.endLine == cp.line) = true := by rfl) (h2 : starEach (e :: []) X.env = (false, eval e X.env) :: starEach [] X.env := by rfl) (h3 : (backTo cp (starEach [] X.env)).any (·.1) = false := by rfl)
    (hs : swapsWith (.Call (.Attribute (.Name x p) "extend" ap) [e] [] cp) none pos.line X.env = pure false := by rfl) :
    DS B X W (.Expr (.Call (.Attribute (.Name x p) "extend" ap) [e] [] cp) pos) (rExt i re) :=
  (ps_expr (pe_bm PySem.F.plainAttrs_list PySem.F.slot_list_extend PySem.F.type_list_extend mt_extend hv (pa_cons he pa_nil h2) h0 hpl h1 h2 h3) hs).imp fun D σ H ⟨F, R, ρ, N, hH, w, q, k⟩ => by
    subst hH
    unfold rExt at q
    split at q
    · rename_i ds hi
      obtain ⟨l, vs, e1, e2, e3, e4⟩ := w.own i ds hi
      refine ⟨_, e1, .inl ⟨rfl, vs, .of (jn_of_r w.dj e2).2⟩, ?_⟩
      refine k.lf w q fun v d F' x w' rv q' => ?_
      obtain ⟨l', vs', g1, g2, g3, g4⟩ := w'.own i ds hi
      rw [e1] at g1
      cases g1
      rw [e2] at g2
      cases g2
      split at q'
      · obtain ⟨b, us, rfl, hb, rb⟩ := rep_lst rv
        refine ⟨l, b, vs, us, rfl, rfl, (jn_of_r w'.dj e2).2, jn_l hb, by rw [g3.length, rb.length]; exact q'.1, ?_⟩
        have w2 := w'.chg hi e1 (Reps.append g3 rb)
        rw [upd_own w' e2]
        exact k.nx _ F' _ _ w2 q'.2
      · exact q'.elim
    · exact q.elim
end
end L3
namespace L3
open PySem PySem.Spec L2
open PyProof.Rows hiding St
/-! ### what is walked -/
structure Wk (K : KC) (J : It) (ds : List D) (F0 : Hp) : Prop where
  go : ∀ F R (i : Nat), Ext K F0 F → Dj F R → i < ds.length → J.go i (jn F R)
  stop : ∀ F R (i : Nat), Ext K F0 F → Dj F R → ds.length = i → J.stop i (jn F R)
  yld : ∀ F R (i : Nat) x H', Ext K F0 F → Dj F R → i < ds.length → J.yld i (jn F R) x H' → ∃ F' d, H' = jn F' R ∧ Ext K F F' ∧ Dj F' R ∧ ds[i]? = some d ∧ Rep K F' x d
def lI (K : KC) (B : Bs) (W : WX) (r : RA) : TI := fun σ H Z => ∃ F R ρ Q' E', H = jn F R ∧ Wd K B σ F R ρ ∧ r ρ Q' E' ∧ (∀ J ds F', Ext K F F' → Dj F' R → Wk K J ds F' → Q' ds → Z J (jn F' R)) ∧
  ∀ x cls od F', Ext K F F' → Dj F' R → RepX K F' cls od x → E' x → W cls od σ (jn F' R)
abbrev DI (B : Bs) (X : Cx) (W : WX) (tg e : Expr) (r : RA) : Prop := PI X tg e (lI (kc B.T X) B W r)
theorem _root_.L2.PI.imp {X : Cx} {tg e : Expr} {t t' : TI} (h : PI X tg e t) (i : ∀ σ H Z, t' σ H Z → t σ H Z) : PI X tg e t' := ⟨fun pins s σ H Z I q => h.run pins s σ H Z I (i σ H Z q)⟩
section
variable {K : KC} {F : Hp}
theorem wk_list {a : Addr} {vs : List V} {ds : List D} (h : SqL K.K F a vs) (r : Reps K F vs ds) : Wk K (Itl K.K a) ds F where
  go := fun F' R i x dj hl => by
    have hv : i < vs.length := by rw [r.length]; exact hl
    exact ⟨vs, vs[i], sq_s (x.seqL h), List.getElem?_eq_getElem hv⟩
  stop := fun F' R i x dj hl => ⟨vs, sq_s (x.seqL h), by rw [r.length]; omega⟩
  yld := fun F' R i y H' x dj hl ⟨e, q⟩ => by
    obtain ⟨d, e1, e2⟩ := r.getV (q vs (sq_s (x.seqL h)))
    exact ⟨F', d, e, .refl _, dj, e1, Rep.ext x _ _ e2⟩
theorem wk_tup {a : Addr} {vs : List V} {ds : List D} (h : F a = some (.tup vs)) (r : Reps K F vs ds) : Wk K (Itt K.K a) ds F where
  go := fun F' R i x dj hl => by
    have hv : i < vs.length := by rw [r.length]; exact hl
    exact ⟨vs, vs[i], .inl (.inl (jn_l (x.tup h))), List.getElem?_eq_getElem hv⟩
  stop := fun F' R i x dj hl => ⟨vs, .inl (.inl (jn_l (x.tup h))), by rw [r.length]; omega⟩
  yld := fun F' R i y H' x dj hl ⟨e, q⟩ => by
    obtain ⟨d, e1, e2⟩ := r.getV (q vs (.inl (.inl (jn_l (x.tup h)))))
    exact ⟨F', d, e, .refl _, dj, e1, Rep.ext x _ _ e2⟩
def rangeD (lo : Int) (n : Nat) : List D := (List.range n).map fun i => .int (lo + (i : Nat))
theorem wk_range {lo : Int} {n : Nat} : Wk K (Itr lo n) (rangeD lo n) F where
  go := fun F' R i x dj hl => by
    have : i < n := by simpa [rangeD] using hl
    exact this
  stop := fun F' R i x dj hl => by
    have : n = i := by simpa [rangeD] using hl
    exact Nat.le_of_eq this
  yld := fun F' R i y H' x dj hl ⟨e, q⟩ => by
    have hn : i < n := by simpa [rangeD] using hl
    refine ⟨F', .int (lo + (i : Nat)), e, .refl _, dj, ?_, by rw [q]; exact of_int _⟩
    unfold rangeD
    rw [List.getElem?_map, List.getElem?_range hn]
    rfl
def zipD (xs ys : List D) : List D := (xs.zip ys).map fun p => .tup [p.1, p.2]
theorem zipD_length (xs ys : List D) : (zipD xs ys).length = min xs.length ys.length := by simp [zipD]
theorem zipD_get {xs ys : List D} {i : Nat} {d e : D} (h1 : xs[i]? = some d) (h2 : ys[i]? = some e) : (zipD xs ys)[i]? = some (.tup [d, e]) := by
  have e0 : (xs.zip ys)[i]? = some (d, e) := List.getElem?_zip_eq_some.mpr ⟨h1, h2⟩
  unfold zipD
  rw [List.getElem?_map, e0]
  rfl
end
section
variable {B : Bs} {X : Cx} {W : WX} {a b c e tg : Expr} {es rest : List Expr} {ra rb rc re : RE} {rt : RT} {rs ri : RA} {pos : Pos} {st : Stmt} {sts body : List Stmt} {r r1 r2 : RS}
/-- a list or a tuple, walked -/
def iAny (K : PySem.W.Frag) (tl : TE) : TI := fun σ H Z => tl σ H fun x H1 => ∃ q, x = .ref q ∧ (((∃ ys, SqL K H1 q ys) ∧ Z (Itl K q) H1) ∨ ((∃ ys, SqT K H1 q ys) ∧ Z (Itt K q) H1))
theorem pi_any {tl : TE} (hl : PE X e tl) : PI X tg e (iAny X.K tl) :=
  ⟨fun ps s0 σ H Z I0 hh => thn (hl.run ps s0 σ H _ I0 hh) fun u s1 ⟨x, H1, I1, rr, q, ex, alt⟩ => by
    subst ex
    cases rr
    have hf := I1.hok.fresh (Nat.le_refl s1.heap.objs.size)
    have fp : ∀ b' ∈ [s1.heap.objs.size], FpOk X ps H1 b' := fun b' hb' => by
      obtain rfl : b' = s1.heap.objs.size := by simpa using hb'
      exact I1.fpOk (Nat.le_refl _) hf
    have kp : ∀ o : Obj, Inv X ps σ H1 { s1 with heap := s1.heap.push o } := fun o => I1.kept (t' := s1.toks) fun _ _ g => Heap.get?_push_of_some _ g
    rcases alt with ⟨⟨ys, hq⟩, hz⟩ | ⟨⟨ys, hq⟩, hz⟩
    · obtain ⟨its, _, pl, _⟩ := I1.list hq
      exact wpAny_pyIter_list pl.isList ⟨_, [s1.heap.objs.size], _, _, H1, rfl, kp _, turn_list q _, ⟨_, Heap.get?_push_size _ rfl, rfl, rfl⟩, fp, hz⟩
    · obtain ⟨its, _, pl, _⟩ := I1.tuple hq
      exact wpAny_pyIter_tuple (show s1.heap.IsTuple q its.toArray from pl) ⟨_, [s1.heap.objs.size], _, _, H1, rfl, kp _, turn_tuple q _, ⟨_, Heap.get?_push_size _ rfl, rfl, rfl⟩, fp, hz⟩⟩
def rIt (re : RE) : RA := fun ρ Q E => re ρ (fun d => match itemsOf d with
  | some ds => Q ds
  | none => False) E
theorem di_seq (he : DE B X W e re) : DI B X W tg e (rIt re) := (pi_any he).imp fun σ H Z ⟨F, R, ρ, Q', E', hH, w, q, kk, kx⟩ => by
  subst hH
  refine ⟨F, R, ρ, _, E', rfl, w, q, fun v d F' x dj rv q' => ?_, kx⟩
  cases d with
  | tup ds =>
    obtain ⟨p, vs, rfl, ha, ra⟩ := rep_tup rv
    exact ⟨p, rfl, .inr ⟨⟨vs, sq_t (K := kc B.T X) ha⟩, kk _ ds F' x dj (wk_tup ha ra) q'⟩⟩
  | lst ds =>
    obtain ⟨p, vs, rfl, ha, ra⟩ := rep_lst rv
    exact ⟨p, rfl, .inl ⟨⟨vs, sq_l (K := kc B.T X) ha⟩, kk _ ds F' x dj (wk_list (.of ha) ra) q'⟩⟩
  | scr xs =>
    obtain ⟨p, rfl, ha⟩ := rep_scr rv
    exact ⟨p, rfl, .inl ⟨⟨_, sq_s (K := kc B.T X) ha⟩, kk _ _ F' x dj (wk_list ha reps_ints) q'⟩⟩
  | _ => exact (show False from q').elim
def gRange1 (Q : List D → Prop) : List D → Prop := fun ds => match ds with
  | [.int j] => (-(2 ^ 62) ≤ j ∧ j < 2 ^ 62) ∧ Q (rangeD 0 j.toNat)
  | _ => False
def gRange2 (Q : List D → Prop) : List D → Prop := fun ds => match ds with
  | [.int i, .int j] => (-(2 ^ 62) ≤ i ∧ i < 2 ^ 62 ∧ -(2 ^ 62) ≤ j ∧ j < 2 ^ 62) ∧ Q (rangeD i (j - i).toNat)
  | _ => False
def rRange1 (rs : RA) : RA := fun ρ Q E => rs ρ (gRange1 Q) E
def rRange2 (rs : RA) : RA := fun ρ Q E => rs ρ (gRange2 Q) E
theorem di_range1 {p : Pos} (hg : Gl X "range") (hm : X.mg "range" = none) (ha : DA B X W [a] rs) (hs : starEach [a] X.env = [(false, eval a X.env)] := by rfl) : DI B X W tg (.Call (.Name "range" p) [a] [] pos) (rRange1 rs) := (pi_range1 hg hm ha hs).imp fun σ H Z ⟨F, R, ρ, Q', E', hH, w, q, kk, kx⟩ => by
  subst hH
  refine ⟨F, R, ρ, _, E', rfl, w, q, fun vs ds F' x dj rv q' => ?_, kx⟩
  unfold gRange1 at q'
  split at q'
  · obtain ⟨v, rfl, h⟩ := reps_one rv
    exact ⟨_, by rw [rep_int h], q'.1.1, q'.1.2, kk _ _ F' x dj wk_range q'.2⟩
  · exact q'.elim
theorem di_range2 {p : Pos} (hg : Gl X "range") (hm : X.mg "range" = none) (ha : DA B X W [a, b] rs) (hs : starEach [a, b] X.env = [(false, eval a X.env), (false, eval b X.env)] := by rfl) (hs2 : starEach [b] X.env = [(false, eval b X.env)] := by rfl) : DI B X W tg (.Call (.Name "range" p) [a, b] [] pos) (rRange2 rs) :=
  (pi_range2 hg hm ha hs hs2).imp fun σ H Z ⟨F, R, ρ, Q', E', hH, w, q, kk, kx⟩ => by
    subst hH
    refine ⟨F, R, ρ, _, E', rfl, w, q, fun vs ds F' x dj rv q' => ?_, kx⟩
    unfold gRange2 at q'
    split at q'
    · obtain ⟨v, u, rfl, h, h'⟩ := reps_two rv
      exact ⟨_, _, by rw [rep_int h, rep_int h'], q'.1, kk _ _ F' x dj wk_range q'.2⟩
    · exact q'.elim
/-! ### loops -/
theorem Wd.rebase {K : KC} {σ : St} {F F1 R : Hp} {ρ : Env3} (w : Wd K B σ F R ρ) (x : Ext K F1 F) : Wd K ⟨F1, B.Fr, B.T⟩ σ F R ρ := ⟨w.tb, x, w.fr, w.dj, w.len, w.val, w.own, w.obj, w.sep⟩
theorem Wd.unbase {K : KC} {σ : St} {F F1 R : Hp} {ρ : Env3} (w : Wd K ⟨F1, B.Fr, B.T⟩ σ F R ρ) (x : Ext K B.F0 F1) : Wd K B σ F R ρ := ⟨w.tb, x.trans w.ex, w.fr, w.dj, w.len, w.val, w.own, w.obj, w.sep⟩
theorem pss_any (hb : ∀ F0, DSs ⟨F0, B.Fr, B.T⟩ X W body r) : PSs X body (fun D σ H => ∃ F0, lS (kc B.T X) ⟨F0, B.Fr, B.T⟩ W r D σ H) := ⟨fun pins s σ H D I ⟨F0, h⟩ => (hb F0).run pins s σ H D I h⟩
def forL (g : G3) (body : RS) (N : En3) : List D → Env3 → Prop
  | [], ρ => N.nx ρ
  | d :: ds, ρ => g d ρ (fun ρ' => body { N with nx := forL g body N ds, ct := forL g body N ds, bk := N.nx } ρ')
def rFor (ri : RA) (g : G3) (body : RS) : RS := fun N ρ => ri ρ (fun ds => forL g body N ds ρ) N.ex
theorem ds_for {is : List Nat} {g : G3} (hp : PassesOwn (model X.prog X.w) X.A X.env X.xe) (hc : X.calm = true) (hi : DI B X W tg e ri) (hg : DG B.T X is tg g) (hb : ∀ F0, DSs ⟨F0, B.Fr, B.T⟩ X W body r) (hs : ∀ x, foldedSetIterable e X.env x = pure x := by intro _; rfl) :
    DS B X W (.For tg e body [] pos) (rFor ri g r) := (ps_for hp hc hi hg (pss_any hb) hs).imp fun D0 σ H ⟨F, R, ρ, N, hH, w, q, k⟩ => by
  subst hH
  refine ⟨F, R, ρ, _, N.ex, rfl, w, q, fun J ds F1 x1 dj1 wk q1 => ?_, fun x cls od F' e dj rx q' => k.ex x cls od σ F' R ρ (w.ext e dj) rx q'⟩
  refine ⟨fun i m σ' H' => m + i = ds.length ∧ ∃ F2 R2 ρ2, H' = jn F2 R2 ∧ Wd (kc B.T X) B σ' F2 R2 ρ2 ∧ Ext (kc B.T X) F1 F2 ∧ forL g r N (ds.drop i) ρ2, ⟨ds.length, by omega, F1, R, ρ, rfl, w.ext x1 dj1, .refl _, by simpa using q1⟩, ?_⟩
  rintro i m σ' H' ⟨hm, F2, R2, ρ2, rfl, w2, x2, q2⟩
  by_cases hl : i < ds.length
  · refine .inr ⟨wk.go F2 R2 i x2 w2.dj hl, fun σ3 H3 => ∃ F3 R3 ρ3, H3 = jn F3 R3 ∧ Wd (kc B.T X) B σ3 F3 R3 ρ3 ∧ Ext (kc B.T X) F1 F3 ∧ forL g r N (ds.drop (i + 1)) ρ3, ?_, ?_⟩
    · rintro σ3 H3 ⟨F3, R3, ρ3, rfl, w3, x3, q3⟩
      exact ⟨m - 1, by omega, by omega, F3, R3, ρ3, rfl, w3, x3, q3⟩
    · intro v H3 hy
      obtain ⟨F3, d, rfl, x3, dj3, e3, r3⟩ := wk.yld F2 R2 i v H3 x2 w2.dj hl hy
      have ed : ds.drop i = d :: ds.drop (i + 1) := by
        obtain ⟨h1, h2⟩ := List.getElem?_eq_some_iff.mp e3
        rw [(List.drop_eq_getElem_cons h1), h2]
      rw [ed] at q2
      refine ⟨B, F3, R2, ρ2, d, _, rfl, w2.ext x3 dj3, r3, q2, fun σ4 ρ4 w4 _ _ q4 => ?_⟩
      have x5 : Ext (kc B.T X) B.F0 F1 := w.ex.trans x1
      refine ⟨F1, F3, R2, ρ4, _, rfl, w4.rebase (x2.trans x3), q4, ?_⟩
      exact ⟨fun σ5 F5 R5 ρ5 w5 q5 => ⟨F5, R5, ρ5, rfl, w5.unbase x5, w5.ex, q5⟩, fun v d σ5 F5 R5 ρ5 w5 => k.rt v d σ5 F5 R5 ρ5 (w5.unbase x5), fun x cls od σ5 F5 R5 ρ5 w5 => k.ex x cls od σ5 F5 R5 ρ5 (w5.unbase x5), fun σ5 F5 R5 ρ5 w5 => k.nx σ5 F5 R5 ρ5 (w5.unbase x5), fun σ5 F5 R5 ρ5 w5 q5 => ⟨F5, R5, ρ5, rfl, w5.unbase x5, w5.ex, q5⟩⟩
  · refine .inl ⟨wk.stop F2 R2 i x2 w2.dj (by omega), ?_⟩
    rw [List.drop_eq_nil_of_le (by omega)] at q2
    exact k.nx σ' F2 R2 ρ2 w2 q2
/-! ### while -/
def whL (t : RT) (body : RS) (N : En3) : Nat → Env3 → Prop
  | 0, _ => False
  | n + 1, ρ => t ρ (fun b => match b with
    | true => body { N with nx := whL t body N n, ct := whL t body N n, bk := N.nx } ρ
    | false => N.nx ρ) N.ex
def rWhile (t : RT) (body : RS) : RS := fun N ρ => ∃ n, whL t body N n ρ
theorem ds_while (hp : PassesOwn (model X.prog X.w) X.A X.env X.xe) (hc : DT B X W c rt) (hb : DSs B X W body r) : DS B X W (.While c body [] pos) (rWhile rt r) := (ps_while hp hc hb).imp fun D0 σ H ⟨F, R, ρ, N, hH, w, ⟨n, q⟩, k⟩ => by
  subst hH
  refine ⟨fun m σ' H' => ∃ F2 R2 ρ2, H' = jn F2 R2 ∧ Wd (kc B.T X) B σ' F2 R2 ρ2 ∧ whL rt r N m ρ2, ⟨n, F, R, ρ, rfl, w, q⟩, ?_⟩
  rintro m σ' H' ⟨F2, R2, ρ2, rfl, w2, q2⟩
  cases m with
  | zero => exact q2.elim
  | succ m =>
    refine k.lf w2 q2 fun v d F' x w' rv q' => ?_
    cases rv
    cases v with
    | false => exact k.nx σ' F' R2 ρ2 w' q'
    | true =>
      refine ⟨fun σ3 H3 => ∃ F3 R3 ρ3, H3 = jn F3 R3 ∧ Wd (kc B.T X) B σ3 F3 R3 ρ3 ∧ whL rt r N m ρ3, ?_, ?_⟩
      · rintro σ3 H3 ⟨F3, R3, ρ3, rfl, w3, q3⟩
        exact ⟨m, Nat.lt_succ_self m, F3, R3, ρ3, rfl, w3, q3⟩
      · exact ⟨F', R2, ρ2, _, rfl, w', q', fun σ3 F3 R3 ρ3 w3 q3 => ⟨F3, R3, ρ3, rfl, w3, q3⟩, k.rt, k.ex, k.nx, fun σ3 F3 R3 ρ3 w3 q3 => ⟨F3, R3, ρ3, rfl, w3, q3⟩⟩
/-! ### comprehensions -/
def wipe3 (ρ : Env3) : List Nat → Env3
  | [] => ρ
  | v :: vs => (wipe3 ρ vs).set v .emp
theorem Wd.setE {K : KC} {σ : St} {F R : Hp} {ρ : Env3} (w : Wd K B σ F R ρ) (i : Nat) : Wd K B (σ.set i none) F R (ρ.set i .emp) := by
  have keyV : ∀ {s : Sl} {j : Nat}, s ≠ .emp → (ρ.set i .emp)[j]? = some s → i ≠ j ∧ ρ[j]? = some s := fun {s j} hs h => by
    by_cases hj : i = j
    · subst hj
      by_cases hl : i < ρ.length
      · rw [List.getElem?_set_self hl] at h
        cases h
        exact absurd rfl hs
      · rw [List.getElem?_eq_none (by rw [List.length_set]; omega)] at h
        cases h
    · rw [List.getElem?_set_ne hj] at h
      exact ⟨hj, h⟩
  refine ⟨w.tb, w.ex, w.fr, w.dj, by rw [List.length_set, List.length_set]; exact w.len, fun j d h => ?_, fun j ds h => ?_, fun j c a fs h => ?_, fun j k a dj dk h1 h2 h3 h4 => ?_⟩
  · obtain ⟨n, h'⟩ := keyV (fun z => by cases z) h
    rw [List.getElem?_set_ne n]
    exact w.val j d h'
  · obtain ⟨n, h'⟩ := keyV (fun z => by cases z) h
    rw [List.getElem?_set_ne n]
    exact w.own j ds h'
  · obtain ⟨n, h'⟩ := keyV (fun z => by cases z) h
    rw [List.getElem?_set_ne n]
    exact w.obj j c a fs h'
  · obtain ⟨n1, g1⟩ := keyV (fun z => by cases z) h1
    obtain ⟨n2, g2⟩ := keyV (fun z => by cases z) h2
    rw [List.getElem?_set_ne n1] at h3
    rw [List.getElem?_set_ne n2] at h4
    exact w.sep j k a dj dk g1 g2 h3 h4
theorem Wd.wipe {K : KC} {σ : St} {F R : Hp} {ρ : Env3} (w : Wd K B σ F R ρ) : ∀ vs : List Nat, Wd K B (L2.wipe σ vs) F R (wipe3 ρ vs)
  | [] => w
  | v :: vs => (Wd.wipe w vs).setE v
theorem wipe_get (σ : St) : ∀ (vs : List Nat) (j : Nat), j < σ.length → (L2.wipe σ vs)[j]? = if j ∈ vs then some none else σ[j]?
  | [], j, _ => by simp [L2.wipe]
  | v :: vs, j, hl => by
    unfold L2.wipe
    have ih := wipe_get σ vs j hl
    have hl2 : j < (L2.wipe σ vs).length := by rw [wipe_length]; exact hl
    by_cases h : v = j
    · subst h
      rw [List.getElem?_set_self hl2]
      simp
    · rw [List.getElem?_set_ne h, ih]
      have : (j ∈ v :: vs) ↔ j ∈ vs := by
        rw [List.mem_cons]
        exact ⟨fun z => z.elim (fun e => absurd e.symm h) id, .inr⟩
      simp only [this]
theorem wipe_chg {σ σ' : St} {vs : List Nat} (c : Chg vs (L2.wipe σ vs) σ') : L2.wipe σ' vs = L2.wipe σ vs := by
  have hl : σ'.length = σ.length := by rw [c.1, wipe_length]
  apply List.ext_getElem?
  intro j
  by_cases h : j < σ.length
  · rw [wipe_get σ' vs j (by omega), wipe_get σ vs j h]
    by_cases m : j ∈ vs
    · rw [if_pos m, if_pos m]
    · rw [if_neg m, if_neg m, c.2 j m, wipe_get σ vs j h, if_neg m]
  · rw [List.getElem?_eq_none (by rw [wipe_length]; omega), List.getElem?_eq_none (by rw [wipe_length]; omega)]
/-- the items made, one behind the other -/
def compL (g : G3) (t : RT) (re : RE) (vs : List Nat) (ρ : Env3) (Q : List D → Prop) : List D → List D → Prop
  | [], acc => Q acc
  | d :: ds, acc => g d (wipe3 ρ vs) (fun ρ' => t ρ' (fun b => match b with
    | true => re ρ' (fun y => compL g t re vs ρ Q ds (acc ++ [y])) (fun _ => False)
    | false => compL g t re vs ρ Q ds acc) (fun _ => False))
def rComp (ri : RA) (g : G3) (t : RT) (re : RE) (vs : List Nat) : RA := fun ρ Q E => ri ρ (fun ds => ds.length ≤ sizeLine ∧ compL g t re vs ρ Q ds []) E
abbrev W0 : WX := fun _ _ _ _ => False
theorem lL_comp {K : KC} {is vs : List Nat} {g : G3} {σ : St} {H : Hp} {Q : VK} (hsub : ∀ j ∈ is, j ∈ vs) (h : lL K B W (rComp ri g rt re vs) σ H Q) :
    tLc (lI K B W ri) (lG K is g) (lT K B W0 rt) (lE K B W0 re) vs σ H Q := by
  obtain ⟨F, R, ρ, Q', E', rfl, w, q, kk, kx⟩ := h
  refine ⟨F, R, ρ, _, E', rfl, w, q, fun J ds F1 x1 dj1 wk q1 => ?_, kx⟩
  intro p hp
  have w1 := w.ext x1 dj1
  obtain ⟨hsz, q1⟩ := q1
  -- behind i items: the list at p holds acc, so many as items at most; all else stands
  refine ⟨fun i m H' => m + i = ds.length ∧ ∃ F2 acc accD, H' = jn F2 (upd R p (.lst acc)) ∧ Ext K F1 F2 ∧ Dj F2 R ∧ F2 p = none ∧ Reps K F2 acc accD ∧ acc.length ≤ i ∧ compL g rt re vs ρ Q' (ds.drop i) accD, ⟨ds.length, by omega, F1, [], [], ?_, .refl _, dj1, (jn_none hp).1, Reps.nil, Nat.zero_le _, by simpa using q1⟩, ?_⟩
  · exact jn_updR (jn_none hp).1
  rintro i m H' ⟨hm, F2, acc, accD, rfl, x2, dj2, np, ra, hacc, q2⟩
  have djp : Dj F2 (upd R p (.lst acc)) := dj2.updR np
  by_cases hl : i < ds.length
  · refine .inr ⟨wk.go F2 _ i x2 djp hl, fun H3 => ∃ F3 acc3 accD3, H3 = jn F3 (upd R p (.lst acc3)) ∧ Ext K F1 F3 ∧ Dj F3 R ∧ F3 p = none ∧ Reps K F3 acc3 accD3 ∧ acc3.length ≤ i + 1 ∧ compL g rt re vs ρ Q' (ds.drop (i + 1)) accD3, ?_, ?_⟩
    · rintro H3 ⟨F3, acc3, accD3, e3, x3, dj3, np3, ra3, ha3, q3⟩
      exact ⟨m - 1, by omega, by omega, F3, acc3, accD3, e3, x3, dj3, np3, ra3, ha3, q3⟩
    · intro v H3 hy
      obtain ⟨F3, d, rfl, x3, dj3, e3, r3⟩ := wk.yld F2 _ i v H3 x2 djp hl hy
      have ed : ds.drop i = d :: ds.drop (i + 1) := by
        obtain ⟨h1, h2⟩ := List.getElem?_eq_some_iff.mp e3
        rw [(List.drop_eq_getElem_cons h1), h2]
      rw [ed] at q2
      have np3 : F3 p = none := by
        cases e : F3 p with
        | none => rfl
        | some o =>
          have := dj3 p o e
          rw [upd_same] at this
          cases this
      -- the world within: the list that is being made is of the rest
      have wi : Wd K B (L2.wipe σ vs) F3 (upd R p (.lst acc)) (wipe3 ρ vs) := by
        have w0 := (w1.ext (x2.trans x3) (F' := F3) (dj_down (jn_none hp).2 dj3).2).wipe vs
        refine ⟨w0.tb, w0.ex, fun b o hb => ?_, dj3, w0.len, w0.val, fun j es hj => ?_, fun j c b fs hj => ?_, w0.sep⟩
        · have h1 := w0.fr b o hb
          have : b ≠ p := fun z => by rw [z, (jn_none hp).2] at h1; cases h1
          rw [upd_ne this]
          exact h1
        · obtain ⟨b, us, g1, g2, g3, g4⟩ := w0.own j es hj
          have : b ≠ p := fun z => by rw [z, (jn_none hp).2] at g2; cases g2
          exact ⟨b, us, g1, by rw [upd_ne this]; exact g2, g3, g4⟩
        · obtain ⟨z, dx, us, g1, g2, g3, g4⟩ := w0.obj j c b fs hj
          have n1 : b ≠ p := fun z => by rw [z, (jn_none hp).2] at g2; cases g2
          have n2 : dx ≠ p := fun z => by rw [z, (jn_none hp).2] at g3; cases g3
          exact ⟨z, dx, us, g1, by rw [upd_ne n1]; exact g2, by rw [upd_ne n2]; exact g3, g4⟩
      refine ⟨B, F3, _, _, d, _, rfl, wi, r3, q2, fun σ4 ρ4 w4 c4 _ q4 => ⟨wipe_chg ⟨c4.1, fun j hj => c4.2 j fun z => hj (hsub j z)⟩, ?_⟩⟩
      refine ⟨F3, _, ρ4, _, _, rfl, w4, q4, fun b b' F4 x4 dj4 eb q5 => ?_, fun _ _ _ _ _ _ _ z => z.elim⟩
      cases eb
      have down : ∀ {F5 : Hp}, Dj F5 (upd R p (.lst acc)) → Dj F5 R ∧ F5 p = none := fun {F5} dj5 => (dj_down (jn_none hp).2 dj5).symm
      cases b with
      | false =>
        obtain ⟨d5, n5⟩ := down dj4
        exact ⟨F4, acc, accD, rfl, (x2.trans x3).trans x4, d5, n5, Reps.ext (x3.trans x4) _ _ ra, by omega, q5⟩
      | true =>
        refine ⟨F4, _, ρ4, _, _, rfl, w4.ext x4 dj4, q5, fun y yd F5 x5 dj5 ry q6 => ?_, fun _ _ _ _ _ _ _ z => z.elim⟩
        obtain ⟨d5, n5⟩ := down dj5
        refine ⟨acc, (jn_of_r dj5 upd_same).2, by omega, F5, acc ++ [y], accD ++ [yd], ?_, ((x2.trans x3).trans x4).trans x5, d5, n5, Reps.append (Reps.ext ((x3.trans x4).trans x5) _ _ ra) (Reps.cons ry Reps.nil), by rw [List.length_append, List.length_singleton]; omega, q6⟩
        rw [jn_updR n5, upd_upd]
  · refine .inl ⟨wk.stop F2 _ i x2 djp (by omega), ?_⟩
    rw [List.drop_eq_nil_of_le (by omega)] at q2
    have hp2 : jn F2 R p = none := by
      rw [jn_r np]
      exact (jn_none hp).2
    rw [← jn_updR np]
    exact kk p acc accD F2 (x1.trans x2) dj2 ra (by omega) q2 hp2
theorem kc_blk {T : List (Addr × Str)} (hpn : X.pn = []) (s : Shared) (H : Hp) (scope : Scope) (env : Env) (fp : List Addr) : kc T (X.blk s H scope env fp) = kc T X := by
  show (⟨X.K, cmOf X.mg, [], T⟩ : KC) = ⟨X.K, cmOf X.mg, X.pn, T⟩
  rw [hpn]
/-- the tests of a comprehension -/
abbrev DTs (B : Bs) (X : Cx) (W : WX) (ifs : List Expr) (r : RT) : Prop := PTs X ifs (lT (kc B.T X) B W r)
theorem dts_nil : DTs B X W [] (rC true) := ⟨fun pins s σ H Q I ⟨F, R, ρ, Q', E', hH, w, q, k⟩ => by
  subst hH
  exact pts_nil.run pins s σ _ Q I (k.ok true true F (.refl _) w.dj rfl q)⟩
theorem dts_one (h : DT B X W c rt) : DTs B X W [c] rt := ⟨fun pins s σ H Q I q => (pts_one h).run pins s σ H Q I q⟩
theorem fe_comp {iter elt : Expr} {ifs : List Expr} {scope : Scope} {own : List (Str × Nat)} {is vs : List Nat} {g : G3} (hc : X.calm = true) (hN : X.N.Nodup) (hi : DI B X W tg iter ri) (ok : BlkOk X.N X.env.scope scope own)
    (hg : ∀ (s : Shared) (H : Hp) (C : Addr) (cl : List (Str × Addr)) (fp : List Addr), DG B.T (X.blk s H scope (compEnvC scope cl C X.env) fp) is tg g)
    (ht : ∀ (s : Shared) (H : Hp) (C : Addr) (cl : List (Str × Addr)) (fp : List Addr), DTs B (X.blk s H scope (compEnvC scope cl C X.env) fp) W0 ifs rt)
    (he : ∀ (s : Shared) (H : Hp) (C : Addr) (cl : List (Str × Addr)) (fp : List Addr), DE B (X.blk s H scope (compEnvC scope cl C X.env) fp) W0 elt re)
    (hsub : ∀ j ∈ is, j ∈ vs) (hvs : own.map (·.2) = vs := by rfl) (hpn : X.pn = [] := by rfl) (hs : ∀ x, foldedSetIterable iter X.env x = pure x := by intro _; rfl) :
    FE B X W (.ListComp elt [{ target := tg, iter := iter, ifs := ifs, is_async := 0 }] scope pos) (rComp ri g rt re vs) :=
  (pe_lc hc hN hi ok (fun s H C cl fp => by have h := hg s H C cl fp; unfold DG at h; rw [kc_blk hpn] at h; exact h) (fun s H C cl fp => by have h := ht s H C cl fp; unfold DTs at h; rw [kc_blk hpn] at h; exact h) (fun s H C cl fp => by have h := he s H C cl fp; unfold DE at h; rw [kc_blk hpn] at h; exact h) hs).imp fun _ _ _ h => by rw [hvs]; exact lL_comp hsub h
theorem ds_setLc {i : Nat} {y : Str} {py spos : Pos} {iter elt : Expr} {ifs : List Expr} {scope : Scope} {own : List (Str × Nat)} {is vs : List Nat} {g : G3} (hc : X.calm = true) (hN : X.N.Nodup) (hiN : X.N[i]? = some y) (hloc : X.env.scope.names.lookup y = some .local)
    (hsw : swapsWith (.ListComp elt [{ target := tg, iter := iter, ifs := ifs, is_async := 0 }] scope pos) (some (.Name y py)) spos.line X.env = pure true) (hi : DI B X W tg iter ri) (ok : BlkOk X.N X.env.scope scope own)
    (hg : ∀ (s : Shared) (H : Hp) (C : Addr) (cl : List (Str × Addr)) (fp : List Addr), DG B.T (X.blk s H scope (compEnvC scope cl C X.env) fp) is tg g)
    (ht : ∀ (s : Shared) (H : Hp) (C : Addr) (cl : List (Str × Addr)) (fp : List Addr), DTs B (X.blk s H scope (compEnvC scope cl C X.env) fp) W0 ifs rt)
    (he : ∀ (s : Shared) (H : Hp) (C : Addr) (cl : List (Str × Addr)) (fp : List Addr), DE B (X.blk s H scope (compEnvC scope cl C X.env) fp) W0 elt re)
    (hsub : ∀ j ∈ is, j ∈ vs) (hvs : own.map (·.2) = vs := by rfl) (hpn : X.pn = [] := by rfl) (hs : ∀ x, foldedSetIterable iter X.env x = pure x := by intro _; rfl) :
    DS B X W (.Assign [.Name y py] (.ListComp elt [{ target := tg, iter := iter, ifs := ifs, is_async := 0 }] scope pos) spos) (rSetL i (rComp ri g rt re vs)) :=
  ds_setLT (ps_setLc hc hN hiN hloc hsw hi ok (fun s H C cl fp => by have h := hg s H C cl fp; unfold DG at h; rw [kc_blk hpn] at h; exact h) (fun s H C cl fp => by have h := ht s H C cl fp; unfold DTs at h; rw [kc_blk hpn] at h; exact h) (fun s H C cl fp => by have h := he s H C cl fp; unfold DE at h; rw [kc_blk hpn] at h; exact h) hs) fun _ _ _ h => by rw [hvs]; exact lL_comp hsub h
end
end L3
namespace L3
open PySem PySem.Spec L2
open PyProof.Rows hiding St
/-! ### a def's start, a def's end -/
def start3 (n : Nat) (ds : List D) : Env3 := ds.map Sl.val ++ List.replicate (n - ds.length) .emp
theorem reps_slots {K : KC} {F : Hp} {n : Nat} : ∀ {ds : List D} {vs : List V}, Reps K F vs ds → ∀ (i : Nat) (d : D), (ds.map Sl.val ++ List.replicate n Sl.emp)[i]? = some (.val d) → ∃ v, (vs.map some ++ List.replicate n none)[i]? = some (some v) ∧ Rep K F v d
  | [], vs, h, i, d, e => by
    simp only [List.map_nil, List.nil_append] at e
    rw [List.getElem?_replicate] at e
    split at e <;> cases e
  | d0 :: ds, vs, h, i, d, e => by
    obtain ⟨v, r, rfl, h1, h2⟩ := reps_cons h
    cases i with
    | zero =>
      simp at e
      subst e
      exact ⟨v, rfl, h1⟩
    | succ i => simpa using reps_slots (n := n) h2 i d (by simpa using e)
theorem wd_start {K : KC} {F R : Hp} {N : List Str} {vs : List V} {ds : List D} (dj : Dj F R) (tb : LamX.Tabs K.T F) (r : Reps K F vs ds) {B : Bs} (hF : B.F0 = F) (hR : B.Fr = R) : Wd K B (L2.start N vs) F R (start3 N.length ds) where
  tb := tb
  ex := by rw [hF]; exact .refl _
  fr := fun a o h => by rw [hR] at h; exact h
  dj := dj
  len := by
    unfold L2.start start3
    rw [List.length_append, List.length_append, List.length_map, List.length_map, List.length_replicate, List.length_replicate, r.length]
  val := fun i d h => by
    unfold start3 at h
    unfold L2.start
    rw [r.length]
    exact reps_slots r i d h
  own := fun i es h => by
    unfold start3 at h
    have := List.mem_of_getElem? h
    simp at this
  obj := fun i c a fs h => by
    unfold start3 at h
    have := List.mem_of_getElem? h
    simp at this
  sep := fun i j a di dj h _ _ _ => by
    unfold start3 at h
    have := List.mem_of_getElem? h
    simp at this
/-- what a def owned goes to what is shared -/
theorem absorb {K : KC} {B : Bs} {σ : St} {F R : Hp} {ρ : Env3} (w : Wd K B σ F R ρ) : ∃ F', jn F R = jn F' B.Fr ∧ Ext K F F' ∧ Dj F' B.Fr := by
  refine ⟨fun a => if (B.Fr a).isSome then none else jn F R a, ?_, ?_, ?_⟩
  · funext a
    cases e : B.Fr a with
    | none =>
      cases h : jn F R a with
      | some o => exact (jn_l (by rw [e]; exact h)).symm
      | none => exact ((jn_r (by rw [e]; exact h)).trans e).symm
    | some o =>
      have h1 := w.fr a o e
      rw [(jn_of_r w.dj h1).2]
      exact ((jn_r (by rw [e]; rfl)).trans e).symm
  · refine Ext.of fun a o h => ?_
    cases e : B.Fr a with
    | none =>
      exact jn_l h
    | some u =>
      have h1 := w.fr a u e
      rw [w.dj a o h] at h1
      cases h1
  · refine ⟨fun a o h => ?_, fun a ps h => w.dj.nt a ps (w.fr a _ h)⟩
    cases e : B.Fr a with
    | none => rfl
    | some u =>
      have h' : (if (B.Fr a).isSome = true then none else jn F R a) = some o := h
      rw [e] at h'
      simp at h'
abbrev WD (E : XK) : WX := fun cls d _ H => E cls d H
section
variable {P : Program} {w : World} {K : PySem.W.Frag} {mg : Str → Option Value} {base : Heap} {T : List (Addr × Str)}
/-- THE RULE for a def: its body's derivation, and that its promise over data gives the body's reading -/
theorem fn3 {x qual : Str} {st : Stmt} {f : Addr} {fd : FuncData} {N ps : List Str} {k n : Nat} {sp : Sp3} {r : RS} (F : Fun K x qual st f fd) (S : FnScope N ps (defScope st)) (hn : ps.length = n)
    (hbody : ∀ (cdv : Value) (A : Around) (outer : List Env) (s : Shared) (H : Hp) (E : XK) (B : Bs), B.T = T → Room k (A.deeper (envOfC qual (defScope st) s.heap.objs.size f cdv)) → Takes (cxOf (L2.CX P w) P w K mg base N qual (defScope st) f cdv A outer s H E) (WD E) →
      DSs B (cxOf (L2.CX P w) P w K mg base N qual (defScope st) f cdv A outer s H E) (WD E) (defBody st) r)
    (hp : ∀ (ds : List D) (Q : D → Prop) (E : XD → Prop), ds.length = n → sp ds Q E → r { nx := fun _ => Q .non, rt := Q, ex := E } (start3 N.length ds)) :
    FnOk P w K mg base (L2.CX P w) (k + 1) f fd ps (lSp ⟨K, cmOf mg, [], T⟩ n sp) := by
  refine F.okX S (fun vs H Q E h => ?_) (fun cdv A outer s H vs Q E hr h => ?_)
  · obtain ⟨_, _, _, _, _, _, _, _, _, hl, _⟩ := h
    rw [hl, hn]
  · obtain ⟨F0, R0, ds, Q', E', hH, dj, tb, rd, hl, hs, kv, kx⟩ := h
    subst hH
    let B : Bs := ⟨F0, R0, T⟩
    have tk : Takes (cxOf (L2.CX P w) P w K mg base N qual (defScope st) f cdv A outer s (jn F0 R0) E) (WD E) := takes_of rfl rfl rfl rfl
    refine ⟨_, hbody cdv A outer s (jn F0 R0) E B rfl hr tk, ?_⟩
    refine ⟨F0, R0, start3 N.length ds, _, rfl, wd_start dj tb rd rfl rfl, hp ds Q' E' (by rw [← rd.length]; exact hl) hs, ?_⟩
    refine ⟨fun σ F R ρ w q => ?_, fun v d σ F R ρ w rv q => ?_, fun x cls od σ F R ρ w rx q => ?_, fun σ F R ρ w q => q.elim, fun σ F R ρ w q => q.elim⟩
    · obtain ⟨F', e, x1, d1⟩ := absorb w
      rw [e]
      exact kv.ok _ _ F' (w.ex.trans x1) d1 of_non q
    · obtain ⟨F', e, x1, d1⟩ := absorb w
      rw [e]
      exact kv.ok _ _ F' (w.ex.trans x1) d1 (Rep.ext x1 _ _ rv) q
    · obtain ⟨F', e, x1, d1⟩ := absorb w
      show E cls od (jn F R)
      rw [e]
      exact kx x cls od F' (w.ex.trans x1) d1 (rx.ext x1) q
end
/-! ### errors of the package: their making -/
/-- what the text says of an error's class, whose __init__ stores its arguments -/
structure ExOk (K : PySem.W.Frag) (mg : Str → Option Value) (c : Str) (C fI : Addr) (flds : List Str) : Prop where
  gC : mg c = some (.ref C)
  ox : OexC K C
  no : ∀ f ∈ flds, PySem.W.findIn K (.ref C) f = some none
  iC : PySem.W.findIn K (.ref C) "__init__" = some (some (.ref fI))
  tI : PySem.W.typeIn K (.ref fI) = some (.type "function")
/-- the fields that stand at an error's dict: the last one stored first -/
def exF (flds : List Str) (vs : List V) : List (Str × V) := (flds.zip vs).reverse
def spInit (K : PySem.W.Frag) (flds : List Str) : Sp := fun vs H Q _ => ∃ (a C : Addr) (ws : List V), vs = .ref a :: ws ∧ ws.length = flds.length ∧ OexC K C ∧ (∀ f ∈ flds, PySem.W.findIn K (.ref C) f = some none) ∧ H a = some (exo a C none) ∧
  ∀ d, H d = none → d ≠ a → ∀ H', H' a = some (exo a C (some d)) → H' d = some (exd d (exF flds ws)) → (∀ b, b ≠ a → b ≠ d → H' b = H b) → Q .non H'
section
variable {P : Program} {w : World} {K : PySem.W.Frag}
variable {mg : Str → Option Value} {base : Heap}
theorem exF_1 {f : Str} {v : V} : exF [f] [v] = [(f, v)] := rfl
theorem exF_2 {f g : Str} {v u : V} : exF [f, g] [v, u] = [(g, u), (f, v)] := rfl
theorem exF_3 {f g h : Str} {v u z : V} : exF [f, g, h] [v, u, z] = [(h, z), (g, u), (f, v)] := rfl
/-- __init__ of one field -/
theorem ok_init1 {qual : Str} {st : Stmt} {f : Addr} {fd : FuncData} {f1 : Str} {s1 a1 b1 c1 : Pos} (F : Fun K "__init__" qual st f fd) (S : FnScope ["self", f1] ["self", f1] (defScope st))
    (hbd : defBody st = [.Assign [.Attribute (.Name "self" s1) f1 a1] (.Name f1 b1) c1])
    (hv0 : Vis (defScope st) "self") (hv1 : Vis (defScope st) f1) (h1 : (f1 == ("__debug__" : Str)) = false) (h2 : (f1 == ("__classdict__" : Str)) = false) :
    FnOk P w K mg base (L2.CX P w) 1 f fd ["self", f1] (spInit K [f1]) := by
  refine F.okX S (fun vs H Q E h => ?_) (fun cdv A outer s H vs Q E hr h => ?_)
  · obtain ⟨a, C, ws, rfl, hl, _⟩ := h
    rw [List.length_cons, hl]
    rfl
  · rw [hbd]
    refine ⟨_, pss_one (ps_ost (pe_var (i := 0) rfl hv0) (pe_var (i := 1) rfl hv1 h1 h2)), ?_⟩
    obtain ⟨a, C, ws, rfl, hl, ox, no, ha, q⟩ := h
    match ws, hl with
    | [v], _ =>
      refine ⟨v, rfl, .ref a, rfl, a, C, rfl, ox, no f1 (by simp), .inl ⟨ha, fun dx hdx hne => ?_⟩⟩
      refine q dx hdx hne _ upd_same ?_ (fun b hb1 hb2 => ?_)
      · rw [upd_ne hne, upd_same, exF_1]
      · rw [upd_ne hb1, upd_ne hb2]
theorem ok_init2 {qual : Str} {st : Stmt} {f : Addr} {fd : FuncData} {f1 f2 : Str} {s1 a1 b1 c1 s2 a2 b2 c2 : Pos} (F : Fun K "__init__" qual st f fd) (S : FnScope ["self", f1, f2] ["self", f1, f2] (defScope st))
    (hbd : defBody st = [.Assign [.Attribute (.Name "self" s1) f1 a1] (.Name f1 b1) c1, .Assign [.Attribute (.Name "self" s2) f2 a2] (.Name f2 b2) c2])
    (hv0 : Vis (defScope st) "self") (hv1 : Vis (defScope st) f1) (h1 : (f1 == ("__debug__" : Str)) = false) (h2 : (f1 == ("__classdict__" : Str)) = false) (hv2 : Vis (defScope st) f2) (h3 : (f2 == ("__debug__" : Str)) = false) (h4 : (f2 == ("__classdict__" : Str)) = false) :
    FnOk P w K mg base (L2.CX P w) 1 f fd ["self", f1, f2] (spInit K [f1, f2]) := by
  refine F.okX S (fun vs H Q E h => ?_) (fun cdv A outer s H vs Q E hr h => ?_)
  · obtain ⟨a, C, ws, rfl, hl, _⟩ := h
    rw [List.length_cons, hl]
    rfl
  · rw [hbd]
    refine ⟨_, pss_cons (ps_ost (pe_var (i := 0) rfl hv0) (pe_var (i := 1) rfl hv1 h1 h2)) (pss_one (ps_ost (pe_var (i := 0) rfl hv0) (pe_var (i := 2) rfl hv2 h3 h4))), ?_⟩
    obtain ⟨a, C, ws, rfl, hl, ox, no, ha, q⟩ := h
    match ws, hl with
    | [v, u], _ =>
      refine ⟨v, rfl, .ref a, rfl, a, C, rfl, ox, no f1 (by simp), .inl ⟨ha, fun dx hdx hne => ?_⟩⟩
      refine ⟨u, rfl, .ref a, rfl, a, C, rfl, ox, no f2 (by simp), .inr ⟨dx, _, upd_same, (by rw [upd_ne hne]; exact upd_same), by simp, ?_⟩⟩
      refine q dx hdx hne _ ?_ ?_ (fun b hb1 hb2 => ?_)
      · rw [upd_ne (Ne.symm hne), upd_same]
      · rw [upd_same, exF_2]
      · rw [upd_ne hb2, upd_ne hb1, upd_ne hb2]
theorem ok_init3 {qual : Str} {st : Stmt} {f : Addr} {fd : FuncData} {f1 f2 f3 : Str} {s1 a1 b1 c1 s2 a2 b2 c2 s3 a3 b3 c3 : Pos} (F : Fun K "__init__" qual st f fd) (S : FnScope ["self", f1, f2, f3] ["self", f1, f2, f3] (defScope st))
    (hbd : defBody st = [.Assign [.Attribute (.Name "self" s1) f1 a1] (.Name f1 b1) c1, .Assign [.Attribute (.Name "self" s2) f2 a2] (.Name f2 b2) c2, .Assign [.Attribute (.Name "self" s3) f3 a3] (.Name f3 b3) c3])
    (hv0 : Vis (defScope st) "self") (hv1 : Vis (defScope st) f1) (h1 : (f1 == ("__debug__" : Str)) = false) (h2 : (f1 == ("__classdict__" : Str)) = false) (hv2 : Vis (defScope st) f2) (h3 : (f2 == ("__debug__" : Str)) = false) (h4 : (f2 == ("__classdict__" : Str)) = false) (hv3 : Vis (defScope st) f3) (h5 : (f3 == ("__debug__" : Str)) = false) (h6 : (f3 == ("__classdict__" : Str)) = false) :
    FnOk P w K mg base (L2.CX P w) 1 f fd ["self", f1, f2, f3] (spInit K [f1, f2, f3]) := by
  refine F.okX S (fun vs H Q E h => ?_) (fun cdv A outer s H vs Q E hr h => ?_)
  · obtain ⟨a, C, ws, rfl, hl, _⟩ := h
    rw [List.length_cons, hl]
    rfl
  · rw [hbd]
    refine ⟨_, pss_cons (ps_ost (pe_var (i := 0) rfl hv0) (pe_var (i := 1) rfl hv1 h1 h2)) (pss_cons (ps_ost (pe_var (i := 0) rfl hv0) (pe_var (i := 2) rfl hv2 h3 h4)) (pss_one (ps_ost (pe_var (i := 0) rfl hv0) (pe_var (i := 3) rfl hv3 h5 h6)))), ?_⟩
    obtain ⟨a, C, ws, rfl, hl, ox, no, ha, q⟩ := h
    match ws, hl with
    | [v, u, z], _ =>
      refine ⟨v, rfl, .ref a, rfl, a, C, rfl, ox, no f1 (by simp), .inl ⟨ha, fun dx hdx hne => ?_⟩⟩
      refine ⟨u, rfl, .ref a, rfl, a, C, rfl, ox, no f2 (by simp), .inr ⟨dx, _, upd_same, (by rw [upd_ne hne]; exact upd_same), by simp, ?_⟩⟩
      refine ⟨z, rfl, .ref a, rfl, a, C, rfl, ox, no f3 (by simp), .inr ⟨dx, _, (by rw [upd_ne (Ne.symm hne)]; exact upd_same), upd_same, by simp, ?_⟩⟩
      refine q dx hdx hne _ ?_ ?_ (fun b hb1 hb2 => ?_)
      · rw [upd_ne (Ne.symm hne), upd_ne (Ne.symm hne), upd_same]
      · rw [upd_same, exF_3]
      · rw [upd_ne hb2, upd_ne hb2, upd_ne hb1, upd_ne hb2]
end
section
variable {B : Bs} {T : List (Addr × Str)} {X : Cx} {W : WX} {e : Expr} {es : List Expr} {rs : RA} {pos pos2 : Pos}
theorem repF_zip {K : KC} {F : Hp} : ∀ {flds : List Str} {vs : List V} {ds : List D}, Reps K F vs ds → flds.length = vs.length → RepF K F (flds.zip vs) (flds.zip ds)
  | [], vs, ds, _, _ => by simp [RepF]
  | f :: fs, vs, [], h, hl => by rw [reps_nil h] at hl; cases hl
  | f :: fs, vs, d :: ds, h, hl => by
    obtain ⟨v, r, rfl, h1, h2⟩ := reps_cons h
    simp only [List.zip_cons_cons]
    unfold RepF
    exact ⟨v, _, rfl, h1, repF_zip h2 (by simpa using hl)⟩
theorem repF_append {K : KC} {F : Hp} : ∀ {xs : List (Str × V)} {ds : List (Str × D)} {ys : List (Str × V)} {es : List (Str × D)}, RepF K F xs ds → RepF K F ys es → RepF K F (xs ++ ys) (ds ++ es)
  | xs, [], ys, es, h, g => by
    unfold RepF at h
    rw [h]
    exact g
  | xs, (k, d) :: ds, ys, es, h, g => by
    unfold RepF at h
    obtain ⟨v, r, rfl, h1, h2⟩ := h
    rw [List.cons_append, List.cons_append]
    unfold RepF
    exact ⟨v, _, rfl, h1, repF_append h2 g⟩
theorem repF_reverse {K : KC} {F : Hp} {ds : List (Str × D)} : ∀ {xs : List (Str × V)}, RepF K F xs ds → RepF K F xs.reverse ds.reverse := by
  induction ds with
  | nil =>
    intro xs h
    unfold RepF at h
    rw [h]
    simp [RepF]
  | cons kd ds ih =>
    obtain ⟨k, d⟩ := kd
    intro xs h
    unfold RepF at h
    obtain ⟨v, r, rfl, h1, h2⟩ := h
    rw [(List.reverse_cons), List.reverse_cons]
    refine repF_append (ih h2) ?_
    unfold RepF
    exact ⟨v, [], rfl, h1, by simp [RepF]⟩
def exD (c : Str) (flds : List Str) (ds : List D) : XD := ⟨c, (flds.zip ds).reverse⟩
/-- raise C(e, ..) -/
def rRaise (c : Str) (flds : List Str) (rs : RA) : RS := fun N ρ => rs ρ (fun ds => ds.length = flds.length ∧ N.ex (exD c flds ds)) N.ex
theorem ds_raise {c : Str} {C fI : Addr} {flds : List Str} {k : Nat} {fd : FuncData} {p : Pos} (hc : X.calm = true) (tk : Takes X W) (O : ExOk X.K X.mg c C fI flds) (hsm : flds.length ≤ 900) (hne : flds ≠ []) (G : FnOk X.prog X.w X.K X.mg X.base (L2.CX X.prog X.w) k fI fd ("self" :: flds) (spInit X.K flds)) (hr : Room (k + 1) X.A)
    (hb : Binds X.K fd ("self" :: flds) []) (hg : Gl X c) (ha : DA B X W (e :: es) rs) (hdb : (c == ("__debug__" : Str)) = false := by decide)
    (he :  starEach (e :: es) X.env = (false, eval e X.env) :: starEach es X.env := by rfl) (hpl : (backTo pos (starEach es X.env)).any (·.1) = false := by rfl) :
    DS B X W (.Raise (some (.Call (.Name c p) (e :: es) [] pos)) none pos2) (rRaise c flds rs) :=
  (ps_raise hc tk (pmk_oex (dvs := []) O.ox O.iC O.tI G hr hb .nil passL hg O.gC ha hdb he hpl)).imp fun D σ H ⟨F, R, ρ, N, hH, w, q, k⟩ => by
    subst hH
    refine k.lf w q fun vs ds F' x w' rv q' => ⟨by rw [rv.length, q'.1]; omega, fun a hna => ?_⟩
    refine ⟨a, C, vs, by rw [List.append_nil], by rw [rv.length]; exact q'.1, O.ox, O.no, upd_same, fun d hd hda H' e1 e2 e3 => ⟨rfl, d, _, e1, e2, ?_, ?_⟩⟩
    · rw [upd_ne hda] at hd
      exact hd
    · have hd' : jn F' R d = none := by
        rw [upd_ne hda] at hd
        exact hd
      have eH : upd (del H' a) d (.xd (exF flds vs)) = jn (upd F' d (.xd (exF flds vs))) R := by
        rw [← jn_newF hd']
        funext b
        by_cases hb1 : b = d
        · subst hb1
          rw [upd_same, upd_same]
        · rw [upd_ne hb1, upd_ne hb1]
          by_cases hb2 : b = a
          · subst hb2
            rw [del_same, hna]
          · rw [del_ne hb2, e3 b hb2 hb1, upd_ne hb2]
      rw [eH]
      have x2 : Ext (kc B.T X) F' (upd F' d (.xd (exF flds vs))) := Ext.newF hd'
      refine k.ex (exD c flds ds) _ _ σ _ R ρ (w'.ext x2 (w'.dj.newF hd')) ⟨by show Value.ref C = Value.ref ((kc B.T X).cm c); rw [show (kc B.T X).cm c = C from cmOf_eq O.gC], .inr ⟨d, _, rfl, upd_same, ?_⟩⟩ q'.2
      unfold exF exD
      exact repF_reverse (repF_zip (Reps.ext x2 _ _ rv) (by rw [rv.length]; exact q'.1.symm))
end
end L3
namespace L3
open PySem PySem.Spec L2
open PyProof.Rows hiding St
section
variable {B : Bs} {T : List (Addr × Str)} {X : Cx} {W : WX} {a b c e tg : Expr} {es rest : List Expr} {ra rb rc re : RE} {rt : RT} {rs ri : RA} {pos : Pos} {st : Stmt} {sts body : List Stmt} {r r1 r2 : RS}
/-! ### chains, is, not of a test -/
def rChain (g g' : G2) (ra rb rc : RE) : RE := fun ρ Q E => ra ρ (fun d => rb ρ (fun e => g d e (toB fun k => match k with
  | true => rc ρ (fun f => g' e f Q) E
  | false => Q (.bl false))) E) E
theorem de_chain {op op' : CmpOp} {g g' : G2} (ho : Op2 X (compareOp op) g) (ho' : Op2 X (compareOp op') g') (ha : DE B X W a ra) (hb : DE B X W b rb) (hc : DE B X W c rc) (hl : lastMarks [op, op'] [b, c] = false := by rfl) : DE B X W (.Compare a [op, op'] [b, c] pos) (rChain g g' ra rb rc) :=
  (pe_chain (ho B.T) (ho' B.T) ha hb hc hl).imp fun σ H Q h => by
    refine lf_then (k := fun d ρ Q E => rb ρ (fun e => g d e (toB fun k => match k with
      | true => rc ρ (fun f => g' e f Q) E
      | false => Q (.bl false))) E) h fun v d F R ρ Q' E' w rv q k => ?_
    refine ⟨F, R, ρ, _, E', rfl, w, q, fun u e F1 x1 dj1 ru q1 => ?_, k.ex⟩
    refine ⟨F1, R, d, e, _, rfl, dj1, Rep.ext x1 _ _ rv, ru, q1, ⟨fun z dz F2 x2 dj2 rz q2 => ?_⟩⟩
    cases dz with
    | bl kk =>
      refine ⟨kk, rep_bl rz, ?_⟩
      cases kk with
      | true =>
        rw [if_pos rfl]
        exact ⟨F2, R, ρ, _, E', rfl, w.ext (x1.trans x2) dj2, q2, fun y f F3 x3 dj3 ry q3 => ⟨F3, R, e, f, Q', rfl, dj3, Rep.ext (x2.trans x3) _ _ ru, ry, q3, (((k.ext x1).ext x2).ext x3).kv⟩, ((k.ext x1).ext x2).ex⟩
      | false =>
        rw [if_neg (by simp)]
        exact k.ok _ _ F2 (x1.trans x2) dj2 (of_bl _) q2
    | _ => exact (show False from q2).elim
def rNotT (t : RT) : RE := fun ρ Q E => t ρ (fun b => Q (.bl (!b))) E
def isNonD : D → Bool
  | .non => true
  | _ => false
theorem isNon_rep {K : KC} {F : Hp} {v : V} {d : D} (h : Rep K F v d) : decide (v = .non) = isNonD d := by
  cases d with
  | non => rw [rep_non h]; rfl
  | bl _ => rw [rep_bl h]; rfl
  | int _ => rw [rep_int h]; rfl
  | str _ => rw [rep_str h]; rfl
  | tup _ => obtain ⟨_, _, rfl, _⟩ := rep_tup h; rfl
  | lst _ => obtain ⟨_, _, rfl, _⟩ := rep_lst h; rfl
  | scr _ => obtain ⟨_, rfl, _⟩ := rep_scr h; rfl
  | dct _ => unfold Rep at h; obtain ⟨_, _, rfl, _⟩ := h; rfl
  | ins _ _ => unfold Rep at h; obtain ⟨_, _, _, rfl, _⟩ := h; rfl
  | pen => unfold Rep at h; obtain ⟨_, _, rfl, _⟩ := h; rfl
  | exc _ _ => unfold Rep at h; obtain ⟨_, _, _, rfl, _⟩ := h; rfl
def rIsN (re : RE) : RE := fun ρ Q E => re ρ (fun d => Q (.bl (isNonD d))) E
def rIsNotN (re : RE) : RE := fun ρ Q E => re ρ (fun d => Q (.bl (!isNonD d))) E
theorem de_isN {j : Nat} {p : Pos} (h : DE B X W a ra) : DE B X W (.Compare a [.Is] [.Constant .none j p] pos) (rIsN ra) := (pe_cmp (pc_isN h) (nobehind _ (by decide) (by decide))).imp fun σ H Q ⟨F, R, ρ, Q', E', hH, w, q, k⟩ => by
  subst hH
  exact ⟨F, R, ρ, _, E', rfl, w, q, fun v d F' x dj rv q' => k.ok _ _ F' x dj (by rw [isNon_rep rv]; exact of_bl _) q', k.ex⟩
theorem de_isnotN {j : Nat} {p : Pos} (h : DE B X W a ra) : DE B X W (.Compare a [.IsNot] [.Constant .none j p] pos) (rIsNotN ra) := (pe_cmp (pc_notN h) (nobehind _ (by decide) (by decide))).imp fun σ H Q ⟨F, R, ρ, Q', E', hH, w, q, k⟩ => by
  subst hH
  exact ⟨F, R, ρ, _, E', rfl, w, q, fun v d F' x dj rv q' => k.ok _ _ F' x dj (by rw [isNon_rep rv]; exact of_bl _) q', k.ex⟩
def isBlD (b : Bool) : D → Bool
  | .bl c => c == b
  | _ => false
def rIsAny : R2 := fun x y H Q => ∃ b, y = .bl b ∧ Q (.bl (decide (x = .bl b))) H
theorem op_isAny : OpR X (compareOp .Is) rIsAny := fun pins s σ H x y v u Q I rx ry ⟨b, e, q⟩ => by
  subst e
  obtain rfl : u = Value.bool b := ry
  by_cases h : x = .bl b
  · subst h
    obtain rfl : v = Value.bool b := rx
    exact wpAny_is_self rfl ⟨.bl true, H, I, rfl, (by simpa using q)⟩
  · have hne : v ≠ Value.bool b := fun z => h (by
      subst z
      exact (RelV.inj (x := x) (y := .bl b) rx rfl))
    refine wpAny_is_other ?_ hne ⟨.bl false, H, I, rfl, by simpa [h] using q⟩
    cases x with
    | non => obtain rfl : v = Value.none := rx; rfl
    | bl c => obtain rfl : v = Value.bool c := rx; rfl
    | int i => obtain ⟨t, rfl⟩ := (show ∃ t, v = Value.int i t from rx); rfl
    | str z => obtain ⟨t, rfl⟩ := (show ∃ t, v = Value.str z t from rx); rfl
    | byt z => obtain ⟨t, rfl⟩ := (show ∃ t, v = Value.bytes z t from rx); rfl
    | flt z => obtain ⟨t, rfl⟩ := (show ∃ t, v = Value.float z t from rx); rfl
    | ref p => obtain rfl : v = Value.ref p := rx; rfl
    | ty n => obtain rfl : v = Value.type n := rx; rfl
theorem isBl_rep {K : KC} {F : Hp} {v : V} {d : D} {b : Bool} (h : Rep K F v d) : decide (v = .bl b) = isBlD b d := by
  cases d with
  | bl c =>
    rw [rep_bl h]
    show decide (V.bl c = V.bl b) = (c == b)
    exact dec_bl
  | non => rw [rep_non h]; rfl
  | int _ => rw [rep_int h]; rfl
  | str _ => rw [rep_str h]; rfl
  | tup _ => obtain ⟨_, _, rfl, _⟩ := rep_tup h; rfl
  | lst _ => obtain ⟨_, _, rfl, _⟩ := rep_lst h; rfl
  | scr _ => obtain ⟨_, rfl, _⟩ := rep_scr h; rfl
  | dct _ => unfold Rep at h; obtain ⟨_, _, rfl, _⟩ := h; rfl
  | ins _ _ => unfold Rep at h; obtain ⟨_, _, _, rfl, _⟩ := h; rfl
  | pen => unfold Rep at h; obtain ⟨_, _, rfl, _⟩ := h; rfl
  | exc _ _ => unfold Rep at h; obtain ⟨_, _, _, rfl, _⟩ := h; rfl
def rIsB (b : Bool) (re : RE) : RE := fun ρ Q E => re ρ (fun d => Q (.bl (isBlD b d))) E
theorem de_isB {bv : Bool} {j : Nat} {p : Pos} (h : DE B X W a ra) : DE B X W (.Compare a [.Is] [.Constant (.bool bv) j p] pos) (rIsB bv ra) := (pe_cmpR op_isAny h pe_bl (nobehind _ (by decide) (by decide))).imp fun σ H Q ⟨F, R, ρ, Q', E', hH, w, q, k⟩ => by
  subst hH
  exact ⟨F, R, ρ, _, E', rfl, w, q, fun v d F' x dj rv q' => ⟨bv, rfl, k.ok _ _ F' x dj (by rw [isBl_rep rv]; exact of_bl _) q'⟩, k.ex⟩
/-! ### return; {}; lengths of one's own; list(range(..)) -/
def rRetN : RS := fun N ρ => N.rt .non
theorem ds_retN : DS B X W (.Return none pos) rRetN := ps_retN.imp fun D σ H ⟨F, R, ρ, N, hH, w, q, k⟩ => by
  subst hH
  exact k.rt _ _ σ F R ρ w of_non q
theorem de_dict0 : DE B X W (.Dict [] [] pos) (rC (.dct [])) := pe_dnewK.imp fun σ H Q ⟨F, R, ρ, Q', E', hH, w, q, k⟩ => by
  subst hH
  intro p hp
  rw [jn_newF hp]
  refine k.ok _ _ _ (Ext.newF hp) (w.dj.newF hp) ?_ q
  unfold Rep
  exact ⟨p, [], rfl, upd_same, by simp, by simp [RepK]⟩
def rListRg (Q : List D → Prop) : List D → Prop := fun ds => match ds with
  | [.int j] => (0 ≤ j ∧ j ≤ 16777216) ∧ Q (rangeD 0 j.toNat)
  | _ => False
def rListRange1 (rs : RA) : RA := fun ρ Q E => rs ρ (rListRg Q) E
theorem rg_reps {K : KC} {F : Hp} {j : Int} : Reps K F (rgV 0 j) (rangeD 0 j.toNat) := by
  unfold rgV rangeD
  rw [show (j - 0).toNat = j.toNat by omega]
  generalize List.range j.toNat = l
  induction l with
  | nil => exact Reps.nil
  | cons i l ih => exact Reps.cons (of_int _) ih
theorem fe_listRange1 {p p2 pos2 : Pos} (hg : Gl X "list") (hm : X.mg "list" = none) (hgr : Gl X "range") (hmr : X.mg "range" = none) (he : DE B X W a ra) (hc : X.calm = true := by rfl)
    (na : starEach [.Call (.Name "range" p2) [a] [] pos2] X.env = (false, eval (.Call (.Name "range" p2) [a] [] pos2) X.env) :: starEach [] X.env := by rfl) (nb : starEach [a] X.env = (false, eval a X.env) :: starEach [] X.env := by rfl) : FE B X W (.Call (.Name "list" p) [.Call (.Name "range" p2) [a] [] pos2] [] pos) (rListRange1 (rCons ra rNil)) :=
  (pe_listRg hc hg hm (prg_1 hgr hmr he nb) na).imp fun σ H Q ⟨F, R, ρ, Q', E', hH, w, q, kk, kx⟩ => by
    subst hH
    refine ⟨F, R, ρ, _, E', rfl, w, q, fun v d F' x dj rv q' => ?_, kx⟩
    have q2 : rListRg Q' [d] := q'
    unfold rListRg at q2
    split at q2
    · rename_i j hj
      cases hj
      obtain ⟨⟨h0, h1⟩, q'⟩ := q2
      refine ⟨j, rep_int rv, .of_le (by omega) h1 (by omega) h0, fun p hp => kk p _ _ F' x dj rg_reps ?_ q' hp⟩
      rw [rgV_length, sizeLine_eq]
      omega
    · exact q2.elim
/-! ### attributes of the package's objects -/
/-- the class c has no attribute f of its own -/
def FldOk (K : PySem.W.Frag) (mg : Str → Option Value) (c f : Str) : Prop := ∃ C, mg c = some (.ref C) ∧ Cls K C ∧ NoAttr K C f
theorem repF_look {K : KC} {F : Hp} {f : Str} {d : D} : ∀ {ds : List (Str × D)} {fs : List (Str × V)}, RepF K F fs ds → ds.lookup f = some d → ∃ v, fs.lookup f = some v ∧ Rep K F v d
  | [], _, _, e => by cases e
  | (k, d0) :: ds, fs, h, e => by
    unfold RepF at h
    obtain ⟨v, r, rfl, h1, h2⟩ := h
    rw [List.lookup_cons] at e ⊢
    cases hb : (f == k) with
    | true =>
      rw [hb] at e
      cases Option.some.inj e
      exact ⟨v, rfl, h1⟩
    | false =>
      rw [hb] at e
      exact repF_look h2 e
def gFld (c f : Str) (Q : D → Prop) : D → Prop := fun d => match d with
  | .ins c' fs => c' = c ∧ match fs.lookup f with
    | some d => Q d
    | none => False
  | _ => False
def rFld (c f : Str) (re : RE) : RE := fun ρ Q E => re ρ (gFld c f Q) E
theorem de_fld {c f : Str} (Y : FldOk X.K X.mg c f) (he : DE B X W e re) (hb : attributeBase e f X.env (eval e X.env) = eval e X.env := by rfl) : DE B X W (.Attribute e f pos) (rFld c f re) := (pe_fld he hb).imp fun σ H Q ⟨F, R, ρ, Q', E', hH, w, q, k⟩ => by
  subst hH
  obtain ⟨C, gC, cl, na⟩ := Y
  refine ⟨F, R, ρ, _, E', rfl, w, q, fun v d F' x dj rv q' => ?_, k.ex⟩
  cases d with
  | ins c' fs =>
    obtain ⟨rfl, q2⟩ := (show c' = c ∧ (match fs.lookup f with | some d => Q' d | none => False) from q')
    unfold Rep at rv
    obtain ⟨p, dx, ws, rfl, hp, rf⟩ := rv
    split at q2
    · rename_i d0 hd
      obtain ⟨u, hu, ru⟩ := repF_look rf hd
      rw [show (kc B.T X).cm c' = C from cmOf_eq gC] at hp
      exact ⟨p, C, dx, ws, u, rfl, jn_l hp, cl, na, hu, k.ok _ _ F' x dj ru q2⟩
    · exact q2.elim
  | _ => exact (show False from q').elim
/-! ### an object in the making: self.f = e -/
def putD (f : Str) (d : D) : List (Str × D) → List (Str × D)
  | [] => [(f, d)]
  | (g, x) :: r => if g = f then (g, d) :: r else (g, x) :: putD f d r
theorem repF_put {K : KC} {F : Hp} {f : Str} {d : D} {v : V} (h : Rep K F v d) : ∀ {ds : List (Str × D)} {fs : List (Str × V)}, RepF K F fs ds → RepF K F (putF f v fs) (putD f d ds)
  | [], fs, g => by
    unfold RepF at g
    rw [g]
    unfold putF putD RepF
    exact ⟨v, [], rfl, h, by simp [RepF]⟩
  | (k, x) :: ds, fs, g => by
    unfold RepF at g
    obtain ⟨u, r, rfl, h1, h2⟩ := g
    unfold putF putD
    by_cases hk : k = f
    · rw [if_pos hk, if_pos hk]
      unfold RepF
      exact ⟨v, r, rfl, h, h2⟩
    · rw [if_neg hk, if_neg hk]
      unfold RepF
      exact ⟨u, _, rfl, h1, repF_put h h2⟩
theorem RepF.length {K : KC} {F : Hp} : ∀ {ds : List (Str × D)} {fs : List (Str × V)}, RepF K F fs ds → fs.length = ds.length
  | [], fs, g => by
    unfold RepF at g
    rw [g]
    rfl
  | (k, x) :: ds, fs, g => by
    unfold RepF at g
    obtain ⟨u, r, rfl, h1, h2⟩ := g
    rw [List.length_cons, List.length_cons, RepF.length h2]
theorem Wd.put {K : KC} {σ : St} {F R : Hp} {ρ : Env3} (w : Wd K B σ F R ρ) {i : Nat} {c f : Str} {fs : List (Str × D)} {d : D} {v : V} {a : Addr} (h : ρ[i]? = some (.obj c a fs)) (r : Rep K F v d) : ∃ dx ws, σ[i]? = some (some (.ref a)) ∧ jn F R a = some (.ins (K.cm c) dx ws) ∧ ws.length = fs.length ∧
    upd (jn F R) a (.ins (K.cm c) dx (putF f v ws)) = jn F (upd R a (.ins (K.cm c) dx (putF f v ws))) ∧ Wd K B σ F (upd R a (.ins (K.cm c) dx (putF f v ws))) (ρ.set i (.obj c a (putD f d fs))) := by
  obtain ⟨z, dx, ws, e1, e2, e3, e4, e5, e6⟩ := w.obj i c a fs h
  have hi : i < ρ.length := (List.getElem?_eq_some_iff.mp h).1
  have nF := (jn_of_r w.dj e2).1
  have nd : dx ≠ a := fun q => by rw [q, e2] at e3; cases e3
  refine ⟨dx, ws, e1, (jn_of_r w.dj e2).2, e4.length, jn_updR nF, w.tb, w.ex, fun b o hb => ?_, w.dj.updR nF, by rw [List.length_set]; exact w.len, fun j e hj => ?_, fun j es hj => ?_, fun j c' a' fs' hj => ?_, fun j k b dj dk h1 h2 h3 h4 => ?_⟩
  · have : b ≠ a := fun z => by rw [z, e5] at hb; cases hb
    rw [upd_ne this]
    exact w.fr b o hb
  · by_cases q : i = j
    · subst q
      rw [List.getElem?_set_self hi] at hj
      cases hj
    · rw [List.getElem?_set_ne q] at hj
      exact w.val j e hj
  · by_cases q : i = j
    · subst q
      rw [List.getElem?_set_self hi] at hj
      cases hj
    · rw [List.getElem?_set_ne q] at hj
      obtain ⟨b, us, g1, g2, g3, g4⟩ := w.own j es hj
      have : b ≠ a := fun z => by rw [z, e2] at g2; cases g2
      exact ⟨b, us, g1, by rw [upd_ne this]; exact g2, g3, g4⟩
  · by_cases q : i = j
    · subst q
      rw [List.getElem?_set_self hi] at hj
      cases hj
      exact ⟨z, dx, _, e1, upd_same, by rw [upd_ne nd]; exact e3, repF_put r e4, e5, e6⟩
    · rw [List.getElem?_set_ne q] at hj
      obtain ⟨z', _⟩ := w.obj j c' a' fs' hj
      exact absurd (z.trans z'.symm) q
  · have key : ∀ {j : Nat} {ds' : List D}, (ρ.set i (.obj c a (putD f d fs)))[j]? = some (.own ds') → ρ[j]? = some (.own ds') := fun {j ds'} hh => by
      by_cases q : i = j
      · subst q
        rw [List.getElem?_set_self hi] at hh
        cases hh
      · rw [List.getElem?_set_ne q] at hh
        exact hh
    exact w.sep j k b _ _ (key h1) (key h2) h3 h4
def rSelf (i : Nat) (f : Str) (re : RE) : RS := fun N ρ => match ρ[i]? with
  | some (.obj c a fs) => re ρ (fun d => fs.length < 900 ∧ N.nx (ρ.set i (.obj c a (putD f d fs)))) N.ex
  | _ => False
theorem ds_self {i : Nat} {c f x : Str} {p p' : Pos} (Y : FldOk X.K X.mg c f) (hv : PE X (.Name x p) (tVar i)) (he : DE B X W e re) (hs : swapsWith e (some (.Attribute (.Name x p) f p')) pos.line X.env = pure false := by rfl) :
    DS B X W (.Assign [.Attribute (.Name x p) f p'] e pos) (fun N ρ => (match ρ[i]? with | some (.obj c' _ _) => c' = c | _ => False) ∧ rSelf i f re N ρ) := (ps_fld hv he hs).imp fun D0 σ H ⟨F, R, ρ, N, hH, w, ⟨qc, q⟩, k⟩ => by
  subst hH
  obtain ⟨C, gC, cl, na⟩ := Y
  unfold rSelf at q
  split at q
  · rename_i c' a0 fs hi
    rw [hi] at qc
    obtain rfl : c' = c := qc
    refine k.lf w q fun v d F' x w' rv q' => ?_
    obtain ⟨dx, ws, e1, e2, e3, e4, w2⟩ := w'.put (f := f) hi rv
    refine ⟨_, e1, a0, C, dx, ws, rfl, ?_, cl, na, by omega, ?_⟩
    · rw [e2, show (kc B.T X).cm c' = C from cmOf_eq gC]
    · rw [show (kc B.T X).cm c' = C from cmOf_eq gC] at e4 w2
      rw [e4]
      exact k.nx _ F' _ _ w2 q'.2
  · exact q.elim
/-- what __init__ promises: from the arguments the fields -/
abbrev SpI := List D → (List (Str × D) → Prop) → (XD → Prop) → Prop
def hpI (Fr : Hp) (C a dx : Addr) : Hp := upd (upd Fr dx (.own a)) a (.ins C dx [])
def lSpI (K : KC) (n : Nat) (c : Str) (sp : SpI) : Sp := fun vs H Q E => ∃ F Fr a dx us ds Q' E', vs = .ref a :: us ∧ us.length = n ∧ H = jn F (hpI Fr (K.cm c) a dx) ∧ Dj F (hpI Fr (K.cm c) a dx) ∧ LamX.Tabs K.T F ∧ Reps K F us ds ∧ Fr a = none ∧ Fr dx = none ∧ dx ≠ a ∧ sp ds Q' E' ∧
  (∀ fs F', Ext K F F' → Dj F' Fr → Rep K F' (.ref a) (.ins c fs) → Q' fs → Q .non (jn F' Fr)) ∧
  ∀ x cls od F', Ext K F F' → Dj F' Fr → RepX K F' cls od x → E' x → E cls od (jn F' Fr)
def startI (c : Str) (a : Addr) (n : Nat) (ds : List D) : Env3 := .obj c a [] :: start3 (n - 1) ds
theorem wd_startI {K : KC} {F Fr : Hp} {a dx : Addr} {c x0 : Str} {N : List Str} {us : List V} {ds : List D} (dj : Dj F (hpI Fr (K.cm c) a dx)) (tb : LamX.Tabs K.T F) (r : Reps K F us ds) (na : Fr a = none) (nd : Fr dx = none) (ne : dx ≠ a) {T : List (Addr × Str)} :
    Wd K ⟨F, Fr, T⟩ (L2.start (x0 :: N) (.ref a :: us)) F (hpI Fr (K.cm c) a dx) (startI c a (N.length + 1) ds) := by
  have es : L2.start (x0 :: N) (.ref a :: us) = some (.ref a) :: L2.start N us := by
    unfold L2.start
    rw [List.map_cons, List.length_cons, List.length_cons, Nat.add_sub_add_right]
    rfl
  have djF : Dj F Fr := (dj_down nd (dj_down (by rw [upd_ne (Ne.symm ne)]; exact na) dj).2).2
  have w := wd_start (N := N) (B := ⟨F, Fr, T⟩) djF tb r rfl rfl
  rw [es]
  refine ⟨tb, .refl _, fun b o h => ?_, dj, by show (some _ :: L2.start N us).length = (Sl.obj c a [] :: start3 (N.length + 1 - 1) ds).length; rw [List.length_cons, List.length_cons, w.len]; rfl, fun i d h => ?_, fun i es h => ?_, fun i c' a' fs h => ?_, fun i j b di dj' h1 h2 h3 h4 => ?_⟩
  · have h : Fr b = some o := h
    have n1 : b ≠ a := fun z => by rw [z, na] at h; cases h
    have n2 : b ≠ dx := fun z => by rw [z, nd] at h; cases h
    unfold hpI
    rw [upd_ne n1, upd_ne n2]
    exact h
  · cases i with
    | zero => cases h
    | succ i => exact w.val i d h
  · cases i with
    | zero => cases h
    | succ i =>
      obtain ⟨b, vs, _, e2, _⟩ := w.own i es h
      have := List.mem_of_getElem? (show (start3 N.length ds)[i]? = some (Sl.own es) from h)
      unfold start3 at this
      simp at this
  · cases i with
    | zero =>
      cases h
      exact ⟨rfl, dx, [], rfl, upd_same, (by unfold hpI; rw [upd_ne ne]; exact upd_same), (by simp [RepF]), na, nd⟩
    | succ i =>
      have := List.mem_of_getElem? (show (start3 N.length ds)[i]? = some (Sl.obj c' a' fs) from h)
      unfold start3 at this
      simp at this
  · cases i with
    | zero => cases h1
    | succ i =>
      have := List.mem_of_getElem? (show (start3 N.length ds)[i]? = some (Sl.own di) from h1)
      unfold start3 at this
      simp at this
section
variable {P : Program} {w : World} {K : PySem.W.Frag} {mg : Str → Option Value} {base : Heap} {T : List (Addr × Str)}
/-- what is wanted behind __init__ -/
def nxI (c : Str) (a : Addr) (Q : List (Str × D) → Prop) : Env3 → Prop := fun ρ => match (ρ[0]? : Option Sl) with
  | some (Sl.obj c' a' fs) => c' = c ∧ a' = a ∧ Q fs
  | _ => False
theorem fnI {qual c : Str} {st : Stmt} {f : Addr} {fd : FuncData} {N ps : List Str} {k n : Nat} {sp : SpI} {r : RS} (F : Fun K "__init__" qual st f fd) (S : FnScope ("self" :: N) ("self" :: ps) (defScope st)) (hn : ps.length = n)
    (hbody : ∀ (cdv : Value) (A : Around) (outer : List Env) (s : Shared) (H : Hp) (E : XK) (B : Bs), B.T = T → Room k (A.deeper (envOfC qual (defScope st) s.heap.objs.size f cdv)) → Takes (cxOf (L2.CX P w) P w K mg base ("self" :: N) qual (defScope st) f cdv A outer s H E) (WD E) →
      DSs B (cxOf (L2.CX P w) P w K mg base ("self" :: N) qual (defScope st) f cdv A outer s H E) (WD E) (defBody st) r)
    (hp : ∀ (a : Addr) (ds : List D) (Q : List (Str × D) → Prop) (E : XD → Prop), ds.length = n → sp ds Q E → r { nx := nxI c a Q, rt := fun _ => False, ex := E } (startI c a (N.length + 1) ds)) :
    FnOk P w K mg base (L2.CX P w) (k + 1) f fd ("self" :: ps) (lSpI ⟨K, cmOf mg, [], T⟩ n c sp) := by
  refine F.okX S (fun vs H Q E h => ?_) (fun cdv A outer s H vs Q E hr h => ?_)
  · obtain ⟨_, _, _, _, us, _, _, _, rfl, hl, _⟩ := h
    rw [List.length_cons, List.length_cons, hl, hn]
  · obtain ⟨F0, R0, a, dx, us, ds, Q', E', rfl, hl, hH, dj, tb, rd, na, nd, ne, hs, kv, kx⟩ := h
    subst hH
    have tk : Takes (cxOf (L2.CX P w) P w K mg base ("self" :: N) qual (defScope st) f cdv A outer s (jn F0 (hpI R0 (cmOf mg c) a dx)) E) (WD E) := takes_of rfl rfl rfl rfl
    refine ⟨_, hbody cdv A outer s _ E ⟨F0, R0, T⟩ rfl hr tk, ?_⟩
    refine ⟨F0, _, _, _, rfl, wd_startI dj tb rd na nd ne, hp a ds Q' E' (by rw [← rd.length]; exact hl) hs, ?_⟩
    refine ⟨fun σ F R ρ w q => ?_, fun v d σ F R ρ w rv q => q.elim, fun x cls od σ F R ρ w rx q => ?_, fun σ F R ρ w q => q.elim, fun σ F R ρ w q => q.elim⟩
    · have q : nxI c a Q' ρ := q
      unfold nxI at q
      split at q
      · rename_i c' a' fs hi
        obtain ⟨rfl, rfl, q9⟩ := q
        obtain ⟨_, dx', ws, e1, e2, e3, e4, e5, e6⟩ := w.obj 0 _ _ _ hi
        obtain ⟨F', e, x1, d1⟩ := absorb w
        show Q V.non (jn F R)
        rw [e]
        refine kv fs F' (w.ex.trans x1) d1 ?_ q9
        unfold Rep
        have h1 : jn F R a' = some (.ins (cmOf mg c') dx' ws) := (jn_of_r w.dj e2).2
        rw [e] at h1
        refine ⟨a', dx', ws, rfl, ?_, RepF.ext x1 _ _ e4⟩
        cases h2 : F' a' with
        | some o => rw [jn_l h2] at h1; exact h1
        | none =>
          rw [jn_r h2] at h1
          have h5 : R0 a' = some (.ins (cmOf mg c') dx' ws) := h1
          rw [show R0 a' = none from e5] at h5
          cases h5
      · exact q.elim
    · obtain ⟨F', e, x1, d1⟩ := absorb w
      show E cls od (jn F R)
      rw [e]
      exact kx x cls od F' (w.ex.trans x1) d1 (rx.ext x1) q
end
section
variable {B : Bs} {T : List (Addr × Str)} {X : Cx} {W : WX} {a b c e tg : Expr} {es rest : List Expr} {ra rb rc re : RE} {rt : RT} {rs ri : RA} {pos : Pos}
/-- C(e, ..): a new object -/
def rMake (n : Nat) (c : Str) (sp : SpI) (rs : RA) : RE := fun ρ Q E => rs ρ (fun ds => ds.length = n ∧ sp ds (fun fs => Q (.ins c fs)) E) E
structure MkOk (K : PySem.W.Frag) (mg : Str → Option Value) (c : Str) (C fI : Addr) : Prop where
  gC : mg c = some (.ref C)
  mks : Mk K C fI
theorem de_make {c : Str} {C fI : Addr} {k n : Nat} {fd : FuncData} {ps : List Str} {sp : SpI} {p : Pos} {E : XK} (M : MkOk X.K X.mg c C fI) (G : FnOk X.prog X.w X.K X.mg X.base (L2.CX X.prog X.w) k fI fd ps (lSpI (kc B.T X) n c sp)) (hr : Room (k + 1) X.A) (hg : Gl X c) (hb : Binds X.K fd ps []) (tk : Takes X (WD E))
    (ha : DA B X (WD E) (e :: es) rs) (hd : (c == ("__debug__" : Str)) = false := by decide)
    (he : starEach (e :: es) X.env = (false, eval e X.env) :: starEach es X.env := by rfl) (hpl : (backTo pos (starEach es X.env)).any (·.1) = false := by rfl) : DE B X (WD E) (.Call (.Name c p) (e :: es) [] pos) (rMake n c sp rs) :=
  (pe_make (dvs := []) M.mks G hr hg M.gC hb .nil (fun pins σ H s u s' I h => passes_call tk (fun _ _ _ _ q => q) pins σ H s u s' I h) ha hd he hpl).imp fun σ H Q h => by
    refine lf_then (k := fun ds ρ Q E => ds.length = n ∧ sp ds (fun fs => Q (D.ins c fs)) E) h fun vs ds F R ρ Q' E' w rv q k => ?_
    intro x dx hx hdx hne
    have eC : (kc B.T X).cm c = C := cmOf_eq M.gC
    have nx := jn_none hx
    have nd := jn_none hdx
    have eH : upd (upd (jn F R) dx (.own x)) x (.ins C dx []) = jn F (hpI R ((kc B.T X).cm c) x dx) := by
      unfold hpI
      rw [eC, jn_updR nd.1, jn_updR nx.1]
    rw [List.append_nil, eH]
    refine ⟨F, R, x, dx, vs, ds, _, E', rfl, by rw [rv.length]; exact q.1, rfl, (w.dj.updR nd.1).updR nx.1, w.tb, rv, nx.2, nd.2, hne, q.2, fun fs F' x1 d1 rp q2 => ⟨rfl, k.ok _ _ F' x1 d1 rp q2⟩, fun y cls od F' x1 d1 rx q2 => k.ex y cls od F' x1 d1 rx q2⟩
end
end
end L3
namespace L3
open PySem PySem.Spec L2
open PyProof.Rows hiding St
/-! ### comprehensions with two for -/
def compZ (g : G3) (t : RT) (re : RE) (vs : List Nat) (ρ : Env3) (Q : List D → Prop) : List D → List D → Prop
  | [], acc => Q acc
  | d :: ds, acc => g d (wipe3 ρ vs) (fun ρ' => t ρ' (fun b => match b with
    | true => re ρ' (fun y => acc.length < sizeLine ∧ compZ g t re vs ρ Q ds (acc ++ [y])) (fun _ => False)
    | false => compZ g t re vs ρ Q ds acc) (fun _ => False))
def comp2L (g : G3) (t : RT) (ri1 : RA) (g1 : G3) (t1 : RT) (re : RE) (vs vs1 : List Nat) (ρ : Env3) (Q : List D → Prop) : List D → List D → Prop
  | [], acc => Q acc
  | d :: ds, acc => g d (wipe3 ρ vs) (fun ρ' => t ρ' (fun b => match b with
    | true => ri1 ρ' (fun es => compZ g1 t1 re vs1 ρ' (fun acc' => comp2L g t ri1 g1 t1 re vs vs1 ρ Q ds acc') es acc) (fun _ => False)
    | false => comp2L g t ri1 g1 t1 re vs vs1 ρ Q ds acc) (fun _ => False))
def rComp2 (ri : RA) (g : G3) (t : RT) (ri1 : RA) (g1 : G3) (t1 : RT) (re : RE) (vs vs1 : List Nat) : RA := fun ρ Q E => ri ρ (fun ds => comp2L g t ri1 g1 t1 re vs vs1 ρ (fun l => l.length ≤ sizeLine ∧ Q l) ds []) E
/-- the world within a comprehension: the list in the making is of the rest -/
theorem Wd.inn {K : KC} {B : Bs} {σ : St} {F R : Hp} {ρ : Env3} (w : Wd K B σ F R ρ) {p : Addr} (np : R p = none) {acc : List V} (dj : Dj F (upd R p (.lst acc))) : Wd K B σ F (upd R p (.lst acc)) ρ := by
  refine ⟨w.tb, w.ex, fun b o hb => ?_, dj, w.len, w.val, fun j es hj => ?_, fun j c b fs hj => ?_, w.sep⟩
  · have h1 := w.fr b o hb
    have : b ≠ p := fun z => by rw [z, np] at h1; cases h1
    rw [upd_ne this]
    exact h1
  · obtain ⟨b, us, g1, g2, g3⟩ := w.own j es hj
    have : b ≠ p := fun z => by rw [z, np] at g2; cases g2
    exact ⟨b, us, g1, by rw [upd_ne this]; exact g2, g3⟩
  · obtain ⟨z, dx, us, g1, g2, g3, g4⟩ := w.obj j c b fs hj
    have n1 : b ≠ p := fun z => by rw [z, np] at g2; cases g2
    have n2 : dx ≠ p := fun z => by rw [z, np] at g3; cases g3
    exact ⟨z, dx, us, g1, by rw [upd_ne n1]; exact g2, by rw [upd_ne n2]; exact g3, g4⟩
/-- .. another list there -/
theorem Wd.inn' {K : KC} {B : Bs} {σ : St} {F R : Hp} {ρ : Env3} {p : Addr} {acc acc' : List V} (w : Wd K B σ F (upd R p (.lst acc)) ρ) (hp : B.Fr p = none) (ho : ∀ (j : Nat) (es : List D) (b : Addr), ρ[j]? = some (.own es) → σ[j]? = some (some (.ref b)) → b ≠ p) (dj : Dj F (upd R p (.lst acc'))) : Wd K B σ F (upd R p (.lst acc')) ρ := by
  refine ⟨w.tb, w.ex, fun b o hb => ?_, dj, w.len, w.val, fun j es hj => ?_, fun j c b fs hj => ?_, w.sep⟩
  · have h1 := w.fr b o hb
    have : b ≠ p := fun z => by rw [z, hp] at hb; cases hb
    rw [upd_ne this] at h1 ⊢
    exact h1
  · obtain ⟨b, us, g1, g2, g3⟩ := w.own j es hj
    have : b ≠ p := ho j es b hj g1
    rw [upd_ne this] at g2
    exact ⟨b, us, g1, by rw [upd_ne this]; exact g2, g3⟩
  · obtain ⟨z, dx, us, g1, g2, g3, g4⟩ := w.obj j c b fs hj
    have n1 : b ≠ p := fun z => by rw [z, upd_same] at g2; cases g2
    have n2 : dx ≠ p := fun z => by rw [z, upd_same] at g3; cases g3
    rw [upd_ne n1] at g2
    rw [upd_ne n2] at g3
    exact ⟨z, dx, us, g1, by rw [upd_ne n1]; exact g2, by rw [upd_ne n2]; exact g3, g4⟩
section
variable {B : Bs} {X : Cx} {W : WX} {a b c e tg : Expr} {ra rb rc re : RE} {rt t1 : RT} {rs ri ri1 : RA} {g g1 : G3} {pos : Pos}
theorem lL_comp2 {K : KC} {is vs js vs1 : List Nat} {σ : St} {H : Hp} {Q : VK} (hsub : ∀ j ∈ is, j ∈ vs) (hsub1 : ∀ j ∈ js, j ∈ vs1) (h : lL K B W (rComp2 ri g rt ri1 g1 t1 re vs vs1) σ H Q) :
    tLc2 (lI K B W ri) (lG K is g) (lT K B W0 rt) (lI K B W0 ri1) (lG K js g1) (lT K B W0 t1) (lE K B W0 re) vs vs1 σ H Q := by
  obtain ⟨F, R, ρ, Q', E', rfl, w, q, kk, kx⟩ := h
  refine ⟨F, R, ρ, _, E', rfl, w, q, fun J ds F1 x1 dj1 wk q1 => ?_, kx⟩
  intro p hp
  have np0 := jn_none hp
  have w1 := w.ext x1 dj1
  -- what stands between two turns: F2, the list at p
  let St2 : (List D → Prop) → Hp → Hp → Prop := fun G Fb H' => ∃ F2 acc accD, H' = jn F2 (upd R p (.lst acc)) ∧ Ext K Fb F2 ∧ Dj F2 R ∧ F2 p = none ∧ Reps K F2 acc accD ∧ G accD
  refine ⟨fun i m H' => m + i = ds.length ∧ St2 (comp2L g rt ri1 g1 t1 re vs vs1 ρ (fun l => l.length ≤ sizeLine ∧ Q' l) (ds.drop i)) F1 H', ⟨ds.length, by omega, F1, [], [], jn_updR np0.1, .refl _, dj1, np0.1, Reps.nil, by simpa using q1⟩, ?_⟩
  rintro i m H' ⟨hm, F2, acc, accD, rfl, x2, dj2, np, ra, q2⟩
  have djp : Dj F2 (upd R p (.lst acc)) := dj2.updR np
  by_cases hl : i < ds.length
  · refine .inr ⟨wk.go F2 _ i x2 djp hl, fun H3 => St2 (comp2L g rt ri1 g1 t1 re vs vs1 ρ (fun l => l.length ≤ sizeLine ∧ Q' l) (ds.drop (i + 1))) F1 H3, fun H3 h3 => ⟨m - 1, by omega, by omega, h3⟩, ?_⟩
    intro v H3 hy
    obtain ⟨F3, d, rfl, x3, dj3, e3, r3⟩ := wk.yld F2 _ i v H3 x2 djp hl hy
    have ed : ds.drop i = d :: ds.drop (i + 1) := by
      obtain ⟨h1, h2⟩ := List.getElem?_eq_some_iff.mp e3
      rw [(List.drop_eq_getElem_cons h1), h2]
    rw [ed] at q2
    have dd3 := dj_down np0.2 dj3
    have wi : Wd K B (L2.wipe σ vs) F3 (upd R p (.lst acc)) (wipe3 ρ vs) := ((w1.ext (x2.trans x3) dd3.2).wipe vs).inn np0.2 dj3
    refine ⟨B, F3, _, _, d, _, rfl, wi, r3, q2, fun σ4 ρ4 w4 c4 o4 q4 => ⟨wipe_chg ⟨c4.1, fun j hj => c4.2 j fun z => hj (hsub j z)⟩, ?_⟩⟩
    refine ⟨F3, _, ρ4, _, _, rfl, w4, q4, fun b b' F4 x4 dj4 eb q5 => ?_, fun _ _ _ _ _ _ _ z => z.elim⟩
    cases eb
    cases b with
    | false =>
      obtain ⟨n5, d5⟩ := dj_down np0.2 dj4
      exact ⟨F4, acc, accD, rfl, (x2.trans x3).trans x4, d5, n5, Reps.ext (x3.trans x4) _ _ ra, q5⟩
    | true =>
      rw [if_pos rfl]
      -- own lists of this frame are not at p
      have hpB : B.Fr p = none := by
        cases e : B.Fr p with
        | none => rfl
        | some o =>
          have h2 := w.fr p o e
          rw [np0.2] at h2
          cases h2
      refine ⟨F4, _, ρ4, _, _, rfl, w4.ext x4 dj4, q5, fun J1 es F5 x5 dj5 wk1 q6 => ?_, fun _ _ _ _ _ _ _ z => z.elim⟩
      have x15 : Ext K F1 F5 := ((x2.trans x3).trans x4).trans x5
      obtain ⟨n5, d5⟩ := dj_down np0.2 dj5
      have w5 := (w4.ext x4 dj4).ext x5 dj5
      have ho : ∀ (j : Nat) (es' : List D) (b' : Addr), ρ4[j]? = some (.own es') → σ4[j]? = some (some (.ref b')) → b' ≠ p := fun j es' b' h1 h2 z => by
        obtain ⟨h3, e4⟩ := o4 j es' h1
        obtain ⟨b2, us, g1', g2', _⟩ := (w1.wipe vs).own j es' h3
        rw [e4, g1'] at h2
        cases h2
        rw [z, np0.2] at g2'
        cases g2'
      refine ⟨fun j m H' => m + j = es.length ∧ St2 (compZ g1 t1 re vs1 ρ4 (fun acc' => comp2L g rt ri1 g1 t1 re vs vs1 ρ (fun l => l.length ≤ sizeLine ∧ Q' l) (ds.drop (i + 1)) acc') (es.drop j)) F5 H', ⟨es.length, by omega, F5, acc, accD, rfl, .refl _, d5, n5, Reps.ext ((x3.trans x4).trans x5) _ _ ra, by simpa using q6⟩, ?_⟩
      rintro j m' H' ⟨hm', F6, acc6, accD6, rfl, x6, d6, n6, ra6, q7⟩
      have djp6 : Dj F6 (upd R p (.lst acc6)) := d6.updR n6
      by_cases hj : j < es.length
      · refine .inr ⟨wk1.go F6 _ j x6 djp6 hj, fun H3 => St2 (compZ g1 t1 re vs1 ρ4 (fun acc' => comp2L g rt ri1 g1 t1 re vs vs1 ρ (fun l => l.length ≤ sizeLine ∧ Q' l) (ds.drop (i + 1)) acc') (es.drop (j + 1))) F5 H3, fun H3 h3 => ⟨m' - 1, by omega, by omega, h3⟩, ?_⟩
        intro v7 H7 hy7
        obtain ⟨F7, d7, rfl, x7, dj7, e7, r7⟩ := wk1.yld F6 _ j v7 H7 x6 djp6 hj hy7
        have ed7 : es.drop j = d7 :: es.drop (j + 1) := by
          obtain ⟨h1, h2⟩ := List.getElem?_eq_some_iff.mp e7
          rw [(List.drop_eq_getElem_cons h1), h2]
        rw [ed7] at q7
        obtain ⟨n7, dd7⟩ := dj_down np0.2 dj7
        have wi7 : Wd K B (L2.wipe σ4 vs1) F7 (upd R p (.lst acc6)) (wipe3 ρ4 vs1) := ((w5.ext (x6.trans x7) (dd7.updR n7)).inn' hpB ho dj7).wipe vs1
        refine ⟨B, F7, _, _, d7, _, rfl, wi7, r7, q7, fun σ8 ρ8 w8 c8 _ q8 => ⟨wipe_chg ⟨c8.1, fun j hj => c8.2 j fun z => hj (hsub1 j z)⟩, ?_⟩⟩
        refine ⟨F7, _, ρ8, _, _, rfl, w8, q8, fun b b' F8 x8 dj8 eb q9 => ?_, fun _ _ _ _ _ _ _ z => z.elim⟩
        cases eb
        cases b with
        | false =>
          obtain ⟨n8, d8⟩ := dj_down np0.2 dj8
          exact ⟨F8, acc6, accD6, rfl, (x6.trans x7).trans x8, d8, n8, Reps.ext (x7.trans x8) _ _ ra6, q9⟩
        | true =>
          rw [if_pos rfl]
          refine ⟨F8, _, ρ8, _, _, rfl, w8.ext x8 dj8, q9, fun y yd F9 x9 dj9 ry qa => ?_, fun _ _ _ _ _ _ _ z => z.elim⟩
          obtain ⟨n9, d9⟩ := dj_down np0.2 dj9
          have ra9 := Reps.ext ((x7.trans x8).trans x9) _ _ ra6
          refine ⟨acc6, (jn_of_r dj9 upd_same).2, by rw [ra6.length]; exact qa.1, F9, acc6 ++ [y], accD6 ++ [yd], ?_, ((x6.trans x7).trans x8).trans x9, d9, n9, Reps.append ra9 (Reps.cons ry Reps.nil), qa.2⟩
          rw [jn_updR n9, upd_upd]
      · refine .inl ⟨wk1.stop F6 _ j x6 djp6 (by omega), ?_⟩
        have e9 : es.drop j = [] := List.drop_eq_nil_of_le (by omega)
        rw [e9] at q7
        exact ⟨F6, acc6, accD6, rfl, x15.trans x6, d6, n6, Reps.ext (.refl _) _ _ ra6, q7⟩
  · refine .inl ⟨wk.stop F2 _ i x2 djp (by omega), ?_⟩
    rw [List.drop_eq_nil_of_le (by omega)] at q2
    have hp2 : jn F2 R p = none := by
      rw [jn_r np]
      exact np0.2
    rw [← jn_updR np]
    exact kk p acc accD F2 (x1.trans x2) dj2 ra (by rw [ra.length]; exact q2.1) q2.2 hp2
theorem fe_comp2 {iter elt tg1 iter1 : Expr} {ifs ifs1 : List Expr} {scope : Scope} {own : List (Str × Nat)} {vs vs1 is js : List Nat} (hc : X.calm = true) (hN : X.N.Nodup) (hi : DI B X W tg iter ri) (ok : BlkOk X.N X.env.scope scope own) (hv : ∀ i, i ∈ vs1 → i ∈ vs)
    (hg : ∀ (s : Shared) (H : Hp) (C : Addr) (cl : List (Str × Addr)) (fp : List Addr), DG B.T (X.blk s H scope (compEnvC scope cl C X.env) fp) is tg g)
    (ht : ∀ (s : Shared) (H : Hp) (C : Addr) (cl : List (Str × Addr)) (fp : List Addr), DTs B (X.blk s H scope (compEnvC scope cl C X.env) fp) W0 ifs rt)
    (hi1 : ∀ (s : Shared) (H : Hp) (C : Addr) (cl : List (Str × Addr)) (fp : List Addr), DI B (X.blk s H scope (compEnvC scope cl C X.env) fp) W0 tg1 iter1 ri1)
    (hg1 : ∀ (s : Shared) (H : Hp) (C : Addr) (cl : List (Str × Addr)) (fp : List Addr), DG B.T (X.blk s H scope (compEnvC scope cl C X.env) fp) js tg1 g1)
    (ht1 : ∀ (s : Shared) (H : Hp) (C : Addr) (cl : List (Str × Addr)) (fp : List Addr), DTs B (X.blk s H scope (compEnvC scope cl C X.env) fp) W0 ifs1 t1)
    (he : ∀ (s : Shared) (H : Hp) (C : Addr) (cl : List (Str × Addr)) (fp : List Addr), DE B (X.blk s H scope (compEnvC scope cl C X.env) fp) W0 elt re)
    (hsub : ∀ j ∈ is, j ∈ vs) (hsub1 : ∀ j ∈ js, j ∈ vs1) (hvs : own.map (·.2) = vs := by rfl) (hpn : X.pn = [] := by rfl) (hs : ∀ x, foldedSetIterable iter X.env x = pure x := by intro _; rfl) (hs1 : ∀ (env : Env) (x : Value), foldedSetIterable iter1 env x = pure x := by intro _ _; rfl) :
    FE B X W (.ListComp elt [{ target := tg, iter := iter, ifs := ifs, is_async := 0 }, { target := tg1, iter := iter1, ifs := ifs1, is_async := 0 }] scope pos) (rComp2 ri g rt ri1 g1 t1 re vs vs1) :=
  (pe_lc2 hc hN hi ok (by rw [hvs]; exact hv) (fun s H C cl fp => by have h := hg s H C cl fp; unfold DG at h; rw [kc_blk hpn] at h; exact h) (fun s H C cl fp => by have h := ht s H C cl fp; unfold DTs at h; rw [kc_blk hpn] at h; exact h)
    (fun s H C cl fp => by have h := hi1 s H C cl fp; unfold DI at h; rw [kc_blk hpn] at h; exact h) (fun s H C cl fp => by have h := hg1 s H C cl fp; unfold DG at h; rw [kc_blk hpn] at h; exact h) (fun s H C cl fp => by have h := ht1 s H C cl fp; unfold DTs at h; rw [kc_blk hpn] at h; exact h)
    (fun s H C cl fp => by have h := he s H C cl fp; unfold DE at h; rw [kc_blk hpn] at h; exact h) hs hs1).imp fun _ _ _ h => by rw [hvs]; exact lL_comp2 hsub hsub1 h
end
end L3
namespace L3
open PySem PySem.Spec L2
open PyProof.Rows hiding St
/-! ### the pen, by hand -/
def pk (c : Addr) (i g n f : Int) : List (Key × V) := [(.inr "cells", .ref c), (.inr "at", .int i), (.inr "digits", .int g), (.inr "count", .int n), (.inr "fold", .int f)]
section
variable {H : Hp} {a c : Addr} {i g n f : Int}
theorem pg_cells (h : H a = some (.dK (pk c i g n f))) : DGet H a (.str "cells") (some (.ref c)) := DGet.k (k := .inr "cells") h
theorem pg_at (h : H a = some (.dK (pk c i g n f))) : DGet H a (.str "at") (some (.int i)) := DGet.k (k := .inr "at") h
theorem pg_digits (h : H a = some (.dK (pk c i g n f))) : DGet H a (.str "digits") (some (.int g)) := DGet.k (k := .inr "digits") h
theorem pg_count (h : H a = some (.dK (pk c i g n f))) : DGet H a (.str "count") (some (.int n)) := DGet.k (k := .inr "count") h
theorem pg_fold (h : H a = some (.dK (pk c i g n f))) : DGet H a (.str "fold") (some (.int f)) := DGet.k (k := .inr "fold") h
theorem pk_len : (pk c i g n f).length < sizeLine := by show 5 < sizeLine; decide
theorem pp_at {x : Int} (h : H a = some (.dK (pk c i g n f))) : DPut H a (.str "at") (.int x) (upd H a (.dK (pk c x g n f))) := DPut.k (k := .inr "at") h pk_len
theorem pp_digits {x : Int} (h : H a = some (.dK (pk c i g n f))) : DPut H a (.str "digits") (.int x) (upd H a (.dK (pk c i x n f))) := DPut.k (k := .inr "digits") h pk_len
theorem pp_count {x : Int} (h : H a = some (.dK (pk c i g n f))) : DPut H a (.str "count") (.int x) (upd H a (.dK (pk c i g x f))) := DPut.k (k := .inr "count") h pk_len
theorem pp_fold {x : Int} (h : H a = some (.dK (pk c i g n f))) : DPut H a (.str "fold") (.int x) (upd H a (.dK (pk c i g n x))) := DPut.k (k := .inr "fold") h pk_len
end
/-! ### a draw: the two parts of its reading -/
theorem imod_lt (i : Int) {j : Int} (h : 0 < j) : 0 ≤ i % j ∧ i % j < j := ⟨Int.emod_nonneg _ (by omega), Int.emod_lt_of_pos _ h⟩
def gK (k : Str) : TE := tDGet (tVar 0) (tC (.str k))
def pK (k : Str) (tv : TE) : TS := sDPut (tVar 0) (tC (.str k)) tv
def cbInt : List V → Hp → VK → Prop := fun xs H Q => (∃ i, xs = [.int i] ∧ Q (.int i) H) ∨ ∃ k, xs = [.bl k] ∧ Q (.int (if k then 1 else 0)) H
def hAdd : R2 := rI0 fun i j => .int (i + j)
def hMul : R2 := rI CMul fun i j => .int (i * j)
def hMod : R2 := rI (fun _ j => 0 < j) fun i j => .int (i % j)
def hDiv : R2 := rI CDiv fun i j => .int (i / j)
def hInt (t : TE) : TE := tCB cbInt (tCons t tNil)
def hC (i : Int) : TE := tC (.int i)
def t_d3 : TS := tSeq (pK "fold" (tOp hMod (hInt (tOp hAdd (tOp hMul (tVar 4) (hC 16807)) (hC 7))) (hC 2147483647))) (tRet (tOp hMod (hInt (tOp hDiv (tVar 4) (hC 64))) (tVar 1)))
def t_d2 : TS := tSeq (tAsg (tOp hMod (hInt (tOp hAdd (tOp hAdd (tOp hMul (tVar 4) (tVar 4)) (tOp hMul (hC 31) (tVar 4))) (gK "count"))) (hC 2147483629)) (gName 4)) t_d3
def t_dTail : TS :=
  tSeq (tIfS (tTest (tOp (rI0 fun i j => .bl (decide (j < i))) (gK "digits") (hC 0)))
      (tSeq (tAsg (tOp hMod (hInt (gK "digits")) (tVar 1)) (gName 3)) (tSeq (pK "digits" (tOp hDiv (gK "digits") (tVar 1))) (tRet (tVar 3)))) tNext)
    (tSeq (tAsg (tOp hMod (hInt (tOp hAdd (tOp hAdd (tOp hMul (gK "fold") (hC 48271)) (tOp hMul (gK "count") (hC 7919))) (hC 13))) (hC 2147483647)) (gName 4)) t_d2)
section
variable {a c : Addr} {m : Int} {H : Hp} {D0 : Ends} {x2 : Option V}
theorem d_3 (m1 : 0 < m) (hk : ∀ (k i g n f : Int), 0 ≤ k → k < m → 0 ≤ i → 0 ≤ g → 0 ≤ f → f < 2147483647 → D0.rt (.int k) (upd H a (.dK (pk c i g n f)))) (i g n f z2 : Int) (b1 : 0 ≤ i) (b2 : 0 ≤ g) (c1 : 0 ≤ z2) (c2 : z2 < 2147483647) :
    t_d3 D0 [some (.ref a), some (.int m), x2, none, some (.int z2)] (upd H a (.dK (pk c i g n f))) := by
  have h0 : upd H a (.dK (pk c i g n f)) a = some (.dK (pk c i g n f)) := upd_same
  refine ⟨.int z2, rfl, z2, 16807, rfl, rfl, .inr ⟨by decide, by decide⟩, _, _, rfl, rfl, .inl ⟨_, rfl, _, _, rfl, rfl, (by show (0 : Int) < 2147483647; decide), .ref a, rfl, a, _, rfl, pp_fold h0, ?_⟩⟩
  have c3 := imod_lt (z2 * 16807 + 7) (j := 2147483647) (by decide)
  refine ⟨.int z2, rfl, z2, 64, rfl, rfl, ⟨by decide, by decide⟩, .inl ⟨_, rfl, .int m, rfl, _, m, rfl, rfl, m1, ?_⟩⟩
  rw [upd_upd]
  exact hk _ _ _ _ _ (imod_lt _ m1).1 (imod_lt _ m1).2 b1 b2 c3.1 c3.2
theorem d_2 (m1 : 0 < m) (hk : ∀ (k i g n f : Int), 0 ≤ k → k < m → 0 ≤ i → 0 ≤ g → 0 ≤ f → f < 2147483647 → D0.rt (.int k) (upd H a (.dK (pk c i g n f)))) (i g n f z1 : Int) (b1 : 0 ≤ i) (b2 : 0 ≤ g) (c1 : 0 ≤ z1) (c2 : z1 < 2147483647) :
    t_d2 D0 [some (.ref a), some (.int m), x2, none, some (.int z1)] (upd H a (.dK (pk c i g n f))) := by
  have h0 : upd H a (.dK (pk c i g n f)) a = some (.dK (pk c i g n f)) := upd_same
  refine ⟨.int z1, rfl, .int z1, rfl, z1, z1, rfl, rfl, .inl ⟨by omega, by omega⟩, .int z1, rfl, 31, z1, rfl, rfl, .inl ⟨by decide, by decide⟩, _, _, rfl, rfl, .ref a, rfl, a, .int n, rfl, pg_count h0, _, _, rfl, rfl, .inl ⟨_, rfl, _, _, rfl, rfl, (by show (0 : Int) < 2147483629; decide), ?_⟩⟩
  have c3 := imod_lt (z1 * z1 + 31 * z1 + n) (j := 2147483629) (by decide)
  exact d_3 m1 hk i g n f _ b1 b2 c3.1 (by omega)
theorem d_tail (m1 : 0 < m) (m2 : m < 1073741824)
    (hk : ∀ (k i g n f : Int), 0 ≤ k → k < m → 0 ≤ i → 0 ≤ g → 0 ≤ f → f < 2147483647 → D0.rt (.int k) (upd H a (.dK (pk c i g n f)))) :
    ∀ (i g n f : Int), 0 ≤ i → 0 ≤ g → 0 ≤ f → f < 2147483647 → t_dTail D0 [some (.ref a), some (.int m), x2, none, none] (upd H a (.dK (pk c i g n f))) := by
  intro i g n f b1 b2 b3 b4
  have h0 : upd H a (.dK (pk c i g n f)) a = some (.dK (pk c i g n f)) := upd_same
  refine ⟨.ref a, rfl, a, .int g, rfl, pg_digits h0, g, 0, rfl, rfl, _, rfl, ?_⟩
  refine ite2 (fun hg => ?_) (fun hg => ?_)
  · have hg : 0 < g := of_decide_eq_true hg
    refine ⟨.ref a, rfl, a, .int g, rfl, pg_digits h0, .inl ⟨g, rfl, ?_⟩⟩
    refine ⟨.int m, rfl, g, m, rfl, rfl, m1, ?_⟩
    refine ⟨.ref a, rfl, a, .int g, rfl, pg_digits h0, .int m, rfl, g, m, rfl, rfl, ⟨m1, m2⟩, .ref a, rfl, a, _, rfl, pp_digits h0, ?_⟩
    refine ⟨.int (g % m), rfl, ?_⟩
    rw [upd_upd]
    exact hk _ _ _ _ _ (imod_lt g m1).1 (imod_lt g m1).2 b1 (Int.ediv_nonneg (by omega) (by omega)) b3 b4
  · refine ⟨.ref a, rfl, a, .int f, rfl, pg_fold h0, f, 48271, rfl, rfl, .inr ⟨by decide, by decide⟩, .ref a, rfl, a, .int n, rfl, pg_count h0, n, 7919, rfl, rfl, .inr ⟨by decide, by decide⟩, _, _, rfl, rfl, _, _, rfl, rfl, .inl ⟨_, rfl, _, _, rfl, rfl, (by show (0 : Int) < 2147483647; decide), ?_⟩⟩
    have c1 := imod_lt (f * 48271 + n * 7919 + 13) (j := 2147483647) (by decide)
    exact d_2 m1 hk i g n f _ b1 b2 c1.1 c1.2
end
def t_dHead (K : PySem.W.Frag) : TS :=
  tIfS (tAnd (tTest (tOp rEq (gK "digits") (hC 0))) (tTest (tOp (rI0 fun i j => .bl (decide (i < j))) (gK "at") (tCB (fun xs H Q => ∃ p ys, xs = [.ref p] ∧ (SqL K H p ys ∨ SqT K H p ys) ∧ Q (.int ys.length) H) (tCons (gK "cells") tNil)))))
    (tSeq (tAsg (tOp (rIxL K) (gK "cells") (gK "at")) (gName 2)) (tSeq (pK "at" (tOp hAdd (gK "at") (hC 1)))
      (tIfS (tTest (tOp (rI0 fun i j => .bl (decide (j ≤ i))) (tVar 2) (tOp (rI CPow fun i j => .int (i ^ j.toNat)) (hC 10) (hC 18))))
        (pK "digits" (tOp (rI0 fun i j => .int (i - j)) (tVar 2) (tOp (rI CPow fun i j => .int (i ^ j.toNat)) (hC 10) (hC 18))))
        (pK "fold" (tOp hMod (hInt (tOp hAdd (tOp hMul (gK "fold") (hC 69069)) (tVar 2))) (hC 2147483587)))))) tNext
def t_draw (K : PySem.W.Frag) : TS := tSeq (pK "count" (tOp hAdd (gK "count") (hC 1))) (tSeq (t_dHead K) t_dTail)
theorem d_all {K : PySem.W.Frag} {a c : Addr} {m : Int} {H : Hp} {D0 : Ends} {xs : List Int} {i g n f : Int} (h0 : H a = some (.dK (pk c i g n f))) (hc : ∀ i g n f, SqL K (upd H a (.dK (pk c i g n f))) c (xs.map V.int)) (m1 : 0 < m) (m2 : m < 1073741824) (b1 : 0 ≤ i) (b2 : 0 ≤ g) (b3 : 0 ≤ f) (b4 : f < 2147483647)
    (hk : ∀ (k i g n f : Int), 0 ≤ k → k < m → 0 ≤ i → 0 ≤ g → 0 ≤ f → f < 2147483647 → D0.rt (.int k) (upd H a (.dK (pk c i g n f)))) :
    t_draw K D0 [some (.ref a), some (.int m), none, none, none] H := by
  refine ⟨.ref a, rfl, a, .int n, rfl, pg_count h0, n, 1, rfl, rfl, .ref a, rfl, a, _, rfl, pp_count h0, ?_⟩
  have h1 : upd H a (.dK (pk c i g (n + 1) f)) a = some (.dK (pk c i g (n + 1) f)) := upd_same
  refine ⟨.ref a, rfl, a, .int g, rfl, pg_digits h1, rfl, _, rfl, ?_⟩
  refine ite2 (fun hg => ?_) (fun hg => ?_)
  · refine ⟨.ref a, rfl, a, .int i, rfl, pg_at h1, .ref a, rfl, a, .ref c, rfl, pg_cells h1, c, _, rfl, .inl (hc _ _ _ _), i, _, rfl, rfl, _, rfl, ?_⟩
    refine ite2 (fun hl => ?_) (fun hl => ?_)
    · have hl : i < ((xs.map V.int).length : Nat) := of_decide_eq_true hl
      rw [List.length_map] at hl
      have hi : i.toNat < xs.length := by omega
      have ei : (xs.map V.int)[i.toNat]? = some (.int xs[i.toNat]) := by rw [List.getElem?_map, List.getElem?_eq_getElem hi]; rfl
      have e2 := atI_nat ei
      rw [show ((i.toNat : Nat) : Int) = i by omega] at e2
      generalize xs[i.toNat] = z at e2
      refine ⟨.ref a, rfl, a, .ref c, rfl, pg_cells h1, .ref a, rfl, a, .int i, rfl, pg_at h1, c, _, i, .int z, rfl, rfl, hc _ _ _ _, e2, ?_⟩
      refine ⟨.ref a, rfl, a, .int i, rfl, pg_at h1, i, 1, rfl, rfl, .ref a, rfl, a, _, rfl, pp_at h1, ?_⟩
      rw [upd_upd]
      have h2 : upd H a (.dK (pk c (i + 1) g (n + 1) f)) a = some (.dK (pk c (i + 1) g (n + 1) f)) := upd_same
      refine ⟨.int z, rfl, 10, 18, rfl, rfl, ⟨by decide, by decide, by decide⟩, z, _, rfl, rfl, _, rfl, ?_⟩
      refine ite2 (fun hz => ?_) (fun hz => ?_)
      · have hz := of_decide_eq_true hz
        refine ⟨.int z, rfl, 10, 18, rfl, rfl, ⟨by decide, by decide, by decide⟩, z, _, rfl, rfl, .ref a, rfl, a, _, rfl, pp_digits h2, ?_⟩
        rw [upd_upd]
        exact d_tail m1 m2 hk _ _ _ _ (by omega) (by omega) b3 b4
      · refine ⟨.ref a, rfl, a, .int f, rfl, pg_fold h2, f, 69069, rfl, rfl, .inr ⟨by decide, by decide⟩, .int z, rfl, _, _, rfl, rfl, .inl ⟨_, rfl, _, _, rfl, rfl, (by show (0 : Int) < 2147483587; decide), .ref a, rfl, a, _, rfl, pp_fold h2, ?_⟩⟩
        rw [upd_upd]
        have c1 := imod_lt (f * 69069 + z) (j := 2147483587) (by decide)
        exact d_tail m1 m2 hk _ _ _ _ (by omega) b2 c1.1 (by omega)
    · exact d_tail m1 m2 hk _ _ _ _ b1 b2 b3 b4
  · exact iteF (d_tail m1 m2 hk _ _ _ _ b1 b2 b3 b4)
def sp__law_draw : Sp3 := fun ds Q _ => match ds with
  | [.pen, .int m] => (0 < m ∧ m < 1073741824) ∧ ∀ k : Int, 0 ≤ k → k < m → Q (.int k)
  | _ => False
theorem penEx {K : KC} {F R : Hp} {a c : Addr} {xs : List Int} {i g n f i' g' n' f' : Int} (dj : Dj F R) (h : F a = some (.dK (pk c i g n f))) (hc : SqL K.K F c (xs.map V.int)) (h1 : 0 ≤ i') (h2 : 0 ≤ g') (h3 : 0 ≤ f') (h4 : f' < 2147483647) :
    upd (jn F R) a (.dK (pk c i' g' n' f')) = jn (upd F a (.dK (pk c i' g' n' f'))) R ∧ Ext K F (upd F a (.dK (pk c i' g' n' f'))) ∧ Dj (upd F a (.dK (pk c i' g' n' f'))) R ∧ SqL K.K (upd F a (.dK (pk c i' g' n' f'))) c (xs.map V.int) := by
  have hc' : SqL K.K (upd F a (.dK (pk c i' g' n' f'))) c (xs.map V.int) := by
    rcases hc with (hc | ⟨o, hc⟩) | hc
    · refine .inl (.inl ?_)
      rw [upd_ne (fun z => by rw [z, h] at hc; cases hc)]
      exact hc
    · refine .inl (.inr ⟨o, ?_⟩)
      rw [upd_ne (fun z => by rw [z, h] at hc; cases hc)]
      exact hc
    · exact .inr hc
  have keep : ∀ b o, F b = some o → (∀ kvs, o ≠ .dK kvs) → upd F a (.dK (pk c i' g' n' f')) b = some o := fun b o e z => by
    have : b ≠ a := fun q => by rw [q, h] at e; cases e; exact z _ rfl
    rw [upd_ne this]
    exact e
  refine ⟨?_, ⟨fun b o e => ?_, fun t p hp => ?_⟩, ⟨fun b o e => ?_, dj.nt⟩, hc'⟩
  · funext b
    by_cases hb : b = a
    · subst hb; rw [upd_same, jn_l upd_same]
    · rw [upd_ne hb]; unfold jn; rw [upd_ne hb]
  · by_cases hb : b = a
    · subst hb
      rw [h] at e
      cases e
      exact .inr (.inl ⟨_, _, rfl, rfl, upd_same, rfl, c, xs, i', g', n', f', rfl, hc', h1, h2, h3, h4⟩)
    · exact .inl (by rw [upd_ne hb]; exact e)
  · obtain ⟨ps, e1, e2, e3⟩ := t p hp
    refine ⟨ps, keep _ _ e1 (fun _ z => by cases z), e2, fun pos cv hcv => ?_⟩
    obtain ⟨cc, e4, e5⟩ := e3 pos cv hcv
    exact ⟨cc, e4, keep _ _ e5 (fun _ z => by cases z)⟩
  · by_cases hb : b = a
    · rw [hb]; exact dj a _ h
    · rw [upd_ne hb] at e; exact dj b o e
theorem pure_draw {K : KC} {vs : List V} {H : Hp} {Q : VK} {E : XK} (h : lSp K 2 sp__law_draw vs H Q E) : t_draw K.K { nx := fun _ H' => Q .non H', rt := Q } (L2.start ["pen", "many", "cell", "digit", "blend"] vs) H := by
  obtain ⟨F0, R0, ds, Q', E', hH, dj, tb, rd, hl, hs, kv, kx⟩ := h
  subst hH
  unfold sp__law_draw at hs
  split at hs
  · rename_i m
    obtain ⟨⟨m1, m2⟩, hk⟩ := hs
    obtain ⟨v, u, rfl, h1, h2⟩ := reps_two rd
    rw [rep_int h2]
    unfold Rep at h1
    obtain ⟨a, kvs, rfl, ha, c, xs, i, g, n, f0, rfl, hc, b1, b2, b3, b4⟩ := h1
    refine d_all (xs := xs) (jn_l ha) (fun i' g' n' f' => ?_) m1 m2 b1 b2 b3 b4 (fun k i' g' n' f' k1 k2 c1 c2 c3 c4 => ?_)
    · rcases hc with (hc | ⟨o, hc⟩) | hc
      · refine .inl (.inl ?_)
        rw [upd_ne (fun z => by rw [z, ha] at hc; cases hc)]
        exact jn_l hc
      · refine .inl (.inr ⟨o, ?_⟩)
        rw [upd_ne (fun z => by rw [z, ha] at hc; cases hc)]
        exact jn_l hc
      · exact .inr hc
    · obtain ⟨e1, e2, e3, _⟩ := penEx (K := K) (n' := n') dj ha hc c1 c2 c3 c4
      show Q (.int k) (upd (jn F0 R0) a (.dK (pk c i' g' n' f')))
      rw [e1]
      exact kv.ok _ _ _ e2 e3 (of_int k) (hk k k1 k2)
  · exact hs.elim
/-! ### a new pen -/
theorem Wd.innO {K : KC} {B : Bs} {σ : St} {F R : Hp} {ρ : Env3} (w : Wd K B σ F R ρ) {p : Addr} (np : R p = none) {o : HO} (dj : Dj F (upd R p o)) : Wd K B σ F (upd R p o) ρ := by
  refine ⟨w.tb, w.ex, fun b u hb => ?_, dj, w.len, w.val, fun j es hj => ?_, fun j c b fs hj => ?_, w.sep⟩
  · have h1 := w.fr b u hb
    have : b ≠ p := fun z => by rw [z, np] at h1; cases h1
    rw [upd_ne this]
    exact h1
  · obtain ⟨b, us, g1, g2, g3⟩ := w.own j es hj
    have : b ≠ p := fun z => by rw [z, np] at g2; cases g2
    exact ⟨b, us, g1, by rw [upd_ne this]; exact g2, g3⟩
  · obtain ⟨z, dx, us, g1, g2, g3, g4⟩ := w.obj j c b fs hj
    have n1 : b ≠ p := fun z => by rw [z, np] at g2; cases g2
    have n2 : dx ≠ p := fun z => by rw [z, np] at g3; cases g3
    exact ⟨z, dx, us, g1, by rw [upd_ne n1]; exact g2, by rw [upd_ne n2]; exact g3, g4⟩
theorem reps_intsV {K : KC} {F : Hp} : ∀ {ns : List Int} {vs : List V}, Reps K F vs (ns.map D.int) → vs = ns.map V.int
  | [], vs, h => by rw [reps_nil h]; rfl
  | n :: ns, vs, h => by
    obtain ⟨v, r, rfl, h1, h2⟩ := reps_cons h
    rw [rep_int h1, reps_intsV h2]
    rfl
def rPenNew (rs : RA) (rf : RE) : RE := fun ρ Q _ => rs ρ (fun ds => ∃ ns : List Int, ds = ns.map D.int ∧ rf ρ (fun d => ∃ f : Int, d = .int f ∧ (0 ≤ f ∧ f < 2147483647) ∧ Q .pen) (fun _ => False)) (fun _ => False)
section
variable {B : Bs} {X : Cx} {W : WX} {e e1 : Expr} {rs : RA} {rf : RE} {pos : Pos}
theorem de_penNew {j1 j2 j3 j4 j5 i2 i3 i4 : Nat} {p1 p2 p3 p4 p5 q2 q3 q4 : Pos} (hl : FE B X W e rs) (hf : DE B X W e1 rf) :
    DE B X W (.Dict [some (.Constant (.str "cells") j1 p1), some (.Constant (.str "at") j2 p2), some (.Constant (.str "digits") j3 p3), some (.Constant (.str "count") j4 p4), some (.Constant (.str "fold") j5 p5)]
      [e, .Constant (.int 0) i2 q2, .Constant (.int 0) i3 q3, .Constant (.int 0) i4 q4, e1] pos) (rPenNew rs rf) :=
  (pe_disp (pps_cons pe_str hl (pps_cons pe_str pe_int (pps_cons pe_str pe_int (pps_cons pe_str pe_int (pps_cons pe_str hf pps_nil))))) (by rfl) (by rfl) (fun z => by cases z) (by show 5 ≤ 15; decide)).imp fun σ H Q ⟨F, R, ρ, Q', E', hH, w, q, k⟩ => by
    subst hH
    intro p hp
    have np := jn_none hp
    rw [jn_updR np.1]
    have dj0 : Dj F (upd R p (.dK [])) := w.dj.updR np.1
    refine ⟨F, _, ρ, _, _, rfl, w.innO np.2 dj0, q, fun l vs ds F1 x1 dj1 rv hz q1 hl => ?_, fun _ _ _ _ _ _ _ z => z.elim⟩
    · obtain ⟨ns, rfl, q1⟩ := q1
      have hl1 := jn_none hl
      rw [jn_newF hl]
      have x2 : Ext (kc B.T X) F1 (upd F1 l (.lst vs)) := Ext.newF hl
      have dj2 := dj1.newF (o := .lst vs) hl
      refine ⟨_, _, ρ, _, _, rfl, (w.innO np.2 dj0).ext (x1.trans x2) dj2, q1, fun v d F3 x3 dj3 rv3 q3 => ?_, fun _ _ _ _ _ _ _ z => z.elim⟩
      · obtain ⟨f, rfl, hf0, q3⟩ := q3
        obtain ⟨n3, d3⟩ := dj_down np.2 dj3
        refine ⟨(jn_of_r dj3 upd_same).2, [(.inr "cells", .ref l), (.inr "at", .int 0), (.inr "digits", .int 0), (.inr "count", .int 0), (.inr "fold", v)], rfl, (by show 5 ≤ 15; decide), ?_⟩
        have hp3 : jn F3 R p = none := by rw [jn_r n3]; exact np.2
        have e3 : upd (jn F3 (upd R p (.dK []))) p (.dK (mergeK [] [(.inr "cells", .ref l), (.inr "at", .int 0), (.inr "digits", .int 0), (.inr "count", .int 0), (.inr "fold", v)])) = jn (upd F3 p (.dK (pk l 0 0 0 f))) R := by
          rw [rep_int rv3, ← jn_newF hp3, jn_updR n3, upd_upd, ← jn_updR n3]
          rfl
        rw [e3]
        have x4 : Ext (kc B.T X) F3 (upd F3 p (.dK (pk l 0 0 0 f))) := Ext.newF hp3
        have d4 := d3.newF (o := .dK (pk l 0 0 0 f)) hp3
        refine k.ok _ .pen _ (((x1.trans x2).trans x3).trans x4) d4 ?_ q3
        unfold Rep
        have hl3 : F3 l = some (.lst vs) := x3.lst upd_same
        have nlp : l ≠ p := fun z => by rw [z, n3] at hl3; cases hl3
        refine ⟨p, _, rfl, upd_same, l, ns, 0, 0, 0, f, rfl, ?_, Int.le_refl 0, Int.le_refl 0, hf0⟩
        rw [reps_intsV rv] at hl3
        exact .inl (.inl (by rw [upd_ne nlp]; exact hl3))
end
end L3
namespace L3
open PySem PySem.Spec L2
open PyProof.Rows hiding St
/-! ### data without an exception in it -/
mutual
def nxD : D → Bool
  | .tup ds => nxs ds
  | .lst ds => nxs ds
  | .dct ds => nxK ds
  | .ins _ fs => nxF fs
  | .exc _ _ => false
  | _ => true
def nxs : List D → Bool
  | [] => true
  | d :: ds => nxD d && nxs ds
def nxK : List (Key × D) → Bool
  | [] => true
  | (_, d) :: ds => nxD d && nxK ds
def nxF : List (Str × D) → Bool
  | [] => true
  | (_, d) :: ds => nxD d && nxF ds
end
abbrev KC.at (K : KC) (pn : List (Addr × Obj)) : KC := { K with pn := pn }
section
variable {K : KC} {H : Hp} {p1 p2 : List (Addr × Obj)}
theorem okl {a b : Bool} {P : Prop} (h : (a && b) = true ∨ P) : (a = true ∨ P) ∧ (b = true ∨ P) := by
  rcases h with h | h
  · obtain ⟨h1, h2⟩ := Bool.and_eq_true_iff.mp h
    exact ⟨.inl h1, .inl h2⟩
  · exact ⟨.inr h, .inr h⟩
mutual
/-- the pins may change where no exception is told, or where they grow -/
theorem Rep.pn : ∀ (d : D) (v : V), (nxD d = true ∨ ∀ p ∈ p1, p ∈ p2) → Rep (K.at p1) H v d → Rep (K.at p2) H v d
  | .non, v, _, h => by simpa [Rep] using h
  | .bl _, v, _, h => by simpa [Rep] using h
  | .int _, v, _, h => by simpa [Rep] using h
  | .str _, v, _, h => by simpa [Rep] using h
  | .tup ds, v, o, h => by
    unfold Rep at h ⊢
    obtain ⟨a, vs, e, s, r⟩ := h
    exact ⟨a, vs, e, s, Reps.pn ds vs (by unfold nxD at o; exact o) r⟩
  | .lst ds, v, o, h => by
    unfold Rep at h ⊢
    obtain ⟨a, vs, e, s, r⟩ := h
    exact ⟨a, vs, e, s, Reps.pn ds vs (by unfold nxD at o; exact o) r⟩
  | .scr xs, v, o, h => by
    unfold Rep at h ⊢
    exact h
  | .dct ds, v, o, h => by
    unfold Rep at h ⊢
    obtain ⟨a, kvs, e, s, l, r⟩ := h
    exact ⟨a, kvs, e, s, l, RepK.pn ds kvs (by unfold nxD at o; exact o) r⟩
  | .ins C ds, v, o, h => by
    unfold Rep at h ⊢
    obtain ⟨a, dx, fs, e, s, r⟩ := h
    exact ⟨a, dx, fs, e, s, RepF.pn ds fs (by unfold nxD at o; exact o) r⟩
  | .pen, v, o, h => by
    unfold Rep at h ⊢
    exact h
  | .exc c ds, v, o, h => by
    unfold Rep at h ⊢
    obtain ⟨a, oe, od, e, m, z⟩ := h
    refine ⟨a, oe, od, e, ?_, z⟩
    rcases o with o | o
    · unfold nxD at o
      cases o
    · exact o _ m
theorem Reps.pn : ∀ (ds : List D) (vs : List V), (nxs ds = true ∨ ∀ p ∈ p1, p ∈ p2) → Reps (K.at p1) H vs ds → Reps (K.at p2) H vs ds
  | [], vs, _, h => by simpa [Reps] using h
  | d :: ds, vs, o, h => by
    unfold Reps at h ⊢
    obtain ⟨v, r, e, h1, h2⟩ := h
    have o2 := okl (by unfold nxs at o; exact o)
    exact ⟨v, r, e, Rep.pn d v o2.1 h1, Reps.pn ds r o2.2 h2⟩
theorem RepK.pn : ∀ (ds : List (Key × D)) (vs : List (Key × V)), (nxK ds = true ∨ ∀ p ∈ p1, p ∈ p2) → RepK (K.at p1) H vs ds → RepK (K.at p2) H vs ds
  | [], vs, _, h => by simpa [RepK] using h
  | (k, d) :: ds, vs, o, h => by
    unfold RepK at h ⊢
    obtain ⟨v, r, e, h1, h2⟩ := h
    have o2 := okl (by unfold nxK at o; exact o)
    exact ⟨v, r, e, Rep.pn d v o2.1 h1, RepK.pn ds r o2.2 h2⟩
theorem RepF.pn : ∀ (ds : List (Str × D)) (vs : List (Str × V)), (nxF ds = true ∨ ∀ p ∈ p1, p ∈ p2) → RepF (K.at p1) H vs ds → RepF (K.at p2) H vs ds
  | [], vs, _, h => by simpa [RepF] using h
  | (k, d) :: ds, vs, o, h => by
    unfold RepF at h ⊢
    obtain ⟨v, r, e, h1, h2⟩ := h
    have o2 := okl (by unfold nxF at o; exact o)
    exact ⟨v, r, e, Rep.pn d v o2.1 h1, RepF.pn ds r o2.2 h2⟩
end
end
/-! ### defs that are called while an exception is handled -/
structure RoomP (g : Bool) (k : Nat) (A : Around) : Prop where
  rh : L2H.RoomH k A
  gd : g = true → A.guards = some []
theorem RoomP.mono {g : Bool} {j k : Nat} {A : Around} (r : RoomP g k A) (h : j ≤ k) : RoomP g j A := ⟨r.rh.mono h, r.gd⟩
structure FnP (P : Program) (w : World) (K : PySem.W.Frag) (mg : Str → Option Value) (base : Heap) (g : Bool) (k : Nat) (f : Addr) (fd : FuncData) (ps : List Str) (sp : Addr × Obj → Sp) : Prop where
  len : ∀ p vs H Q E, sp p vs H Q E → vs.length = ps.length
  run : ∀ (p : Addr × Obj) {A : Around} {outer : List Env} {s : Shared} {H : Hp} {args : Args} {us : List Value} {vs : List V} {Q : VK}, RoomP g k A → L2H.PinOk outer H s p → Env0 P w K mg base A outer s H → BindsTo s fd args (ps.zip us) → Vals vs us → sp p vs H Q C8.E0 →
    codeAny (model P w) A (.call (.ref f) args) (CR C8.CX0 outer P w H s Q C8.E0) s
/-- what such a def promises over data: its argument is the exception -/
def lSpP (K : KC) (sp : XD → (D → Prop) → Prop) (p : Addr × Obj) : Sp := fun vs H Q _ => ∃ F R x Q' v, vs = [v] ∧ H = jn F R ∧ Dj F R ∧ LamX.Tabs K.T F ∧ Rep (K.at [p]) F v (.exc x.cls x.fs) ∧ sp x Q' ∧ KV1 (K.at [p]) F R Q' Q
abbrev cxP (P : Program) (w : World) (K : PySem.W.Frag) (mg : Str → Option Value) (base : Heap) (N : List Str) (qual : Str) (scope : Scope) (f : Addr) (cd : Value) (A : Around) (outer : List Env) (s : Shared) (H : Hp) (p : Addr × Obj) : Cx := (L2H.cxH C8.CX0 P w K mg base N qual scope f cd A outer s H C8.E0 p).nox
section
variable {P : Program} {w : World} {K : PySem.W.Frag} {mg : Str → Option Value} {base : Heap} {T : List (Addr × Str)}
theorem fnP {g : Bool} {x a qual : Str} {st : Stmt} {f : Addr} {fd : FuncData} {N : List Str} {k : Nat} {sp : XD → (D → Prop) → Prop} {r : RS} (Fu : Fun K x qual st f fd) (S : FnScope N [a] (defScope st))
    (hbody : ∀ (cdv : Value) (A : Around) (outer : List Env) (s : Shared) (H : Hp) (p : Addr × Obj) (B : Bs), B.T = T → RoomP g k (A.deeper (envOfC qual (defScope st) s.heap.objs.size f cdv)) →
      DSs B (cxP P w K mg base N qual (defScope st) f cdv A outer s H p) W0 (defBody st) r)
    (hp : ∀ (x : XD) (Q : D → Prop), sp x Q → r { nx := fun _ => Q .non, rt := Q, ex := fun _ => False } (start3 N.length [.exc x.cls x.fs])) :
    FnP P w K mg base g (k + 1) f fd [a] (lSpP ⟨K, cmOf mg, [], T⟩ sp) := by
  obtain ⟨oc, od, kV, doc, pm, an, cdv, ct, osl, rfl, lk, hcd⟩ := Fu.ex
  refine ⟨fun p vs H Q E h => ?_, fun p A outer s H args us vs Q rm pin e0 hb rv h => ?_⟩
  · obtain ⟨_, _, _, _, _, rfl, _⟩ := h
    rfl
  · obtain ⟨F0, R0, y, Q', v, rfl, rfl, dj, tb, rx, hs, kv⟩ := h
    have kin : K.In s.heap := e0.mod.kin.keeps fun b o z => (e0.bs b o z).1
    have nl : s.heap.NoLimit := e0.mod.nolimit.keeps fun b o z => (e0.bs b o z).1
    refine codeAny_call_function rm.rh.depth (kin _ _ lk) rfl S.co S.gen rfl (PySem.W.codeRec_of kin hcd) (hb _ _ _ _ ?_)
    refine wpAny_newFunctionEnv_cells S.kind (fun ⟨n, u⟩ hy => (S.par n (List.of_mem_zip hy).1).imp id fun q => ⟨q, PySem.W.cellsFrom_some _ _ _ (.inl q)⟩) fun env ee s1 inc => ?_
    subst ee
    refine ⟨nl.keeps inc.toInCall.keep, codeAny_func ?_⟩
    have rm' : RoomP g k (A.deeper (envOfC qual (defScope st) s.heap.objs.size f cdv)) := ⟨rm.rh.deeper _, rm.gd⟩
    have I0 := L2H.inv_startH (CX := C8.CX0) (E := C8.E0) (cd := cdv) (f := f) (qual := qual) (A := A) S pin e0 (vs := [v]) rfl rv inc
    have B1 := hbody cdv A outer s (jn F0 R0) p ⟨F0, R0, T⟩ rfl rm'
    have hq : lS (kc T (cxP P w K mg base N qual (defScope st) f cdv A outer s (jn F0 R0) p)) ⟨F0, R0, T⟩ W0 r { nx := fun _ H' => Q .non H', rt := Q } (L2.start N [v]) (jn F0 R0) := by
      refine ⟨F0, R0, start3 N.length [.exc y.cls y.fs], _, rfl, (by exact wd_start dj (by exact tb) (by exact Reps.cons rx Reps.nil) rfl rfl), hp y Q' hs, ?_⟩
      refine ⟨fun σ F R ρ w q => ?_, fun v d σ F R ρ w rv q => ?_, fun x cls od σ F R ρ w rx q => q.elim, fun σ F R ρ w q => q.elim, fun σ F R ρ w q => q.elim⟩
      · obtain ⟨F', e, x1, d1⟩ := absorb w
        rw [e]
        exact kv.ok _ _ F' (w.ex.trans x1) d1 of_non q
      · obtain ⟨F', e, x1, d1⟩ := absorb w
        rw [e]
        exact kv.ok _ _ F' (w.ex.trans x1) d1 (Rep.ext x1 _ _ rv) q
    refine wpAny_mono ((PSs.nox B1).run [] s1 (L2.start N [v]) _ _ I0 hq) (fun fl s2 h2 => ?_) fun e s2 h2 => h2
    cases fl with
    | next =>
      obtain ⟨τ, H2, J, q⟩ := h2
      exact ⟨V.non, H2, J.os, J.bare, J.base, J.hok, rfl, q⟩
    | ret u =>
      obtain ⟨v2, τ, H2, J, r2, q⟩ := h2
      exact ⟨v2, H2, J.os, J.bare, J.base, J.hok, r2, q⟩
    | brk =>
      obtain ⟨_, _, _, q⟩ := h2
      exact q.elim
    | cont =>
      obtain ⟨_, _, _, q⟩ := h2
      exact q.elim
end
section
variable {B : Bs} {X : Cx} {W : WX} {a b c e : Expr} {ra rb rc re : RE} {rs : RA} {pos : Pos}
/-- f(e), e an exception at hand -/
def rCallP (sp : XD → (D → Prop) → Prop) (re : RE) : RE := fun ρ Q E => re ρ (fun d => match d with
  | .exc c fs => sp ⟨c, fs⟩ Q
  | _ => False) E
theorem de_callP {x y : Str} {p : Pos} {g : Bool} {k : Nat} {f : Addr} {fd : FuncData} {sp : XD → (D → Prop) → Prop} (G : FnP X.prog X.w X.K X.mg X.base g k f fd [y] (lSpP ⟨X.K, cmOf X.mg, [], B.T⟩ sp)) (hr : RoomP g k X.A) (hg : Gl X x) (hm : X.mg x = some (.ref f)) (hk : PySem.W.keepIn X.K (.ref f) = true) (hb : Binds X.K fd [y] [])
    (ha : DE B X W e re) (hd : (x == ("__debug__" : Str)) = false := by decide)
    (he : starEach [e] X.env = (false, eval e X.env) :: starEach [] X.env := by rfl) (hpl : (backTo pos (starEach [] X.env)).any (·.1) = false := by rfl) : DE B X W (.Call (.Name x p) [e] [] pos) (rCallP sp re) := by
  refine ⟨fun pins s σ H Q I ⟨F, R, ρ, Q', E', hH, wd, q, kk⟩ => ?_⟩
  subst hH
  refine wpAny_Call_Name_kw (ld_glob I (hg) (hm) ?_ hd)
  have tA : lf (Reps (kc B.T X)) (kc B.T X) B W (rCons re rNil) σ (jn F R) (fun vs H1 => ∃ F' v c fs, vs = [v] ∧ H1 = jn F' R ∧ Ext (kc B.T X) F F' ∧ Dj F' R ∧ Rep (kc B.T X) F' v (.exc c fs) ∧ sp ⟨c, fs⟩ Q') := by
    refine ⟨F, R, ρ, fun ds => ∃ c fs, ds = [D.exc c fs] ∧ sp ⟨c, fs⟩ Q', E', rfl, wd, ?_, fun vs ds F' x1 dj r q2 => ?_, kk.ex⟩
    · show re ρ (fun d => ∃ c fs, [d] = [D.exc c fs] ∧ sp ⟨c, fs⟩ Q') E'
      have e0 : (fun d => match d with
        | .exc c fs => sp ⟨c, fs⟩ Q'
        | _ => False) = fun d => ∃ c fs, [d] = [D.exc c fs] ∧ sp ⟨c, fs⟩ Q' := by
        funext d
        apply propext
        cases d with
        | exc c fs => exact ⟨fun h => ⟨c, fs, rfl, h⟩, fun ⟨c', fs', h1, h2⟩ => by cases h1; exact h2⟩
        | _ => exact ⟨fun h => h.elim, fun ⟨c', fs', h1, h2⟩ => by cases h1⟩
      rw [← e0]
      exact q
    · obtain ⟨c, fs, rfl, q3⟩ := q2
      obtain ⟨v, rfl, h1⟩ := reps_one r
      exact ⟨F', v, c, fs, rfl, rfl, x1, dj, h1, q3⟩
  refine PySem.W.callWith_K (h₀ := X.base) I.ok.mod.kin hk (thn ((da_cons ha da_nil he).run pos pins s σ (jn F R) _ I tA) fun us s1 ⟨vs, H1, I1, rv, q1⟩ => ⟨I1.kIn, ?_⟩) he hpl
  obtain ⟨F', v, c, fs, rfl, rfl, x1, dj1, rx, q3⟩ := q1
  have rx' := rx
  unfold Rep at rx'
  obtain ⟨ad, oe, od, rfl, mem, rest⟩ := rx'
  have pin := I1.pin (ad, oe) (List.mem_append_left _ mem)
  have bd := hb s1 us I1.kIn (by rw [List.append_nil, ← rv.length]; rfl)
  rw [List.append_nil] at bd
  have rxp : Rep (KC.at ⟨X.K, cmOf X.mg, [], B.T⟩ [(ad, oe)]) F' (.ref ad) (.exc c fs) := by
    unfold Rep
    exact ⟨ad, oe, od, rfl, by simp, rest⟩
  have kv : KV1 (KC.at ⟨X.K, cmOf X.mg, [], B.T⟩ [(ad, oe)]) F' R Q' Q := ⟨fun v d F2 x2 dj2 r2 q2 =>
    kk.ok v d F2 (x1.trans ⟨x2.at_, x2.tab⟩) dj2 (Rep.pn (K := kc B.T X) (p1 := [(ad, oe)]) (p2 := X.pn) d v (.inr fun p hp => by rw [List.mem_singleton.mp hp]; exact mem) r2) q2⟩
  refine wpAny_call (codeAny_mono (G.run (ad, oe) hr ⟨pin.1, pin.2.1, fun hm => (List.mem_cons.mp (I1.stkSub ad hm)).elim pin.2.2.1 pin.2.2.2.1, pin.2.2.2.2⟩ I1.env0 bd rv ⟨F', R, ⟨c, fs⟩, Q', _, rfl, rfl, dj1, (x1.tab wd.tb), rxp, q3, kv⟩) fun r s2 hq => ?_)
  cases r with
  | error er => exact (show False from hq).elim
  | ok fl =>
    cases fl with
    | ret u => exact I1.after hq
    | next => exact hq.elim
    | brk => exact hq.elim
    | cont => exact hq.elim
end
end L3
namespace L3
open PySem PySem.Spec L2
open PyProof.Rows hiding St
/-! ### an exception at hand: its class, its fields -/
section
variable {B : Bs} {X : Cx} {W : WX} {a b c e : Expr} {ra rb rc re : RE} {rs : RA} {pos : Pos}
theorem rep_exc {K : KC} {F : Hp} {v : V} {c : Str} {fs : List (Str × D)} (h : Rep K F v (.exc c fs)) : ∃ a oe od, v = .ref a ∧ (a, oe) ∈ K.pn ∧ Zc (.ref (K.cm c)) od oe ∧ (∃ vs, oe.data = .fields vs) ∧ ((fs = [] ∧ od = none) ∨ ∃ dd ws, od = some dd ∧ F dd = some (.xd ws) ∧ RepF (K.at []) F ws fs) := by
  unfold Rep at h
  exact h
/-- the exception's object, as the model finds it -/
theorem inst_exc {pins : List (Addr × Obj)} {σ : St} {H : Hp} {s : Shared} {T : List (Addr × Str)} {F R : Hp} {ad : Addr} {oe : Obj} {c : Str} {fs : List (Str × D)} {od : Option Addr} (I : Inv X pins σ H s) (hH : H = jn F R) (m : (ad, oe) ∈ X.pn) (z : Zc (.ref ((kc T X).cm c)) od oe) (d : ∃ vs, oe.data = .fields vs) (fld : (fs = [] ∧ od = none) ∨ ∃ dd ws, od = some dd ∧ F dd = some (.xd ws) ∧ RepF ((kc T X).at []) F ws fs) :
    ∃ oo, PySem.W.InstAt s.heap ad oe (cmOf X.mg c) oo := by
  obtain ⟨hget, _⟩ := I.pin _ (List.mem_append_left pins m)
  obtain ⟨us, du⟩ := d
  rcases fld with ⟨_, rfl⟩ | ⟨dd, ws, rfl, hx, _⟩
  · exact ⟨none, hget, z.1, by unfold PySem.W.notCls; rw [du] <;> rfl, by rw [z.2]; trivial⟩
  · have ox : ObjOk X.prog X.w H s.heap dd (.xd ws) := I.hok dd _ (by rw [hH]; exact jn_l hx)
    obtain ⟨mA, hns, _⟩ := ox
    obtain ⟨ob, ho, _⟩ := lookIn_ns hns
    exact ⟨some ob, hget, z.1, by unfold PySem.W.notCls; rw [du] <;> rfl, by rw [z.2]; exact ho⟩
/-- what isinstance asks of the exception's class C -/
structure XcC (K : PySem.W.Frag) (C : Addr) : Prop where
  cl : (PySem.W.clsIn K C).isSome = true
  ga :  PySem.W.findIn K (.ref C) "__getattribute__" = some (some (.builtin "BaseException.__getattribute__"))
  gg :  PySem.W.findIn K (.ref C) "__getattr__" = some none
  ex : PySem.W.subIn K (.ref C) (.type "BaseException") = some true
  fc : PySem.W.findIn K (.ref C) "__class__" = some (some (.builtin "object.__class__"))
  sp : PySem.W.specialIn K (.builtin "object.__class__") "__get__" = some (some (.builtin "getset_descriptor.__get__"))
  tk : PySem.W.takesIn K (.builtin "object.__class__") = some true
  mo : PySem.W.mroIn K C (.type "object") = some true
def rIX (K : KC) (nm : List Str) (f : Str → Bool) (cv : Value) : List V → Hp → VK → Prop := fun xs H Q => ∃ v c c0 fs F R, xs = [v, c] ∧ (∀ u, RelV c u → u = cv) ∧ H = jn F R ∧ Rep K F v (.exc c0 fs) ∧ c0 ∈ nm ∧ Q (.bl (f c0)) H
theorem call_isX {T : List (Addr × Str)} {nm : List Str} {f : Str → Bool} {cv : Value} (XN : ∀ c ∈ nm, XcC X.K (cmOf X.mg c) ∧ PySem.W.kitOne X.K (.ref (cmOf X.mg c)) cv = some (f c)) : CallR X (.builtin "isinstance") (rIX (kc T X) nm f cv) := by
  intro pins s σ H xs us Q I r ⟨v, c, c0, fs, F, R, e1, hc, hH, hv, hn, q⟩
  subst e1
  obtain ⟨u1, ⟨u2, ⟨rfl, ⟨r1, r2⟩⟩⟩⟩ := vals2 r
  have e2 := hc _ r2
  subst e2
  obtain ⟨ad, oe, od, rfl, m, z, d, fld⟩ := rep_exc hv
  cases r1
  obtain ⟨oo, J⟩ := inst_exc (T := T) I hH m z d fld
  obtain ⟨C, kit⟩ := XN c0 hn
  exact PySem.W.kia_one (PySem.W.kitx_exc C.cl C.ga C.gg C.ex C.fc C.sp C.tk C.mo) I.kIn J kit (fun y => nomatch y) fun tk => ⟨.bl (f c0), H, I.kept (t' := tk) fun _ _ y => y, rfl, q⟩
/-- isinstance(e, C) of an exception whose class is among nm -/
def rIsX (nm : List Str) (f : Str → Bool) (re : RE) : RE := fun ρ Q E => re ρ (fun d => match d with
  | .exc c _ => c ∈ nm ∧ Q (.bl (f c))
  | _ => False) E
theorem de_isX {p : Pos} {nm : List Str} {f : Str → Bool} {cv : Value} {c : V} (hg : Gl X "isinstance") (hm : X.mg "isinstance" = none) (hc : PE X e (tC c)) (hcv : ∀ u, RelV c u → u = cv) (XN : ∀ c ∈ nm, XcC X.K (cmOf X.mg c) ∧ PySem.W.kitOne X.K (.ref (cmOf X.mg c)) cv = some (f c)) (ha : DE B X W a ra)
    (h1 : starEach [a, e] X.env = (false, eval a X.env) :: starEach [e] X.env := by rfl) (h2 : starEach [e] X.env = [(false, eval e X.env)] := by rfl) (hpl : (backTo pos (starEach [e] X.env)).any (·.1) = false := by rfl) :
    DE B X W (.Call (.Name "isinstance" p) [a, e] [] pos) (rIsX nm f ra) :=
  (pe_callB (call_isX (T := B.T) XN) hg hm (by decide +kernel) (pa_cons ha (pa_cons hc pa_nil h2) h1) (by decide) (by decide) h1 hpl).imp fun σ H Q ⟨F, R, ρ, Q', E', hH, w, r, k⟩ => by
    subst hH
    refine ⟨F, R, ρ, _, E', rfl, w, r, fun v d F' x dj rv q => ?_, k.ex⟩
    cases d with
    | exc c0 fs => exact ⟨v, _, c0, fs, F', R, rfl, hcv, rfl, rv, q.1, k.ok _ _ F' x dj (of_bl _) q.2⟩
    | _ => exact (show False from q).elim
theorem de_isXc {p p2 : Pos} {nm : List Str} {f : Str → Bool} {C : Str} {Ca : Addr} (hg : Gl X "isinstance") (hm : X.mg "isinstance" = none) (hgC : Gl X C) (hmC : X.mg C = some (.ref Ca)) (XN : ∀ c ∈ nm, XcC X.K (cmOf X.mg c) ∧ PySem.W.kitOne X.K (.ref (cmOf X.mg c)) (.ref Ca) = some (f c)) (ha : DE B X W a ra) (hd : (C == ("__debug__" : Str)) = false := by decide)
    (h1 : starEach [a, .Name C p2] X.env = (false, eval a X.env) :: starEach [.Name C p2] X.env := by rfl) (hpl : (backTo pos (starEach [.Name C p2] X.env)).any (·.1) = false := by rfl) :
    DE B X W (.Call (.Name "isinstance" p) [a, .Name C p2] [] pos) (rIsX nm f ra) :=
  de_isX hg hm (pe_glob (v := .ref Ca) hgC hmC rfl hd) (fun u r => r) XN ha h1 rfl hpl
theorem de_isXt {p p2 : Pos} {nm : List Str} {f : Str → Bool} {C : Str} {U : String} (hg : Gl X "isinstance") (hm : X.mg "isinstance" = none) (hgC : Gl X C) (hmC : X.mg C = none) (hv : bootBuiltins C = some (.type U)) (XN : ∀ c ∈ nm, XcC X.K (cmOf X.mg c) ∧ PySem.W.kitOne X.K (.ref (cmOf X.mg c)) (.type U) = some (f c)) (ha : DE B X W a ra) (hn : C ≠ "__name__" := by decide) (hd : (C == ("__debug__" : Str)) = false := by decide)
    (h1 : starEach [a, .Name C p2] X.env = (false, eval a X.env) :: starEach [.Name C p2] X.env := by rfl) (hpl : (backTo pos (starEach [.Name C p2] X.env)).any (·.1) = false := by rfl) :
    DE B X W (.Call (.Name "isinstance" p) [a, .Name C p2] [] pos) (rIsX nm f ra) :=
  de_isX hg hm (pe_bltn (v := .ty U) hgC hmC hv rfl hn hd) (fun u r => r) XN ha h1 rfl hpl
/-- e.f of an exception of the class C -/
def rXf (C f : Str) (re : RE) : RE := fun ρ Q E => re ρ (fun d => match d with
  | .exc c fs => c = C ∧ match fs.lookup f with
    | some d => Q d
    | none => False
  | _ => False) E
structure XfOk (K : PySem.W.Frag) (mg : Str → Option Value) (C f : Str) : Prop where
  xf : XfC K (cmOf mg C)
  no : PySem.W.findIn K (.ref (cmOf mg C)) f = some none
theorem de_xf {C f : Str} (Y : XfOk X.K X.mg C f) (he : DE B X W e re) (hb : attributeBase e f X.env (eval e X.env) = eval e X.env := by rfl) : DE B X W (.Attribute e f pos) (rXf C f re) := by
  refine ⟨fun pins s σ H Q I ⟨F, R, ρ, Q', E', hH, w, r, k⟩ => ?_⟩
  subst hH
  refine attr_of hb (thn (he.run pins s σ _ (fun x H1 => ∃ F' fs d, H1 = jn F' R ∧ Ext (kc B.T X) F F' ∧ Dj F' R ∧ Rep (kc B.T X) F' x (.exc C fs) ∧ fs.lookup f = some d ∧ Q' d) I ⟨F, R, ρ, _, E', rfl, w, r, fun v d F' x dj rv q => ?_, k.ex⟩) fun u s1 ⟨x, H1, I1, rx, F', fs, d, hH1, x1, dj1, rv, lk, q⟩ => ?_)
  · cases d with
    | exc c0 fs =>
      obtain ⟨rfl, q⟩ := q
      cases hl : fs.lookup f with
      | none => rw [hl] at q; exact q.elim
      | some d => rw [hl] at q; exact ⟨F', fs, d, rfl, x, dj, rv, hl, q⟩
    | _ => exact (show False from q).elim
  · subst hH1
    obtain ⟨ad, oe, od, rfl, m, z, dt, fld⟩ := rep_exc rv
    obtain rfl : u = Value.ref ad := rx
    obtain ⟨us, du⟩ := dt
    rcases fld with ⟨rfl, _⟩ | ⟨dd, ws, rfl, hx, rf⟩
    · cases lk
    · obtain ⟨v, lv, rd⟩ := repF_look rf lk
      have ox : ObjOk X.prog X.w (jn F' R) s1.heap dd (.xd ws) := I1.hok dd _ (jn_l hx)
      obtain ⟨mA, hns, hr⟩ := ox
      obtain ⟨ob, ho, hl⟩ := lookIn_ns hns
      obtain ⟨u, hu, ru⟩ := RelO.some_of (v := v) (o := mA f) (by rw [← lv]; exact hr f)
      have J : PySem.W.InstAt s1.heap ad oe (cmOf X.mg C) (some ob) := ⟨(I1.pin _ (List.mem_append_left pins m)).1, z.1, by unfold PySem.W.notCls; rw [du] <;> rfl, by rw [z.2]; exact ho⟩
      have rd' : Rep (kc B.T X) F' v d := Rep.pn (K := kc B.T X) (p1 := []) (p2 := X.pn) d v (.inr fun _ z => by cases z) rd
      exact HandSPX.exc_get I1.kIn J Y.xf.ga Y.xf.gg Y.xf.exC (PySem.W.findObj_own Y.xf.hdC Y.no rfl (by rw [hl, hu])) (handed_of ru) ⟨v, _, I1.tok _, ru, k.ok v d F' x1 dj1 rd' q⟩
end
end L3
namespace L3
open PySem PySem.Spec L2
open PyProof.Rows hiding St
/-! ### found = None / try: call() / except RestsError as e: .. / return found -/
abbrev cxF (X : Cx) (x : Str) (sg : Scope) (g : Addr) (cdg : Value) (s : Shared) (H : Hp) : Cx := (cxOf C8.CX0 X.prog X.w X.K X.mg X.base ["call", "found", "e"] x sg g cdg X.A X.stack s H C8.E0).nox
/-- ft: what the suite makes of an exception -/
def TTf (K : KC) (ft : XD → (D → Prop) → Prop) : (XK → Hp → VK → Prop) → Hp → VK → Prop := fun tl H Q =>
  tl (fun cls d H' => ∃ F R x Q', H' = jn F R ∧ Dj F R ∧ LamX.Tabs K.T F ∧ RepX K F cls d x ∧ ft x Q' ∧ KV1 K F R Q' Q) H (fun _ H' => Q .non H')
theorem fault_gives {X : Cx} {x q : Str} {sg : Scope} {g CS : Addr} {cdg : Value} {gd : Bool} {k j : Nat} {p1 p2 p3 p4 p5 p6 p7 p8 p9 p10 p11 : Pos} {b0 : Stmt} {suite : List Stmt} {T : List (Addr × Str)} {rs : RS} {ft : XD → (D → Prop) → Prop}
    (hge : sg.names.lookup ("RestsError" : Str) = some .globalImplicit) (hme : X.mg "RestsError" = some (.ref CS)) (lf : sg.names.lookup ("found" : Str) = some .local) (le : sg.names.lookup ("e" : Str) = some .local) (hr : Room (k + 2) X.A) (hgd : gd = true → X.A.guards = some [])
    (hsu : ∀ (s : Shared) (H : Hp) (a : Addr) (oe : Obj) (pn : List (Addr × Obj)) (B : Bs), B.T = T → RoomP gd (k + 1) ((cxF X x sg g cdg s H).suite a ((a, oe) :: pn)).A → DSs B ((cxF X x sg g cdg s H).suite a ((a, oe) :: pn)) W0 (b0 :: suite) rs)
    (hpure : ∀ (y : XD) (Q : D → Prop), ft y Q → PySem.W.exmOne X.K (.ref (cmOf X.mg y.cls)) (.ref CS) = some true ∧ rs { nx := fun ρ => ∃ d, (ρ[1]? : Option Sl) = some (.val d) ∧ nxD d = true ∧ Q d, rt := fun _ => False, ex := fun _ => False } [.emp, .emp, .val (.exc y.cls y.fs)]) :
    LamX.GivesTo X ["call", "found", "e"] x sg g cdg [.Assign [.Name "found" p1] (.Constant .none j p2) p3, .Try [.Expr (.Call (.Name "call" p4) [] [] p10) p11] [.ExceptHandler (some (.Name "RestsError" p5)) (some "e") (b0 :: suite) p6] [] [] p7, .Return (some (.Name "found" p8)) p9] "call" q (TTf ⟨X.K, cmOf X.mg, [], T⟩ ft) := by
  intro f c' s H Q tl act hco h
  let Y : Cx := cxF X x sg g cdg s H
  have nd : Y.N.Nodup := by show (["call", "found", "e"] : List Str).Nodup; decide
  let ts : Addr → Value → Option Addr → TS := fun a cls d D σ H1 => ∀ (oe : Obj) (pn : List (Addr × Obj)), Zc cls d oe → (∃ vs, oe.data = .fields vs) → ∃ B, B.T = T ∧ lS (kc T (Y.suite a ((a, oe) :: pn))) B W0 rs D σ H1
  have rm : ∀ a : Addr, RoomP gd (k + 1) (Y.A.mark (some (.ref a))) := fun a => ⟨⟨(Room.deeper hr Y.env).dp, (Room.deeper hr Y.env).un⟩, hgd⟩
  have s2 := ps_try_as (X := Y) (x := "RestsError") (n := "e") (c := .ref CS) (i := 2) (np := p5) (pos := p7) (pos' := p6) (ts := ts) (Wout := fun _ _ _ _ => False)
      (tb := fun W D σ H => ∃ Ech : XK, (∀ cls d σ' H', σ'.length = 3 → Ech cls d H' → W cls d σ' H') ∧ σ = [some (.ref f), some .non, none] ∧ H c' = some (LamX.CodeO c' q) ∧ (tl Ech H fun _ H' => D.nx σ H'))
      (body := [.Expr (.Call (.Name "call" p4) [] [] p10) p11]) rfl rfl nd rfl le ⟨hge, rfl, .inl hme⟩ LamX.takes0 (fun W pn xe tk _ => ⟨fun pins s' σ H' D I h' => by
        obtain ⟨Ech, ⟨hW, ⟨h1, h2, h3⟩⟩⟩ := h'
        have tk3 : Takes (Y.tr pn xe) (fun cls d σ1 H1 => σ1.length = 3 → W cls d σ1 H1) := fun u s9 ⟨a9, B9, sI, pi9, σ9, H9, c9, d9, e9, I9, nb, up, sky, na, os, ag, w9⟩ => tk u s9 ⟨a9, B9, sI, pi9, σ9, H9, c9, d9, e9, I9, nb, up, sky, na, os, ag, w9 I9.len⟩
        have hp := act _ pn xe Ech p4 p10 tk3 (fun cls d σ1 H1 h8 hl => hW cls d σ1 H1 hl h8)
        have hq := pss_one (ps_expr (pos := p11) hp)
        exact hq.run pins s' σ H' D I ⟨by rw [h1]; rfl, h2, h3⟩⟩)
      (fun a oe cls d pn z dt => ⟨fun pins s' σ H' D I h' => by
        obtain ⟨B, hB, h'⟩ := h' oe pn z dt
        have hd := hsu s H a oe pn B hB (rm a)
        unfold DSs at hd
        rw [hB] at hd
        exact hd.run pins s' σ H' D I h'⟩)
  have s1 := ps_set (X := Y) (i := 1) (pos := p3) (pos' := p1) nd rfl (.inl lf) (pe_non (X := Y) (pos := p2) (j := j)) rfl (.inr lf)
  have s3 := ps_ret (pos := p9) (pe_var (X := Y) (i := 1) (x := "found") (pos := p8) rfl (.inl lf))
  refine ⟨_, pss_cons s1 (pss_cons s2 (pss_one s3)), ?_⟩
  show ∃ Ech : XK, _
  refine ⟨fun cls d H' => ∃ F R x Q', H' = jn F R ∧ Dj F R ∧ LamX.Tabs T F ∧ RepX ⟨X.K, cmOf X.mg, [], T⟩ F cls d x ∧ ft x Q' ∧ KV1 ⟨X.K, cmOf X.mg, [], T⟩ F R Q' Q, ?_, rfl, hco, ?_⟩
  · rintro cls d σ' H' hlen ⟨F, R, y, Q', rfl, dj, tb, rx, hf, kv⟩
    obtain ⟨hex, hrs⟩ := hpure y Q' hf
    obtain ⟨hcl, hfd⟩ := rx
    refine ⟨true, by rw [hcl]; exact hex, fun _ a na oe pn z dt => ?_, fun z => by cases z⟩
    match σ', hlen with
    | [x0, x1, x2], _ =>
      refine ⟨⟨F, R, T⟩, rfl, F, R, [.emp, .emp, .val (.exc y.cls y.fs)], _, rfl, ?_, hrs, ?_⟩
      · refine ⟨tb, .refl _, fun _ _ z => z, dj, rfl, fun i d hi => ?_, fun i ds hi => ?_, fun i c b fs hi => ?_, fun i i2 b di d2 hi _ _ _ => ?_⟩
        · match i, hi with
          | 2, hi =>
            cases hi
            refine ⟨.ref a, rfl, ?_⟩
            unfold Rep
            exact ⟨a, oe, d, rfl, by simp, by rw [show cls = .ref (cmOf X.mg y.cls) from hcl] at z; exact z, dt, hfd⟩
          | (i + 3), hi => cases hi
        · match i, hi with
          | (i + 3), hi => cases hi
        · match i, hi with
          | (i + 3), hi => cases hi
        · match i, hi with
          | (i + 3), hi => cases hi
      · refine ⟨fun σ2 F2 R2 ρ2 w2 ⟨d2, h2, n2, q2⟩ => ?_, fun v d σ F R ρ w rv z => z.elim, fun x cls od σ F R ρ w rx z => z.elim, fun σ F R ρ w z => z.elim, fun σ F R ρ w z => z.elim⟩
        obtain ⟨v, e2, r2⟩ := w2.val 1 d2 h2
        refine ⟨v, by rw [List.getElem?_set_ne (by decide)]; exact e2, ?_⟩
        obtain ⟨F9, e9, x9, d9⟩ := absorb w2
        show Q v (jn F2 R2)
        rw [e9]
        have x10 := w2.ex.trans x9
        exact kv.ok v d2 F9 ⟨x10.at_, x10.tab⟩ d9 (Rep.pn (K := ⟨X.K, cmOf X.mg, [], T⟩) (p1 := (a, oe) :: pn) (p2 := []) d2 v (.inl n2) (Rep.ext x9 _ _ r2)) q2
  · have e0 : (fun (_ : V) (H' : Hp) => ∃ v, (some (some V.non) : Option (Option V)) = some (some v) ∧ Q v H') = fun _ H' => Q .non H' := by
      funext _ H'
      exact propext ⟨fun ⟨v, e, q⟩ => by cases e; exact q, fun q => ⟨_, rfl, q⟩⟩
    show tl _ H (fun (_ : V) (H' : Hp) => ∃ v, (some (some V.non) : Option (Option V)) = some (some v) ∧ Q v H')
    rw [e0]
    exact h
end L3
namespace L3
open PySem PySem.Spec L2
open PyProof.Rows hiding St
/-- x(lambda: body) -/
def rFault (ft : XD → (D → Prop) → Prop) (re : RE) : RE := fun ρ Q _ => re ρ (fun _ => Q .non) (fun y => ft y Q)
theorem Ext.tables {K : KC} {F R H1 : Hp} (dj : Dj F R) (tb : LamX.Tabs K.T F) (e : LamX.ExtN (jn F R) H1) (t1 : LamX.Tabs K.T H1) : ∃ F1, H1 = jn F1 R ∧ Ext K F F1 ∧ Dj F1 R := by
  have keepR : ∀ a o, R a = some o → H1 a = some o := fun a o h => e a o (jn_of_r dj h).2 fun ps z => by
    have := dj.nt a o h
    rw [z] at this
    exact this
  have noR : ∀ (a : Addr) (o : HO), H1 a = some o → ¬ NT o → R a = none := fun a o h n => by
    cases q : R a with
    | none => rfl
    | some u =>
      have h2 := keepR a u q
      rw [h] at h2
      cases h2
      exact absurd (dj.nt a o q) n
  let F1 : Hp := fun a => match R a with
    | some _ => none
    | none => H1 a
  have f1 : ∀ a, R a = none → F1 a = H1 a := fun a h => by show (match R a with | some _ => none | none => H1 a) = _; rw [h]
  have f2 : ∀ a o, R a = some o → F1 a = none := fun a o h => by show (match R a with | some _ => none | none => H1 a) = _; rw [h]
  refine ⟨F1, ?_, ⟨fun a o h => ?_, fun t p hp => ?_⟩, ⟨fun a o h => ?_, dj.nt⟩⟩
  · funext a
    cases q : R a with
    | none =>
      cases h : H1 a with
      | some o => exact (jn_l ((f1 a q).trans h)).symm
      | none => exact ((jn_r ((f1 a q).trans h)).trans q).symm
    | some o => rw [keepR a o q]; exact ((jn_r (f2 a o q)).trans q).symm
  · have hr := dj a o h
    by_cases ht : ∃ ps, o = .tbl ps
    · exact .inr (.inr ht)
    · exact .inl ((f1 a hr).trans (e a o (jn_l h) fun ps z => ht ⟨ps, z⟩))
  · obtain ⟨ps, e1, e2, e3⟩ := t1 p hp
    refine ⟨ps, (f1 _ (noR _ _ e1 fun z => z)).trans e1, e2, fun pos cv hcv => ?_⟩
    obtain ⟨c, e4, e5⟩ := e3 pos cv hcv
    exact ⟨c, e4, (f1 _ (noR _ _ e5 fun z => by unfold LamX.CodeO at z; exact z)).trans e5⟩
  · cases q : R a with
    | none => rfl
    | some u =>
      rw [f2 a u q] at h
      cases h
section
variable {B : Bs} {X : Cx} {W : WX}
theorem de_fault {x : Str} {st : Stmt} {g c P : Addr} {fd : FuncData} {k : Nat} {params : Arguments} {body : Expr} {scope : Scope} {p lpos pos : Pos} {ft : XD → (D → Prop) → Prop} {re : RE}
    (hpn : X.pn = []) (Fu : Fun X.K x x st g fd) (hg : Gl X x) (hm : X.mg x = some (.ref g)) (hk : PySem.W.keepIn X.K (.ref g) = true) (hb : Binds X.K fd ["call"] []) (Sg : FnScope ["call", "found", "e"] ["call"] (defScope st)) (hva : Vis (defScope st) "call")
    (hG : ∀ cdv : Value, LamX.GivesTo X ["call", "found", "e"] x (defScope st) g cdv (defBody st) "call" (X.env.qual ++ "<lambda>") (TTf ⟨X.K, cmOf X.mg, [], B.T⟩ ft))
    (TB : LamX.TabB X.base X.mg c P) (hcode : X.env.code = .ref c) (hmT : (P, X.env.qual ++ "<lambda>") ∈ B.T) (hu : ∀ p ∈ B.T, p.1 = P → p.2 = X.env.qual ++ "<lambda>") (hr : Room (k + 2) X.A) (L : LamX.LamS X.env.scope scope) (hdef : defaultsOf params X.env = ([], []))
    (hbind :  ∀ (q : Str) (cl : List (Str × Addr)) (pm cv ctv : Value), bindArgs (PySem.W.kla_fn "<lambda>" q params body scope cl pm cv ctv) ⟨[], []⟩ = pure [])
    (hbody : ∀ (A : Around) (outer : List Env) (s : Shared) (H : Hp) (E : XK) (f c' : Addr), Room k (A.deeper (LamX.lamEnv X scope s.heap.objs.size f c')) → Takes (LamX.lamCx X A outer s H E scope f c') (WD E) → DE B (LamX.lamCx X A outer s H E scope f c') (WD E) body re)
    (hdb : (x == ("__debug__" : Str)) = false := by decide) : DE B X W (.Call (.Name x p) [.Lambda params body scope lpos] [] pos) (rFault ft re) := by
  obtain ⟨oc, od, kV, doc, pm, an, cdv, ct, osl, rfl, lk, hcd⟩ := Fu.ex
  refine (LamX.pe_lamcall (T := B.T) (t := fun E => lE ⟨X.K, cmOf X.mg, [], B.T⟩ B (WD E) re) (p := p) (lpos := lpos) (pos := pos) hg hm hk lk hcd hb Sg rfl hva (hG cdv) TB hcode hmT hu hr L hdef hbind (fun A outer s H E f c' rm => hbody A outer s H E f c' rm (takes_of rfl rfl rfl rfl)) hdb).imp fun σ H Q h => ?_
  obtain ⟨F, R, ρ, Q', E', rfl, w, r, kk⟩ := h
  have ek : kc B.T X = ⟨X.K, cmOf X.mg, [], B.T⟩ := by show (⟨X.K, cmOf X.mg, X.pn, B.T⟩ : KC) = _; rw [hpn]
  rw [ek] at w kk
  refine ⟨w.tb.ext fun b o e => jn_l e, fun H1 eN t1 => ?_⟩
  obtain ⟨F1, rfl, xF, d1⟩ := Ext.tables w.dj w.tb eN t1
  refine ⟨F1, R, ρ, _, _, rfl, w.ext xF d1, r, fun v d F' x1 dj rv q => ?_, fun y cls od F' x1 dj rx q => ?_⟩
  · exact kk.ok .non .non F' (xF.trans x1) dj of_non q
  · exact ⟨F', R, y, Q', rfl, dj, (xF.trans x1).tab w.tb, rx, q, ⟨fun v d F2 x2 dj2 r2 q2 => kk.ok v d F2 ((xF.trans x1).trans x2) dj2 r2 q2⟩⟩
end
section
variable {P : Program} {w : World} {K : PySem.W.Frag} {mg : Str → Option Value} {base : Heap} {T : List (Addr × Str)}
/-- fn3, with the def's own code object told -/
theorem fn3L {x qual : Str} {st : Stmt} {f : Addr} {fd : FuncData} {N ps : List Str} {k n : Nat} {sp : Sp3} {r : RS} (Fu : Fun K x qual st f fd) (S : FnScope N ps (defScope st)) (hn : ps.length = n)
    (hbody : ∀ (A : Around) (outer : List Env) (s : Shared) (H : Hp) (E : XK) (B : Bs), B.T = T → Room k (A.deeper (envOfC qual (defScope st) s.heap.objs.size f fd.code)) → Takes (cxOf (L2.CX P w) P w K mg base N qual (defScope st) f fd.code A outer s H E) (WD E) →
      DSs B (cxOf (L2.CX P w) P w K mg base N qual (defScope st) f fd.code A outer s H E) (WD E) (defBody st) r)
    (hp : ∀ (ds : List D) (Q : D → Prop) (E : XD → Prop), ds.length = n → sp ds Q E → r { nx := fun _ => Q .non, rt := Q, ex := E } (start3 N.length ds)) :
    FnOk P w K mg base (L2.CX P w) (k + 1) f fd ps (lSp ⟨K, cmOf mg, [], T⟩ n sp) := by
  obtain ⟨oc, od, kV, doc, pm, an, cdv, ct, osl, rfl, lk, hcd⟩ := Fu.ex
  refine fn_of lk hcd S (fun vs H Q E h => ?_) fun A outer s H vs Q E hr h => ?_
  · obtain ⟨_, _, _, _, _, _, _, _, _, hl, _⟩ := h
    rw [hl, hn]
  · obtain ⟨F0, R0, ds, Q', E', rfl, dj, tb, rd, hl, hs, kv, kx⟩ := h
    have tk : Takes (cxOf (L2.CX P w) P w K mg base N qual (defScope st) f cdv A outer s (jn F0 R0) E) (WD E) := takes_of rfl rfl rfl rfl
    refine ⟨_, hbody A outer s (jn F0 R0) E ⟨F0, R0, T⟩ rfl hr tk, ?_⟩
    refine ⟨F0, R0, start3 N.length ds, _, rfl, wd_start dj tb rd rfl rfl, hp ds Q' E' (by rw [← rd.length]; exact hl) hs, ?_⟩
    refine ⟨fun σ F R ρ w q => ?_, fun v d σ F R ρ w rv q => ?_, fun x cls od σ F R ρ w rx q => ?_, fun σ F R ρ w q => q.elim, fun σ F R ρ w q => q.elim⟩
    · obtain ⟨F', e, x1, d1⟩ := absorb w
      rw [e]
      exact kv.ok _ _ F' (w.ex.trans x1) d1 of_non q
    · obtain ⟨F', e, x1, d1⟩ := absorb w
      rw [e]
      exact kv.ok _ _ F' (w.ex.trans x1) d1 (Rep.ext x1 _ _ rv) q
    · obtain ⟨F', e, x1, d1⟩ := absorb w
      show E cls od (jn F R)
      rw [e]
      exact kx x cls od F' (w.ex.trans x1) d1 (rx.ext x1) q
end
end L3
namespace L3
open PySem PySem.Spec L2
open PyProof.Rows hiding St
section
variable {B : Bs} {X : Cx} {W : WX} {a b c e tg : Expr} {es rest : List Expr} {ra rb rc re : RE} {rt t1 : RT} {rs ri ri1 : RA} {g g1 : G3} {pos : Pos}
theorem ds_setLc2 {i : Nat} {y : Str} {py spos : Pos} {iter elt tg1 iter1 : Expr} {ifs ifs1 : List Expr} {scope : Scope} {own : List (Str × Nat)} {vs vs1 is js : List Nat} (hc : X.calm = true) (hN : X.N.Nodup) (hiN : X.N[i]? = some y) (hloc : X.env.scope.names.lookup y = some .local)
    (hsw : swapsWith (.ListComp elt [{ target := tg, iter := iter, ifs := ifs, is_async := 0 }, { target := tg1, iter := iter1, ifs := ifs1, is_async := 0 }] scope pos) (some (.Name y py)) spos.line X.env = pure true) (hi : DI B X W tg iter ri) (ok : BlkOk X.N X.env.scope scope own) (hv : ∀ i, i ∈ vs1 → i ∈ vs)
    (hg : ∀ (s : Shared) (H : Hp) (C : Addr) (cl : List (Str × Addr)) (fp : List Addr), DG B.T (X.blk s H scope (compEnvC scope cl C X.env) fp) is tg g)
    (ht : ∀ (s : Shared) (H : Hp) (C : Addr) (cl : List (Str × Addr)) (fp : List Addr), DTs B (X.blk s H scope (compEnvC scope cl C X.env) fp) W0 ifs rt)
    (hi1 : ∀ (s : Shared) (H : Hp) (C : Addr) (cl : List (Str × Addr)) (fp : List Addr), DI B (X.blk s H scope (compEnvC scope cl C X.env) fp) W0 tg1 iter1 ri1)
    (hg1 : ∀ (s : Shared) (H : Hp) (C : Addr) (cl : List (Str × Addr)) (fp : List Addr), DG B.T (X.blk s H scope (compEnvC scope cl C X.env) fp) js tg1 g1)
    (ht1 : ∀ (s : Shared) (H : Hp) (C : Addr) (cl : List (Str × Addr)) (fp : List Addr), DTs B (X.blk s H scope (compEnvC scope cl C X.env) fp) W0 ifs1 t1)
    (he : ∀ (s : Shared) (H : Hp) (C : Addr) (cl : List (Str × Addr)) (fp : List Addr), DE B (X.blk s H scope (compEnvC scope cl C X.env) fp) W0 elt re)
    (hsub : ∀ j ∈ is, j ∈ vs) (hsub1 : ∀ j ∈ js, j ∈ vs1) (hvs : own.map (·.2) = vs := by rfl) (hpn : X.pn = [] := by rfl) (hs : ∀ x, foldedSetIterable iter X.env x = pure x := by intro _; rfl) (hs1 : ∀ (env : Env) (x : Value), foldedSetIterable iter1 env x = pure x := by intro _ _; rfl) :
    DS B X W (.Assign [.Name y py] (.ListComp elt [{ target := tg, iter := iter, ifs := ifs, is_async := 0 }, { target := tg1, iter := iter1, ifs := ifs1, is_async := 0 }] scope pos) spos) (rSetL i (rComp2 ri g rt ri1 g1 t1 re vs vs1)) :=
  ds_setLT (ps_setLc2 hc hN hiN hloc hsw hi ok (by rw [hvs]; exact hv) (fun s H C cl fp => by have h := hg s H C cl fp; unfold DG at h; rw [kc_blk hpn] at h; exact h) (fun s H C cl fp => by have h := ht s H C cl fp; unfold DTs at h; rw [kc_blk hpn] at h; exact h)
    (fun s H C cl fp => by have h := hi1 s H C cl fp; unfold DI at h; rw [kc_blk hpn] at h; exact h) (fun s H C cl fp => by have h := hg1 s H C cl fp; unfold DG at h; rw [kc_blk hpn] at h; exact h) (fun s H C cl fp => by have h := ht1 s H C cl fp; unfold DTs at h; rw [kc_blk hpn] at h; exact h)
    (fun s H C cl fp => by have h := he s H C cl fp; unfold DE at h; rw [kc_blk hpn] at h; exact h) hs hs1) fun _ _ _ h => by rw [hvs]; exact lL_comp2 hsub hsub1 h
/-- a, b = x, y, both new lists -/
def rParLL (i j : Nat) (ra rb : RA) : RS := fun N ρ => (i < ρ.length ∧ j < ρ.length) ∧ ra ρ (fun ds => rb ρ (fun es => N.nx ((ρ.set i (.own ds)).set j (.own es))) N.ex) N.ex
theorem ds_parLL {i j : Nat} {x y : Str} {px py pt pt2 : Pos} {kt k2 : Nat} {r1 r2 : RA} (hc : X.calm = true) (hN : X.N.Nodup) (hi : X.N[i]? = some x) (hj : X.N[j]? = some y) (hij : i ≠ j) (hx : X.env.scope.names.lookup x = some .local) (hy : X.env.scope.names.lookup y = some .local) (ha : FE B X W a r1) (hb : FE B X W b r2)
    (hw : swappedStores [.Tuple [.Name x px, .Name y py] kt pt] (.Tuple [a, b] k2 pt2) X.env = pure (some [x, y])) (hs : swapsWithSole [.Tuple [.Name x px, .Name y py] kt pt] (.Tuple [a, b] k2 pt2) pos.line X.env = pure false := by rfl) (h1 : starEach [a, b] X.env = (false, eval a X.env) :: starEach [b] X.env := by rfl) (h2 : starEach [b] X.env = (false, eval b X.env) :: starEach [] X.env := by rfl) :
    DS B X W (.Assign [.Tuple [.Name x px, .Name y py] kt pt] (.Tuple [a, b] k2 pt2) pos) (rParLL i j r1 r2) := (ps_par hc hN hi hj hij hx hy (pa_cons ha (pa_cons hb pa_nil h2) h1) hw hs).imp fun D σ H ⟨F, R, ρ, N, hH, w, ⟨⟨li, lj⟩, q⟩, k⟩ => by
  subst hH
  refine ⟨F, R, ρ, _, _, rfl, w, q, fun p vs ds F1 x1 dj1 rv _ q1 hp => ?_, fun x cls od F' e dj rx q' => k.ex x cls od σ F' R ρ (w.ext e dj) rx q'⟩
  have np := jn_none hp
  rw [jn_updR np.1]
  have djp : Dj F1 (upd R p (.lst vs)) := dj1.updR np.1
  refine ⟨F1, upd R p (.lst vs), ρ, _, N.ex, rfl, (w.ext x1 dj1).inn np.2 djp, q1, fun p2 us es F2 x2 dj2 ru _ q2 hp2 => ?_, fun x cls od F' e dj rx q' => ?_⟩
  · obtain ⟨n2, d2⟩ := dj_down np.2 dj2
    have np2 := jn_none hp2
    refine ⟨.ref p, .ref p2, rfl, ?_⟩
    have w1 := (w.ext (x1.trans x2) d2).setN (Reps.ext x2 _ _ rv) (p := p) (by rw [jn_r n2]; exact np.2) i li
    have w2 := w1.setN ru (p := p2) hp2 j (by rw [List.length_set]; exact lj)
    rw [jn_updR np2.1]
    exact k.nx _ F2 _ _ w2 q2
  · obtain ⟨n2, d2⟩ := dj_down np.2 dj
    exact k.ex x cls od σ F' _ ρ ((w.ext (x1.trans e) d2).inn np.2 dj) rx q'
/-- len(x), x a list of one's own (or not) -/
def rLenO (i : Nat) : RE := fun ρ Q _ => match ρ[i]? with
  | some (.own ds) => Q (.int ds.length)
  | some (.val d) => gLen [d] Q
  | _ => False
theorem de_lenO {x : Str} {p p2 : Pos} {i : Nat} (hg : Gl X "len") (hm : X.mg "len" = none) (hv : PE X (.Name x p2) (tVar i)) (h1 : starEach [.Name x p2] X.env = (false, eval (.Name x p2) X.env) :: starEach [] X.env := by rfl) (hpl : (backTo pos (starEach [] X.env)).any (·.1) = false := by rfl) :
    DE B X W (.Call (.Name "len" p) [.Name x p2] [] pos) (rLenO i) :=
  (pe_callB call_len_seq hg hm (by decide +kernel) (pa_cons hv pa_nil h1) (by decide) (by decide) h1 hpl).imp fun σ H Q ⟨F, R, ρ, Q', E', hH, w, r, k⟩ => by
    subst hH
    unfold rLenO at r
    split at r
    · rename_i ds hd
      obtain ⟨a, vs, e1, e2, e3, _⟩ := w.own i ds hd
      refine ⟨_, e1, a, vs, rfl, .inl (.inl (.inl (jn_of_r w.dj e2).2)), ?_⟩
      rw [e3.length]
      exact k.ok _ _ F (.refl _) w.dj (of_int _) r
    · rename_i d hd
      obtain ⟨v, e1, rv⟩ := w.val i d hd
      refine ⟨v, e1, ?_⟩
      unfold gLen at r
      split at r
      · rename_i xs e
        cases e
        obtain ⟨a, vs, rfl, ha, ra⟩ := rep_tup rv
        refine ⟨a, vs, rfl, .inr (sq_t (K := kc B.T X) ha), ?_⟩
        rw [ra.length]
        exact k.ok _ _ F (.refl _) w.dj (of_int _) r
      · rename_i xs e
        cases e
        obtain ⟨a, vs, rfl, ha, ra⟩ := rep_lst rv
        refine ⟨a, vs, rfl, .inl (sq_l (K := kc B.T X) ha), ?_⟩
        rw [ra.length]
        exact k.ok _ _ F (.refl _) w.dj (of_int _) r
      · rename_i xs e
        cases e
        obtain ⟨a, rfl, ha⟩ := rep_scr rv
        refine ⟨a, _, rfl, .inl (sq_s (K := kc B.T X) ha), ?_⟩
        rw [List.length_map]
        exact k.ok _ _ F (.refl _) w.dj (of_int _) r
      · exact r.elim
    · exact r.elim
/-- x.append(y.pop(e)), x and y lists of one's own -/
def rAppPop (i j : Nat) (re : RE) : RS := fun N ρ => match ρ[i]?, ρ[j]? with
  | some (.own ds), some (.own es) => re ρ (fun d => match d with
    | .int k => (-(2 ^ 63) ≤ k ∧ k < 2 ^ 63) ∧ ds.length < sizeLine ∧ ∃ n y, seqIndex? k es.length = some n ∧ es[n]? = some y ∧ N.nx ((ρ.set j (.own (es.eraseIdx n))).set i (.own (ds ++ [y])))
    | _ => False) N.ex
  | _, _ => False
theorem Reps.erase {K : KC} {F : Hp} : ∀ {ds : List D} {vs : List V} (n : Nat), Reps K F vs ds → Reps K F (vs.eraseIdx n) (ds.eraseIdx n)
  | [], vs, n, h => by rw [reps_nil h]; simp [Reps]
  | d :: ds, vs, 0, h => by
    obtain ⟨v, r, rfl, h1, h2⟩ := reps_cons h
    exact h2
  | d :: ds, vs, n + 1, h => by
    obtain ⟨v, r, rfl, h1, h2⟩ := reps_cons h
    exact Reps.cons h1 (Reps.erase n h2)
theorem ds_appPop {i j : Nat} {x y : Str} {p ap cp p2 ap2 cp2 : Pos} (hij : i ≠ j) (hv : PE X (.Name x p) (tVar i)) (hv2 : PE X (.Name y p2) (tVar j)) (he : DE B X W e re)
    (hpl2 : ((backTo cp2 (starEach (e :: []) X.env)).all (fun x => !x.1) && (backToKw cp2 (keywordEach [] X.env)).all (fun x => x.1.isSome) && decide ((e :: []).length + ([] : List Keyword).length + (if ([] : List Keyword).isEmpty then 0 else 1) < 30)) = true := by rfl)
    (h02 : attributeBase (.Name y p2) "pop" X.env (eval (.Name y p2) X.env) = eval (.Name y p2) X.env := by rfl) (h12 : (ap2.endLine == cp2.line) = true := by rfl) (h22 : starEach (e :: []) X.env = (false, eval e X.env) :: starEach [] X.env := by rfl) (h32 : (backTo cp2 (starEach [] X.env)).any (·.1) = false := by rfl)
    (hpl : ((backTo cp (starEach (.Call (.Attribute (.Name y p2) "pop" ap2) [e] [] cp2 :: []) X.env)).all (fun x => !x.1) && (backToKw cp (keywordEach [] X.env)).all (fun x => x.1.isSome) && decide ((.Call (.Attribute (.Name y p2) "pop" ap2) [e] [] cp2 :: ([] : List Expr)).length + ([] : List Keyword).length + (if ([] : List Keyword).isEmpty then 0 else 1) < 30)) = true := by rfl)
    (h0 : attributeBase (.Name x p) "append" X.env (eval (.Name x p) X.env) = eval (.Name x p) X.env := by rfl) (h1 : (ap.endLine == cp.line) = true := by rfl) (h2 : starEach (.Call (.Attribute (.Name y p2) "pop" ap2) [e] [] cp2 :: []) X.env = (false, eval (.Call (.Attribute (.Name y p2) "pop" ap2) [e] [] cp2) X.env) :: starEach [] X.env := by rfl) (h3 : (backTo cp (starEach [] X.env)).any (·.1) = false := by rfl)
    (hs : swapsWith (.Call (.Attribute (.Name x p) "append" ap) [.Call (.Attribute (.Name y p2) "pop" ap2) [e] [] cp2] [] cp) none pos.line X.env = pure false := by rfl) :
    DS B X W (.Expr (.Call (.Attribute (.Name x p) "append" ap) [.Call (.Attribute (.Name y p2) "pop" ap2) [e] [] cp2] [] cp) pos) (rAppPop i j re) :=
  (ps_expr (pe_bm PySem.F.plainAttrs_list PySem.F.slot_list_append PySem.F.type_list_append mt_append hv (pa_cons (pe_bm PySem.F.plainAttrs_list PySem.F.slot_list_pop PySem.F.type_list_pop mt_popAt hv2 (pa_cons he pa_nil h22) h02 hpl2 h12 h22 h32) pa_nil h2) h0 hpl h1 h2 h3) hs).imp fun D σ H ⟨F, R, ρ, N, hH, w, q, k⟩ => by
    subst hH
    unfold rAppPop at q
    split at q
    · rename_i ds es hi hj
      obtain ⟨l, vs, e1, e2, e3, e4⟩ := w.own i ds hi
      obtain ⟨m, us, f1, f2, f3, f4⟩ := w.own j es hj
      have nlm : m ≠ l := fun z => by rw [z] at f1; exact hij (w.sep i j l _ _ hi hj e1 f1)
      refine ⟨_, e1, .inl ⟨rfl, vs, .of (jn_of_r w.dj e2).2⟩, ?_⟩
      refine ⟨_, f1, .inl ⟨rfl, us, .of (jn_of_r w.dj f2).2⟩, ?_⟩
      refine k.lf w q fun v d F' x w' rv q' => ?_
      cases d with
      | int t =>
        obtain ⟨hb, hl, n, y, hn, hy, q2⟩ := q'
        obtain ⟨l', vs', g1, g2, g3, g4⟩ := w'.own i ds hi
        rw [e1] at g1
        cases g1
        rw [e2] at g2
        cases g2
        obtain ⟨m', us', g5, g6, g7, g8⟩ := w'.own j es hj
        rw [f1] at g5
        cases g5
        rw [f2] at g6
        cases g6
        obtain ⟨u, hu, ru⟩ := g7.get hy
        refine ⟨m, us, t, n, u, rfl, by rw [rep_int rv], (jn_of_r w'.dj f2).2, hb.1, hb.2, by rw [g7.length]; exact hn, hu, ?_⟩
        have w1 := w'.chg hj f1 (Reps.erase n g7)
        rw [upd_own w' f2]
        have hi1 : (ρ.set j (.own (es.eraseIdx n)))[i]? = some (.own ds) := by rw [List.getElem?_set_ne (Ne.symm hij)]; exact hi
        have w2 := w1.chg hi1 e1 (Reps.append g3 (Reps.cons ru Reps.nil))
        have e2' : upd R m (.lst (us.eraseIdx n)) l = some (.lst vs) := by rw [upd_ne (Ne.symm nlm)]; exact e2
        refine ⟨l, vs, u, rfl, rfl, (jn_of_r w1.dj e2').2, by rw [g3.length]; exact hl, ?_⟩
        rw [upd_own w1 e2']
        exact k.nx _ F' _ _ w2 q2
      | _ => exact (show False from q').elim
    · exact q.elim
end
end L3
namespace L3
open PySem PySem.Spec L2
open PyProof.Rows hiding St
section
variable {B : Bs} {X : Cx} {W : WX} {e : Expr} {st : Stmt} {re : RE} {pos : Pos}
/-- code that is not reached -/
def rNever {α : Type} : RG α := fun _ _ _ => False
theorem de_never : DE B X W e rNever := ⟨fun _ _ _ _ _ _ ⟨_, _, _, _, _, _, _, r, _⟩ => r.elim⟩
def rNeverS : RS := fun _ _ => False
theorem ds_never : DS B X W st rNeverS := ⟨fun _ _ _ _ _ _ ⟨_, _, _, _, _, _, r, _⟩ => r.elim⟩
def rSelfC (i : Nat) (c f : Str) (re : RE) : RS := fun N ρ => (match ρ[i]? with | some (.obj c' _ _) => c' = c | _ => False) ∧ rSelf i f re N ρ
theorem ds_selfC {i : Nat} {c f x : Str} {p p' : Pos} (Y : FldOk X.K X.mg c f) (hv : PE X (.Name x p) (tVar i)) (he : DE B X W e re) (hs : swapsWith e (some (.Attribute (.Name x p) f p')) pos.line X.env = pure false := by rfl) :
    DS B X W (.Assign [.Attribute (.Name x p) f p'] e pos) (rSelfC i c f re) := ds_self Y hv he hs
end
theorem lE_chain {B : Bs} {W : WX} {K : KC} {g g' : G2} {ra rb rc : RE} {σ : St} {H : Hp} {Q : VK} (h : lE K B W (rChain g g' ra rb rc) σ H Q) : tChain (l2 K g) (l2 K g') (lE K B W ra) (lE K B W rb) (lE K B W rc) σ H Q := by
  refine lf_then (k := fun d ρ Q E => rb ρ (fun e => g d e (toB fun k => match k with
    | true => rc ρ (fun f => g' e f Q) E
    | false => Q (.bl false))) E) h fun v d F R ρ Q' E' w rv q k => ?_
  refine ⟨F, R, ρ, _, E', rfl, w, q, fun u e F1 x1 dj1 ru q1 => ?_, k.ex⟩
  refine ⟨F1, R, d, e, _, rfl, dj1, Rep.ext x1 _ _ rv, ru, q1, ⟨fun z dz F2 x2 dj2 rz q2 => ?_⟩⟩
  cases dz with
  | bl kk =>
    refine ⟨kk, rep_bl rz, ?_⟩
    cases kk with
    | true =>
      rw [if_pos rfl]
      exact ⟨F2, R, ρ, _, E', rfl, w.ext (x1.trans x2) dj2, q2, fun y f F3 x3 dj3 ry q3 => ⟨F3, R, e, f, Q', rfl, dj3, Rep.ext (x2.trans x3) _ _ ru, ry, q3, (((k.ext x1).ext x2).ext x3).kv⟩, ((k.ext x1).ext x2).ex⟩
    | false =>
      rw [if_neg (by simp)]
      exact k.ok _ _ F2 (x1.trans x2) dj2 (of_bl _) q2
  | _ => exact (show False from q2).elim
theorem dt_chain {B : Bs} {X : Cx} {W : WX} {a b c : Expr} {pos : Pos} {op op' : CmpOp} {g g' : G2} {ra rb rc : RE} (ho : Op2 X (compareOp op) g) (ho' : Op2 X (compareOp op') g') (ha : DE B X W a ra) (hb : DE B X W b rb) (hc : DE B X W c rc) (hl : lastMarks [op, op'] [b, c] = false := by rfl) : DT B X W (.Compare a [op, op'] [b, c] pos) (rTV (rChain g g' ra rb rc)) :=
  (pt_chain (ho B.T) (ho' B.T) ha hb hc hl).imp fun σ H Q ⟨F, R, ρ, Q', E', hH, w, r, k⟩ => by
    subst hH
    show tChain (l2 (kc B.T X) g) (l2 (kc B.T X) g') (lE (kc B.T X) B W ra) (lE (kc B.T X) B W rb) (lE (kc B.T X) B W rc) σ _ _
    refine lE_chain ⟨F, R, ρ, _, E', rfl, w, r, fun v d F' x dj rv q => ?_, k.ex⟩
    cases d with
    | bl b => exact ⟨b, by simpa [Rep] using rv, k.ok b b F' x dj rfl q⟩
    | _ => exact (show False from q).elim
section
variable {B : Bs} {X : Cx} {W : WX} {a : Expr} {ra : RE} {pos : Pos}
theorem dt_isN {j : Nat} {p : Pos} (h : DE B X W a ra) : DT B X W (.Compare a [.Is] [.Constant .none j p] pos) (rTV (rIsN ra)) := (pt_cmp (pc_isN h) (nobehind _ (by decide) (by decide))).imp fun σ H Q ⟨F, R, ρ, Q', E', hH, w, q, k⟩ => by
  subst hH
  exact ⟨F, R, ρ, _, E', rfl, w, q, fun v d F' x dj rv q' => ⟨_, rfl, k.ok _ _ F' x dj (isNon_rep rv) q'⟩, k.ex⟩
theorem dt_isnotN {j : Nat} {p : Pos} (h : DE B X W a ra) : DT B X W (.Compare a [.IsNot] [.Constant .none j p] pos) (rTV (rIsNotN ra)) := (pt_cmp (pc_notN h) (nobehind _ (by decide) (by decide))).imp fun σ H Q ⟨F, R, ρ, Q', E', hH, w, q, k⟩ => by
  subst hH
  exact ⟨F, R, ρ, _, E', rfl, w, q, fun v d F' x dj rv q' => ⟨_, rfl, k.ok _ _ F' x dj (by rw [isNon_rep rv]) q'⟩, k.ex⟩
theorem dt_isB {bv : Bool} {j : Nat} {p : Pos} (h : DE B X W a ra) : DT B X W (.Compare a [.Is] [.Constant (.bool bv) j p] pos) (rTV (rIsB bv ra)) := (pt_cmpR op_isAny h pe_bl (nobehind _ (by decide) (by decide))).imp fun σ H Q ⟨F, R, ρ, Q', E', hH, w, q, k⟩ => by
  subst hH
  exact ⟨F, R, ρ, _, E', rfl, w, q, fun v d F' x dj rv q' => ⟨bv, rfl, _, rfl, k.ok _ _ F' x dj (isBl_rep rv) q'⟩, k.ex⟩
end
theorem RoomP.units {g : Bool} {k : Nat} {A : Around} (r : RoomP g k A) : A.units + 64 < cLine := by have := r.rh.un; omega
end L3
namespace L3
open PySem PySem.Spec L2
open PyProof.Rows hiding St
/-! ### loops over data -/
theorem for_inv {i : Nat} {body : RS} {N : En3} (I : List D → Env3 → Prop)
    (hstep : ∀ d ds ρ (K : Env3 → Prop), I (d :: ds) ρ → (∀ ρ', I ds ρ' → K ρ') → body { N with nx := K, ct := K, bk := N.nx } (ρ.set i (.val d)))
    (hend : ∀ ρ, I [] ρ → N.nx ρ) : ∀ (ds : List D) (ρ : Env3), I ds ρ → forL (g3N i) body N ds ρ
  | [], ρ, h => hend ρ h
  | d :: ds, ρ, h => hstep d ds ρ _ h fun ρ' h' => for_inv I hstep hend ds ρ' h'
theorem comp_fm {i : Nat} {t : RT} {re : RE} {vs : List Nat} {ρ : Env3} {Q : List D → Prop} {p : D → Bool} {f : D → D} : ∀ (ds acc : List D),
    (∀ d ∈ ds, (∀ (K : Bool → Prop), K (p d) → t ((wipe3 ρ vs).set i (.val d)) K fun _ => False) ∧ (p d = true → ∀ (K : D → Prop), K (f d) → re ((wipe3 ρ vs).set i (.val d)) K fun _ => False)) →
    Q (acc ++ (ds.filter p).map f) → compL (g3N i) t re vs ρ Q ds acc
  | [], acc, _, q => by simpa [compL] using q
  | d :: ds, acc, h, q => by
    obtain ⟨h1, h2⟩ := h d (by simp)
    refine h1 _ ?_
    cases e : p d with
    | true =>
      refine h2 e _ ?_
      refine comp_fm ds _ (fun x hx => h x (by simp [hx])) ?_
      rw [List.filter_cons_of_pos e] at q
      simpa using q
    | false =>
      refine comp_fm ds _ (fun x hx => h x (by simp [hx])) ?_
      rw [List.filter_cons_of_neg (by simp [e])] at q
      exact q
theorem comp_map {i : Nat} {re : RE} {vs : List Nat} {ρ : Env3} {Q : List D → Prop} {f : D → D} (ds : List D) (h : ∀ d ∈ ds, ∀ (K : D → Prop), K (f d) → re ((wipe3 ρ vs).set i (.val d)) K fun _ => False)
    (q : Q (ds.map f)) : compL (g3N i) (rC true) re vs ρ Q ds [] :=
  comp_fm (p := fun _ => true) ds [] (fun d hd => ⟨fun K k => k, fun _ => h d hd⟩) (by rw [List.filter_eq_self.mpr (by simp)]; exact q)
theorem compZ_fm {i : Nat} {t : RT} {re : RE} {vs : List Nat} {ρ : Env3} {Q : List D → Prop} {p : D → Bool} {f : D → D} : ∀ (ds acc : List D), acc.length + ds.length ≤ sizeLine →
    (∀ d ∈ ds, (∀ (K : Bool → Prop), K (p d) → t ((wipe3 ρ vs).set i (.val d)) K fun _ => False) ∧ (p d = true → ∀ (K : D → Prop), K (f d) → re ((wipe3 ρ vs).set i (.val d)) K fun _ => False)) →
    Q (acc ++ (ds.filter p).map f) → compZ (g3N i) t re vs ρ Q ds acc
  | [], acc, _, _, q => by simpa [compZ] using q
  | d :: ds, acc, hl, h, q => by
    obtain ⟨h1, h2⟩ := h d (by simp)
    simp only [List.length_cons] at hl
    refine h1 _ ?_
    cases e : p d with
    | true =>
      refine h2 e _ ⟨by omega, ?_⟩
      refine compZ_fm ds _ (by simp; omega) (fun x hx => h x (by simp [hx])) ?_
      rw [List.filter_cons_of_pos e] at q
      simpa using q
    | false =>
      refine compZ_fm ds _ (by omega) (fun x hx => h x (by simp [hx])) ?_
      rw [List.filter_cons_of_neg (by simp [e])] at q
      exact q
/-- for d in ds for y in es(d) if p1 -/
theorem comp2_fm {i j : Nat} {ri1 : RA} {t1 : RT} {re : RE} {vs vs1 : List Nat} {ρ : Env3} {Q : List D → Prop} {es : D → List D} {p : D → D → Bool} {f : D → D → D} : ∀ (ds acc : List D), acc.length + (ds.map fun d => (es d).length).sum ≤ sizeLine →
    (∀ d ∈ ds, (∀ (K : List D → Prop), K (es d) → ri1 ((wipe3 ρ vs).set i (.val d)) K fun _ => False) ∧
      ∀ y ∈ es d, (∀ (K : Bool → Prop), K (p d y) → t1 ((wipe3 ((wipe3 ρ vs).set i (.val d)) vs1).set j (.val y)) K fun _ => False) ∧ (p d y = true → ∀ (K : D → Prop), K (f d y) → re ((wipe3 ((wipe3 ρ vs).set i (.val d)) vs1).set j (.val y)) K fun _ => False)) →
    Q (acc ++ ds.flatMap fun d => ((es d).filter (p d)).map (f d)) → comp2L (g3N i) (rC true) ri1 (g3N j) t1 re vs vs1 ρ Q ds acc
  | [], acc, _, _, q => by simpa [comp2L] using q
  | d :: ds, acc, hl, h, q => by
    obtain ⟨h1, h2⟩ := h d (by simp)
    simp only [List.map_cons, List.sum_cons] at hl
    show ri1 ((wipe3 ρ vs).set i (.val d)) _ _
    refine h1 _ ?_
    refine compZ_fm (p := p d) (f := f d) _ _ (by omega) h2 ?_
    refine comp2_fm ds _ ?_ (fun x hx => h x (by simp [hx])) ?_
    · have := List.length_filter_le (p d) (es d)
      simp only [List.length_append, List.length_map]
      omega
    · rw [List.flatMap_cons] at q
      simpa using q
/-- .. where each item is one of many -/
theorem comp_dem {i : Nat} {re : RE} {vs : List Nat} {ρ : Env3} {Q : List D → Prop} {P : D → Prop} : ∀ (ds acc : List D), (∀ d ∈ ds, ∀ (K : D → Prop), (∀ y, P y → K y) → re ((wipe3 ρ vs).set i (.val d)) K fun _ => False) →
    (∀ ys : List D, ys.length = ds.length → (∀ y ∈ ys, P y) → Q (acc ++ ys)) → compL (g3N i) (rC true) re vs ρ Q ds acc
  | [], acc, _, q => by simpa [compL] using q [] rfl (by simp)
  | d :: ds, acc, h, q => by
    refine h d (by simp) _ fun y py => ?_
    refine comp_dem ds _ (fun x hx => h x (by simp [hx])) fun ys hl hy => ?_
    have := q (y :: ys) (by simp [hl]) (by
      intro z hz
      rcases (List.mem_cons.mp hz) with rfl | hz
      · exact py
      · exact hy z hz)
    simpa using this
theorem rangeD_len {lo : Int} {n : Nat} : (rangeD lo n).length = n := by simp [rangeD]
/-! ### plain data -/
mutual
def plD : D → Bool
  | .tup xs => decide (xs.length ≤ 65536) && plDs xs
  | .lst xs => decide (xs.length ≤ 65536) && plDs xs
  | .scr _ => false
  | .pen => false
  | .ins _ _ => false
  | .exc _ _ => false
  | _ => true
def plDs : List D → Bool
  | [] => true
  | d :: ds => plD d && plDs ds
end
theorem plDs_mem : ∀ {ds : List D}, plDs ds = true → ∀ d ∈ ds, plD d = true
  | [], _, d, h => by cases h
  | x :: ds, h, d, hd => by
    unfold plDs at h
    obtain ⟨h1, h2⟩ := Bool.and_eq_true_iff.mp h
    rcases (List.mem_cons.mp hd) with rfl | hd
    · exact h1
    · exact plDs_mem h2 d hd
theorem plDs_of : ∀ {ds : List D}, (∀ d ∈ ds, plD d = true) → plDs ds = true
  | [], _ => rfl
  | x :: ds, h => by
    unfold plDs
    rw [h x (by simp), plDs_of fun d hd => h d (by simp [hd])]
    rfl
theorem plD_tup {xs : List D} (h : plD (.tup xs) = true) : xs.length ≤ 65536 ∧ ∀ d ∈ xs, plD d = true := by
  unfold plD at h
  obtain ⟨h1, h2⟩ := Bool.and_eq_true_iff.mp h
  exact ⟨of_decide_eq_true h1, plDs_mem h2⟩
theorem plD_lst {xs : List D} (h : plD (.lst xs) = true) : xs.length ≤ 65536 ∧ ∀ d ∈ xs, plD d = true := by
  unfold plD at h
  obtain ⟨h1, h2⟩ := Bool.and_eq_true_iff.mp h
  exact ⟨of_decide_eq_true h1, plDs_mem h2⟩
theorem plD_mkt {xs : List D} (h1 : xs.length ≤ 65536) (h2 : ∀ d ∈ xs, plD d = true) : plD (.tup xs) = true := by
  unfold plD
  rw [decide_eq_true h1, plDs_of h2]
  rfl
theorem plD_mkl {xs : List D} (h1 : xs.length ≤ 65536) (h2 : ∀ d ∈ xs, plD d = true) : plD (.lst xs) = true := by
  unfold plD
  rw [decide_eq_true h1, plDs_of h2]
  rfl
theorem plD_noIns {d : D} (h : plD d = true) : noIns d = true := by
  cases d <;> first | rfl | (simp [plD] at h)
/-- a test's two ways -/
theorem mb {b : Bool} {P1 P0 : Prop} (h1 : b = true → P1) (h0 : b = false → P0) : Bool.rec (motive := fun _ => Prop) P0 P1 b := by
  cases b
  · exact h0 rfl
  · exact h1 rfl
theorem mbT {b : Bool} {P1 P0 : Prop} (e : b = true) (h1 : P1) : Bool.rec (motive := fun _ => Prop) P0 P1 b := by rw [e]; exact h1
theorem mbF {b : Bool} {P1 P0 : Prop} (e : b = false) (h0 : P0) : Bool.rec (motive := fun _ => Prop) P0 P1 b := by rw [e]; exact h0
theorem nbF {b : Bool} (h : (!b) = false) : b = true := by
  cases b
  · cases h
  · rfl
theorem nbT {b : Bool} (h : (!b) = true) : b = false := by
  cases b
  · rfl
  · cases h
theorem nbD {p : Prop} [Decidable p] (h : (!decide p) = false) : p := of_decide_eq_true (nbF h)
theorem nbN {p : Prop} [Decidable p] (h : (!decide p) = true) : ¬ p := of_decide_eq_false (nbT h)
theorem le_size {n : Nat} (h : n ≤ 65536) : n ≤ sizeLine := Nat.le_trans h (by decide)
end L3
namespace L3
open PySem PySem.Spec L2
open PyProof.Rows hiding St
/-! ### defs that know that nothing guards -/
structure RoomG (k : Nat) (A : Around) : Prop where
  rm : Room k A
  gd : A.guards = some []
theorem RoomG.mono {j k : Nat} {A : Around} (r : RoomG k A) (h : j ≤ k) : RoomG j A := ⟨r.rm.mono h, r.gd⟩
theorem RoomG.deeper {k : Nat} {A : Around} (r : RoomG (k + 1) A) (env : Env) : RoomG k (A.deeper env) := ⟨r.rm.deeper env, r.gd⟩
theorem RoomG.units {k : Nat} {A : Around} (r : RoomG k A) : A.units + 64 < cLine := r.rm.units
structure FnG (P : Program) (w : World) (K : PySem.W.Frag) (mg : Str → Option Value) (base : Heap) (k : Nat) (f : Addr) (fd : FuncData) (ps : List Str) (sp : Sp) : Prop where
  len :  ∀ vs H Q E, sp vs H Q E → vs.length = ps.length
  run : ∀ {A : Around} {outer : List Env} {s : Shared} {H : Hp} {args : Args} {us : List Value} {vs : List V} {Q : VK} {E : XK}, RoomG k A → Env0 P w K mg base A outer s H → BindsTo s fd args (ps.zip us) → Vals vs us → sp vs H Q E →
    codeAny (model P w) A (.call (.ref f) args) (CR (L2.CX P w) outer P w H s Q E) s
section
variable {P : Program} {w : World} {K : PySem.W.Frag} {mg : Str → Option Value} {base : Heap} {T : List (Addr × Str)}
theorem FnG.of {k : Nat} {f : Addr} {fd : FuncData} {ps : List Str} {sp : Sp} (G : FnOk P w K mg base (L2.CX P w) k f fd ps sp) : FnG P w K mg base k f fd ps sp := ⟨G.len, fun r e b v h => G.run _ _ _ _ _ _ _ _ _ r.rm e b v h⟩
theorem fnG {x qual : Str} {st : Stmt} {f : Addr} {fd : FuncData} {N ps : List Str} {k n : Nat} {sp : Sp3} {r : RS} (Fu : Fun K x qual st f fd) (S : FnScope N ps (defScope st)) (hn : ps.length = n)
    (hbody : ∀ (A : Around) (outer : List Env) (s : Shared) (H : Hp) (E : XK) (B : Bs), B.T = T → RoomG k (A.deeper (envOfC qual (defScope st) s.heap.objs.size f fd.code)) → Takes (cxOf (L2.CX P w) P w K mg base N qual (defScope st) f fd.code A outer s H E) (WD E) →
      DSs B (cxOf (L2.CX P w) P w K mg base N qual (defScope st) f fd.code A outer s H E) (WD E) (defBody st) r)
    (hp : ∀ (ds : List D) (Q : D → Prop) (E : XD → Prop), ds.length = n → sp ds Q E → r { nx := fun _ => Q .non, rt := Q, ex := E } (start3 N.length ds)) :
    FnG P w K mg base (k + 1) f fd ps (lSp ⟨K, cmOf mg, [], T⟩ n sp) := by
  obtain ⟨oc, od, kV, doc, pm, an, cdv, ct, osl, rfl, lk, hcd⟩ := Fu.ex
  have len : ∀ vs H Q E, lSp ⟨K, cmOf mg, [], T⟩ n sp vs H Q E → vs.length = ps.length := fun vs H Q E h => by
    obtain ⟨_, _, _, _, _, _, _, _, _, hl, _⟩ := h
    rw [hl, hn]
  refine ⟨len, fun {A outer s H args us vs Q E} rg e0 bd rv h => LamX.run_ofS lk hcd S rg.rm e0 bd rv (len _ _ _ _ h) fun _ => ?_⟩
  obtain ⟨F0, R0, ds, Q', E', rfl, dj, tb, rd, hl, hs, kv, kx⟩ := h
  have tk : Takes (cxOf (L2.CX P w) P w K mg base N qual (defScope st) f cdv A outer s (jn F0 R0) E) (WD E) := takes_of rfl rfl rfl rfl
  refine ⟨_, hbody A outer s (jn F0 R0) E ⟨F0, R0, T⟩ rfl (rg.deeper _) tk, ?_⟩
  refine ⟨F0, R0, start3 N.length ds, _, rfl, wd_start dj tb rd rfl rfl, hp ds Q' E' (by rw [← rd.length]; exact hl) hs, ?_⟩
  refine ⟨fun σ F R ρ w q => ?_, fun v d σ F R ρ w rv q => ?_, fun x cls od σ F R ρ w rx q => ?_, fun σ F R ρ w q => q.elim, fun σ F R ρ w q => q.elim⟩
  · obtain ⟨F', e, x1, d1⟩ := absorb w
    rw [e]
    exact kv.ok _ _ F' (w.ex.trans x1) d1 of_non q
  · obtain ⟨F', e, x1, d1⟩ := absorb w
    rw [e]
    exact kv.ok _ _ F' (w.ex.trans x1) d1 (Rep.ext x1 _ _ rv) q
  · obtain ⟨F', e, x1, d1⟩ := absorb w
    show E cls od (jn F R)
    rw [e]
    exact kx x cls od F' (w.ex.trans x1) d1 (rx.ext x1) q
end
section
variable {B : Bs} {X : Cx} {W : WX} {e : Expr} {es : List Expr} {rs : RA} {pos : Pos}
theorem de_callG {x : Str} {p : Pos} {k n : Nat} {f : Addr} {fd : FuncData} {ps : List Str} {sp : Sp3} (G : FnG X.prog X.w X.K X.mg X.base k f fd ps (lSp (kc B.T X) n sp)) (hr : RoomG k X.A) (hg : Gl X x) (hm : X.mg x = some (.ref f)) (hk : PySem.W.keepIn X.K (.ref f) = true) (hb : Binds X.K fd ps []) (tk : Takes X W)
    (ha : DA B X W (e :: es) rs) (hd : (x == ("__debug__" : Str)) = false := by decide)
    (he : starEach (e :: es) X.env = (false, eval e X.env) :: starEach es X.env := by rfl) (hpl : (backTo pos (starEach es X.env)).any (·.1) = false := by rfl) : DE B X W (.Call (.Name x p) (e :: es) [] pos) (rCall n sp rs) := by
  refine ⟨fun pins s σ H Q I h =>  ?_⟩
  have h2 : lA (kc B.T X) B W rs σ H (fun vs H1 => lSp (kc B.T X) n sp vs H1 Q (WE W σ)) := by
    refine lf_then (k := fun ds _ Q E => ds.length = n ∧ sp ds Q E) h fun vs ds F R ρ Q' E' w rv q k => ?_
    exact ⟨F, R, ds, Q', E', rfl, w.dj, w.tb, rv, by rw [rv.length]; exact q.1, q.2, k.kv, k.ex⟩
  refine wpAny_Call_Name_kw (ld_glob I (hg) (hm) ?_ hd)
  refine PySem.W.callWith_K (h₀ := X.base) I.ok.mod.kin hk (thn (ha.run pos pins s σ H _ I h2) fun us s1 ⟨vs, H1, I1, rv, q1⟩ => ⟨I1.kIn, ?_⟩) he hpl
  have bd := hb s1 us I1.kIn (by rw [List.append_nil, ← rv.length]; exact G.len _ _ _ _ q1)
  rw [List.append_nil] at bd
  refine wpAny_call (codeAny_mono (G.run (args := ⟨us, []⟩) hr I1.env0 bd rv q1) fun r s2 hq => ?_)
  cases r with
  | error er => exact passAt tk σ pins H1 s1 er s2 I1 hq
  | ok fl =>
    cases fl with
    | ret u => exact I1.after hq
    | next => exact hq.elim
    | brk => exact hq.elim
    | cont => exact hq.elim
end
end L3
namespace L3
open PySem PySem.Spec L2
open PyProof.Rows hiding St
/-- the end of a law whose defs know that nothing guards: the call at callerA -/
theorem law_callG {P : Program} {w : World} {K : PySem.W.Frag} {mg mb : Str → Option Value} {k : Nat} {fa a : Addr} {cs : List (Addr × Addr)} {fd : FuncData} {x : Str} {sp : Sp} {s₁ : Shared} {vs : List Value} {ns : List Int}
    (KX :  K.In s₁.heap) (hns : s₁.heap.Ns mainGlobals mg) (hb : s₁.heap.Ns builtinsNs mb) (hbb : ∀ x : Str, x ≠ "__name__" → mb x = bootBuiltins x) (hlim : s₁.heap.NoLimit) (hg : s₁.gens = #[])
    (hT :  ∀ p ∈ cs, s₁.heap.get? p.2 = some { cls := .none, data := .fields #[] }) (nT : ∀ p ∈ cs, K.lookup p.2 = none) (C : ∀ p ∈ cs, PySem.W.CodeHd s₁.heap p.1 p.2)
    (hbm :  ∃ (bm : Addr) (ob : Obj), mg "__builtins__" = some (.ref bm) ∧ bm ≠ builtinsNs ∧ s₁.heap.get? bm = some ob ∧ ob.cls = .type "module" ∧ ob.dict = some builtinsNs ∧ ob.data = .plain)
    (ha : s₁.heap.get? a = some { cls := .type "list", data := .seq vs.toArray }) (hi : IntsAre vs ns) (hl : ns.length ≤ sizeLine) (hr : RoomG k callerA)
    (F : ∀ base : Heap, K.In base → base.Ns mainGlobals mg → (∀ p ∈ cs, LamX.TabB base mg p.1 p.2) → FnG P w K mg base k fa fd [x] sp) (hbind : ∀ (s : Shared) (u : Value), BindsTo s fd ⟨[u], []⟩ [(x, u)])
    (hsp : ∀ H : Hp, (∀ p ∈ cs, H p.2 = some (.tbl #[])) → SqL K H a (ns.map V.int) → sp [.ref a] H (fun v _ => v = .bl true) fun _ _ _ => False) :
    codeAny (model P w) callerA (.call (.ref fa) ⟨[.ref a], []⟩) (fun r s' => r = .ok (.ret (.bool true)) ∧ OldK s₁.heap s'.heap ∧ s'.os = s₁.os ∧ AllBare s'.gens) s₁ :=  by
  have rvs := vals_ints hi
  let lo : Obj := { cls := .type "list", data := .seq vs.toArray }
  let tb : List Addr := cs.map (·.2)
  let H : Hp := fun b => if b ∈ tb then some (.tbl #[]) else if b = a ∧ K.lookup a = none then some (.frz lo (.lst (ns.map V.int))) else none
  have tAt : ∀ b ∈ tb, s₁.heap.get? b = some { cls := .none, data := .fields #[] } := fun b hm => by
    obtain ⟨p, hp, rfl⟩ := List.mem_map.mp hm
    exact hT p hp
  have tIn : ∀ p ∈ cs, p.2 ∈ tb := fun p hp => List.mem_map.mpr ⟨p, hp, rfl⟩
  have H1 : ∀ b ∈ tb, H b = some (.tbl #[]) := fun b hm => if_pos hm
  have H2 : ∀ b u, H b = some u → (b ∈ tb ∧ u = .tbl #[]) ∨ (b ∉ tb ∧ b = a ∧ K.lookup a = none ∧ u = .frz lo (.lst (ns.map V.int))) := fun b u h => by
    by_cases m : b ∈ tb
    · rw [H1 b m] at h
      exact .inl ⟨m, (Option.some.inj h).symm⟩
    · have h' := (if_neg m).symm.trans h
      by_cases c : b = a ∧ K.lookup a = none
      · rw [if_pos c] at h'
        exact .inr ⟨m, c.1, c.2, (Option.some.inj h').symm⟩
      · rw [if_neg c] at h'
        cases h'
  have free : ∀ b o, s₁.heap.get? b = some o → o.data ≠ .fields #[] → o ≠ lo → H b = none := fun b o e n1 n2 => by
    cases q : H b with
    | none => rfl
    | some u =>
      rcases H2 b u q with ⟨m, _⟩ | ⟨_, rfl, _⟩
      · rw [tAt b m] at e
        cases e
        exact absurd rfl n1
      · rw [ha] at e
        cases e
        exact absurd rfl n2
  have low : ∀ b o, s₁.heap.get? b = some o → o.data ≠ .fields #[] → o ≠ lo → (hidT s₁.heap H).get? b = some o := fun b o e n1 n2 => hidT_get e (free b o e n1 n2)
  have nsL : ∀ {b : Addr} {m : Str → Option Value}, s₁.heap.Ns b m → (hidT s₁.heap H).Ns b m := fun {b m} ⟨o, es, ep, e, d, r⟩ => ⟨o, es, ep, low b o e (fun z => by rw [d] at z; cases z) (fun z => by rw [z] at d; cases d), d, r⟩
  have kin : K.In (hidT s₁.heap H) := fun b o e => hidT_get (KX b o e) (by
    cases q : H b with
    | none => rfl
    | some u =>
      rcases H2 b u q with ⟨m, _⟩ | ⟨_, rfl, z, _⟩
      · obtain ⟨p, hp, rfl⟩ := List.mem_map.mp m
        rw [nT p hp] at e
        cases e
      · rw [z] at e
        cases e)
  have TB : ∀ p ∈ cs, LamX.TabB (hidT s₁.heap H) mg p.1 p.2 := fun p hp => by
    refine ⟨?_, ?_, fun z => ?_⟩
    · obtain ⟨o, us, fl, tf, fg, tg, inF, tx, tt, e1, r1, r2, r3, rest⟩ := C p hp
      refine ⟨o, us, fl, tf, fg, tg, inF, tx, tt, low _ o e1 (fun z => ?_) (fun z => by rw [z] at r2; cases r2), r1, r2, r3, rest⟩
      rw [r2] at z
      cases z
      simp at r3
    · obtain ⟨bm, ob, b1, b2, b3, b4, b5, b6⟩ :=  hbm
      refine ⟨bm, ob, b1, b2, fun q => ?_, fun q => ?_, low bm ob b3 (fun z => by rw [b6] at z; cases z) (fun z => by rw [z] at b6; cases b6), b4, b5, b6⟩
      · obtain ⟨o, es, ep, e, d, _⟩ := hns
        rw [q, e] at b3
        cases b3
        rw [d] at b6
        cases b6
      · rw [q, hT p hp] at b3
        cases b3
        cases b6
    · obtain ⟨o, es, ep, e, d, _⟩ := hns
      rw [z, hT p hp] at e
      cases e
      cases d
  have hok : HOk P w H s₁.heap := fun b u q => by
    rcases H2 b u q with ⟨m, rfl⟩ | ⟨_, rfl, _, rfl⟩
    · exact tAt b m
    · exact ⟨ha, by rw [List.length_map]; exact hl, vs, _, rvs, ha⟩
  have sq : SqL K H a (ns.map V.int) := by
    cases z : K.lookup a with
    | none =>
      refine .inl (.inr ⟨lo, ?_⟩)
      have n : a ∉ tb := fun m => by
        have t := tAt a m
        rw [ha] at t
        cases t
      exact (if_neg n).trans (if_pos ⟨rfl, z⟩)
    | some o =>
      have e := KX a o z
      rw [ha] at e
      cases e
      exact .inr ⟨_, vs.toArray, _, z, rfl, rfl, rfl, by rw [List.size_toArray, hi.length]; exact hl, by simpa using rvs⟩
  have e0 : Env0 P w K mg (hidT s₁.heap H) callerA [] s₁ H := ⟨rfl, ⟨kin, nsL hns, ⟨mb, nsL hb, hbb⟩, let ⟨mc, y1, y2⟩ := hlim; ⟨mc, nsL y1, y2⟩⟩, fun b o e => of_hidT e, Nat.le_of_eq (hidT_size _ _), trivial, fun b z => absurd (show b ∈ ([] : List Addr) from z) (by simp), hok, .of_eq hg⟩
  refine codeAny_mono ((F _ kin (nsL hns) TB).run (us := [.ref a]) (vs := [.ref a]) hr e0 (hbind s₁ (.ref a)) (.cons rfl .nil) (hsp H (fun p hp => H1 _ (tIn p hp)) sq)) fun r s2 h => ?_
  cases r with
  | error er =>
    obtain ⟨_, _, _, _, _, _, _, _, _, _, _, _, z⟩ :=  h
    exact z.elim
  | ok fl =>
    cases fl with
    | next => exact h.elim
    | brk => exact h.elim
    | cont => exact h.elim
    | ret u =>
      obtain ⟨v, H', os, bare, un, hok', r', q⟩ :=  h
      have q' : v = .bl true := q
      subst q'
      obtain rfl : u = Value.bool true :=  r'
      have stay : ∀ b o, b ∉ tb → s₁.heap.get? b = some o → s2.heap.get? b = some o := fun b o nb e => by
        cases q : H b with
        | none => exact un.keep b o e q (by intro z; exact absurd (show b ∈ ([] : List Addr) from z) (by simp)) (by  simp)
        | some u =>
          rcases H2 b u q with ⟨m, _⟩ | ⟨_, rfl, _, rfl⟩
          · exact absurd m nb
          · obtain ⟨g1, _⟩ := hok b _ q
            obtain ⟨g2, _⟩ := hok' b _ (un.frzs b lo _ q)
            rw [e] at g1
            cases g1
            exact g2
      have grow : ∀ b ∈ tb, ∃ more : Array Value, s2.heap.get? b = some { cls := .none, data := .fields more } := fun b m => by
        obtain ⟨more, z⟩ := un.tbls b #[] (H1 b m)
        exact ⟨_, hok' b _ z⟩
      refine ⟨rfl, ⟨fun b o e => ?_, fun b o e => ?_⟩, os,  bare⟩
      · by_cases m : b ∈ tb
        · obtain ⟨more, z⟩ := grow b m
          rw [tAt b m] at e
          cases e
          obtain ⟨p, hp, rfl⟩ := List.mem_map.mp m
          exact .inr (.inl ⟨((C p hp).tab (hT p hp)).isCodeTable, rfl, #[], more, rfl, by rw [Array.empty_append]; exact z⟩)
        · exact .inl (stay b o m e)
      · by_cases m : b ∈ tb
        · obtain ⟨more, z⟩ := grow b m
          exact ⟨_, z⟩
        · exact ⟨o, stay b o m e⟩
end L3
namespace L3
open PySem PySem.Spec L2
open PyProof.Rows hiding St
/-- what is known of the law's promise at the head's heap h; its defs know that nothing guards -/
def LawAtG (l : PySem.W.OpenLaw) (w : World) (K : PySem.W.Frag) (k n : Nat) (x : Str) (mg : Str → Option Value) (fa : Addr) (h : Heap) : Prop :=
  ∃ (fd : FuncData) (cs : List (Addr × Addr)) (sp : Sp), ((∀ p ∈ cs, h.get? p.2 = some { cls := .none, data := .fields #[] }) ∧ (∀ p ∈ cs, K.lookup p.2 = none) ∧ (∀ p ∈ cs, PySem.W.CodeHd h p.1 p.2)) ∧ (∀ (s : Shared) (u : Value), BindsTo s fd ⟨[u], []⟩ [(x, u)]) ∧
    (∀ (H : Hp) (a : Addr) (ns : List Int), ns.length ≤ n → (∀ z ∈ ns, Builtin.Int.intBits z ≤ 1048576) → (∀ p ∈ cs, H p.2 = some (.tbl #[])) → SqL K H a (ns.map V.int) → sp [.ref a] H (fun v _ => v = .bl true) fun _ _ _ => False)  ∧
    ∀ base : Heap, K.In base → base.Ns mainGlobals mg → (∀ p ∈ cs, LamX.TabB base mg p.1 p.2) → FnG l.prog w K mg base k fa fd [x] sp
theorem walkG {l : PySem.W.OpenLaw} {n k : Nat} {q : Program} {loose : List Str} {XP : (Str → Option Value) → Heap → Prop} {YP : World → Heap → Prop} {d : DefRec} {K : Params → PySem.W.Frag} {x : Str}
    (hn : l.most = some n) (hn2 : n ≤ sizeLine) (hdf : d.params.defaults = []) (hr : RoomG k callerA) (hY : ∀ (w : World) (h : Heap), YP w h → (K w.params).In h)
    (F : ∀ (w : World) (mg : Str → Option Value) (fa : Addr) (h : Heap), YP w h → (K w.params).In h → h.Ns mainGlobals mg → mg d.name = some (.ref fa) → LawAtG l w (K w.params) k n x mg fa h) :
    PySem.W.WalkO q loose XP YP l.row.toRowW d [] (fun f vs => PySem.call f vs) :=  by
  refine Att.attach_callB hn hdf fun w s₀ s₁ mg mb fa o pm cd doc a vs ns G Y ho hd hcd hmg hobj hints hlen hbits hg =>  ?_
  obtain ⟨fd, cs, sp, ⟨hT, nT, C⟩, hb, hsp, hF⟩ := F w mg fa _ Y (hY w _ Y) G.T.g hmg
  exact law_callG (hY w _ Y) G.T.g G.T.b G.T.builtins G.T.nolimit hg hT nT C G.T.bmain hobj hints (Nat.le_trans hlen hn2) hr hF hb fun H hH hS => hsp H a ns hlen hbits hH hS
end L3
namespace L3
open PySem PySem.Spec L2
open PyProof.Rows hiding St
/-! ### repr of data -/
mutual
/-- data whose text is known: ints of some size, no objects -/
def shD : D → Bool
  | .non => true
  | .bl _ => true
  | .int i => decide (i.natAbs.log2 <  1920)
  | .str _ => true
  | .tup ds => shDs ds
  | .lst ds => shDs ds
  | .dct kvs => kvs.isEmpty
  | _ => false
def shDs : List D → Bool
  | [] => true
  | d :: ds => shD d && shDs ds
end
mutual
/-- a list stands within -/
def lsD : D → Bool
  | .tup ds => lsDs ds
  | .lst _ => true
  | _ => false
def lsDs : List D → Bool
  | [] => false
  | d :: ds => lsD d || lsDs ds
end
mutual
theorem sh_py : ∀ d : D, shD d = true → (pyD d).showable = true
  | .non, _ => rfl
  | .bl _, _ => rfl
  | .int i, h => by unfold shD at h; simpa [pyD, PyData.showable] using h
  | .str _, _ => rfl
  | .tup ds, h => by unfold shD at h; simpa [pyD, PyData.showable] using sh_pys ds h
  | .lst ds, h => by unfold shD at h; simpa [pyD, PyData.showable] using sh_pys ds h
  | .dct _, _ => by simp [pyD, PyData.showable, PyData.showableKv]
  | .scr _, h => by cases h
  | .ins _ _, h => by cases h
  | .pen, h => by cases h
  | .exc _ _, h => by cases h
theorem sh_pys : ∀ ds : List D, shDs ds = true → PyData.showableAll (pyDs ds) = true
  | [], _ => rfl
  | d :: ds, h => by
    unfold shDs at h
    obtain ⟨h1, h2⟩ := Bool.and_eq_true_iff.mp h
    unfold pyDs PyData.showableAll
    rw [sh_py d h1, sh_pys ds h2]
    rfl
end
section
variable {P : Program} {w : World} {K : KC} {F R : Hp} {h : Heap} (ok : HOk P w (jn F R) h)
include ok
mutual
theorem reads_of : ∀ (d : D) (v : V) (u : Value), shD d = true → Rep K F v d → RelV v u → ∃ as, Reads h u (pyD d) as ∧ (lsD d = false → sysModules ∉ as)
  | .non, v, u, _, r, e => by rw [rep_non r] at e; rw [show u = Value.none from e]; exact ⟨[], .none, by simp⟩
  | .bl b, v, u, _, r, e => by rw [rep_bl r] at e; rw [show u = Value.bool b from e]; exact ⟨[], .bool b, by simp⟩
  | .int i, v, u, _, r, e => by
    rw [rep_int r] at e
    obtain ⟨t, rfl⟩ := (show ∃ t, u = Value.int i t from e)
    exact ⟨[], .int i t, by simp⟩
  | .str x, v, u, _, r, e => by
    rw [rep_str r] at e
    obtain ⟨t, rfl⟩ := (show ∃ t, u = Value.str x t from e)
    exact ⟨[], .str x t, by simp⟩
  | .tup ds, v, u, s, r, e => by
    obtain ⟨a, vs, rfl, ha, rs⟩ := rep_tup r
    obtain rfl : u = Value.ref a := e
    obtain ⟨_, its, rv, o, h1, h2, n, h3⟩ := (show ObjOk P w (jn F R) h a (.tup vs) from ok a _ (jn_l ha))
    unfold shD at s
    obtain ⟨as, r1, n1⟩ := reads_all ds vs its s rs rv
    refine ⟨as, ?_, n1⟩
    unfold pyD
    exact .tuple h1 h2 h3 r1
  | .lst ds, v, u, s, r, e => by
    obtain ⟨a, vs, rfl, ha, rs⟩ := rep_lst r
    obtain rfl : u = Value.ref a := e
    obtain ⟨_, its, n, rv, h1⟩ := (show ObjOk P w (jn F R) h a (.lst vs) from ok a _ (jn_l ha))
    unfold shD at s
    obtain ⟨as, r1, n1⟩ := reads_all ds vs its s rs rv
    refine ⟨a :: as, ?_, fun z => by cases z⟩
    unfold pyD
    exact .list h1 rfl rfl r1
  | .dct kvs, v, u, s, r, e => by
    unfold Rep at r
    obtain ⟨a, kv, rfl, ha, _, rk⟩ := r
    obtain rfl : u = Value.ref a := e
    unfold shD at s
    have e0 : kvs = [] := List.isEmpty_iff.mp s
    subst e0
    unfold RepK at rk
    subst rk
    obtain ⟨_, hsm, ks, kv, o, es, ep, h1, ⟨h2, _, _⟩, h3, _, h4, _⟩ := (show ObjOk P w (jn F R) h a (.dK []) from ok a _ (jn_l ha))
    cases kv
    have e1 : es.toList = [] := by
      cases h5 : es.toList with
      | nil => rfl
      | cons x y => rw [h5] at h4; cases h4
    refine ⟨a :: [] ++ [], ?_, fun _ z => ?_⟩
    · unfold pyD
      exact .dict h1 h2 h3 (by rw [e1]; exact .nil) (by rw [e1]; exact .nil)
    · have : a ≠ sysModules := fun q => by rw [q] at hsm; simp at hsm
      exact this (List.mem_singleton.mp (show sysModules ∈ [a] from z)).symm
  | .scr _, _, _, s, _, _ => by cases s
  | .ins _ _, _, _, s, _, _ => by cases s
  | .pen, _, _, s, _, _ => by cases s
  | .exc _ _, _, _, s, _, _ => by cases s
theorem reads_all : ∀ (ds : List D) (vs : List V) (us : List Value), shDs ds = true → Reps K F vs ds → Vals vs us → ∃ as, ReadsAll h us (pyDs ds) as ∧ (lsDs ds = false → sysModules ∉ as)
  | [], vs, us, _, r, e => by
    rw [reps_nil r] at e
    cases e
    exact ⟨[], .nil, by simp⟩
  | d :: ds, vs, us, s, r, e => by
    obtain ⟨v, vs', rfl, r1, r2⟩ := reps_cons r
    cases e with
    | cons e1 e2 =>
      unfold shDs at s
      obtain ⟨s1, s2⟩ := Bool.and_eq_true_iff.mp s
      obtain ⟨as, q1, n1⟩ := reads_of d v _ s1 r1 e1
      obtain ⟨bs, q2, n2⟩ := reads_all ds vs' _ s2 r2 e2
      refine ⟨as ++ bs, .cons q1 q2, fun y z => ?_⟩
      unfold lsDs at y
      obtain ⟨y1, y2⟩ := Bool.or_eq_false_iff.mp y
      exact (List.mem_append.mp z).elim (n1 y1) (n2 y2)
end
end
section
variable {B : Bs} {X : Cx} {W : WX} {e : Expr} {ra : RE} {pos : Pos}
/-- the text of data -/
def reprD (d : D) : Str := (pyD d).shown
def reprOk (d : D) : Bool := (shD d && (!(pyD d).hasDict || !lsD d)) && (decide ((pyD d).depth ≤ 60) && decide ((reprD d).length ≤ sizeLine))
def rRepr (re : RE) : RE := fun ρ Q E => re ρ (fun d => reprOk d = true ∧ Q (.str (reprD d))) E
def rRp (K : KC) : List V → Hp → VK → Prop := fun xs H Q => ∃ F R v d, xs = [v] ∧ H = jn F R ∧ Rep K F v d ∧ reprOk d = true ∧ Q (.str (reprD d)) H
theorem call_rp {T : List (Addr × Str)} (hg : X.A.guards = some []) (hu : X.A.units + 64 < cLine) : CallR X (.builtin "repr") (rRp (kc T X)) := by
  intro pins s σ H xs us Q I r ⟨F, R, v, d, e1, hH, rv, hok, q⟩
  subst e1 hH
  obtain ⟨u, rfl, ru⟩ := vals1  r
  unfold reprOk at hok
  obtain ⟨k1, k2⟩ := Bool.and_eq_true_iff.mp hok
  obtain ⟨k1, k0⟩ := Bool.and_eq_true_iff.mp k1
  obtain ⟨k2, k3⟩ := Bool.and_eq_true_iff.mp k2
  have k2 := of_decide_eq_true k2
  have k3 := of_decide_eq_true k3
  obtain ⟨as, rd, na⟩ := reads_of I.hok d v u k1 rv ru
  have sh := sh_py d k1
  have refs : ∀ a, u = .ref a → wpAny (model X.prog X.w) X.A (call (.builtin "repr") [u]) (EP X pins σ Q) X.xe s := fun a e => by
    subst e
    exact repr_of_reads' rd sh (fun hd => na (by rw [hd] at k0; simpa using k0)) hg (by omega) (fun _ _ z => z) (fun h' t tk hk => ⟨.str (reprD d), _, I.kept (t' := tk) hk, ⟨t, rfl⟩, q⟩) k3
  cases d with
  | non => rw [rep_non rv] at ru; obtain rfl : u = Value.none := ru; exact P.repr_of_none ⟨.str (reprD .non), _, I.tok _, ⟨_, rfl⟩, q⟩
  | bl b => rw [rep_bl rv] at ru; obtain rfl : u = Value.bool b := ru; exact P.repr_of_bool ⟨.str (reprD (.bl b)), _, I.tok _, ⟨_, rfl⟩, q⟩
  | int i => rw [rep_int rv] at ru; obtain ⟨t, rfl⟩ := (show ∃ t, u = Value.int i t from ru); exact P.repr_of_int (by unfold shD at k1; exact of_decide_eq_true k1) ⟨.str (reprD (.int i)), _, I.tok _, ⟨_, rfl⟩, q⟩
  | str x => rw [rep_str rv] at ru; obtain ⟨t, rfl⟩ := (show ∃ t, u = Value.str x t from ru); exact P.repr_of_str ⟨.str (reprD (.str x)), _, I.tok _, ⟨_, rfl⟩, q⟩ k3
  | tup ds => obtain ⟨a, vs, rfl, _⟩ := rep_tup rv; exact refs a ru
  | lst ds => obtain ⟨a, vs, rfl, _⟩ := rep_lst rv; exact refs a ru
  | dct kvs => unfold Rep at rv; obtain ⟨a, kv, rfl, _⟩ := rv; exact refs a ru
  | scr _ => cases k1
  | ins _ _ => cases k1
  | pen => cases k1
  | exc _ _ => cases k1
theorem de_repr {p : Pos} (hgd : X.A.guards = some []) (hu : X.A.units + 64 < cLine) (hg : Gl X "repr") (hm : X.mg "repr" = none) (ha : DE B X W e ra)
    (h1 : starEach [e] X.env = (false, eval e X.env) :: starEach [] X.env := by rfl) (hpl : (backTo pos (starEach [] X.env)).any (·.1) = false := by rfl) : DE B X W (.Call (.Name "repr" p) [e] [] pos) (rRepr ra) :=
  (pe_callB (call_rp (T := B.T) hgd hu) hg hm (by decide +kernel) (pa_cons ha pa_nil h1) (by decide) (by decide) h1 hpl).imp fun σ H Q ⟨F, R, ρ, Q', E', hH, w, r, k⟩ => by
    subst hH
    exact ⟨F, R, ρ, _, E', rfl, w, r, fun v d F' x dj rv q => ⟨F', R, v, d, rfl, rfl, rv, q.1, k.ok _ _ F' x dj (of_str _) q.2⟩, k.ex⟩
end
end L3
namespace L3
open PySem PySem.Spec L2
open PyProof.Rows hiding St
/-! ### texts of data: their signs, their size -/
def cpOk (x : Str) : Prop := ∀ c ∈ x.cps.toList, c < 0x110000
theorem strOk_iff {x : Str} : PyData.strOk x = true ↔ cpOk x := by
  unfold PyData.strOk cpOk
  rw [← Array.all_toList,  List.all_eq_true]
  exact ⟨fun h c hc => of_decide_eq_true (h c hc), fun h c hc => decide_eq_true (h c hc)⟩
theorem cpOk_append {x y : Str} (hx : cpOk x) (hy : cpOk y) : cpOk (x ++ y) := fun c hc => by
  have e : (x ++ y).cps = x.cps ++ y.cps := rfl
  rw [e, Array.toList_append] at hc
  exact (List.mem_append.mp hc).elim (hx c) (hy c)
theorem cpOk_lit {x : Str} (h : PyData.strOk x = true) : cpOk x := strOk_iff.mp h
theorem cpOk_textFrom : ∀ (ts : List Str) (k : Nat) (acc : Str), cpOk acc → (∀ t ∈ ts, cpOk t) → cpOk (textFrom k acc ts)
  | [], k, acc, h, _ => h
  | t :: ts, k, acc, h, ht => cpOk_textFrom ts (k + 1) _ (cpOk_append (cpOk_append h (by split <;> exact cpOk_lit (by decide +kernel))) (ht t (by simp))) fun x hx => ht x (by simp [hx])
theorem cpOk_join : ∀ (ts : List Str), (∀ t ∈ ts, cpOk t) → cpOk (Str.join ", " ts)
  | [], _ => cpOk_lit (by decide +kernel)
  | [x], h => h x (by simp)
  | x :: y :: r, h => by
    show cpOk (x ++ ", " ++ Str.join ", " (y :: r))
    exact cpOk_append (cpOk_append (h x (by simp)) (cpOk_lit (by decide +kernel))) (cpOk_join (y :: r) fun t ht => h t (by simp [ht]))
theorem cpOk_list {ts : List Str} (h : ∀ t ∈ ts, cpOk t) : cpOk (listText ts) := cpOk_append (cpOk_textFrom ts 0 _ (cpOk_lit (by decide +kernel)) h) (cpOk_lit (by decide +kernel))
theorem cpOk_tuple {ts : List Str} (h : ∀ t ∈ ts, cpOk t) : cpOk (tupleText ts) := cpOk_append (cpOk_append (cpOk_lit (by decide +kernel)) (cpOk_join ts h)) (by split <;> exact cpOk_lit (by decide +kernel))
theorem cpOk_int (i : Int) : cpOk (PyData.int i).shown := fun c hc => by
  by_cases h : c < 0x110000
  · exact h
  · exact absurd hc (shown_int_free' (k := c) (by omega) i)
mutual
/-- data with a text of known signs: ints of up to 1900 bits, texts, lists and tuples of them, {} -/
def txD : D → Bool
  | .non => true
  | .bl _ => true
  | .int i => decide (i.natAbs < 2 ^ 1900)
  | .str x => PyData.strOk x && PyData.strOk (reprText x)
  | .tup ds => txDs ds
  | .lst ds => txDs ds
  | .dct kvs => kvs.isEmpty
  | _ => false
def txDs : List D → Bool
  | [] => true
  | d :: ds => txD d && txDs ds
end
mutual
theorem tx_sh : ∀ d : D, txD d = true → shD d = true ∧ (pyD d).leavesShort 1921 = true ∧ cpOk (pyD d).shown
  | .non, _ => ⟨rfl, by simp [pyD, PyData.leavesShort], cpOk_lit (by decide +kernel)⟩
  | .bl b, _ => ⟨rfl, by simp [pyD, PyData.leavesShort], by cases b <;> exact cpOk_lit (by decide +kernel)⟩
  | .int i, h => by
    unfold txD at h
    have h := of_decide_eq_true h
    have hl : i.natAbs.log2 < 1920 := by
      by_cases z : i.natAbs = 0
      · rw [z]; decide
      · exact (Nat.log2_lt z).mpr (Nat.lt_of_lt_of_le h (Nat.pow_le_pow_right (by decide) (by decide)))
    refine ⟨by unfold shD; exact decide_eq_true hl, ?_, cpOk_int i⟩
    unfold pyD PyData.leavesShort
    exact decide_eq_true (int_text_len_1921 hl)
  | .str x, h => by
    unfold txD at h
    obtain ⟨h1, h2⟩ := Bool.and_eq_true_iff.mp h
    refine ⟨rfl, ?_, strOk_iff.mp h2⟩
    unfold pyD PyData.leavesShort
    rw [List.all_eq_true]
    intro c hc
    have := strOk_iff.mp h1 c hc
    exact decide_eq_true (by  omega)
  | .tup ds, h => by
    unfold txD at h
    obtain ⟨h1, h2, h3⟩ := tx_shs ds h
    refine ⟨by unfold shD; exact h1, by unfold pyD PyData.leavesShort; exact h2, ?_⟩
    unfold pyD PyData.shown
    exact cpOk_tuple h3
  | .lst ds, h => by
    unfold txD at h
    obtain ⟨h1, h2, h3⟩ := tx_shs ds h
    refine ⟨by unfold shD; exact h1, by unfold pyD PyData.leavesShort; exact h2, ?_⟩
    unfold pyD PyData.shown
    exact cpOk_list h3
  | .dct kvs, h => by
    unfold txD at h
    obtain rfl : kvs = [] := List.isEmpty_iff.mp h
    exact ⟨rfl, by simp [pyD, PyData.leavesShort, PyData.leavesShortKv], cpOk_lit (by decide +kernel)⟩
  | .scr _, h => by cases h
  | .ins _ _, h => by cases h
  | .pen, h => by cases h
  | .exc _ _, h => by cases h
theorem tx_shs : ∀ ds : List D, txDs ds = true → shDs ds = true ∧ PyData.leavesShortAll 1921 (pyDs ds) = true ∧ ∀ t ∈ PyData.shownAll (pyDs ds), cpOk t
  | [], _ => ⟨rfl, by simp [pyDs, PyData.leavesShortAll], by simp [pyDs, PyData.shownAll]⟩
  | d :: ds, h => by
    unfold txDs at h
    obtain ⟨h1, h2⟩ := Bool.and_eq_true_iff.mp h
    obtain ⟨a1, a2, a3⟩ := tx_sh d h1
    obtain ⟨b1, b2, b3⟩ := tx_shs ds h2
    refine ⟨by unfold shDs; rw [a1, b1]; rfl, by unfold pyDs PyData.leavesShortAll; rw [a2, b2]; rfl, fun t ht => ?_⟩
    unfold pyDs PyData.shownAll at ht
    rcases List.mem_cons.mp ht with rfl | ht
    · exact a3
    · exact b3 t ht
end
/-- data that repr tells -/
def rpD (d : D) : Bool := (txD d && (!(pyD d).hasDict || !lsD d)) && (decide ((pyD d).depth ≤ 60) && decide ((pyD d).bulk ≤ 8000))
theorem rpD_ok {d : D} (h : rpD d = true) : reprOk d = true ∧ PyData.strOk (reprD d) = true := by
  unfold rpD at h
  obtain ⟨h1, h2⟩ := Bool.and_eq_true_iff.mp h
  obtain ⟨h1, h0⟩ := Bool.and_eq_true_iff.mp h1
  obtain ⟨h2, h3⟩ := Bool.and_eq_true_iff.mp h2
  have h3 := of_decide_eq_true h3
  obtain ⟨a1, a2, a3⟩ := tx_sh d h1
  have hl := PyData.shown_le_bulk 1921 (by decide) (pyD d) a2
  refine ⟨?_, strOk_iff.mpr a3⟩
  have e : decide ((reprD d).length ≤ sizeLine) = true := decide_eq_true (by
    have : (1921 + 2) * (pyD d).bulk ≤ (1921 + 2) * 8000 := Nat.mul_le_mul_left _ h3
    rw [sizeLine_eq]
    show (pyD d).shown.length ≤ _
    omega)
  unfold reprOk
  rw [a1, h0, h2, e]
  rfl
theorem txD_int {i : Int} (h : i.natAbs < 2 ^ 1900) : txD (.int i) = true := decide_eq_true h
theorem txDs_of : ∀ {ds : List D}, (∀ d ∈ ds, txD d = true) → txDs ds = true
  | [], _ => rfl
  | d :: ds, h => by
    unfold txDs
    rw [h d (by simp), txDs_of fun x hx => h x (by simp [hx])]
    rfl
end L3
namespace L3
open PySem PySem.Spec L2
open PyProof.Rows hiding St
/-! ### ratios -/
def lowG (t b : Int) : Int := if 0 < b then ((t.natAbs.gcd b.natAbs : Nat) : Int) else -((t.natAbs.gcd b.natAbs : Nat) : Int)
theorem lowG_dvd_b (t b : Int) : lowG t b ∣ b := by
  unfold lowG
  have : ((t.natAbs.gcd b.natAbs : Nat) : Int) ∣ b := Int.ofNat_dvd_left.mpr (Nat.gcd_dvd_right _ _)
  split
  · exact this
  · exact Int.neg_dvd.mpr this
theorem lowG_dvd_t (t b : Int) : lowG t b ∣ t := by
  unfold lowG
  have : ((t.natAbs.gcd b.natAbs : Nat) : Int) ∣ t := Int.ofNat_dvd_left.mpr (Nat.gcd_dvd_left _ _)
  split
  · exact this
  · exact Int.neg_dvd.mpr this
theorem lowG_ne {t b : Int} (h : b ≠ 0) : lowG t b ≠ 0 := fun z => by
  have := lowG_dvd_b t b
  rw [z] at this
  exact h (Int.zero_dvd.mp this)
theorem lowG_le {t b : Int} (h : b ≠ 0) : (lowG t b).natAbs ≤ b.natAbs := Nat.le_of_dvd (by omega) (Int.natAbs_dvd_natAbs.mpr (lowG_dvd_b t b))
theorem low_bot {t b : Int} (h : b ≠ 0) : b.fdiv (lowG t b) = ((Rat.divInt t b).den : Nat) := by
  rw [Int.fdiv_eq_ediv_of_dvd (lowG_dvd_b t b), Rat.den_divInt, if_neg h]
  unfold lowG
  have e : b.gcd t = t.natAbs.gcd b.natAbs := by show b.natAbs.gcd t.natAbs = _; rw [Nat.gcd_comm]
  rw [e]
  split
  · rename_i hb
    have : b = (b.natAbs : Int) := by omega
    rw [Int.natCast_ediv]
    congr 1
  · rename_i hb
    have : b = -(b.natAbs : Int) := by omega
    rw [Int.ediv_neg, Int.natCast_ediv]
    conv => lhs; rw [this]
    have h2 : ((t.natAbs.gcd b.natAbs : Nat) : Int) ∣ (b.natAbs : Int) := Int.natCast_dvd_natCast.mpr (Nat.gcd_dvd_right _ _)
    rw [Int.neg_ediv_of_dvd]
    · simp
    · simpa using h2
theorem low_top {t b : Int} (h : b ≠ 0) : t.fdiv (lowG t b) = (Rat.divInt t b).num := by
  rw [Int.fdiv_eq_ediv_of_dvd (lowG_dvd_t t b), Rat.num_divInt]
  unfold lowG
  have e : b.gcd t = t.natAbs.gcd b.natAbs := by show b.natAbs.gcd t.natAbs = _; rw [Nat.gcd_comm]
  rw [e]
  have h2 : ((t.natAbs.gcd b.natAbs : Nat) : Int) ∣ t := Int.ofNat_dvd_left.mpr (Nat.gcd_dvd_left _ _)
  split
  · rename_i hb
    rw [Int.sign_eq_one_of_pos hb, Int.one_mul]
  · rename_i hb
    rw [Int.sign_eq_neg_one_of_neg (by omega), Int.ediv_neg, Int.neg_mul, Int.one_mul, Int.neg_ediv_of_dvd h2]
theorem low_one {t b : Int} (h : b ≠ 0) : b = lowG t b ↔ (Rat.divInt t b).den = 1 := by
  have e := low_bot (t := t) h
  have hd := lowG_dvd_b t b
  have hg := lowG_ne (t := t) h
  rw [Int.fdiv_eq_ediv_of_dvd hd] at e
  constructor
  · intro z
    rw [← z, Int.ediv_self h] at e
    omega
  · intro z
    rw [z] at e
    have := Int.ediv_mul_cancel hd
    rw [e] at this
    simpa using this.symm
/-- a ratio's one form -/
def ratD (r : Rat) : D := if r.den = 1 then .int r.num else .tup [.int r.num, .int (r.den : Nat)]
theorem ratD_1 {r : Rat} (h : r.den = 1) : ratD r = .int r.num := if_pos h
theorem ratD_2 {r : Rat} (h : r.den ≠ 1) : ratD r = .tup [.int r.num, .int (r.den : Nat)] := if_neg h
theorem ratD_int (i : Int) : ratD (i : Rat) = .int i := ratD_1 rfl
/-- num and den of a quotient are no greater -/
theorem divInt_num_le (t b : Int) : (Rat.divInt t b).num.natAbs ≤ t.natAbs := by
  by_cases h : b = 0
  · subst h
    simp
  · rw [← low_top h]
    exact natAbs_fdiv_le t _
theorem divInt_den_le {t b : Int} (h : b ≠ 0) : (Rat.divInt t b).den ≤ b.natAbs := by
  have := natAbs_fdiv_le b (lowG t b)
  rw [low_bot h] at this
  simpa using this
theorem log2_lt_of {n k : Nat} (h : n < 2 ^ k) (hk : 0 < k) : n.log2 < k := by
  by_cases z : n = 0
  · rw [z]
    simpa using hk
  · exact (Nat.log2_lt z).mpr h
def isIntD : D → Bool
  | .int _ => true
  | _ => false
theorem isIntD_eq {d : D} (h : isIntD d = true) : ∃ i, d = .int i := by
  cases d <;> first | exact ⟨_, rfl⟩ | (cases h; done)
theorem list2 {α : Type} {xs : List α} (h : xs.length = 2) : ∃ x y, xs = [x, y] := by
  match xs, h with
  | [x, y], _ => exact ⟨x, y, rfl⟩
def isLstD : D → Bool
  | .tup _ => true
  | .lst _ => true
  | .scr _ => true
  | _ => false
def lenD : D → Nat
  | .tup xs => xs.length
  | .lst xs => xs.length
  | _ => 0
def itemsL : D → List D
  | .tup xs => xs
  | .lst xs => xs
  | _ => []
theorem atJ_nat {α : Type} {xs : List α} {k : Nat} {d : α} (h : xs[k]? = some d) : atI xs (k : Int) = some d := by
  have hk := (List.getElem?_eq_some_iff.mp h).1
  unfold atI ixN
  rw [(if_pos (by omega)), if_pos (by omega)]
  simpa using h
/-- a list or a tuple -/
structure Sq (d : D) (xs : List D) : Prop where
  it : itemsL d = xs
  it2 : itemsOf d = some xs
  ls : isLstD d = true
  len : ∀ Q, gLen [d] Q = Q (.int xs.length)
  ix : ∀ (i : Int) (Q : D → Prop), gIx d (.int i) Q = match atI xs i with
    | some d => Q d
    | none => False
theorem sq_tup (xs : List D) : Sq (.tup xs) xs := ⟨rfl, rfl, rfl, fun _ => rfl, fun _ _ => rfl⟩
theorem sq_lst (xs : List D) : Sq (.lst xs) xs := ⟨rfl, rfl, rfl, fun _ => rfl, fun _ _ => rfl⟩
theorem sq_or {d : D} (h : plD d = true) : (∃ xs, Sq d xs ∧ xs.length ≤ 65536 ∧ ∀ x ∈ xs, plD x = true) ∨ isLstD d = false := by
  cases d with
  | tup xs => exact .inl ⟨xs, sq_tup xs, plD_tup h⟩
  | lst xs => exact .inl ⟨xs, sq_lst xs, plD_lst h⟩
  | scr _ => cases h
  | _ => exact .inr rfl
theorem rcb_len {d : D} {xs : List D} (sq : Sq d xs) {ρ : Env3} {re : RE} {Q : D → Prop} {E : XD → Prop} (hr : ∀ (Q : D → Prop) (E : XD → Prop), Q d → re ρ Q E) (q : Q (.int xs.length)) : rCB gLen (rCons re rNil) ρ Q E := by
  refine hr _ _ ?_
  dsimp only [rNil]
  rw [sq.len]
  exact q
theorem rd_get {n k : Nat} (h : k < n) : (rangeD 0 n).drop k = .int k :: (rangeD 0 n).drop (k + 1) := by
  have hl : k < (rangeD 0 n).length := by rw [rangeD_len]; exact h
  rw [List.drop_eq_getElem_cons hl]
  congr 1
  simp [rangeD]
theorem rd_mem {lo : Int} {n : Nat} {d : D} (h : d ∈ rangeD lo n) : ∃ i : Int, d = .int i := by
  unfold rangeD at h
  obtain ⟨i, _, rfl⟩ := List.mem_map.mp h
  exact ⟨_, rfl⟩
mutual
def tupD : D → D
  | .tup xs => .tup (tupDs xs)
  | .lst xs => .tup (tupDs xs)
  | d => d
def tupDs : List D → List D
  | [] => []
  | d :: ds => tupD d :: tupDs ds
end
theorem tupDs_map : ∀ ds : List D, tupDs ds = ds.map tupD
  | [] => rfl
  | d :: ds => by unfold tupDs; rw [tupDs_map ds]; rfl
mutual
def dpD : D → Nat
  | .tup xs => dpDs xs + 1
  | .lst xs => dpDs xs + 1
  | _ => 0
def dpDs : List D → Nat
  | [] => 0
  | d :: ds => max (dpD d) (dpDs ds)
end
theorem dpDs_mem : ∀ {ds : List D} {d : D}, d ∈ ds → dpD d ≤ dpDs ds
  | x :: ds, d, h => by
    unfold dpDs
    rcases (List.mem_cons.mp h) with rfl | h
    · exact Nat.le_max_left _ _
    · exact Nat.le_trans (dpDs_mem h) (Nat.le_max_right _ _)
theorem sz (n : Nat) (h : n ≤ 65536 := by decide) : n ≤ sizeLine := le_size h
theorem allBl_map (p : D → Bool) : ∀ xs : List D, allBl (xs.map fun d => D.bl (p d)) = some (xs.map p)
  | [] => rfl
  | d :: xs => by
    show (match blOf (D.bl (p d)), allBl (xs.map fun d => D.bl (p d)) with | some b, some bs => some (b :: bs) | _, _ => none) = _
    rw [allBl_map p xs]
    rfl
theorem gAll_map {p : D → Bool} {xs : List D} {Q : D → Prop} (h : Q (.bl (xs.all p))) : gAll [.lst (xs.map fun d => D.bl (p d))] Q := by
  show (match allBl (xs.map fun d => D.bl (p d)) with | some bs => Q (.bl (bs.all id)) | none => False)
  rw [allBl_map]
  show Q (.bl ((xs.map p).all id))
  rw [List.all_map]
  exact h
def isRatD : D → Bool
  | .int _ => true
  | .tup [.int a, .int b] => decide (1 < b) && decide (a.natAbs.gcd b.natAbs = 1)
  | _ => false
theorem isRatD_not {xs : List D} (h : ∀ a b, xs ≠ [.int a, .int b]) : isRatD (.tup xs) = false := by
  unfold isRatD
  split
  · rename_i e; cases e
  · rename_i a b e; cases e; exact absurd rfl (h a b)
  · rfl
def isRowD (v : D) (m : Int) : Bool := isLstD v && (decide (((itemsL v).length : Int) = m) && (itemsL v).all isRatD)
def bnE (w : Str) (d : D) : XD := exD "BadNumber" ["what", "number"] [.str w, d]
theorem sign_if (i : Int) : (if 0 < i then (1 : Int) else if i < 0 then -1 else 0) = i.sign := by
  split
  · rename_i h; exact (Int.sign_eq_one_of_pos h).symm
  · split
    · rename_i h; exact (Int.sign_eq_neg_one_of_neg h).symm
    · have : i = 0 := by omega
      subst this; rfl
theorem isRatD_rat (r : Rat) : isRatD (ratD r) = true := by
  by_cases hd : r.den = 1
  · rw [ratD_1 hd]
    rfl
  · rw [ratD_2 hd]
    have h0 := r.den_nz
    have h1 := r.reduced
    have e1 : decide (1 < (r.den : Int)) = true := decide_eq_true (by omega)
    have e2 : decide (r.num.natAbs.gcd ((r.den : Int)).natAbs = 1) = true := decide_eq_true (by simpa using h1)
    show (decide (1 < (r.den : Int)) && decide (r.num.natAbs.gcd ((r.den : Int)).natAbs = 1)) = true
    rw [e1, e2]
    rfl
theorem rat_of {d : D} (h : isRatD d = true) : ∃ r, d = ratD r := by
  unfold isRatD at h
  split at h
  · rename_i i
    exact ⟨(i : Rat), (ratD_int i).symm⟩
  · rename_i a b
    obtain ⟨h1, h2⟩ := Bool.and_eq_true_iff.mp h
    have h1 := of_decide_eq_true h1
    have h2 := of_decide_eq_true h2
    refine ⟨⟨a, b.natAbs, by omega, h2⟩, ?_⟩
    rw [ratD_2 (by show b.natAbs ≠ 1; omega)]
    show D.tup [.int a, .int b] = .tup [.int a, .int (b.natAbs : Int)]
    rw [show ((b.natAbs : Int)) = b by omega]
  · cases h
theorem ratD_inj {r s : Rat} (h : ratD r = ratD s) : r = s := by
  by_cases h1 : r.den = 1
  · rw [ratD_1 h1] at h
    by_cases h2 : s.den = 1
    · rw [ratD_1 h2] at h
      injection h with e
      exact Rat.ext e (h1.trans h2.symm)
    · rw [ratD_2 h2] at h
      cases h
  · rw [ratD_2 h1] at h
    by_cases h2 : s.den = 1
    · rw [ratD_1 h2] at h
      cases h
    · rw [ratD_2 h2] at h
      injection h with h
      injection h with ha hb
      injection hb with hb hc
      injection ha with ha
      injection hb with hb
      exact Rat.ext ha (by omega)
theorem ratD_pl (r : Rat) : plD (ratD r) = true := by
  by_cases hd : r.den = 1
  · rw [ratD_1 hd]; rfl
  · rw [ratD_2 hd]; rfl
theorem rneg_num (r : Rat) : (-r).num = -r.num := rfl
theorem rneg_den (r : Rat) : (-r).den = r.den := rfl
def Sz (n : Nat) (r : Rat) : Prop := r.num.natAbs < 2 ^ n ∧ r.den < 2 ^ n
theorem Sz.neg {n : Nat} {r : Rat} (h : Sz n r) : Sz n (-r) := ⟨by rw [rneg_num, Int.natAbs_neg]; exact h.1, by rw [rneg_den]; exact h.2⟩
theorem Sz.mono {m n : Nat} {r : Rat} (h : Sz m r) (hm : m ≤ n) : Sz n r := ⟨Nat.lt_of_lt_of_le h.1 (Nat.pow_le_pow_right (by decide) hm), Nat.lt_of_lt_of_le h.2 (Nat.pow_le_pow_right (by decide) hm)⟩
theorem mulOk_sz {a b : Int} {m n : Nat} (ha : a.natAbs < 2 ^ m) (hb : b.natAbs < 2 ^ n) (h : m + n ≤ 134217728) : IntMulOk a b := IntMulOk.of_le (intBits_le_iff.mpr ha) (intBits_le_iff.mpr hb) h
theorem mul_sz {a b : Int} {m n : Nat} (ha : a.natAbs < 2 ^ m) (hb : b.natAbs < 2 ^ n) : (a * b).natAbs < 2 ^ (m + n) := intBits_le_iff.mp (intBits_mul_le (intBits_le_iff.mpr ha) (intBits_le_iff.mpr hb))
theorem Sz.n {m : Nat} {r : Rat} (h : Sz m r) : r.num.natAbs < 2 ^ m := h.1
theorem Sz.d {m : Nat} {r : Rat} (h : Sz m r) : ((r.den : Nat) : Int).natAbs < 2 ^ m := h.2
theorem den_ne (r : Rat) : ((r.den : Nat) : Int) ≠ 0 := by have := r.den_nz; omega
theorem den_pos (r : Rat) : 0 < ((r.den : Nat) : Int) := by have := r.den_nz; omega
theorem rat_int {r : Rat} (h : r.den = 1) : r = ((r.num : Int) : Rat) := Rat.ext rfl h
theorem rat_add (r s : Rat) : Rat.divInt (r.num * (s.den : Nat) + s.num * (r.den : Nat)) ((r.den : Nat) * (s.den : Nat)) = r + s := by
  rw [← Rat.divInt_add_divInt _ _ (den_ne r) (den_ne s), Rat.num_divInt_den, Rat.num_divInt_den]
theorem rat_mul (r s : Rat) : Rat.divInt (r.num * s.num) ((r.den : Nat) * (s.den : Nat)) = r * s := by
  rw [← Rat.divInt_mul_divInt, Rat.num_divInt_den, Rat.num_divInt_den]
theorem rat_div (r s : Rat) : Rat.divInt (r.num * (s.den : Nat)) ((r.den : Nat) * s.num) = r / s := by
  rw [← Rat.divInt_mul_divInt, Rat.num_divInt_den, Rat.div_def, Rat.inv_def]
theorem add_int {r s : Rat} (h1 : r.den = 1) (h2 : s.den = 1) : ratD (r + s) = .int (r.num + s.num) := by
  rw [rat_int h1, rat_int h2, ← Rat.intCast_add, ratD_int]
  rfl
theorem mul_int' {r s : Rat} (h1 : r.den = 1) (h2 : s.den = 1) : ratD (r * s) = .int (r.num * s.num) := by
  rw [rat_int h1, rat_int h2, ← Rat.intCast_mul, ratD_int]
  rfl
theorem isI (r : Rat) : (r.den = 1 ∧ ratD r = .int r.num) ∨ (r.den ≠ 1 ∧ ratD r = .tup [.int r.num, .int (r.den : Nat)]) := by
  by_cases h : r.den = 1
  · exact .inl ⟨h, ratD_1 h⟩
  · exact .inr ⟨h, ratD_2 h⟩
theorem num_ne {s : Rat} (h : s ≠ 0) : s.num ≠ 0 := fun z => h (Rat.num_eq_zero.mp z)
theorem lt_dec (r s : Rat) : decide (r < s) = decide (r.num * (s.den : Nat) < s.num * (r.den : Nat)) := decide_eq_decide.mpr (Rat.lt_iff r s)
def dotR : List Rat → List Rat → Rat
  | r :: rs, s :: ss => r * s + dotR rs ss
  | _, _ => 0
/-- lists or tuples of ratios -/
def RowR (d : D) (rs : List Rat) : Prop := d = .tup (rs.map ratD) ∨ d = .lst (rs.map ratD)
def rowOk (d : D) : Bool := isLstD d && (itemsL d).all isRatD
def brE (w : Str) (d : D) : XD := exD "BadRow" ["what", "row"] [.str w, d]
def unE (w : Str) : XD := exD "Unlike" ["what"] [.str w]
end L3
namespace L3
open PySem PySem.Spec L2
open PyProof.Rows hiding St
/-! ### zip of two, lists or tuples in any mix -/
inductive ZK where
  | l
  | t
def ZK.it : ZK → Heap → Addr → Addr → Nat → Prop
  | .l, h, i, a, n => h.IsListIter i a n
  | .t, h, i, a, n => h.IsTupleIter i a n
def ZK.sq : ZK → PySem.W.Frag → Hp → Addr → List V → Prop
  | .l, K, H, a, xs => SqL K H a xs
  | .t, K, H, a, xs => SqT K H a xs
def ZK.is : ZK → Heap → Addr → Array Value → Prop
  | .l, h, a, its => h.IsList a its
  | .t, h, a, its => h.IsTuple a its
def ZK.ob : ZK → Addr → Obj
  | .l, a => { cls := .type "list_iterator", data := .fields #[.ref a, .int 0 0] }
  | .t, a => { cls := .type "tuple_iterator", data := .fields #[.ref a, .int 0 0] }
theorem ZK.draws (k : ZK) {prog : Program} {w : World} {A : Around} (hh : A.handled = none) (it a : Addr) (hne : a ≠ it) (items : Array Value) : Draws prog w A it [it, a] items.size (fun i v => items[i]? = some v) (fun i h => k.it h it a i ∧ k.is h a items) :=
  match k with
  | .l => Draws.list hh it a hne items
  | .t => Draws.tuple hh it a hne items
theorem ZK.begins (k : ZK) (a : Addr) (items : Array Value) : Begins (.ref a) (k.ob a) fun h => k.is h a items :=
  match k with
  | .l => begins_list a items
  | .t => begins_tuple a items
theorem ZK.start {k : ZK} {h : Heap} {i a : Addr} (g : h.get? i = some (k.ob a)) : k.it h i a 0 := by
  cases k
  · exact ⟨_, g, rfl, rfl⟩
  · exact ⟨_, g, rfl, rfl⟩
theorem ZK.obj {k : ZK} {h : Heap} {i a : Addr} {n : Nat} (st : k.it h i a n) : ∃ o, h.get? i = some o ∧ ∀ v, o.data ≠ .cell v := by
  cases k
  · obtain ⟨o, e, _, d⟩ := (st : h.IsListIter i a n)
    exact ⟨o, e, fun v q => by rw [d] at q; cases q⟩
  · obtain ⟨o, e, _, d⟩ := (st : h.IsTupleIter i a n)
    exact ⟨o, e, fun v q => by rw [d] at q; cases q⟩
theorem ZK.at {k : ZK} {h h' : Heap} {i a : Addr} {n : Nat} (st : k.it h i a n) (up : ∀ o, h.get? i = some o → h'.get? i = some o) : k.it h' i a n := by
  cases k
  · exact Heap.IsListIter.at st up
  · exact Heap.IsTupleIter.at st up
theorem ZK.lt {k : ZK} {h : Heap} {a : Addr} {its : Array Value} (p : k.is h a its) : a < h.objs.size := by
  cases k
  · obtain ⟨o, e, _⟩ := (p : h.IsList a its)
    exact Heap.lt_size e
  · obtain ⟨o, e, _⟩ := (p : h.IsTuple a its)
    exact Heap.lt_size e
theorem ZK.inv {k : ZK} {X : Cx} {pins : List (Addr × Obj)} {σ : L2.St} {H : Hp} {s : Shared} {a : Addr} {xs : List V} (I : Inv X pins σ H s) (q : k.sq X.K H a xs) : ∃ its, Vals xs its ∧ k.is s.heap a its.toArray := by
  cases k
  · obtain ⟨its, rv, p, _⟩ := I.list q
    exact ⟨its, rv, p.isList⟩
  · obtain ⟨its, rv, p, _⟩ := I.tuple q
    exact ⟨its, rv, p⟩
theorem ZK.inj {k : ZK} {X : Cx} {pins : List (Addr × Obj)} {σ : L2.St} {H : Hp} {s : Shared} {a : Addr} {xs ys : List V} (I : Inv X pins σ H s) (q : k.sq X.K H a xs) (r : k.sq X.K H a ys) : xs = ys := by
  cases k
  · exact I.list_inj q r
  · exact I.tuple_inj q r
def ItzG (K : PySem.W.Frag) (k1 k2 : ZK) (a b : Addr) : It :=
  ⟨fun i H => ∃ (xs ys : List V) (x y : V), k1.sq K H a xs ∧ k2.sq K H b ys ∧ xs[i]? = some x ∧ ys[i]? = some y,
    fun i H v H' => ∃ T x y, v = .ref T ∧ H T = none ∧ H' = upd H T (.tup [x, y]) ∧ (∀ xs, k1.sq K H a xs → xs[i]? = some x) ∧ ∀ ys, k2.sq K H b ys → ys[i]? = some y,
    fun i H => ∃ xs ys : List V, k1.sq K H a xs ∧ k2.sq K H b ys ∧ i ≤ xs.length ∧ i ≤ ys.length ∧ (xs.length ≤ i ∨ ys.length ≤ i)⟩
structure ZipG (z TI TO i1 i2 a b : Addr) : Prop where
  S : ZipSep2 z TI TO i1 i2 [i1, a] [i2, b]
  a1 : a ≠ i1
  b2 : b ≠ i2
theorem turn_zipG {P : Program} {w : World} {K : PySem.W.Frag} {elts : List Expr} {kk : Nat} {tpos : Pos} {k1 k2 : ZK} {a b z TI TO i1 i2 : Addr} (D : ZipG z TI TO i1 i2 a b) :
    Turn P w K (.Tuple elts kk tpos) (ItzG K k1 k2 a b) [z, TI, TO, i1, i2] z (fun i h => IsZip h z TI TO .none ∧ IsTupOf2 h TI (.ref i1) (.ref i2) ∧ (∃ x y, IsTupOf2 h TO x y) ∧ k1.it h i1 a i ∧ k2.it h i2 b i) where
  mem := by simp
  obj := fun i h st c hc => by
    obtain ⟨hz, hTI, ⟨x, y, hTO⟩, h1, h2⟩ :=  st
    have e' : c = z ∨ c = TI ∨ c = TO ∨ c = i1 ∨ c = i2 := by simpa using  hc
    rcases (e') with q | q | q | q | q
    · rw [q]; exact ⟨_, hz, fun v q => nomatch  q⟩
    · rw [q]; exact ⟨_, hTI, fun v q => nomatch  q⟩
    · rw [q]; exact ⟨_, hTO, fun v q => nomatch  q⟩
    · rw [q]; exact ZK.obj h1
    · rw [q]; exact ZK.obj h2
  keep := fun i h h' st k => by
    obtain ⟨hz, hTI, ⟨x, y, hTO⟩, h1, h2⟩ :=  st
    exact ⟨k z (by simp) _ hz, k TI (by simp) _ hTI, ⟨x, y, k TO (by simp) _ hTO⟩, ZK.at h1 fun o q => k i1 (by simp) o q, ZK.at h2 fun o q => k i2 (by simp) o q⟩
  item := by
    intro X hP hw hK hc i pins s σ H E I hf st  hg
    subst hP hw hK
    obtain ⟨hz, hTI, ⟨x0, y0, hTO⟩, h1, h2⟩ :=  st
    obtain ⟨xs, ys, x, y, hqx, hqy, hx, hy⟩ :=  hg
    obtain ⟨its, rv, p⟩ := ZK.inv I hqx
    obtain ⟨its2, rv2, p2⟩ := ZK.inv I hqy
    obtain ⟨u, hu, ru⟩ := rv.get  hx
    obtain ⟨u2, hu2, ru2⟩ := rv2.get  hy
    have hzl : z < s.heap.objs.size := Heap.lt_size  hz
    have hh : X.A.in1.handled = none := I.ok.hd hc
    refine wpAny_pyNext_zipD2_item D.S (k1.draws hh i1 a D.a1 its.toArray) (k2.draws hh i2 b D.b2 its2.toArray) hz hTI hTO ⟨h1, p⟩ ⟨h2, p2⟩ (by simpa using (List.getElem?_eq_some_iff.mp hu).1) (by simpa using (List.getElem?_eq_some_iff.mp hu2).1) fun w1 w2 h' tk e1 e2 z' TO' n1 n2 hT hsz hk => ?_
    have e1 : w1 = u := by
      rw [List.getElem?_toArray, hu] at e1
      exact (Option.some.inj e1).symm
    have e2 : w2 = u2 := by
      rw [List.getElem?_toArray, hu2] at e2
      exact (Option.some.inj e2).symm
    subst e1 e2
    refine ⟨_, rfl, wpAny_letOwnedTupleGo_zip (s := { s with heap := h', toks := tk }) z' fun h'' z'' sb => ?_⟩
    have hT2 : h''.get? s.heap.objs.size = some { cls := .type "tuple", data := .seq #[w1, w2] } := (sb.2 _ (Nat.ne_of_gt hzl)).trans hT
    have new : ObjOk X.prog X.w (upd H s.heap.objs.size (.tup [x, y])) h'' s.heap.objs.size (.tup [x, y])  :=
      ⟨by show 2 ≤ sizeLine; decide, [w1, w2], .cons ru (.cons ru2 .nil), ⟨_, hT2, rfl, _, rfl⟩⟩
    have I1 : Inv X pins σ (upd H s.heap.objs.size (.tup [x, y])) { s with heap := h'', toks := tk } :=
      I.turnedNew (t' := tk) (ch := [z, TI, TO, i1, i2]) (fun c o hb q => (sb.2 c (fun q' => hb (by simp [q']))).trans (hk c o (fun q' => hb (by simp [q'])) (fun q' => hb (by simp [q'])) (fun q' => hb (by simp [q'])) (fun q' => hb (by simp [q'])) q)) hf (Nat.le_refl _) new
    have S := D.S
    refine ⟨.ref s.heap.objs.size, _, I1, rfl, ⟨_, x, y, rfl, I.hok.fresh (Nat.le_refl _), rfl, fun l hl => by rw [ZK.inj I hl hqx]; exact hx, fun l hl => by rw [ZK.inj I hl hqy]; exact hy⟩, ⟨z'', ?_, ⟨w1, w2, ?_⟩, ?_, ?_⟩, fun c hcm => ?_⟩
    · exact (sb.2 _ S.TIz).trans (hk _ _ S.TIz S.TITO S.TIi1 S.TIi2 hTI)
    · exact (sb.2 _ S.TOz).trans TO'
    · exact ZK.at n1.1 fun o q => (sb.2 _ S.zi1.symm).trans q
    · exact ZK.at n2.1 fun o q => (sb.2 _ S.zi2.symm).trans q
    · have hlt : c < s.heap.objs.size :=  by
        have e' : c = z ∨ c = TI ∨ c = TO ∨ c = i1 ∨ c = i2 := by simpa using  hcm
        rcases (e') with q | q | q | q | q
        · rw [q]; exact hzl
        · rw [q]; exact Heap.lt_size  hTI
        · rw [q]; exact Heap.lt_size  hTO
        · rw [q]; obtain ⟨_, e1, _⟩ := ZK.obj h1; exact Heap.lt_size e1
        · rw [q]; obtain ⟨_, e2, _⟩ := ZK.obj h2; exact Heap.lt_size e2
      rw [(upd_ne (Nat.ne_of_lt hlt))]
      exact (hf c hcm).1
  done := by
    intro X hP hw hK hc i pins s σ H E I hf st  hg
    subst hP hw hK
    obtain ⟨hz, hTI, ⟨x0, y0, hTO⟩, h1, h2⟩ :=  st
    obtain ⟨xs, ys, hqx, hqy, l1, l2, hend⟩ := hg
    obtain ⟨its, rv, p⟩ := ZK.inv I hqx
    obtain ⟨its2, rv2, p2⟩ := ZK.inv I hqy
    have e1 := rv.length
    have e2 := rv2.length
    have hh : X.A.in1.handled = none := I.ok.hd hc
    refine wpAny_pyNext_zipD2_end D.S (k1.draws hh i1 a D.a1 its.toArray) (k2.draws hh i2 b D.b2 its2.toArray) hz hTI hTO ⟨h1, p⟩ ⟨h2, p2⟩ (by simp; omega) (by simp; omega) (by simp; omega) fun h' tk hk => ⟨rfl, I.turnedL (t' := tk) (ch := [z, TI, TO, i1, i2]) (fun c o hb q =>
      hk c o (fun q' => hb (by simp [q'])) (fun q' => hb (by simp [q'])) (fun q' => hb (by simp [q'])) (fun q' => hb (by simp [q'])) q)  hf⟩
  self := fun A i s Q E st h => wpAny_pyIter_zip st.1  h
def iZipG (K : PySem.W.Frag) (ta : TA) : TI := fun σ H R => ta σ H fun vs H1 => ∃ a b xs ys k1 k2, vs = [.ref a, .ref b] ∧ ZK.sq k1 K H1 a xs ∧ ZK.sq k2 K H1 b ys ∧ R (ItzG K k1 k2 a b) H1
theorem pi_zipG {X : Cx} {e e2 : Expr} {ta : TA} {p pos tpos : Pos} {elts : List Expr} {kk : Nat} (hg : Gl X "zip") (hm : X.mg "zip" = none) (ha : PA X [e, e2] ta)
    (hs :  starEach [e, e2] X.env = (false, eval e X.env) :: starEach [e2] X.env := by rfl) (hpl : (backTo pos (starEach [e2] X.env)).any (·.1) = false := by rfl) :
    PI X (.Tuple elts kk tpos) (.Call (.Name "zip" p) [e, e2] [] pos) (iZipG X.K ta) := by
  refine ⟨fun pins s σ H R I h =>  ?_⟩
  refine Call_ (ld_blt I hg hm PyProof.Rows.boot_zip (PyProof.Rows.callWith_type1 (thn (ha.run pos pins s σ H _ I h) fun us s1 ⟨vs, H1, I1, r1, q1⟩ => ?_) hs  hpl))
  obtain ⟨a, b, xs, ys, k1, k2, ex, hqx, hqy, q⟩ := q1
  subst ex
  cases r1 with
  | cons r rr =>
    cases rr with
    | cons r' rr =>
      cases rr
      cases r
      cases r'
      have fresh5 : ∀ c, c ∈ [s1.heap.objs.size + 4, s1.heap.objs.size + 2, s1.heap.objs.size + 3, s1.heap.objs.size, s1.heap.objs.size + 1] → FpOk X pins H1 c := fun c hcm =>  by
        have e' : c = s1.heap.objs.size + 4 ∨ c = s1.heap.objs.size + 2 ∨ c = s1.heap.objs.size + 3 ∨ c = s1.heap.objs.size ∨ c = s1.heap.objs.size + 1 := by simpa using  hcm
        have hle : s1.heap.objs.size ≤ c :=  by
          rcases (e') with z | z | z | z | z
          · rw [z]; exact Nat.le_add_right _  _
          · rw [z]; exact Nat.le_add_right _  _
          · rw [z]; exact Nat.le_add_right _  _
          · rw [z]; exact Nat.le_refl _
          · rw [z]; exact Nat.le_add_right _  _
        exact I1.fpOk hle (I1.hok.fresh  hle)
      obtain ⟨its, rv, p1⟩ := ZK.inv I1 hqx
      obtain ⟨its2, rv2, p2⟩ := ZK.inv I1 hqy
      have la := ZK.lt p1
      have lb := ZK.lt p2
      refine zip_begins2 (k1.begins a its.toArray) (k2.begins b its2.toArray) p1 p2 fun h' hz hTI hTO h1 h2 hsz hk => wpAny_pyIter_zip hz ?_
      have I2 : Inv X pins σ H1 { s1 with heap := h' } := I1.kept (t' := s1.toks)  hk
      have sep : ZipG (s1.heap.objs.size + 4) (s1.heap.objs.size + 2) (s1.heap.objs.size + 3) s1.heap.objs.size (s1.heap.objs.size + 1) a b :=
        ⟨zip_sep2 (fp1 := [a]) (fp2 := [b]) (by simpa using la) (by simpa using lb), Nat.ne_of_lt la, Nat.ne_of_lt (Nat.lt_succ_of_lt lb)⟩
      exact ⟨s1.heap.objs.size + 4, [s1.heap.objs.size + 4, s1.heap.objs.size + 2, s1.heap.objs.size + 3, s1.heap.objs.size, s1.heap.objs.size + 1], _, _, H1, rfl, I2, turn_zipG sep, ⟨hz, hTI, ⟨_, _, hTO⟩, ZK.start h1, ZK.start h2⟩, fresh5, q⟩
section
variable {K : KC} {F : Hp}
/-- what the items of a list or tuple are, at any later heap -/
def ZK.isD : ZK → D → List D → Prop
  | .l, d, ds => d = .lst ds
  | .t, d, ds => d = .tup ds
theorem ZK.sqD {k : ZK} {d : D} {ds : List D} {v : V} (e : k.isD d ds) (h : Rep K F v d) : ∃ a vs, v = .ref a ∧ Reps K F vs ds ∧ ∀ F' R, Ext K F F' → Dj F' R → k.sq K.K (jn F' R) a vs := by
  cases k
  · obtain rfl : d = .lst ds := e
    obtain ⟨a, vs, rfl, ha, ra⟩ := rep_lst h
    exact ⟨a, vs, rfl, ra, fun F' R x dj => sq_s (x.seqL (.of ha))⟩
  · obtain rfl : d = .tup ds := e
    obtain ⟨a, vs, rfl, ha, ra⟩ := rep_tup h
    exact ⟨a, vs, rfl, ra, fun F' R x dj => sq_t (x.tup ha)⟩
theorem Reps.get1 {K : KC} {F : Hp} {vs : List V} {ds : List D} (r : Reps K F vs ds) {i : Nat} {v : V} (h : vs[i]? = some v) : ∃ d, ds[i]? = some d ∧ Rep K F v d := r.getV h
theorem wk_zip {k1 k2 : ZK} {a b : Addr} {xs ys : List V} {ds es : List D} (h1 : ∀ F' R, Ext K F F' → Dj F' R → k1.sq K.K (jn F' R) a xs) (h2 : ∀ F' R, Ext K F F' → Dj F' R → k2.sq K.K (jn F' R) b ys) (r1 : Reps K F xs ds) (r2 : Reps K F ys es)
 : Wk K (ItzG K.K k1 k2 a b) (zipD ds es) F where
  go := fun F' R i x dj hl => by
    have l1 := r1.length
    have l2 := r2.length
    rw [zipD_length] at hl
    exact ⟨xs, ys, xs[i]'(by omega), ys[i]'(by omega), h1 F' R x dj, h2 F' R x dj, List.getElem?_eq_getElem _, List.getElem?_eq_getElem _⟩
  stop := fun F' R i x dj hl => by
    have l1 := r1.length
    have l2 := r2.length
    rw [zipD_length] at hl
    exact ⟨xs, ys, h1 F' R x dj, h2 F' R x dj, by omega, by omega, by omega⟩
  yld := fun F' R i y H' x dj hl ⟨T, u, v, e1, hT, e2, q1, q2⟩ => by
    obtain ⟨d, g1, s1⟩ := r1.getV (q1 xs (h1 F' R x dj))
    obtain ⟨e, g2, s2⟩ := r2.getV (q2 ys (h2 F' R x dj))
    subst e1 e2
    rw [jn_newF hT]
    refine ⟨_, .tup [d, e], rfl, Ext.newF hT, dj.newF hT, zipD_get g1 g2, ?_⟩
    unfold Rep
    exact ⟨T, [u, v], rfl, upd_same, Reps.cons (Rep.ext (x.trans (Ext.newF hT)) _ _ s1) (Reps.cons (Rep.ext (x.trans (Ext.newF hT)) _ _ s2) Reps.nil)⟩
end
section
variable {B : Bs} {X : Cx} {W : WX} {a b c e tg : Expr} {es rest : List Expr} {rs : RA} {pos tpos : Pos} {elts : List Expr} {kk : Nat}
theorem itemsZ {d : D} {ds : List D} (h : itemsOf d = some ds) (hs : ∀ xs, d ≠ .scr xs) : ∃ k : ZK, k.isD d ds := by
  cases d with
  | tup xs => cases h; exact ⟨.t, rfl⟩
  | lst xs => cases h; exact ⟨.l, rfl⟩
  | scr xs => exact absurd rfl (hs xs)
  | _ => cases h
/-- lists and tuples of one's own data -/
def itemsZ? : D → Option (List D)
  | .tup xs => some xs
  | .lst xs => some xs
  | _ => none
def rZip2 (rs : RA) : RA := fun ρ Q E => rs ρ (fun ds => match ds with
  | [d, e] => match itemsZ? d, itemsZ? e with
    | some xs, some ys => Q (zipD xs ys)
    | _, _ => False
  | _ => False) E
theorem itemsZk {d : D} {ds : List D} (h : itemsZ? d = some ds) : ∃ k : ZK, k.isD d ds := by
  cases d with
  | tup xs => cases h; exact ⟨.t, rfl⟩
  | lst xs => cases h; exact ⟨.l, rfl⟩
  | _ => cases h
theorem di_zip2 {p : Pos} (hg : Gl X "zip") (hm : X.mg "zip" = none) (ha : DA B X W [a, b] rs)
    (hs : starEach [a, b] X.env = (false, eval a X.env) :: starEach [b] X.env := by rfl) (hpl : (backTo pos (starEach [b] X.env)).any (·.1) = false := by rfl) :
    DI B X W (.Tuple elts kk tpos) (.Call (.Name "zip" p) [a, b] [] pos) (rZip2 rs) := (pi_zipG hg hm ha hs hpl).imp fun σ H Z ⟨F, R, ρ, Q', E', hH, w, q, kk, kx⟩ => by
  subst hH
  refine ⟨F, R, ρ, _, E', rfl, w, q, fun vs ds F' x dj rv q' => ?_, kx⟩
  split at q'
  · rename_i d e
    split at q'
    · rename_i xs ys e1 e2
      obtain ⟨v, u, rfl, h1, h2⟩ := reps_two rv
      obtain ⟨k1, z1⟩ := itemsZk e1
      obtain ⟨k2, z2⟩ := itemsZk e2
      obtain ⟨a1, vs1, rfl, r1, s1⟩ := ZK.sqD z1 h1
      obtain ⟨a2, vs2, rfl, r2, s2⟩ := ZK.sqD z2 h2
      exact ⟨a1, a2, vs1, vs2, k1, k2, rfl, s1 F' R (.refl _) dj, s2 F' R (.refl _) dj, kk _ _ F' x dj (wk_zip s1 s2 r1 r2) q'⟩
    · exact q'.elim
  · exact q'.elim
end
end L3
namespace L3
open PySem PySem.Spec L2
open PyProof.Rows hiding St
/-! ### i in a tuple or list of ints -/
def intsOf : List D → Option (List Int)
  | [] => some []
  | .int i :: ds => (intsOf ds).map (i :: ·)
  | _ => none
theorem intsOf_eq : ∀ {ds : List D} {js : List Int}, intsOf ds = some js → ds = js.map D.int
  | [], js, h => by cases h; rfl
  | d :: ds, js, h => by
    cases d with
    | int i =>
      cases h2 : intsOf ds with
      | none => simp [intsOf, h2] at h
      | some ks =>
        simp [intsOf, h2] at h
        subst h
        rw [intsOf_eq h2]
        rfl
    | _ => simp [intsOf] at h
def gInB (neg : Bool) : G2 := fun d e Q => match d, itemsZ? e with
  | .int i, some ds => match intsOf ds with
    | some js => Q (.bl (if neg then !decide (i ∈ js) else decide (i ∈ js)))
    | none => False
  | _, _ => False
abbrev gIn : G2 := gInB false
abbrev gNotIn : G2 := gInB true
theorem reps_intv {K : KC} {F : Hp} : ∀ {vs : List V} {js : List Int}, Reps K F vs (js.map D.int) → vs = js.map V.int
  | vs, [], h => reps_nil h
  | vs, j :: js, h => by
    obtain ⟨v, r, rfl, h1, h2⟩ := reps_cons h
    rw [rep_int h1, reps_intv h2]
    rfl
theorem inV_ints (i : Int) (js : List Int) : inV (.int i) (js.map V.int) = decide (i ∈ js) := by
  unfold inV
  rw [List.any_map]
  induction js with
  | nil => simp
  | cons j js ih =>
    rw [List.any_cons, ih]
    show (eqV (.int j) (.int i) || _) = _
    have e : eqV (.int j) (.int i) = decide (i = j) := by
      show (j == i) = _
      by_cases h : i = j
      · subst h; simp
      · simp [h, Ne.symm h]
    rw [e]
    simp [List.mem_cons]
section
variable {X : Cx} {T : List (Addr × Str)}
theorem op2_inB (neg : Bool) {op : CmpOp} (h : OpR X (compareOp op) (rIn X.K neg)) : Op2 X (compareOp op) (gInB neg) := fun T pins s σ H x y v u Q I rx ry ⟨F, R, d, e, Q', hH, dj, rd, re, g, k⟩ => by
  subst hH
  unfold gInB at g
  split at g
  · rename_i i ds hz
    split at g
    · rename_i js hj
      have ej := intsOf_eq hj
      subst ej
      obtain ⟨kk, z⟩ := itemsZk hz
      rw [rep_int rd] at rx
      obtain ⟨a, vs, rfl, rv, sq⟩ := ZK.sqD z re
      obtain rfl := reps_intv rv
      refine h pins s σ _ _ _ v u Q I rx ry ⟨a, js.map V.int, rfl, ?_, rfl, by rw [List.all_map, List.all_eq_true]; intro _ _; rfl, ?_⟩
      · have := sq F R (.refl _) dj
        cases kk
        · exact .inl this
        · exact .inr this
      · rw [inV_ints]
        exact k.now dj (of_bl _) g
    · exact g.elim
  · exact g.elim
theorem op2_in : Op2 X (compareOp .In) gIn := op2_inB false op_in_seq
theorem op2_notin : Op2 X (compareOp .NotIn) gNotIn := op2_inB true op_notIn_seq
end
end L3
namespace L3
open PySem PySem.Spec L2
open PyProof.Rows hiding St
/-- the int 0 -/
def zD : D → Bool
  | .int i => decide (i = 0)
  | _ => false
theorem zD_rat (r : Rat) : zD (ratD r) = decide (r = 0) := by
  rcases isI r with ⟨h1, e1⟩ | ⟨h1, e1⟩
  · rw [e1]
    exact decide_eq_decide.mpr Rat.num_eq_zero
  · rw [e1]
    exact (decide_eq_false fun z => h1 (by rw [z]; rfl)).symm
theorem ok2i (a b : Int) : okEq (.tup [.int a, .int b]) = true := by
  simp [okEq, pyD, pyDs, SeqAt.shaped, PyData.canLay0, PyData.canLayAll0, PyData.depth, PyData.depthAll]
theorem rat0 (r : Rat) : (ratD r = .int 0) ↔ r = 0 := ⟨fun h => ratD_inj (h.trans (ratD_int 0).symm), fun h => by rw [h]; exact ratD_int 0⟩
theorem gEq_rat0 (r : Rat) {Q : D → Prop} (q : Q (.bl (decide (r = 0)))) : gEq (ratD r) (.int 0) Q := by
  rcases isI r with ⟨h1, e1⟩ | ⟨h1, e1⟩
  · rw [e1]
    have e : decide (r = 0) = decide (r.num = 0) := decide_eq_decide.mpr Rat.num_eq_zero.symm
    rw [e] at q
    exact q
  · rw [e1]
    refine ⟨ok2i _ _, rfl, ?_⟩
    have e : decide (r = 0) = false := decide_eq_false fun z => h1 (by rw [z]; rfl)
    rw [e] at q
    exact q
theorem RowR.z {d : D} {rs : List Rat} (h : RowR d rs) : itemsZ? d = some (rs.map ratD) := by
  rcases h with rfl | rfl <;> rfl
theorem for_invG {g : G3} {body : RS} {N : En3} (I : List D → Env3 → Prop)
    (hstep : ∀ d ds ρ (K : Env3 → Prop), I (d :: ds) ρ → (∀ ρ', I ds ρ' → K ρ') → g d ρ (fun ρ' => body { N with nx := K, ct := K, bk := N.nx } ρ'))
    (hend : ∀ ρ, I [] ρ → N.nx ρ) : ∀ (ds : List D) (ρ : Env3), I ds ρ → forL g body N ds ρ
  | [], ρ, h => hend ρ h
  | d :: ds, ρ, h => hstep d ds ρ _ h fun ρ' h' => for_invG I hstep hend ds ρ' h'
/-- what the loops of dot keep: t / b, of k products -/
structure DotI (β k : Nat) (t b : Int) (acc : Rat) : Prop where
  pos : 0 < b
  val : Rat.divInt t b = acc
  hb : b.natAbs < 2 ^ (2 * β * k + 1)
  ht : t.natAbs < 2 ^ (2 * β * k + k + 1)
theorem dotI_0 {β : Nat} : DotI β 0 0 1 0 := ⟨by decide, by simp, by simp, by simp⟩
theorem pow_mono2 {a m n : Nat} (h : a < 2 ^ m) (hm : m ≤ n) : a < 2 ^ n := Nat.lt_of_lt_of_le h (Nat.pow_le_pow_right (by decide) hm)
theorem add_sz {a b : Int} {m n : Nat} (ha : a.natAbs < 2 ^ m) (hb : b.natAbs < 2 ^ n) : (a + b).natAbs < 2 ^ (max m n + 1) := intBits_le_iff.mp (intBits_add_le (intBits_le_iff.mpr ha) (intBits_le_iff.mpr hb))
theorem DotI.skip {β k : Nat} {t b : Int} {acc : Rat} (h : DotI β k t b acc) (p : Rat) (hp : p = 0) : DotI β (k + 1) t b (acc + p) := ⟨h.pos, by rw [hp, Rat.add_zero]; exact h.val, pow_mono2 h.hb (by rw [Nat.mul_succ]; omega), pow_mono2 h.ht (by rw [Nat.mul_succ]; omega)⟩
theorem divInt_same (t u b : Int) (hb : b ≠ 0) : Rat.divInt t b + Rat.divInt u b = Rat.divInt (t + u) b := by
  rw [Rat.divInt_add_divInt _ _ hb hb, ← Int.add_mul, Rat.divInt_mul_right hb]
theorem DotI.same {β k : Nat} {t b : Int} {acc : Rat} (h : DotI β k t b acc) {r s : Rat} (hr : Sz β r) (hs : Sz β s) (e : ((r.den : Nat) : Int) * (s.den : Nat) = b) : DotI β (k + 1) (t + r.num * s.num) b (acc + r * s) := by
  refine ⟨h.pos, ?_, pow_mono2 h.hb (by rw [Nat.mul_succ]; omega), ?_⟩
  · rw [← divInt_same _ _ _ (by have := h.pos; omega), h.val, ← e, rat_mul]
  · refine pow_mono2 (add_sz h.ht (mul_sz hr.n hs.n)) ?_
    rw [Nat.mul_succ]
    have : β + β = 2 * β := by omega
    rw [this]
    generalize 2 * β * k = A
    generalize 2 * β = B
    omega
theorem DotI.cross {β k : Nat} {t b : Int} {acc : Rat} (h : DotI β k t b acc) {r s : Rat} (hr : Sz β r) (hs : Sz β s) : DotI β (k + 1) (t * ((r.den : Nat) * (s.den : Nat)) + r.num * s.num * b) (b * ((r.den : Nat) * (s.den : Nat))) (acc + r * s) := by
  have hl : ((r.den : Nat) : Int) * (s.den : Nat) ≠ 0 := Int.mul_ne_zero (den_ne r) (den_ne s)
  have lsz := mul_sz hr.d hs.d
  refine ⟨Int.mul_pos h.pos (Int.mul_pos (den_pos r) (den_pos s)), ?_, ?_, ?_⟩
  · rw [← Rat.divInt_add_divInt _ _ (by have := h.pos; omega) hl, h.val, rat_mul]
  · refine pow_mono2 (mul_sz h.hb lsz) ?_
    rw [Nat.mul_succ]
    omega
  · refine pow_mono2 (add_sz (mul_sz h.ht lsz) (mul_sz (mul_sz hr.n hs.n) h.hb)) ?_
    rw [Nat.mul_succ]
    have : β + β = 2 * β := by omega
    rw [this]
    generalize 2 * β * k = A
    generalize 2 * β = B
    omega
theorem DotI.den {β k n : Nat} {t b : Int} {acc : Rat} (h : DotI β k t b acc) (hk : k ≤ n) (hn : 2 * β * n ≤ 7990) : b.natAbs < 2 ^ 8000 := pow_mono2 h.hb (by have := Nat.mul_le_mul_left (2 * β) hk; omega)
theorem sq_cs {d : D} (h : plD d = true) : (∃ xs, (d = .tup xs ∨ d = .lst xs) ∧ xs.length ≤ 65536 ∧ ∀ x ∈ xs, plD x = true) ∨ isLstD d = false := by
  cases d with
  | tup xs => exact .inl ⟨xs, .inl rfl, plD_tup h⟩
  | lst xs => exact .inl ⟨xs, .inr rfl, plD_lst h⟩
  | scr _ => cases h
  | _ => exact .inr rfl
theorem intsOf_map : ∀ js : List Int, intsOf (js.map D.int) = some js
  | [] => rfl
  | j :: js => by
    show (intsOf (js.map D.int)).map (j :: ·) = _
    rw [intsOf_map js]
    rfl
theorem gIn_of {w : Int} {js : List Int} {Q : D → Prop} (h : Q (.bl (decide (w ∈ js)))) : gIn (.int w) (.tup (js.map D.int)) Q := by
  show (match intsOf (js.map D.int) with | some js => _ | none => False)
  rw [intsOf_map]
  exact h
end L3
namespace L3
open PySem PySem.Spec L2
open PyProof.Rows hiding St
section
variable {B : Bs} {X : Cx} {W : WX} {a b c e tg : Expr} {es rest : List Expr} {ra rb rc re : RE} {rt t1 : RT} {rs ri ri1 : RA} {g g1 : G3} {pos : Pos}
/-! ### x is not True, x is not False -/
def rNotAny : R2 := fun x y H Q => ∃ b, y = .bl b ∧ Q (.bl (!decide (x = .bl b))) H
theorem op_notAny : OpR X (compareOp .IsNot) rNotAny := fun pins s σ H x y v u Q I rx ry ⟨b, e, q⟩ => by
  subst e
  obtain rfl : u = Value.bool b := ry
  by_cases h : x = .bl b
  · subst h
    obtain rfl : v = Value.bool b := rx
    exact wpAny_isNot_self rfl ⟨.bl false, H, I, rfl, by simpa using  q⟩
  · have hne : v ≠ Value.bool b := fun z => h (by
      subst z
      exact (RelV.inj (x := x) (y := .bl b) rx rfl))
    refine wpAny_isNot_other ?_ hne ⟨.bl true, H, I, rfl, by simpa [h] using q⟩
    cases x with
    | non => obtain rfl : v = Value.none := rx; rfl
    | bl c => obtain rfl : v = Value.bool c := rx; rfl
    | int i => obtain ⟨t, rfl⟩ := (show ∃ t, v = Value.int i t from rx); rfl
    | str z => obtain ⟨t, rfl⟩ := (show ∃ t, v = Value.str z t from rx); rfl
    | byt z => obtain ⟨t, rfl⟩ := (show ∃ t, v = Value.bytes z t from rx); rfl
    | flt z => obtain ⟨t, rfl⟩ := (show ∃ t, v = Value.float z t from rx); rfl
    | ref p => obtain rfl : v = Value.ref p := rx; rfl
    | ty n => obtain rfl : v = Value.type n := rx; rfl
def rIsNotB (b : Bool) (re : RE) : RE := fun ρ Q E => re ρ (fun d => Q (.bl (!isBlD b d))) E
theorem de_isnotB {bv : Bool} {j : Nat} {p : Pos} (h : DE B X W a ra) : DE B X W (.Compare a [.IsNot] [.Constant (.bool bv) j p] pos) (rIsNotB bv ra) := (pe_cmpR op_notAny h pe_bl (nobehind _ (by decide) (by decide))).imp fun σ H Q ⟨F, R, ρ, Q', E', hH, w, q, k⟩ => by
  subst hH
  exact ⟨F, R, ρ, _, E', rfl, w, q, fun v d F' x dj rv q' => ⟨bv, rfl, k.ok _ _ F' x dj (by rw [isBl_rep rv]; exact of_bl _) q'⟩, k.ex⟩
theorem dt_isnotB {bv : Bool} {j : Nat} {p : Pos} (h : DE B X W a ra) : DT B X W (.Compare a [.IsNot] [.Constant (.bool bv) j p] pos) (rTV (rIsNotB bv ra)) := (pt_cmpR op_notAny h pe_bl (nobehind _ (by decide) (by decide))).imp fun σ H Q ⟨F, R, ρ, Q', E', hH, w, q, k⟩ => by
  subst hH
  exact ⟨F, R, ρ, _, E', rfl, w, q, fun v d F' x dj rv q' => ⟨bv, rfl, _, rfl, k.ok _ _ F' x dj (by rw [isBl_rep rv]) q'⟩, k.ex⟩
/-! ### a, b = x, y: one of them a new list -/
def rParLE (i j : Nat) (ra : RA) (rb : RE) : RS := fun N ρ => (i < ρ.length ∧ j < ρ.length) ∧ ra ρ (fun ds => rb ρ (fun e => N.nx ((ρ.set i (.own ds)).set j (.val e))) N.ex) N.ex
def rParEL (i j : Nat) (ra : RE) (rb : RA) : RS := fun N ρ => (i < ρ.length ∧ j < ρ.length) ∧ ra ρ (fun d => rb ρ (fun es => N.nx ((ρ.set i (.val d)).set j (.own es))) N.ex) N.ex
theorem ds_parLE {i j : Nat} {x y : Str} {px py pt pt2 : Pos} {kt k2 : Nat} {r1 : RA} {r2 : RE} (hc : X.calm = true) (hN : X.N.Nodup) (hi : X.N[i]? = some x) (hj : X.N[j]? = some y) (hij : i ≠ j) (hx : X.env.scope.names.lookup x = some .local) (hy : X.env.scope.names.lookup y = some .local) (ha : FE B X W a r1) (hb : DE B X W b r2)
    (hw : swappedStores [.Tuple [.Name x px, .Name y py] kt pt] (.Tuple [a, b] k2 pt2) X.env = pure (some [x, y])) (hs : swapsWithSole [.Tuple [.Name x px, .Name y py] kt pt] (.Tuple [a, b] k2 pt2) pos.line X.env = pure false := by rfl) (h1 : starEach [a, b] X.env = (false, eval a X.env) :: starEach [b] X.env := by rfl) (h2 : starEach [b] X.env = (false, eval b X.env) :: starEach [] X.env := by rfl) :
    DS B X W (.Assign [.Tuple [.Name x px, .Name y py] kt pt] (.Tuple [a, b] k2 pt2) pos) (rParLE i j r1 r2) := (ps_par hc hN hi hj hij hx hy (pa_cons ha (pa_cons hb pa_nil h2) h1) hw hs).imp fun D σ H ⟨F, R, ρ, N, hH, w, ⟨⟨li, lj⟩, q⟩, k⟩ => by
  subst hH
  refine ⟨F, R, ρ, _, _, rfl, w, q, fun p vs ds F1 x1 dj1 rv _ q1 hp => ?_, fun x cls od F' e dj rx q' => k.ex x cls od σ F' R ρ (w.ext e dj) rx q'⟩
  have np := jn_none hp
  rw [jn_updR np.1]
  have djp : Dj F1 (upd R p (.lst vs)) := dj1.updR np.1
  refine ⟨F1, upd R p (.lst vs), ρ, _, N.ex, rfl, (w.ext x1 dj1).inn np.2 djp, q1, fun u e F2 x2 dj2 ru q2 => ?_, fun x cls od F' e dj rx q' => ?_⟩
  · obtain ⟨n2, d2⟩ := dj_down np.2 dj2
    refine ⟨.ref p, u, rfl, ?_⟩
    have w1 := (w.ext (x1.trans x2) d2).setN (Reps.ext x2 _ _ rv) (p := p) (by rw [jn_r n2]; exact np.2) i li
    have w2 := w1.setV ru j
    exact k.nx _ F2 _ _ w2 q2
  · obtain ⟨n2, d2⟩ := dj_down np.2 dj
    exact k.ex x cls od σ F' _ ρ ((w.ext (x1.trans e) d2).inn np.2 dj) rx q'
theorem ds_parEL {i j : Nat} {x y : Str} {px py pt pt2 : Pos} {kt k2 : Nat} {r1 : RE} {r2 : RA} (hc : X.calm = true) (hN : X.N.Nodup) (hi : X.N[i]? = some x) (hj : X.N[j]? = some y) (hij : i ≠ j) (hx : X.env.scope.names.lookup x = some .local) (hy : X.env.scope.names.lookup y = some .local) (ha : DE B X W a r1) (hb : FE B X W b r2)
    (hw : swappedStores [.Tuple [.Name x px, .Name y py] kt pt] (.Tuple [a, b] k2 pt2) X.env = pure (some [x, y])) (hs : swapsWithSole [.Tuple [.Name x px, .Name y py] kt pt] (.Tuple [a, b] k2 pt2) pos.line X.env = pure false := by rfl) (h1 : starEach [a, b] X.env = (false, eval a X.env) :: starEach [b] X.env := by rfl) (h2 : starEach [b] X.env = (false, eval b X.env) :: starEach [] X.env := by rfl) :
    DS B X W (.Assign [.Tuple [.Name x px, .Name y py] kt pt] (.Tuple [a, b] k2 pt2) pos) (rParEL i j r1 r2) := (ps_par hc hN hi hj hij hx hy (pa_cons ha (pa_cons hb pa_nil h2) h1) hw hs).imp fun D σ H ⟨F, R, ρ, N, hH, w, ⟨⟨li, lj⟩, q⟩, k⟩ => by
  subst hH
  refine ⟨F, R, ρ, _, _, rfl, w, q, fun v d F1 x1 dj1 rv q1 => ?_, fun x cls od F' e dj rx q' => k.ex x cls od σ F' R ρ (w.ext e dj) rx q'⟩
  refine ⟨F1, R, ρ, _, N.ex, rfl, w.ext x1 dj1, q1, fun p2 us es F2 x2 dj2 ru _ q2 hp2 => ?_, fun x cls od F' e dj rx q' => k.ex x cls od σ F' R ρ (w.ext (x1.trans e) dj) rx q'⟩
  have np2 := jn_none hp2
  refine ⟨v, .ref p2, rfl, ?_⟩
  have w1 := (w.ext (x1.trans x2) dj2).setV (Rep.ext x2 _ _ rv) i
  have w2 := w1.setN ru (p := p2) hp2 j (by rw [List.length_set]; exact lj)
  rw [jn_updR np2.1]
  exact k.nx _ F2 _ _ w2 q2
/-! ### min, max, sum of a list of ints -/
def gMinL : GC := fun ds Q => match ds with
  | [.lst xs] => match intsOf xs with
    | some js => 0 < js.length ∧ ∀ m ∈ js, (∀ y ∈ js, m ≤ y) → Q (.int m)
    | none => False
  | _ => False
def gMaxL : GC := fun ds Q => match ds with
  | [.lst xs] => match intsOf xs with
    | some js => 0 < js.length ∧ ∀ m ∈ js, (∀ y ∈ js, y ≤ m) → Q (.int m)
    | none => False
  | _ => False
def gSumL : GC := fun ds Q => match ds with
  | [.lst xs] => match intsOf xs with
    | some js => Q (.int js.sum)
    | none => False
  | _ => False
theorem lst_ints {K : KC} {F : Hp} {vs : List V} {xs : List D} {js : List Int} (rd : Reps K F vs [.lst xs]) (hj : intsOf xs = some js) : ∃ a, vs = [.ref a] ∧ F a = some (.lst (js.map V.int)) := by
  have ej := intsOf_eq hj
  subst ej
  obtain ⟨v, rfl, h⟩ := reps_one rd
  obtain ⟨a, ws, rfl, ha, ra⟩ := rep_lst h
  exact ⟨a, rfl, by rw [ha, reps_intv ra]⟩
theorem cr_minL (hc : X.calm = true) {T : List (Addr × Str)} : CallR X (.builtin "min") (lC (kc T X) gMinL) := fun pins s σ H xs us Q I r ⟨F, R, ds, Q', hH, dj, rd, g, k⟩ => by
  subst hH
  unfold gMinL at g
  split at g
  · split at g
    · rename_i js hj
      obtain ⟨a, rfl, ha⟩ := lst_ints rd hj
      exact cr_min hc pins s σ _ _ us Q I r ⟨a, js, rfl, sq_l (K := kc T X) ha, g.1, fun m hm hle => k.now dj (of_int _) (g.2 m hm hle)⟩
    · exact g.elim
  · exact g.elim
theorem cr_maxL (hc : X.calm = true) {T : List (Addr × Str)} : CallR X (.builtin "max") (lC (kc T X) gMaxL) := fun pins s σ H xs us Q I r ⟨F, R, ds, Q', hH, dj, rd, g, k⟩ => by
  subst hH
  unfold gMaxL at g
  split at g
  · split at g
    · rename_i js hj
      obtain ⟨a, rfl, ha⟩ := lst_ints rd hj
      exact cr_max hc pins s σ _ _ us Q I r ⟨a, js, rfl, sq_l (K := kc T X) ha, g.1, fun m hm hle => k.now dj (of_int _) (g.2 m hm hle)⟩
    · exact g.elim
  · exact g.elim
theorem cr_sumL (hc : X.calm = true) {T : List (Addr × Str)} : CallR X (.builtin "sum") (lC (kc T X) gSumL) := fun pins s σ H xs us Q I r ⟨F, R, ds, Q', hH, dj, rd, g, k⟩ => by
  subst hH
  unfold gSumL at g
  split at g
  · split at g
    · rename_i js hj
      obtain ⟨a, rfl, ha⟩ := lst_ints rd hj
      exact cr_sum hc pins s σ _ _ us Q I r ⟨a, js, rfl, sq_l (K := kc T X) ha, k.now dj (of_int _) g⟩
    · exact g.elim
  · exact g.elim
end
/-! ### list comprehensions over pairs -/
theorem compG_fm {g : G3} {t : RT} {re : RE} {vs : List Nat} {ρ : Env3} {Q : List D → Prop} {p : D → Bool} {f : D → D} : ∀ (ds acc : List D),
    (∀ d ∈ ds, ∀ (K : Env3 → Prop), (∀ ρ', (∀ (K : Bool → Prop), K (p d) → t ρ' K fun _ => False) → (p d = true → ∀ (K : D → Prop), K (f d) → re ρ' K fun _ => False) → K ρ') → g d (wipe3 ρ vs) K) →
    Q (acc ++ (ds.filter p).map f) → compL g t re vs ρ Q ds acc
  | [], acc, _, q => by simpa [compL] using q
  | d :: ds, acc, h, q => by
    refine h d (by simp) _ fun ρ' h1 h2 => h1 _ ?_
    cases e : p d with
    | true =>
      refine h2 e _ ?_
      refine compG_fm ds _ (fun x hx => h x (by simp [hx])) ?_
      rw [List.filter_cons_of_pos e] at q
      simpa using q
    | false =>
      refine compG_fm ds _ (fun x hx => h x (by simp [hx])) ?_
      rw [List.filter_cons_of_neg (by simp [e])] at q
      exact q
/-- for x, y in zip(..): the two names at i and j -/
theorem compZip {i j : Nat} {re : RE} {vs : List Nat} {ρ : Env3} {Q : List D → Prop} {f : D → D → D} (xs ys : List D)
    (h : ∀ x y, (x, y) ∈ xs.zip ys → ∀ (K : D → Prop), K (f x y) → re (((wipe3 ρ vs).set i (.val x)).set j (.val y)) K fun _ => False)
    (q : Q ((xs.zip ys).map fun p => f p.1 p.2)) : compL (g3Tup 2 (g3Cons (g3N i) (g3Cons (g3N j) g3Nil))) (rC true) re vs ρ Q (zipD xs ys) [] := by
  refine compG_fm (p := fun _ => true) (f := fun d => match d with | .tup [x, y] => f x y | _ => .non) _ [] (fun d hd K k => ?_) ?_
  · obtain ⟨⟨x, y⟩, hxy, rfl⟩ := List.mem_map.mp hd
    exact ⟨rfl, k _ (fun K kk => kk) fun _ K kk => h x y hxy K kk⟩
  · rw [List.nil_append, List.filter_eq_self.mpr (by simp)]
    unfold zipD
    rw [List.map_map]
    exact q
end L3
namespace L3
open PySem PySem.Spec L2
open PyProof.Rows hiding St
/-! ### comprehensions over things of which the data tells -/
theorem compG_g {γ : Type} {g : G3} {t : RT} {re : RE} {vs : List Nat} {ρ : Env3} {Q : List D → Prop} {w : γ → D} {p : γ → Bool} {f : γ → D} : ∀ (cs : List γ) (acc : List D),
    (∀ c ∈ cs, ∀ (K : Env3 → Prop), (∀ ρ', (∀ (K : Bool → Prop), K (p c) → t ρ' K fun _ => False) → (p c = true → ∀ (K : D → Prop), K (f c) → re ρ' K fun _ => False) → K ρ') → g (w c) (wipe3 ρ vs) K) →
    Q (acc ++ (cs.filter p).map f) → compL g t re vs ρ Q (cs.map w) acc
  | [], acc, _, q => by simpa [compL] using q
  | c :: cs, acc, h, q => by
    refine h c (by simp) _ fun ρ' h1 h2 => h1 _ ?_
    cases e : p c with
    | true =>
      refine h2 e _ ?_
      refine compG_g cs _ (fun x hx => h x (by simp [hx])) ?_
      rw [List.filter_cons_of_pos e] at q
      simpa using q
    | false =>
      refine compG_g cs _ (fun x hx => h x (by simp [hx])) ?_
      rw [List.filter_cons_of_neg (by simp [e])] at q
      exact q
theorem zipD_map {α β : Type} (u : α → D) (v : β → D) (xs : List α) (ys : List β) : zipD (xs.map u) (ys.map v) = (xs.zip ys).map fun p => .tup [u p.1, v p.2] := by
  unfold zipD
  rw [List.zip_map, List.map_map]
  rfl
/-- [.. for x, y in zip(..)] -/
theorem compZ2 {α β : Type} {u : α → D} {v : β → D} {f : α → β → D} {i j : Nat} {re : RE} {vs : List Nat} {ρ : Env3} {Q : List D → Prop} (xs : List α) (ys : List β)
    (h : ∀ x y, (x, y) ∈ xs.zip ys → ∀ (K : D → Prop), K (f x y) → re (((wipe3 ρ vs).set i (.val (u x))).set j (.val (v y))) K fun _ => False)
    (q : Q ((xs.zip ys).map fun p => f p.1 p.2)) : compL (g3Tup 2 (g3Cons (g3N i) (g3Cons (g3N j) g3Nil))) (rC true) re vs ρ Q (zipD (xs.map u) (ys.map v)) [] := by
  rw [zipD_map]
  refine compG_g (p := fun _ => true) (f := fun p => f p.1 p.2) _ [] (fun c hc K k => ⟨rfl, k _ (fun K kk => kk) fun _ K kk => h c.1 c.2 hc K kk⟩) ?_
  rw [List.nil_append, List.filter_eq_self.mpr (by simp)]
  exact q
theorem compM {α : Type} {u : α → D} {f : α → D} {i : Nat} {re : RE} {vs : List Nat} {ρ : Env3} {Q : List D → Prop} (xs : List α)
    (h : ∀ x ∈ xs, ∀ (K : D → Prop), K (f x) → re ((wipe3 ρ vs).set i (.val (u x))) K fun _ => False) (q : Q (xs.map f)) : compL (g3N i) (rC true) re vs ρ Q (xs.map u) [] := by
  refine compG_g (p := fun _ => true) (f := f) _ [] (fun c hc K k => k _ (fun K kk => kk) fun _ K kk => h c hc K kk) ?_
  rw [List.nil_append, List.filter_eq_self.mpr (by simp)]
  exact q
/-- [.. for k in range(n) if ..] -/
theorem compN {f : Nat → D} {p : Nat → Bool} {i : Nat} {t : RT} {re : RE} {vs : List Nat} {ρ : Env3} {Q : List D → Prop} (n : Nat)
    (h : ∀ k, k < n → (∀ (K : Bool → Prop), K (p k) → t ((wipe3 ρ vs).set i (.val (.int (0 + (k : Nat))))) K fun _ => False) ∧ (p k = true → ∀ (K : D → Prop), K (f k) → re ((wipe3 ρ vs).set i (.val (.int (0 + (k : Nat))))) K fun _ => False))
    (q : Q (((List.range n).filter p).map f)) : compL (g3N i) t re vs ρ Q (rangeD 0 n) [] :=
  compG_g (w := fun k : Nat => .int (0 + (k : Nat))) (p := p) (f := f) _ [] (fun c hc K k => k _ (h c (List.mem_range.mp hc)).1 (h c (List.mem_range.mp hc)).2) (by rw [List.nil_append]; exact q)
theorem compN1 {f : Nat → D} {i : Nat} {re : RE} {vs : List Nat} {ρ : Env3} {Q : List D → Prop} (n : Nat)
    (h : ∀ k, k < n → ∀ (K : D → Prop), K (f k) → re ((wipe3 ρ vs).set i (.val (.int (0 + (k : Nat))))) K fun _ => False)
    (q : Q ((List.range n).map f)) : compL (g3N i) (rC true) re vs ρ Q (rangeD 0 n) [] :=
  compN (p := fun _ => true) n (fun k hk => ⟨fun K kk => kk, fun _ => h k hk⟩) (by rw [List.filter_eq_self.mpr (by simp)]; exact q)
theorem allBl_of {α : Type} (p : α → Bool) : ∀ l : List α, allBl (l.map fun a => D.bl (p a)) = some (l.map p)
  | [] => rfl
  | a :: l => by
    show (match blOf (D.bl (p a)), allBl (l.map fun a => D.bl (p a)) with | some b, some bs => some (b :: bs) | _, _ => none) = _
    rw [allBl_of p l]
    rfl
theorem gAll_of {α : Type} {p : α → Bool} {l : List α} {Q : D → Prop} (h : Q (.bl (l.all p))) : gAll [.lst (l.map fun a => D.bl (p a))] Q := by
  show (match allBl (l.map fun a => D.bl (p a)) with | some bs => Q (.bl (bs.all id)) | none => False)
  rw [allBl_of]
  show Q (.bl ((l.map p).all id))
  rw [List.all_map]
  exact h
theorem at0 {xs : List D} {k : Nat} {d : D} (h : xs[k]? = some d) : atI xs (0 + (k : Nat)) = some d := by rw [Int.zero_add]; exact atJ_nat h
/-! ### rows, bundles, frames of ratios -/
def rowQ (r : List Rat) : D := .tup (r.map ratD)
def bunQ (b : List (List Rat)) : D := .tup (b.map rowQ)
def rowsQ (R : List (List (List Rat))) : D := .tup (R.map bunQ)
theorem Sz.add {m n : Nat} {r s : Rat} (hr : Sz m r) (hs : Sz n s) : Sz (m + n + 1) (r + s) := by
  rw [← rat_add]
  have h0 : ((r.den : Nat) : Int) * (s.den : Nat) ≠ 0 := Int.mul_ne_zero (den_ne r) (den_ne s)
  constructor
  · refine Nat.lt_of_le_of_lt (divInt_num_le _ _) (pow_mono2' (add_sz' (mul_sz hr.n hs.d) (mul_sz hs.n hr.d)) ?_)
    omega
  · refine Nat.lt_of_le_of_lt (divInt_den_le h0) (pow_mono2' (mul_sz hr.d hs.d) ?_)
    omega
where
  pow_mono2' {a m n : Nat} (h : a < 2 ^ m) (hm : m ≤ n) : a < 2 ^ n := Nat.lt_of_lt_of_le h (Nat.pow_le_pow_right (by decide) hm)
  add_sz' {a b : Int} {m n : Nat} (ha : a.natAbs < 2 ^ m) (hb : b.natAbs < 2 ^ n) : (a + b).natAbs < 2 ^ (max m n + 1) := intBits_le_iff.mp (intBits_add_le (intBits_le_iff.mpr ha) (intBits_le_iff.mpr hb))
theorem Sz.mul {m n : Nat} {r s : Rat} (hr : Sz m r) (hs : Sz n s) : Sz (m + n) (r * s) := by
  rw [← rat_mul]
  have h0 : ((r.den : Nat) : Int) * (s.den : Nat) ≠ 0 := Int.mul_ne_zero (den_ne r) (den_ne s)
  exact ⟨Nat.lt_of_le_of_lt (divInt_num_le _ _) (mul_sz hr.n hs.n), Nat.lt_of_le_of_lt (divInt_den_le h0) (mul_sz hr.d hs.d)⟩
theorem Sz.zero : Sz 1 (0 : Rat) := ⟨by decide, by decide⟩
theorem dot_sz {β : Nat} : ∀ (rs ss : List Rat), (∀ r ∈ rs, Sz β r) → (∀ s ∈ ss, Sz β s) → Sz (rs.length * (2 * β + 1) + 1) (dotR rs ss)
  | [], ss, _, _ => by
    show Sz _ 0
    exact Sz.zero.mono (by simp)
  | r :: rs, [], _, _ => by
    show Sz _ 0
    exact Sz.zero.mono (by omega)
  | r :: rs, s :: ss, hr, hs => by
    show Sz _ (r * s + dotR rs ss)
    refine ((hr r (by simp)).mul (hs s (by simp))).add (dot_sz rs ss (fun x h => hr x (by simp [h])) fun x h => hs x (by simp [h])) |>.mono ?_
    rw [List.length_cons, Nat.add_mul, Nat.one_mul]
    omega
theorem row_all (r : List Rat) : (r.map ratD).all isRatD = true := List.all_eq_true.mpr fun x hx => by
  obtain ⟨q, _, rfl⟩ := List.mem_map.mp hx
  exact isRatD_rat q
theorem isRow_q (r : List Rat) (m : Int) : isRowD (rowQ r) m = decide ((r.length : Int) = m) := by
  have e : isRowD (rowQ r) m = (true && (decide (((r.map ratD).length : Int) = m) && (r.map ratD).all isRatD)) := rfl
  rw [e, row_all, List.length_map, Bool.true_and, Bool.and_true]
theorem row_pl {r : List Rat} (h : r.length ≤ 65536) : plD (rowQ r) = true := plD_mkt (by rw [List.length_map]; exact h) fun x hx => by
  obtain ⟨q, _, rfl⟩ := List.mem_map.mp hx
  exact ratD_pl q
theorem bun_pl {b : List (List Rat)} (h : b.length ≤ 65536) (h2 : ∀ r ∈ b, r.length ≤ 65536) : plD (bunQ b) = true := plD_mkt (by rw [List.length_map]; exact h) fun x hx => by
  obtain ⟨q, hq, rfl⟩ := List.mem_map.mp hx
  exact row_pl (h2 q hq)
theorem tup_rat (r : Rat) : tupD (ratD r) = ratD r ∧ dpD (ratD r) ≤ 1 := by
  rcases isI r with ⟨_, e⟩ | ⟨_, e⟩ <;> rw [e]
  · exact ⟨rfl, Nat.zero_le _⟩
  · exact ⟨rfl, Nat.le_refl _⟩
theorem dpDs_le' {xs : List D} {n : Nat} (h : ∀ x ∈ xs, dpD x ≤ n) : dpDs xs ≤ n := by
  induction xs with
  | nil => exact Nat.zero_le _
  | cons x xs ih =>
    unfold dpDs
    exact Nat.max_le.mpr ⟨h x (by simp), ih fun y hy => h y (by simp [hy])⟩
theorem tup_map {xs : List D} {n : Nat} (h : ∀ x ∈ xs, tupD x = x ∧ dpD x ≤ n) : tupD (.tup xs) = .tup xs ∧ dpD (.tup xs) ≤ n + 1 := by
  constructor
  · unfold tupD
    rw [tupDs_map]
    exact congrArg D.tup ((List.map_congr_left fun x hx => (h x hx).1).trans (List.map_id _))
  · unfold dpD
    exact Nat.succ_le_succ (dpDs_le' fun x hx => (h x hx).2)
theorem tup_row (r : List Rat) : tupD (rowQ r) = rowQ r ∧ dpD (rowQ r) ≤ 2 := tup_map fun x hx => by
  obtain ⟨q, _, rfl⟩ := List.mem_map.mp hx
  exact tup_rat q
theorem tup_bun (b : List (List Rat)) : tupD (bunQ b) = bunQ b ∧ dpD (bunQ b) ≤ 3 := tup_map fun x hx => by
  obtain ⟨q, _, rfl⟩ := List.mem_map.mp hx
  exact tup_row q
theorem tup_rows (R : List (List (List Rat))) : tupD (rowsQ R) = rowsQ R ∧ dpD (rowsQ R) ≤ 4 := tup_map fun x hx => by
  obtain ⟨q, _, rfl⟩ := List.mem_map.mp hx
  exact tup_bun q
/-- the slacks of a load at a standing -/
def slQ (R : List (List (List Rat))) (L : List (List Rat)) (ss : List Rat) : List (List Rat) := (R.zip L).map fun p => (p.1.zip p.2).map fun q => dotR q.1 ss + q.2
/-- the least slack of each place is 0 -/
def ansQ (S : List (List Rat)) : Bool := S.all fun t => t.all (fun x => decide (0 ≤ x.num)) && t.any (fun x => decide (x = 0))
end L3
namespace L3
open PySem PySem.Spec L2
open PyProof.Rows hiding St
/-! ### zip of three, lists or tuples in any mix -/
def ItzH (K : PySem.W.Frag) (k1 k2 k3 : ZK) (a b c : Addr) : It :=
  ⟨fun i H => ∃ (xs ys zs : List V) (x y z : V), k1.sq K H a xs ∧ k2.sq K H b ys ∧ k3.sq K H c zs ∧ xs[i]? = some x ∧ ys[i]? = some y ∧ zs[i]? = some z,
    fun i H v H' => ∃ T x y z, v = .ref T ∧ H T = none ∧ H' = upd H T (.tup [x, y, z]) ∧ (∀ xs, k1.sq K H a xs → xs[i]? = some x) ∧ (∀ ys, k2.sq K H b ys → ys[i]? = some y) ∧ ∀ zs, k3.sq K H c zs → zs[i]? = some z,
    fun i H => ∃ xs ys zs : List V, k1.sq K H a xs ∧ k2.sq K H b ys ∧ k3.sq K H c zs ∧ i ≤ xs.length ∧ i ≤ ys.length ∧ i ≤ zs.length ∧ (xs.length ≤ i ∨ ys.length ≤ i ∨ zs.length ≤ i)⟩
structure ZipH (z TI TO i1 i2 i3 a b c : Addr) : Prop where
  S : ZipSep3 z TI TO i1 i2 i3 [i1, a] [i2, b] [i3, c]
  a1 : a ≠ i1
  b2 : b ≠ i2
  c3 : c ≠ i3
theorem turn_zipH {P : Program} {w : World} {K : PySem.W.Frag} {elts : List Expr} {kk : Nat} {tpos : Pos} {k1 k2 k3 : ZK} {a b d z TI TO i1 i2 i3 : Addr} (D : ZipH z TI TO i1 i2 i3 a b d) :
    Turn P w K (.Tuple elts kk tpos) (ItzH K k1 k2 k3 a b d) [z, TI, TO, i1, i2, i3] z (fun i h => IsZip h z TI TO .none ∧ IsTupOf3 h TI (.ref i1) (.ref i2) (.ref i3) ∧ (∃ x y u, IsTupOf3 h TO x y u) ∧ k1.it h i1 a i ∧ k2.it h i2 b i ∧ k3.it h i3 d i) where
  mem := by simp
  obj := fun i h st c hc => by
    obtain ⟨hz, hTI, ⟨x, y, u, hTO⟩, h1, h2, h3⟩ := st
    have e' : c = z ∨ c = TI ∨ c = TO ∨ c = i1 ∨ c = i2 ∨ c = i3 := by simpa using hc
    rcases e' with q | q | q | q | q | q
    · rw [q]; exact ⟨_, hz, fun v q => nomatch  q⟩
    · rw [q]; exact ⟨_, hTI, fun v q => nomatch  q⟩
    · rw [q]; exact ⟨_, hTO, fun v q => nomatch  q⟩
    · rw [q]; exact ZK.obj h1
    · rw [q]; exact ZK.obj h2
    · rw [q]; exact ZK.obj h3
  keep := fun i h h' st k => by
    obtain ⟨hz, hTI, ⟨x, y, u, hTO⟩, h1, h2, h3⟩ := st
    exact ⟨k z (by simp) _ hz, k TI (by simp) _ hTI, ⟨x, y, u, k TO (by simp) _ hTO⟩, ZK.at h1 fun o q => k i1 (by simp) o q, ZK.at h2 fun o q => k i2 (by simp) o q, ZK.at h3 fun o q => k i3 (by simp) o q⟩
  item := by
    intro X hP hw hK hc i pins s σ H E I hf st  hg
    subst hP hw hK
    obtain ⟨hz, hTI, ⟨x0, y0, z0, hTO⟩, h1, h2, h3⟩ := st
    obtain ⟨xs, ys, zs, x, y, v, hqx, hqy, hqz, hx, hy, hv⟩ := hg
    obtain ⟨its, rv, p⟩ := ZK.inv I hqx
    obtain ⟨its2, rv2, p2⟩ := ZK.inv I hqy
    obtain ⟨its3, rv3, p3⟩ := ZK.inv I hqz
    obtain ⟨u, hu, ru⟩ := rv.get  hx
    obtain ⟨u2, hu2, ru2⟩ := rv2.get  hy
    obtain ⟨u3, hu3, ru3⟩ := rv3.get hv
    have hzl : z < s.heap.objs.size := Heap.lt_size  hz
    have hh : X.A.in1.handled = none := I.ok.hd hc
    refine wpAny_pyNext_zipD3_item D.S (k1.draws hh i1 a D.a1 its.toArray) (k2.draws hh i2 b D.b2 its2.toArray) (k3.draws hh i3 d D.c3 its3.toArray) hz hTI hTO ⟨h1, p⟩ ⟨h2, p2⟩ ⟨h3, p3⟩ (by simpa using (List.getElem?_eq_some_iff.mp hu).1) (by simpa using (List.getElem?_eq_some_iff.mp hu2).1) (by simpa using (List.getElem?_eq_some_iff.mp hu3).1) fun w1 w2 w3 h' tk e1 e2 e3 z' TO' n1 n2 n3 hT hsz hk => ?_
    have e1 : w1 = u := by
      rw [List.getElem?_toArray, hu] at e1
      exact (Option.some.inj e1).symm
    have e2 : w2 = u2 := by
      rw [List.getElem?_toArray, hu2] at e2
      exact (Option.some.inj e2).symm
    have e3 : w3 = u3 := by
      rw [List.getElem?_toArray, hu3] at e3
      exact (Option.some.inj e3).symm
    subst e1 e2 e3
    refine ⟨_, rfl, wpAny_letOwnedTupleGo_zip (s := { s with heap := h', toks := tk }) z' fun h'' z'' sb => ?_⟩
    have hT2 : h''.get? s.heap.objs.size = some { cls := .type "tuple", data := .seq #[w1, w2, w3] } := (sb.2 _ (Nat.ne_of_gt hzl)).trans hT
    have new : ObjOk X.prog X.w (upd H s.heap.objs.size (.tup [x, y, v])) h'' s.heap.objs.size (.tup [x, y, v]) :=
      ⟨by show 3 ≤ sizeLine; decide, [w1, w2, w3], .cons ru (.cons ru2 (.cons ru3 .nil)), ⟨_, hT2, rfl, _, rfl⟩⟩
    have I1 : Inv X pins σ (upd H s.heap.objs.size (.tup [x, y, v])) { s with heap := h'', toks := tk } :=
      I.turnedNew (t' := tk) (ch := [z, TI, TO, i1, i2, i3]) (fun c o hb q => (sb.2 c (fun q' => hb (by simp [q']))).trans (hk c o (fun q' => hb (by simp [q'])) (fun q' => hb (by simp [q'])) (fun q' => hb (by simp [q'])) (fun q' => hb (by simp [q'])) (fun q' => hb (by simp [q'])) q)) hf (Nat.le_refl _) new
    have S := D.S
    refine ⟨.ref s.heap.objs.size, _, I1, rfl, ⟨_, x, y, v, rfl, I.hok.fresh (Nat.le_refl _), rfl, fun l hl => by rw [ZK.inj I hl hqx]; exact hx, fun l hl => by rw [ZK.inj I hl hqy]; exact hy, fun l hl => by rw [ZK.inj I hl hqz]; exact hv⟩, ⟨z'', ?_, ⟨w1, w2, w3, ?_⟩, ?_, ?_, ?_⟩, fun c hcm => ?_⟩
    · exact (sb.2 _ S.TIz).trans (hk _ _ S.TIz S.TITO S.TIi1 S.TIi2 S.TIi3 hTI)
    · exact (sb.2 _ S.TOz).trans TO'
    · exact ZK.at n1.1 fun o q => (sb.2 _ S.zi1.symm).trans q
    · exact ZK.at n2.1 fun o q => (sb.2 _ S.zi2.symm).trans q
    · exact ZK.at n3.1 fun o q => (sb.2 _ S.zi3.symm).trans q
    · have hlt : c < s.heap.objs.size :=  by
        have e' : c = z ∨ c = TI ∨ c = TO ∨ c = i1 ∨ c = i2 ∨ c = i3 := by simpa using hcm
        rcases e' with q | q | q | q | q | q
        · rw [q]; exact hzl
        · rw [q]; exact Heap.lt_size  hTI
        · rw [q]; exact Heap.lt_size  hTO
        · rw [q]; obtain ⟨_, e1, _⟩ := ZK.obj h1; exact Heap.lt_size e1
        · rw [q]; obtain ⟨_, e2, _⟩ := ZK.obj h2; exact Heap.lt_size e2
        · rw [q]; obtain ⟨_, e3, _⟩ := ZK.obj h3; exact Heap.lt_size e3
      rw [(upd_ne (Nat.ne_of_lt hlt))]
      exact (hf c hcm).1
  done := by
    intro X hP hw hK hc i pins s σ H E I hf st  hg
    subst hP hw hK
    obtain ⟨hz, hTI, ⟨x0, y0, z0, hTO⟩, h1, h2, h3⟩ := st
    obtain ⟨xs, ys, zs, hqx, hqy, hqz, l1, l2, l3, hend⟩ := hg
    obtain ⟨its, rv, p⟩ := ZK.inv I hqx
    obtain ⟨its2, rv2, p2⟩ := ZK.inv I hqy
    obtain ⟨its3, rv3, p3⟩ := ZK.inv I hqz
    have e1 := rv.length
    have e2 := rv2.length
    have e3 := rv3.length
    have hh : X.A.in1.handled = none := I.ok.hd hc
    refine wpAny_pyNext_zipD3_end D.S (k1.draws hh i1 a D.a1 its.toArray) (k2.draws hh i2 b D.b2 its2.toArray) (k3.draws hh i3 d D.c3 its3.toArray) hz hTI hTO ⟨h1, p⟩ ⟨h2, p2⟩ ⟨h3, p3⟩ (by simp; omega) (by simp; omega) (by simp; omega) (by simp; omega) fun h' tk hk => ⟨rfl, I.turnedL (t' := tk) (ch := [z, TI, TO, i1, i2, i3]) (fun c o hb q =>
      hk c o (fun q' => hb (by simp [q'])) (fun q' => hb (by simp [q'])) (fun q' => hb (by simp [q'])) (fun q' => hb (by simp [q'])) (fun q' => hb (by simp [q'])) q) hf⟩
  self := fun A i s Q E st h => wpAny_pyIter_zip st.1  h
def iZipH (K : PySem.W.Frag) (ta : TA) : TI := fun σ H R => ta σ H fun vs H1 => ∃ a b c xs ys zs k1 k2 k3, vs = [.ref a, .ref b, .ref c] ∧ ZK.sq k1 K H1 a xs ∧ ZK.sq k2 K H1 b ys ∧ ZK.sq k3 K H1 c zs ∧ R (ItzH K k1 k2 k3 a b c) H1
theorem pi_zipH {X : Cx} {e e2 e3 : Expr} {ta : TA} {p pos tpos : Pos} {elts : List Expr} {kk : Nat} (hg : Gl X "zip") (hm : X.mg "zip" = none) (ha : PA X [e, e2, e3] ta)
    (hs : starEach [e, e2, e3] X.env = (false, eval e X.env) :: starEach [e2, e3] X.env := by rfl) (hpl : (backTo pos (starEach [e2, e3] X.env)).any (·.1) = false := by rfl) :
    PI X (.Tuple elts kk tpos) (.Call (.Name "zip" p) [e, e2, e3] [] pos) (iZipH X.K ta) := by
  refine ⟨fun pins s σ H R I h =>  ?_⟩
  refine Call_ (ld_blt I hg hm PyProof.Rows.boot_zip (PyProof.Rows.callWith_type1 (thn (ha.run pos pins s σ H _ I h) fun us s1 ⟨vs, H1, I1, r1, q1⟩ => ?_) hs  hpl))
  obtain ⟨a, b, c, xs, ys, zs, k1, k2, k3, ex, hqx, hqy, hqz, q⟩ := q1
  subst ex
  cases r1 with
  | cons r rr =>
    cases rr with
    | cons r' rr =>
      cases rr with
      | cons r'' rr =>
        cases rr
        cases r
        cases r'
        cases r''
        have fresh6 : ∀ c, c ∈ [s1.heap.objs.size + 5, s1.heap.objs.size + 3, s1.heap.objs.size + 4, s1.heap.objs.size, s1.heap.objs.size + 1, s1.heap.objs.size + 2] → FpOk X pins H1 c := fun c hcm => by
          have e' : c = s1.heap.objs.size + 5 ∨ c = s1.heap.objs.size + 3 ∨ c = s1.heap.objs.size + 4 ∨ c = s1.heap.objs.size ∨ c = s1.heap.objs.size + 1 ∨ c = s1.heap.objs.size + 2 := by simpa using hcm
          have hle : s1.heap.objs.size ≤ c :=  by
            rcases e' with z | z | z | z | z | z
            · rw [z]; exact Nat.le_add_right _  _
            · rw [z]; exact Nat.le_add_right _  _
            · rw [z]; exact Nat.le_add_right _  _
            · rw [z]; exact Nat.le_refl _
            · rw [z]; exact Nat.le_add_right _  _
            · rw [z]; exact Nat.le_add_right _  _
          exact I1.fpOk hle (I1.hok.fresh  hle)
        obtain ⟨its, rv, p1⟩ := ZK.inv I1 hqx
        obtain ⟨its2, rv2, p2⟩ := ZK.inv I1 hqy
        obtain ⟨its3, rv3, p3⟩ := ZK.inv I1 hqz
        have la := ZK.lt p1
        have lb := ZK.lt p2
        have lc := ZK.lt p3
        refine zip_begins3 (k1.begins a its.toArray) (k2.begins b its2.toArray) (k3.begins c its3.toArray) p1 p2 p3 fun h' hz hTI hTO h1 h2 h3 hsz hk => wpAny_pyIter_zip hz ?_
        have I2 : Inv X pins σ H1 { s1 with heap := h' } := I1.kept (t' := s1.toks)  hk
        have sep : ZipH (s1.heap.objs.size + 5) (s1.heap.objs.size + 3) (s1.heap.objs.size + 4) s1.heap.objs.size (s1.heap.objs.size + 1) (s1.heap.objs.size + 2) a b c :=
          ⟨zip_sep3 (fp1 := [a]) (fp2 := [b]) (fp3 := [c]) (by simpa using la) (by simpa using lb) (by simpa using lc), Nat.ne_of_lt la, Nat.ne_of_lt (Nat.lt_succ_of_lt lb), Nat.ne_of_lt (Nat.lt_succ_of_lt (Nat.lt_succ_of_lt lc))⟩
        exact ⟨s1.heap.objs.size + 5, [s1.heap.objs.size + 5, s1.heap.objs.size + 3, s1.heap.objs.size + 4, s1.heap.objs.size, s1.heap.objs.size + 1, s1.heap.objs.size + 2], _, _, H1, rfl, I2, turn_zipH sep, ⟨hz, hTI, ⟨_, _, _, hTO⟩, ZK.start h1, ZK.start h2, ZK.start h3⟩, fresh6, q⟩
def zip3D (xs ys zs : List D) : List D := (xs.zip (ys.zip zs)).map fun p => .tup [p.1, p.2.1, p.2.2]
theorem zip3D_length (xs ys zs : List D) : (zip3D xs ys zs).length = min xs.length (min ys.length zs.length) := by
  unfold zip3D
  rw [List.length_map, List.length_zip, List.length_zip]
theorem zip3D_get {xs ys zs : List D} {i : Nat} {x y z : D} (h1 : xs[i]? = some x) (h2 : ys[i]? = some y) (h3 : zs[i]? = some z) : (zip3D xs ys zs)[i]? = some (.tup [x, y, z]) := by
  unfold zip3D
  have e1 : (ys.zip zs)[i]? = some (y, z) := List.getElem?_zip_eq_some.mpr ⟨h2, h3⟩
  have e2 : (xs.zip (ys.zip zs))[i]? = some (x, (y, z)) := List.getElem?_zip_eq_some.mpr ⟨h1, e1⟩
  rw [List.getElem?_map, e2]
  rfl
section
variable {K : KC} {F : Hp}
theorem wk_zip3 {k1 k2 k3 : ZK} {a b c : Addr} {xs ys zs : List V} {ds es fs : List D} (h1 : ∀ F' R, Ext K F F' → Dj F' R → k1.sq K.K (jn F' R) a xs) (h2 : ∀ F' R, Ext K F F' → Dj F' R → k2.sq K.K (jn F' R) b ys) (h3 : ∀ F' R, Ext K F F' → Dj F' R → k3.sq K.K (jn F' R) c zs)
 (r1 : Reps K F xs ds) (r2 : Reps K F ys es) (r3 : Reps K F zs fs) : Wk K (ItzH K.K k1 k2 k3 a b c) (zip3D ds es fs) F where
  go := fun F' R i x dj hl => by
    have l1 := r1.length
    have l2 := r2.length
    have l3 := r3.length
    rw [zip3D_length] at hl
    exact ⟨xs, ys, zs, xs[i]'(by omega), ys[i]'(by omega), zs[i]'(by omega), h1 F' R x dj, h2 F' R x dj, h3 F' R x dj, List.getElem?_eq_getElem _, List.getElem?_eq_getElem _, List.getElem?_eq_getElem _⟩
  stop := fun F' R i x dj hl => by
    have l1 := r1.length
    have l2 := r2.length
    have l3 := r3.length
    rw [zip3D_length] at hl
    exact ⟨xs, ys, zs, h1 F' R x dj, h2 F' R x dj, h3 F' R x dj, by omega, by omega, by omega, by omega⟩
  yld := fun F' R i y H' x dj hl ⟨T, u, v, t, e1, hT, e2, q1, q2, q3⟩ => by
    obtain ⟨d, g1, s1⟩ := r1.getV (q1 xs (h1 F' R x dj))
    obtain ⟨e, g2, s2⟩ := r2.getV (q2 ys (h2 F' R x dj))
    obtain ⟨f, g3, s3⟩ := r3.getV (q3 zs (h3 F' R x dj))
    subst e1 e2
    rw [jn_newF hT]
    refine ⟨_, .tup [d, e, f], rfl, Ext.newF hT, dj.newF hT, zip3D_get g1 g2 g3, ?_⟩
    unfold Rep
    exact ⟨T, [u, v, t], rfl, upd_same, Reps.cons (Rep.ext (x.trans (Ext.newF hT)) _ _ s1) (Reps.cons (Rep.ext (x.trans (Ext.newF hT)) _ _ s2) (Reps.cons (Rep.ext (x.trans (Ext.newF hT)) _ _ s3) Reps.nil))⟩
end
section
variable {B : Bs} {X : Cx} {W : WX} {a b c e tg : Expr} {es rest : List Expr} {rs : RA} {pos tpos : Pos} {elts : List Expr} {kk : Nat}
def rZip3 (rs : RA) : RA := fun ρ Q E => rs ρ (fun ds => match ds with
  | [d, e, f] => match itemsZ? d, itemsZ? e, itemsZ? f with
    | some xs, some ys, some zs => Q (zip3D xs ys zs)
    | _, _, _ => False
  | _ => False) E
theorem di_zip3 {p : Pos} (hg : Gl X "zip") (hm : X.mg "zip" = none) (ha : DA B X W [a, b, c] rs)
    (hs :  starEach [a, b, c] X.env = (false, eval a X.env) :: starEach [b, c] X.env := by rfl) (hpl : (backTo pos (starEach [b, c] X.env)).any (·.1) = false := by rfl) :
    DI B X W (.Tuple elts kk tpos) (.Call (.Name "zip" p) [a, b, c] [] pos) (rZip3 rs) := (pi_zipH hg hm ha hs hpl).imp fun σ H Z ⟨F, R, ρ, Q', E', hH, w, q, kk, kx⟩ => by
  subst hH
  refine ⟨F, R, ρ, _, E', rfl, w, q, fun vs ds F' x dj rv q' => ?_, kx⟩
  split at q'
  · rename_i d e f
    split at q'
    · rename_i xs ys zs e1 e2 e3
      obtain ⟨v, rv, rfl, h1, h2⟩ := reps_cons rv
      obtain ⟨u, t, rfl, h2, h3⟩ := reps_two h2
      obtain ⟨k1, z1⟩ := itemsZk e1
      obtain ⟨k2, z2⟩ := itemsZk e2
      obtain ⟨k3, z3⟩ := itemsZk e3
      obtain ⟨a1, vs1, rfl, r1, s1⟩ := ZK.sqD z1 h1
      obtain ⟨a2, vs2, rfl, r2, s2⟩ := ZK.sqD z2 h2
      obtain ⟨a3, vs3, rfl, r3, s3⟩ := ZK.sqD z3 h3
      exact ⟨a1, a2, a3, vs1, vs2, vs3, k1, k2, k3, rfl, s1 F' R (.refl _) dj, s2 F' R (.refl _) dj, s3 F' R (.refl _) dj, kk _ _ F' x dj (wk_zip3 s1 s2 s3 r1 r2 r3) q'⟩
    · exact q'.elim
  · exact q'.elim
end
theorem zip3D_map {α β γ : Type} (u : α → D) (v : β → D) (w : γ → D) (xs : List α) (ys : List β) (zs : List γ) : zip3D (xs.map u) (ys.map v) (zs.map w) = (xs.zip (ys.zip zs)).map fun p => .tup [u p.1, v p.2.1, w p.2.2] := by
  unfold zip3D
  rw [List.zip_map, List.zip_map, List.map_map]
  rfl
/-! ### a list beside [], the truth of a list -/
def gNeL : G2 := fun d e Q => match d, e with
  | .lst xs, .lst [] => Q (.bl (!xs.isEmpty))
  | _, _ => False
section
variable {B : Bs} {X : Cx} {W : WX} {T : List (Addr × Str)} {e : Expr} {ra : RE}
theorem op2_neL (hu : X.A.units + 64 < cLine) : Op2 X (compareOp .NotEq) gNeL := fun T pins s σ H x y v u Q I rx ry ⟨F, R, d, e, Q', hH, dj, rd, re, g, k⟩ => by
  subst hH
  unfold gNeL at g
  split at g
  · rename_i xs
    obtain ⟨a, vs, rfl, ha, ra⟩ := rep_lst rd
    obtain ⟨b, ws, rfl, hb, rb⟩ := rep_lst re
    obtain rfl : v = Value.ref a :=  rx
    obtain rfl : u = Value.ref b :=  ry
    obtain rfl := reps_nil rb
    obtain ⟨its, rv, p, _⟩ := I.list (sq_l (K := kc T X) (R := R) ha)
    obtain ⟨its2, rv2, p2, _⟩ := I.list (sq_l (K := kc T X) (R := R) hb)
    cases rv2
    cases xs with
    | nil =>
      obtain rfl := reps_nil ra
      cases rv
      exact SeqAt.RcNeAt.lists (e := fun _ => true) p.isList p2.isList rfl (by omega) (fun j h1 _ => absurd h1 (Nat.not_lt_zero _)) _ _ _ _ ⟨.bl false, _, I, rfl, k.now dj (of_bl _) g⟩
    | cons x xs =>
      obtain ⟨v1, vs1, rfl, _, _⟩ := reps_cons ra
      cases rv
      exact SeqAt.RcNeAt.lists_lengths p.isList p2.isList (by simp) (by omega) _ _ _ _ ⟨.bl true, _, I, rfl, k.now dj (of_bl _) g⟩
  · exact g.elim
def toT (Q : Bool → Prop) : D → Prop
  | .bl b => Q b
  | .lst ds => Q (!ds.isEmpty)
  | .tup ds => Q (!ds.isEmpty)
  | .non => Q false
  | _ => False
def rTT (ra : RE) : RT := fun ρ Q E => ra ρ (toT Q) E
theorem dt_truth (h : DE B X W e ra) (he : ∀ whole, isTrue e X.env whole = (do let v ← whole; standAt e.pos; holding [v] (truthy v)) := by intro _; rfl) : DT B X W e (rTT ra) := (pt_truth h he).imp fun σ H Q ⟨F, R, ρ, Q', E', e, w, r, k⟩ => by
  subst e
  refine ⟨F, R, ρ, _, E', rfl, w, r, fun v d F' x dj rv q => ?_, k.ex⟩
  cases d with
  | bl b => exact ⟨b, by rw [rep_bl rv]; rfl, k.ok b b F' x dj rfl q⟩
  | non => exact ⟨false, by rw [rep_non rv]; rfl, k.ok _ _ F' x dj rfl q⟩
  | lst ds =>
    obtain ⟨a, vs, rfl, ha, rr⟩ := rep_lst rv
    refine ⟨!ds.isEmpty, .inl ⟨vs, sq_l (K := kc B.T X) ha, ?_⟩, k.ok _ _ F' x dj rfl q⟩
    have := rr.length
    cases vs <;> cases ds <;> simp_all
  | tup ds =>
    obtain ⟨a, vs, rfl, ha, rr⟩ := rep_tup rv
    refine ⟨!ds.isEmpty, .inr (.inl ⟨vs, sq_t (K := kc B.T X) ha, ?_⟩), k.ok _ _ F' x dj rfl q⟩
    have := rr.length
    cases vs <;> cases ds <;> simp_all
  | _ => exact (show False from q).elim
end
end L3
namespace L3
open PySem PySem.Spec L2
open PyProof.Rows hiding St
/-! ### try .. except C as e: .. in a def's own frame, where the body never ends -/
section
variable {K : KC} {B : Bs} {σ : St} {F R : Hp} {ρ : Env3}
theorem RepX.pn {p1 p2 : List (Addr × Obj)} {H : Hp} {cls : Value} {od : Option Addr} {x : XD} (o : nxF x.fs = true ∨ ∀ p ∈ p1, p ∈ p2) (h : RepX (K.at p1) H cls od x) : RepX (K.at p2) H cls od x := by
  obtain ⟨c, h | ⟨dd, fs, ho, hd, r⟩⟩ := h
  · exact ⟨c, .inl h⟩
  · exact ⟨c, .inr ⟨dd, fs, ho, hd, RepF.pn _ _ o r⟩⟩
theorem Wd.pnGrow {p1 p2 : List (Addr × Obj)} (w : Wd (K.at p1) B σ F R ρ) (o : ∀ p ∈ p1, p ∈ p2) : Wd (K.at p2) B σ F R ρ where
  tb := w.tb
  ex := ⟨w.ex.at_, w.ex.tab⟩
  fr := w.fr
  dj := w.dj
  len := w.len
  val := fun i d h => by
    obtain ⟨v, e, r⟩ := w.val i d h
    exact ⟨v, e, Rep.pn d v (.inr o) r⟩
  own := fun i ds h => by
    obtain ⟨a, vs, e, h1, r, h2⟩ := w.own i ds h
    exact ⟨a, vs, e, h1, Reps.pn ds vs (.inr o) r, h2⟩
  obj := fun i c a fs h => by
    obtain ⟨e, dx, ws, e1, h1, h2, r, h3⟩ := w.obj i c a fs h
    exact ⟨e, dx, ws, e1, h1, h2, RepF.pn fs ws (.inr o) r, h3⟩
  sep := w.sep
end
/-- f(..), its arguments no exceptions, while others may be at hand -/
def rCallN (n : Nat) (sp : Sp3) (rs : RA) : RE := fun ρ Q E => rs ρ (fun ds => nxs ds = true ∧ ds.length = n ∧ sp ds Q E) E
section
variable {B : Bs} {X : Cx} {W : WX} {e : Expr} {es : List Expr} {rs : RA} {pos : Pos}
theorem de_callN {x : Str} {p : Pos} {k n : Nat} {f : Addr} {fd : FuncData} {ps : List Str} {sp : Sp3} (G : FnOk X.prog X.w X.K X.mg X.base (L2.CX X.prog X.w) k f fd ps (lSp ⟨X.K, cmOf X.mg, [], B.T⟩ n sp)) (hr : Room k X.A) (hg : Gl X x) (hm : X.mg x = some (.ref f)) (hk : PySem.W.keepIn X.K (.ref f) = true) (hb : Binds X.K fd ps []) (tk : Takes X W)
    (ha : DA B X W (e :: es) rs) (hd : (x == ("__debug__" : Str)) = false := by decide)
    (he : starEach (e :: es) X.env = (false, eval e X.env) :: starEach es X.env := by rfl) (hpl : (backTo pos (starEach es X.env)).any (·.1) = false := by rfl) : DE B X W (.Call (.Name x p) (e :: es) [] pos) (rCallN n sp rs) :=
  (pe_callS G hr hg hm hk hb (fun σ => passAt tk σ) ha hd he hpl).imp fun σ H Q h => by
    refine lf_then (k := fun ds _ Q E => nxs ds = true ∧ ds.length = n ∧ sp ds Q E) h fun vs ds F R ρ Q' E' w rv q k => ?_
    refine ⟨F, R, ds, Q', E', rfl, w.dj, w.tb, Reps.pn (K := kc B.T X) (p1 := X.pn) (p2 := []) ds vs (.inl q.1) rv, by rw [rv.length]; exact q.2.1, q.2.2, ⟨fun v d F' x1 dj r q' => ?_⟩, fun x cls od F' x1 dj rx q' => ?_⟩
    · exact k.ok v d F' ⟨x1.at_, x1.tab⟩ dj (Rep.pn (K := kc B.T X) (p1 := []) (p2 := X.pn) d v (.inr fun _ z => by cases z) r) q'
    · exact k.ex x cls od F' ⟨x1.at_, x1.tab⟩ dj (RepX.pn (K := kc B.T X) (p1 := []) (p2 := X.pn) (.inr fun _ z => by cases z) rx) q'
def emps (n : Nat) : Env3 := List.replicate n .emp
theorem emps_get {n i : Nat} {s : Sl} (h : (emps n)[i]? = some s) : s = .emp := by
  unfold emps at h
  rw [List.getElem?_replicate] at h
  split at h
  · exact (Option.some.inj h).symm
  · cases h
def rTryX (nn i j : Nat) (cs : Str → Prop) (rb rs : RS) : RS := fun N ρ => ρ.length = nn ∧ rb { nx := fun _ => False, rt := fun _ => False, ex := fun y => cs y.cls ∧ nxF y.fs = true ∧ rs { nx := fun ρ' => ρ'.length = nn ∧ ∃ d, (ρ'[j]? : Option Sl) = some (.val d) ∧ nxD d = true ∧ N.nx ((emps nn).set j (.val d)), rt := fun _ => False, ex := fun _ => False } ((emps nn).set i (.val (.exc y.cls y.fs))) } ρ
theorem ds_tryX {x en : Str} {CS : Addr} {nn i j : Nat} {cs : Str → Prop} {rb r2 : RS} {body suite : List Stmt} {b0 : Stmt} {np pos pos' : Pos} (hpn : X.pn = [])
    (hs : X.stack = X.env :: X.outer) (hf : X.env.frame = some X.env.locals) (hN : X.N.Nodup) (hNl : X.N.length = nn) (hi : X.N[i]? = some en) (hln : X.env.kindOf en = some .local) (hij : i ≠ j) (hj : j < nn) (hc : Names X x (.ref CS)) (tk : Takes X W)
    (hcs : ∀ c, cs c → PySem.W.exmOne X.K (.ref (cmOf X.mg c)) (.ref CS) = some true)
    (hb : ∀ (W' : WX) (pn : List (Addr × Obj)) (xe : Value → Shared → Prop), Takes (X.tr pn xe) W' → DSs B (X.tr pn xe) W' body rb)
    (hsu : ∀ (a : Addr) (oe : Obj) (pn : List (Addr × Obj)), DSs B (X.suite a ((a, oe) :: pn)) W0 (b0 :: suite) r2) :
    DS B X W (.Try body [.ExceptHandler (some (.Name x np)) (some en) (b0 :: suite) pos'] [] [] pos) (rTryX nn i j cs rb r2) := by
  let ts : Addr → Value → Option Addr → TS := fun a cls d D σ H1 => ∀ (oe : Obj) (pn : List (Addr × Obj)), Zc cls d oe → (∃ vs, oe.data = .fields vs) → lS (kc B.T (X.suite a ((a, oe) :: pn))) B W0 r2 D σ H1
  have s2 := ps_try_as (X := X) (x := x) (n := en) (c := .ref CS) (i := i) (np := np) (pos := pos) (pos' := pos') (ts := ts) (Wout := W)
      (tb := fun W' D σ H => ∃ F R ρ, ∃ rbE : XD → Prop, H = jn F R ∧ Wd (kc B.T X) B σ F R ρ ∧ rb { nx := fun _ => False, rt := fun _ => False, ex := fun y => nxF y.fs = true ∧ rbE y } ρ ∧
        ∀ y cls od σ' F' R' ρ', Wd (kc B.T X) B σ' F' R' ρ' → σ'.length = nn → RepX (kc B.T X) F' cls od y → rbE y → W' cls od σ' (jn F' R'))
      (body := body) hs hf hN hi hln hc tk (fun W' pn xe tk' _ => (hb (fun cls d σ1 H1 => σ1.length = nn → W' cls d σ1 H1) pn xe (fun u s9 ⟨a9, B9, sI, pi9, σ9, H9, c9, d9, e9, I9, nb, up, sky, na, os, ag, w9⟩ => tk' u s9 ⟨a9, B9, sI, pi9, σ9, H9, c9, d9, e9, I9, nb, up, sky, na, os, ag, w9 (I9.len.trans hNl)⟩)).imp fun D σ H ⟨F, R, ρ, rbE, hH, w, q, k⟩ => by
        refine ⟨F, R, ρ, _, hH, Wd.pnGrow (K := kc B.T X) (p1 := X.pn) (p2 := pn) w (fun p z => by rw [hpn] at z; cases z), q, ⟨fun _ _ _ _ _ z => z.elim, fun _ _ _ _ _ _ _ _ z => z.elim, fun y cls od σ' F' R' ρ' w' rx ⟨n1, q1⟩ hl => ?_, fun _ _ _ _ _ z => z.elim, fun _ _ _ _ _ z => z.elim⟩⟩
        refine k y cls od σ' F' R' (emps σ'.length) ⟨w'.tb, ⟨w'.ex.at_, w'.ex.tab⟩, w'.fr, w'.dj, by unfold emps; rw [List.length_replicate], fun i d h => ?_, fun i ds h => ?_, fun i c a fs h => ?_, fun i2 j2 a di dj h => ?_⟩ hl (RepX.pn (K := kc B.T X) (p1 := pn) (p2 := X.pn) (.inl n1) rx) q1
        · cases emps_get h
        · cases emps_get h
        · cases emps_get h
        · cases emps_get h)
      (fun a oe cls d pn z dt => (hsu a oe pn).imp fun D σ H h => h oe pn z dt)
  refine s2.imp fun D σ H ⟨F, R, ρ, N, hH, w, ⟨hl, q⟩, k⟩ => ?_
  subst hH
  refine ⟨F, R, ρ, fun y => cs y.cls ∧ nxF y.fs = true ∧ r2 { nx := fun ρ' => ρ'.length = nn ∧ ∃ d, (ρ'[j]? : Option Sl) = some (.val d) ∧ nxD d = true ∧ N.nx ((emps nn).set j (.val d)), rt := fun _ => False, ex := fun _ => False } ((emps nn).set i (.val (.exc y.cls y.fs))), rfl, w, ?_, fun y cls od σ' F' R' ρ' w' hl' rx ⟨c1, n1, q1⟩ => ?_⟩
  · have e0 : (fun y : XD => cs y.cls ∧ nxF y.fs = true ∧ r2 { nx := fun ρ' => ρ'.length = nn ∧ ∃ d, (ρ'[j]? : Option Sl) = some (.val d) ∧ nxD d = true ∧ N.nx ((emps nn).set j (.val d)), rt := fun _ => False, ex := fun _ => False } ((emps nn).set i (.val (.exc y.cls y.fs)))) = fun y => nxF y.fs = true ∧ cs y.cls ∧ nxF y.fs = true ∧ r2 { nx := fun ρ' => ρ'.length = nn ∧ ∃ d, (ρ'[j]? : Option Sl) = some (.val d) ∧ nxD d = true ∧ N.nx ((emps nn).set j (.val d)), rt := fun _ => False, ex := fun _ => False } ((emps nn).set i (.val (.exc y.cls y.fs))) := by
      funext y
      exact propext ⟨fun h => ⟨h.2.1, h⟩, fun h => h.2⟩
    rw [← e0]
    exact q
  · obtain ⟨hcl, hfd⟩ := rx
    refine ⟨true, by rw [show cls = .ref (cmOf X.mg y.cls) from hcl]; exact hcs _ c1, fun _ a na oe pn z dt => ?_, fun z => by cases z⟩
    refine ⟨F', R', _, _, rfl, ⟨w'.tb, ⟨w'.ex.at_, w'.ex.tab⟩, w'.fr, w'.dj, by unfold emps; rw [List.length_set, List.length_set, List.length_replicate, hl'], fun i2 d h => ?_, fun i2 ds h => ?_, fun i2 c b fs h => ?_, fun i2 j2 b di dj h => ?_⟩, q1, ⟨fun σ2 F2 R2 ρ2 w2 ⟨l2, d2, h2, n2, q2⟩ => ?_, fun _ _ _ _ _ _ _ _ z => z.elim, fun _ _ _ _ _ _ _ _ _ z => z.elim, fun _ _ _ _ _ z => z.elim, fun _ _ _ _ _ z => z.elim⟩⟩
    · by_cases hii : i2 = i
      · subst hii
        have hin : i2 < nn := by
          obtain ⟨h9, _⟩ := List.getElem?_eq_some_iff.mp hi
          omega
        rw [List.getElem?_set_self (by unfold emps; rw [List.length_replicate]; exact hin)] at h
        cases h
        refine ⟨.ref a, List.getElem?_set_self (by omega), ?_⟩
        unfold Rep
        refine ⟨a, oe, od, rfl, by simp, by rw [show cls = .ref (cmOf X.mg y.cls) from hcl] at z; exact z, dt, ?_⟩
        have e1 : RepF (kc B.T X) = RepF { kc B.T X with pn := [] } := by
          show RepF ⟨X.K, cmOf X.mg, X.pn, B.T⟩ = RepF ⟨X.K, cmOf X.mg, [], B.T⟩
          rw [hpn]
        rw [e1] at hfd
        exact hfd
      · rw [List.getElem?_set_ne (Ne.symm hii)] at h
        cases emps_get h
    · by_cases hii : i2 = i
      · subst hii
        rw [List.getElem?_set] at h
        split at h
        · split at h
          · cases h
          · cases h
        · cases emps_get h
      · rw [List.getElem?_set_ne (Ne.symm hii)] at h
        cases emps_get h
    · by_cases hii : i2 = i
      · subst hii
        rw [List.getElem?_set] at h
        split at h
        · split at h
          · cases h
          · cases h
        · cases emps_get h
      · rw [List.getElem?_set_ne (Ne.symm hii)] at h
        cases emps_get h
    · by_cases hii : i2 = i
      · subst hii
        rw [List.getElem?_set] at h
        split at h
        · split at h
          · cases h
          · cases h
        · cases emps_get h
      · rw [List.getElem?_set_ne (Ne.symm hii)] at h
        cases emps_get h
    · obtain ⟨v, e2, r9⟩ := w2.val j d2 h2
      refine k.nx _ F2 R2 _ ⟨w2.tb, ⟨w2.ex.at_, w2.ex.tab⟩, w2.fr, w2.dj, ?_, fun i2 d h => ?_, fun i2 ds h => ?_, fun i2 c b fs h => ?_, fun i2 j2 b di dj h => ?_⟩ q2
      · rw [List.length_set]
        unfold emps
        rw [List.length_set, List.length_replicate]
        rw [w2.len, l2]
      · by_cases hjj : i2 = j
        · subst hjj
          rw [List.getElem?_set_self (by unfold emps; rw [List.length_replicate]; exact hj)] at h
          cases h
          refine ⟨v, by rw [List.getElem?_set_ne hij]; exact e2, ?_⟩
          have := Rep.pn (K := kc B.T X) (p1 := (a, oe) :: pn) (p2 := X.pn) d2 v (.inl n2) r9
          exact this
        · rw [List.getElem?_set_ne (Ne.symm hjj)] at h
          cases emps_get h
      · by_cases hjj : i2 = j
        · subst hjj
          rw [List.getElem?_set] at h
          split at h
          · split at h
            · cases h
            · cases h
          · cases emps_get h
        · rw [List.getElem?_set_ne (Ne.symm hjj)] at h
          cases emps_get h
      · by_cases hjj : i2 = j
        · subst hjj
          rw [List.getElem?_set] at h
          split at h
          · split at h
            · cases h
            · cases h
          · cases emps_get h
        · rw [List.getElem?_set_ne (Ne.symm hjj)] at h
          cases emps_get h
      · by_cases hjj : i2 = j
        · subst hjj
          rw [List.getElem?_set] at h
          split at h
          · split at h
            · cases h
            · cases h
          · cases emps_get h
        · rw [List.getElem?_set_ne (Ne.symm hjj)] at h
          cases emps_get h
end
/-! ### raise C(), {'k': n} -/
structure Ex0Ok (K : PySem.W.Frag) (mg : Str → Option Value) (c : Str) (C : Addr) : Prop where
  gC : mg c = some (.ref C)
  q : PySem.W.excIn K C [.type "ValueError", .type "Exception", .type "BaseException", .type "object"] "ValueError.__new__" = true
  kC :  PySem.W.keepIn K (.ref C) = true
  s1 : PySem.W.subIn K (.ref C) (.type "BaseException") = some true
  t1 : PySem.W.typeIn K (.ref C) = some (.type "type")
def rRaise0 (c : Str) : RS := fun N _ => N.ex ⟨c, []⟩
section
variable {B : Bs} {X : Cx} {W : WX} {pos pos2 : Pos}
theorem pmk_own0 {C : Addr} {bmB : List Value} {Bn newId initId : String} {x : Str} {p : Pos} (F : ExcBaseFacts Bn newId initId bmB) (q : PySem.W.excIn X.K C bmB newId = true) (gC : X.mg x = some (.ref C))
    (kC : PySem.W.keepIn X.K (.ref C) = true) (r : Raises X (.ref C)) (hg : Gl X x) (hdb : (x == ("__debug__" : Str)) = false := by decide) :
    PMk X (.Call (.Name x p) [] [] pos) (fun _ H Q => Q (.ref C) none H) := by
  intro pins s σ H Q I h
  refine wpAny_Call_Name_kw (ld_glob I hg gC ?_  hdb)
  refine PySem.W.callWith_K0 I.kIn kC ?_
  show wpAny _ _ (call (.ref C) []) _ _ _
  obtain ⟨bm, N, nm, qn, bs, hdct, sn, sub, ab, col, dd, k0, k1, k2, k3, k5, mN, hC, hN, hni, T⟩ := exc_obj I.kIn q
  refine wpAny_call_exc_subT F T hC hN hni (fun h' e hm => ?_) (Nat.zero_le _)
  exact mk_of I hm r h (I.hok.gone hm.new)
theorem ds_raise0 {c : Str} {C : Addr} {p : Pos} (hc : X.calm = true) (tk : Takes X W) (O : Ex0Ok X.K X.mg c C) (hg : Gl X c) (hdb : (c == ("__debug__" : Str)) = false := by decide) :
    DS B X W (.Raise (some (.Call (.Name c p) [] [] pos)) none pos2) (rRaise0 c) :=
  (ps_raise hc tk (pmk_own0 PySem.F.excBase_ValueError O.q O.gC O.kC (raises_own O.s1 O.t1) hg hdb)).imp fun D σ H ⟨F, R, ρ, N, hH, w, q, k⟩ => by
    subst hH
    exact k.ex ⟨c, []⟩ _ none σ F R ρ w ⟨by show Value.ref C = .ref (cmOf X.mg c); rw [cmOf_eq O.gC], .inl ⟨rfl, rfl⟩⟩ q
theorem de_dict1 {x : Str} {n : Int} {j i : Nat} {p q : Pos} : DE B X W (.Dict [some (.Constant (.str x) j p)] [.Constant (.int n) i q] pos) (rC (.dct [(.inr x, .int n)])) :=
  (pe_disp (pps_cons pe_str pe_int pps_nil) (by rfl) (by rfl) (fun z => by cases z) (by show 1 ≤ 15; decide)).imp fun σ H Q ⟨F, R, ρ, Q', E', hH, w, q, k⟩ => by
    subst hH
    intro p hp
    refine ⟨upd_same, [(.inr x, .int n)], rfl, (by show 1 ≤ 15; decide), ?_⟩
    rw [upd_upd, jn_newF hp]
    refine k.ok _ _ _ (Ext.newF hp) (w.dj.newF hp) ?_ q
    unfold Rep
    refine ⟨p, _, rfl, upd_same, by show 1 < 4; decide, ?_⟩
    unfold RepK
    exact ⟨.int n, [], rfl, of_int n, by unfold RepK; rfl⟩
end
/-! ### repr of data with small dicts, where sys.modules stands apart -/
mutual
def pyE : D → PyData
  | .non => .none | .bl b => .bool b | .int i => .int i | .str x => .str x
  | .tup ds => .tuple (pyEs ds) | .lst ds => .list (pyEs ds)
  | .dct kvs => .dict (pyEk kvs)
  | _ => .dict []
def pyEs : List D → List PyData
  | [] => []
  | d :: ds => pyE d :: pyEs ds
def pyEk : List (Key × D) → List (PyData × PyData)
  | [] => []
  | (.inr x, d) :: r => (.str x, pyE d) :: pyEk r
  | (.inl i, d) :: r => (.int i, pyE d) :: pyEk r
end
mutual
def shE : D → Bool
  | .non => true
  | .bl _ => true
  | .int i => decide (i.natAbs.log2 <  1920)
  | .str _ => true
  | .tup ds => shEs ds
  | .lst ds => shEs ds
  | .dct kvs => shEk kvs
  | _ => false
def shEs : List D → Bool
  | [] => true
  | d :: ds => shE d && shEs ds
def shEk : List (Key × D) → Bool
  | [] => true
  | (.inr _, d) :: r => shE d && shEk r
  | (.inl _, _) :: _ => false
end
mutual
theorem shE_py : ∀ d : D, shE d = true → (pyE d).showable = true
  | .non, _ => rfl
  | .bl _, _ => rfl
  | .int i, h => by unfold shE at h; simpa [pyE, PyData.showable] using h
  | .str _, _ => rfl
  | .tup ds, h => by unfold shE at h; simpa [pyE, PyData.showable] using shE_pys ds h
  | .lst ds, h => by unfold shE at h; simpa [pyE, PyData.showable] using shE_pys ds h
  | .dct kvs, h => by unfold shE at h; simpa [pyE, PyData.showable] using shE_pyk kvs h
  | .scr _, h => by cases h
  | .ins _ _, h => by cases h
  | .pen, h => by cases h
  | .exc _ _, h => by cases h
theorem shE_pys : ∀ ds : List D, shEs ds = true → PyData.showableAll (pyEs ds) = true
  | [], _ => rfl
  | d :: ds, h => by
    unfold shEs at h
    obtain ⟨h1, h2⟩ := Bool.and_eq_true_iff.mp h
    unfold pyEs PyData.showableAll
    rw [shE_py d h1, shE_pys ds h2]
    rfl
theorem shE_pyk : ∀ kvs : List (Key × D), shEk kvs = true → PyData.showableKv (pyEk kvs) = true
  | [], _ => rfl
  | (.inr x, d) :: r, h => by
    unfold shEk at h
    obtain ⟨h1, h2⟩ := Bool.and_eq_true_iff.mp h
    unfold pyEk PyData.showableKv
    rw [shE_py d h1, shE_pyk r h2]
    rfl
  | (.inl _, _) :: _, h => by cases h
end
section
variable {P : Program} {w : World} {K : KC} {F R : Hp} {h : Heap} (ok : HOk P w (jn F R) h) (hm : jn F R sysModules = none)
include ok hm
mutual
theorem reads_E : ∀ (d : D) (v : V) (u : Value), shE d = true → Rep K F v d → RelV v u → ∃ as, Reads h u (pyE d) as ∧ sysModules ∉ as
  | .non, v, u, _, r, e => by rw [rep_non r] at e; rw [show u = Value.none from e]; exact ⟨[], .none, by simp⟩
  | .bl b, v, u, _, r, e => by rw [rep_bl r] at e; rw [show u = Value.bool b from e]; exact ⟨[], .bool b, by simp⟩
  | .int i, v, u, _, r, e => by
    rw [rep_int r] at e
    obtain ⟨t, rfl⟩ := (show ∃ t, u = Value.int i t from e)
    exact ⟨[], .int i t, by simp⟩
  | .str x, v, u, _, r, e => by
    rw [rep_str r] at e
    obtain ⟨t, rfl⟩ := (show ∃ t, u = Value.str x t from e)
    exact ⟨[], .str x t, by simp⟩
  | .tup ds, v, u, s, r, e => by
    obtain ⟨a, vs, rfl, ha, rs⟩ := rep_tup r
    obtain rfl : u = Value.ref a := e
    obtain ⟨_, its, rv, o, h1, h2, n, h3⟩ := (show ObjOk P w (jn F R) h a (.tup vs) from ok a _ (jn_l ha))
    unfold shE at s
    obtain ⟨as, r1, n1⟩ := reads_Es ds vs its s rs rv
    refine ⟨as, ?_, n1⟩
    unfold pyE
    exact .tuple h1 h2 h3 r1
  | .lst ds, v, u, s, r, e => by
    obtain ⟨a, vs, rfl, ha, rs⟩ := rep_lst r
    obtain rfl : u = Value.ref a := e
    obtain ⟨_, its, n, rv, h1⟩ := (show ObjOk P w (jn F R) h a (.lst vs) from ok a _ (jn_l ha))
    unfold shE at s
    obtain ⟨as, r1, n1⟩ := reads_Es ds vs its s rs rv
    refine ⟨a :: as, ?_, fun z => ?_⟩
    · unfold pyE
      exact .list h1 rfl rfl r1
    · rcases List.mem_cons.mp z with z |  z
      · have := jn_l (R := R) ha
        rw [← z, hm] at this
        cases this
      · exact n1 z
  | .dct kvs, v, u, s, r, e => by
    unfold Rep at r
    obtain ⟨a, kv, rfl, ha, _, rk⟩ := r
    obtain rfl : u = Value.ref a := e
    unfold shE at s
    obtain ⟨_, hsm, ks, pk, o, es, ep, h1, ⟨h2, _, _⟩, h3, _, h4, _⟩ := (show ObjOk P w (jn F R) h a (.dK kv) from ok a _ (jn_l ha))
    obtain ⟨as, bs, r1, r2, n1, n2⟩ := reads_Ek kvs kv ks es.toList s rk pk h4
    refine ⟨a :: as ++ bs, ?_, fun z => ?_⟩
    · unfold pyE
      exact .dict h1 h2 h3 r1 r2
    · rcases List.mem_append.mp z with z | z
      · rcases List.mem_cons.mp z with z |  z
        · rw [← z] at hsm
          simp at hsm
        · exact n1 z
      · exact n2 z
  | .scr _, _, _, s, _, _ => by cases s
  | .ins _ _, _, _, s, _, _ => by cases s
  | .pen, _, _, s, _, _ => by cases s
  | .exc _ _, _, _, s, _, _ => by cases s
theorem reads_Es : ∀ (ds : List D) (vs : List V) (us : List Value), shEs ds = true → Reps K F vs ds → Vals vs us → ∃ as, ReadsAll h us (pyEs ds) as ∧ sysModules ∉ as
  | [], vs, us, _, r, e => by
    rw [reps_nil r] at e
    cases e
    exact ⟨[], .nil, by simp⟩
  | d :: ds, vs, us, s, r, e => by
    obtain ⟨v, vs', rfl, r1, r2⟩ := reps_cons r
    cases e with
    | cons e1 e2 =>
      unfold shEs at s
      obtain ⟨s1, s2⟩ := Bool.and_eq_true_iff.mp s
      obtain ⟨as, q1, n1⟩ := reads_E d v _ s1 r1 e1
      obtain ⟨bs, q2, n2⟩ := reads_Es ds vs' _ s2 r2 e2
      exact ⟨as ++ bs, .cons q1 q2, fun z => (List.mem_append.mp z).elim n1 n2⟩
theorem reads_Ek : ∀ (kvs : List (Key × D)) (kv : List (Key × V)) (ks : List (Key × Value)) (es : List DictEntry), shEk kvs = true → RepK K F kv kvs → KV kv ks → Pairs (mixKind P w) es ks →
    ∃ as bs, ReadsAll h (es.map (·.key)) ((pyEk kvs).map (·.1)) as ∧ ReadsAll h (es.map (·.val)) ((pyEk kvs).map (·.2)) bs ∧ sysModules ∉ as ∧ sysModules ∉ bs
  | [], kv, ks, es, _, r, e, p => by
    unfold RepK at r
    subst r
    cases e
    cases p
    exact ⟨[], [], .nil, .nil, by simp, by simp⟩
  | (.inr x, d) :: r, kv, ks, es, s, rk, e, p => by
    unfold RepK at rk
    obtain ⟨v, kv', rfl, r1, r2⟩ := rk
    cases e with
    | cons e1 e2 =>
      obtain ⟨e0, e1⟩ := e1
      cases p with
      | cons p1 p2 p3 =>
        unfold shEk at s
        obtain ⟨s1, s2⟩ := Bool.and_eq_true_iff.mp s
        rw [← p2] at e1
        obtain ⟨as, q1, n1⟩ := reads_E d v _ s1 r1 e1
        obtain ⟨cs, bs, q2, q3, n2, n3⟩ := reads_Ek r kv' _ _ s2 r2 e2 p3
        have p1 := (show keyIs _ _ = true from p1)
        rw [← e0] at p1
        rcases keyIs_shape p1 with ⟨i, t, z, _⟩ | ⟨y, t, z, ek⟩
        · cases z
        · cases z
          refine ⟨[] ++ cs, as ++ bs, ?_, ?_, n2, fun z => (List.mem_append.mp z).elim n1 n3⟩
          · unfold pyEk
            rw [List.map_cons, List.map_cons, ek]
            exact .cons (.str _ t) q2
          · unfold pyEk
            rw [(List.map_cons), List.map_cons]
            exact .cons q1 q3
  | (.inl _, _) :: _, _, _, _, s, _, _, _ => by cases s
end
end
/-- the text of data -/
def reprE (d : D) : Str := (pyE d).shown
def reprOkE (d : D) : Bool := shE d && (decide ((pyE d).depth ≤ 60) && decide ((reprE d).length ≤ sizeLine))
/-- something stands at sys.modules ahead of the law -/
def SmB (base : Heap) : Prop := ∃ o, base.get? sysModules = some o
section
variable {B : Bs} {X : Cx} {W : WX} {e : Expr} {ra : RE} {pos : Pos}
def rReprE (re : RE) : RE := fun ρ Q E => re ρ (fun d => reprOkE d = true ∧ Q (.str (reprE d))) E
def rRpE (K : KC) : List V → Hp → VK → Prop := fun xs H Q => ∃ F R v d, xs = [v] ∧ H = jn F R ∧ Rep K F v d ∧ reprOkE d = true ∧ Q (.str (reprE d)) H
theorem call_rpE {T : List (Addr × Str)} (hsm : SmB X.base) (hg : X.A.guards = some []) (hu : X.A.units + 64 < cLine) : CallR X (.builtin "repr") (rRpE (kc T X)) := by
  intro pins s σ H xs us Q I r ⟨F, R, v, d, e1, hH, rv, hok, q⟩
  subst e1 hH
  obtain ⟨u, rfl, ru⟩ := vals1  r
  unfold reprOkE at hok
  obtain ⟨k1, k2⟩ := Bool.and_eq_true_iff.mp hok
  obtain ⟨k2, k3⟩ := Bool.and_eq_true_iff.mp k2
  have k2 := of_decide_eq_true k2
  have k3 := of_decide_eq_true k3
  obtain ⟨ob, hob⟩ := hsm
  obtain ⟨as, rd, na⟩ := reads_E I.hok (I.bs _ _ hob).2 d v u k1 rv ru
  have sh := shE_py d k1
  have refs : ∀ a, u = .ref a → wpAny (model X.prog X.w) X.A (call (.builtin "repr") [u]) (EP X pins σ Q) X.xe s := fun a e => by
    subst e
    exact repr_of_reads' rd sh (fun _ => na) hg (by omega) (fun _ _ z => z) (fun h' t tk hk => ⟨.str (reprE d), _, I.kept (t' := tk) hk, ⟨t, rfl⟩, q⟩) k3
  cases d with
  | non => rw [rep_non rv] at ru; obtain rfl : u = Value.none := ru; exact P.repr_of_none ⟨.str (reprE .non), _, I.tok _, ⟨_, rfl⟩, q⟩
  | bl b => rw [rep_bl rv] at ru; obtain rfl : u = Value.bool b := ru; exact P.repr_of_bool ⟨.str (reprE (.bl b)), _, I.tok _, ⟨_, rfl⟩, q⟩
  | int i => rw [rep_int rv] at ru; obtain ⟨t, rfl⟩ := (show ∃ t, u = Value.int i t from ru); exact P.repr_of_int (by unfold shE at k1; exact of_decide_eq_true k1) ⟨.str (reprE (.int i)), _, I.tok _, ⟨_, rfl⟩, q⟩
  | str x => rw [rep_str rv] at ru; obtain ⟨t, rfl⟩ := (show ∃ t, u = Value.str x t from ru); exact P.repr_of_str ⟨.str (reprE (.str x)), _, I.tok _, ⟨_, rfl⟩, q⟩ k3
  | tup ds => obtain ⟨a, vs, rfl, _⟩ := rep_tup rv; exact refs a ru
  | lst ds => obtain ⟨a, vs, rfl, _⟩ := rep_lst rv; exact refs a ru
  | dct kvs => unfold Rep at rv; obtain ⟨a, kv, rfl, _⟩ := rv; exact refs a ru
  | scr _ => cases k1
  | ins _ _ => cases k1
  | pen => cases k1
  | exc _ _ => cases k1
theorem de_reprE {p : Pos} (hsm : SmB X.base) (hgd : X.A.guards = some []) (hu : X.A.units + 64 < cLine) (hg : Gl X "repr") (hm : X.mg "repr" = none) (ha : DE B X W e ra)
    (h1 : starEach [e] X.env = (false, eval e X.env) :: starEach [] X.env := by rfl) (hpl : (backTo pos (starEach [] X.env)).any (·.1) = false := by rfl) : DE B X W (.Call (.Name "repr" p) [e] [] pos) (rReprE ra) :=
  (pe_callB (call_rpE (T := B.T) hsm hgd hu) hg hm (by decide +kernel) (pa_cons ha pa_nil h1) (by decide) (by decide) h1 hpl).imp fun σ H Q ⟨F, R, ρ, Q', E', hH, w, r, k⟩ => by
    subst hH
    exact ⟨F, R, ρ, _, E', rfl, w, r, fun v d F' x dj rv q => ⟨F', R, v, d, rfl, rfl, rv, q.1, k.ok _ _ F' x dj (of_str _) q.2⟩, k.ex⟩
end
/-! ### x, y, z = a, b, c; a suite's room -/
def rPar3 (i j l : Nat) (rs : RA) : RS := fun N ρ => rs ρ (fun ds => match ds with
  | [d, e, f] => N.nx (((ρ.set i (.val d)).set j (.val e)).set l (.val f))
  | _ => False) N.ex
section
variable {B : Bs} {X : Cx} {W : WX} {a b c : Expr} {rs : RA} {pos : Pos}
theorem ds_par3 {i j l : Nat} {x y z : Str} {px py pz pt pt2 : Pos} {kt k2 : Nat} (hc : X.calm = true) (hN : X.N.Nodup) (hi : X.N[i]? = some x) (hj : X.N[j]? = some y) (hl : X.N[l]? = some z) (hij : i ≠ j) (hil : i ≠ l) (hjl : j ≠ l) (hx : X.env.scope.names.lookup x = some .local) (hy : X.env.scope.names.lookup y = some .local) (hz : X.env.scope.names.lookup z = some .local) (ha : DA B X W [a, b, c] rs)
    (hw : swappedStores [.Tuple [.Name x px, .Name y py, .Name z pz] kt pt] (.Tuple [a, b, c] k2 pt2) X.env = pure (some [x, y, z])) (hs : swapsWithSole [.Tuple [.Name x px, .Name y py, .Name z pz] kt pt] (.Tuple [a, b, c] k2 pt2) pos.line X.env = pure false := by rfl) :
    DS B X W (.Assign [.Tuple [.Name x px, .Name y py, .Name z pz] kt pt] (.Tuple [a, b, c] k2 pt2) pos) (rPar3 i j l rs) := (ps_par3 hc hN hi hj hl hij hil hjl hx hy hz ha hw hs).imp fun D σ H ⟨F, R, ρ, N, hH, w, q, k⟩ => by
  subst hH
  refine k.lf w q fun vs ds F' x w' rv q' => ?_
  split at q'
  · obtain ⟨v, rv, rfl, h0, rv⟩ := reps_cons rv
    obtain ⟨u, t, rfl, h1, h2⟩ := reps_two rv
    exact ⟨v, u, t, rfl, k.nx _ F' R _ (((w'.setV h0 i).setV h1 j).setV h2 l) q'⟩
  · exact q'.elim
end
theorem rp_suite {k : Nat} {A : Around} {a : Addr} (hr : RoomG k A) : RoomP true k (A.mark (some (.ref a))) := ⟨⟨hr.rm.dp, hr.rm.un⟩, fun _ => hr.gd⟩
/-- the end of a law whose defs know that nothing guards: the call at callerA -/
theorem law_callH {P : Program} {w : World} {K : PySem.W.Frag} {mg mb : Str → Option Value} {k : Nat} {fa a : Addr} {cs : List (Addr × Addr)} {fd : FuncData} {x : Str} {sp : Sp} {s₁ : Shared} {vs : List Value} {ns : List Int}
    (KX :  K.In s₁.heap) (hns : s₁.heap.Ns mainGlobals mg) (hb : s₁.heap.Ns builtinsNs mb) (hbb : ∀ x : Str, x ≠ "__name__" → mb x = bootBuiltins x) (hlim : s₁.heap.NoLimit) (hg : s₁.gens = #[])
    (hT :  ∀ p ∈ cs, s₁.heap.get? p.2 = some { cls := .none, data := .fields #[] }) (nT : ∀ p ∈ cs, K.lookup p.2 = none) (C : ∀ p ∈ cs, PySem.W.CodeHd s₁.heap p.1 p.2)
    (hbm :  ∃ (bm : Addr) (ob : Obj), mg "__builtins__" = some (.ref bm) ∧ bm ≠ builtinsNs ∧ s₁.heap.get? bm = some ob ∧ ob.cls = .type "module" ∧ ob.dict = some builtinsNs ∧ ob.data = .plain)
    (ha : s₁.heap.get? a = some { cls := .type "list", data := .seq vs.toArray }) (hi : IntsAre vs ns) (hl : ns.length ≤ sizeLine) (hr : RoomG k callerA)
    (hsm : ∃ o es n, s₁.heap.get? sysModules = some o ∧ o.data = .dict es n) (F : ∀ base : Heap, K.In base → base.Ns mainGlobals mg → (∀ p ∈ cs, LamX.TabB base mg p.1 p.2) → SmB base → FnG P w K mg base k fa fd [x] sp) (hbind : ∀ (s : Shared) (u : Value), BindsTo s fd ⟨[u], []⟩ [(x, u)])
    (hsp : ∀ H : Hp, (∀ p ∈ cs, H p.2 = some (.tbl #[])) → SqL K H a (ns.map V.int) → sp [.ref a] H (fun v _ => v = .bl true) fun _ _ _ => False) :
    codeAny (model P w) callerA (.call (.ref fa) ⟨[.ref a], []⟩) (fun r s' => r = .ok (.ret (.bool true)) ∧ OldK s₁.heap s'.heap ∧ s'.os = s₁.os ∧ AllBare s'.gens) s₁ :=  by
  have rvs := vals_ints hi
  let lo : Obj := { cls := .type "list", data := .seq vs.toArray }
  let tb : List Addr := cs.map (·.2)
  let H : Hp := fun b => if b ∈ tb then some (.tbl #[]) else if b = a ∧ K.lookup a = none then some (.frz lo (.lst (ns.map V.int))) else none
  have tAt : ∀ b ∈ tb, s₁.heap.get? b = some { cls := .none, data := .fields #[] } := fun b hm => by
    obtain ⟨p, hp, rfl⟩ := List.mem_map.mp hm
    exact hT p hp
  have tIn : ∀ p ∈ cs, p.2 ∈ tb := fun p hp => List.mem_map.mpr ⟨p, hp, rfl⟩
  have H1 : ∀ b ∈ tb, H b = some (.tbl #[]) := fun b hm => if_pos hm
  have H2 : ∀ b u, H b = some u → (b ∈ tb ∧ u = .tbl #[]) ∨ (b ∉ tb ∧ b = a ∧ K.lookup a = none ∧ u = .frz lo (.lst (ns.map V.int))) := fun b u h => by
    by_cases m : b ∈ tb
    · rw [H1 b m] at h
      exact .inl ⟨m, (Option.some.inj h).symm⟩
    · have h' := (if_neg m).symm.trans h
      by_cases c : b = a ∧ K.lookup a = none
      · rw [if_pos c] at h'
        exact .inr ⟨m, c.1, c.2, (Option.some.inj h').symm⟩
      · rw [if_neg c] at h'
        cases h'
  have free : ∀ b o, s₁.heap.get? b = some o → o.data ≠ .fields #[] → o ≠ lo → H b = none := fun b o e n1 n2 => by
    cases q : H b with
    | none => rfl
    | some u =>
      rcases H2 b u q with ⟨m, _⟩ | ⟨_, rfl, _⟩
      · rw [tAt b m] at e
        cases e
        exact absurd rfl n1
      · rw [ha] at e
        cases e
        exact absurd rfl n2
  have low : ∀ b o, s₁.heap.get? b = some o → o.data ≠ .fields #[] → o ≠ lo → (hidT s₁.heap H).get? b = some o := fun b o e n1 n2 => hidT_get e (free b o e n1 n2)
  have nsL : ∀ {b : Addr} {m : Str → Option Value}, s₁.heap.Ns b m → (hidT s₁.heap H).Ns b m := fun {b m} ⟨o, es, ep, e, d, r⟩ => ⟨o, es, ep, low b o e (fun z => by rw [d] at z; cases z) (fun z => by rw [z] at d; cases d), d, r⟩
  have sm : SmB (hidT s₁.heap H) := by
    obtain ⟨o, es, n, e, d⟩ := hsm
    exact ⟨o, low _ o e (fun z => by rw [d] at z; cases z) (fun z => by rw [z] at d; cases d)⟩
  have kin : K.In (hidT s₁.heap H) := fun b o e => hidT_get (KX b o e) (by
    cases q : H b with
    | none => rfl
    | some u =>
      rcases H2 b u q with ⟨m, _⟩ | ⟨_, rfl, z, _⟩
      · obtain ⟨p, hp, rfl⟩ := List.mem_map.mp m
        rw [nT p hp] at e
        cases e
      · rw [z] at e
        cases e)
  have TB : ∀ p ∈ cs, LamX.TabB (hidT s₁.heap H) mg p.1 p.2 := fun p hp => by
    refine ⟨?_, ?_, fun z => ?_⟩
    · obtain ⟨o, us, fl, tf, fg, tg, inF, tx, tt, e1, r1, r2, r3, rest⟩ := C p hp
      refine ⟨o, us, fl, tf, fg, tg, inF, tx, tt, low _ o e1 (fun z => ?_) (fun z => by rw [z] at r2; cases r2), r1, r2, r3, rest⟩
      rw [r2] at z
      cases z
      simp at r3
    · obtain ⟨bm, ob, b1, b2, b3, b4, b5, b6⟩ :=  hbm
      refine ⟨bm, ob, b1, b2, fun q => ?_, fun q => ?_, low bm ob b3 (fun z => by rw [b6] at z; cases z) (fun z => by rw [z] at b6; cases b6), b4, b5, b6⟩
      · obtain ⟨o, es, ep, e, d, _⟩ := hns
        rw [q, e] at b3
        cases b3
        rw [d] at b6
        cases b6
      · rw [q, hT p hp] at b3
        cases b3
        cases b6
    · obtain ⟨o, es, ep, e, d, _⟩ := hns
      rw [z, hT p hp] at e
      cases e
      cases d
  have hok : HOk P w H s₁.heap := fun b u q => by
    rcases H2 b u q with ⟨m, rfl⟩ | ⟨_, rfl, _, rfl⟩
    · exact tAt b m
    · exact ⟨ha, by rw [List.length_map]; exact hl, vs, _, rvs, ha⟩
  have sq : SqL K H a (ns.map V.int) := by
    cases z : K.lookup a with
    | none =>
      refine .inl (.inr ⟨lo, ?_⟩)
      have n : a ∉ tb := fun m => by
        have t := tAt a m
        rw [ha] at t
        cases t
      exact (if_neg n).trans (if_pos ⟨rfl, z⟩)
    | some o =>
      have e := KX a o z
      rw [ha] at e
      cases e
      exact .inr ⟨_, vs.toArray, _, z, rfl, rfl, rfl, by rw [List.size_toArray, hi.length]; exact hl, by simpa using rvs⟩
  have e0 : Env0 P w K mg (hidT s₁.heap H) callerA [] s₁ H := ⟨rfl, ⟨kin, nsL hns, ⟨mb, nsL hb, hbb⟩, let ⟨mc, y1, y2⟩ := hlim; ⟨mc, nsL y1, y2⟩⟩, fun b o e => of_hidT e, Nat.le_of_eq (hidT_size _ _), trivial, fun b z => absurd (show b ∈ ([] : List Addr) from z) (by simp), hok, .of_eq hg⟩
  refine codeAny_mono ((F _ kin (nsL hns) TB sm).run (us := [.ref a]) (vs := [.ref a]) hr e0 (hbind s₁ (.ref a)) (.cons rfl .nil) (hsp H (fun p hp => H1 _ (tIn p hp)) sq)) fun r s2 h => ?_
  cases r with
  | error er =>
    obtain ⟨_, _, _, _, _, _, _, _, _, _, _, _, z⟩ :=  h
    exact z.elim
  | ok fl =>
    cases fl with
    | next => exact h.elim
    | brk => exact h.elim
    | cont => exact h.elim
    | ret u =>
      obtain ⟨v, H', os, bare, un, hok', r', q⟩ :=  h
      have q' : v = .bl true := q
      subst q'
      obtain rfl : u = Value.bool true :=  r'
      have stay : ∀ b o, b ∉ tb → s₁.heap.get? b = some o → s2.heap.get? b = some o := fun b o nb e => by
        cases q : H b with
        | none => exact un.keep b o e q (by intro z; exact absurd (show b ∈ ([] : List Addr) from z) (by simp)) (by  simp)
        | some u =>
          rcases H2 b u q with ⟨m, _⟩ | ⟨_, rfl, _, rfl⟩
          · exact absurd m nb
          · obtain ⟨g1, _⟩ := hok b _ q
            obtain ⟨g2, _⟩ := hok' b _ (un.frzs b lo _ q)
            rw [e] at g1
            cases g1
            exact g2
      have grow : ∀ b ∈ tb, ∃ more : Array Value, s2.heap.get? b = some { cls := .none, data := .fields more } := fun b m => by
        obtain ⟨more, z⟩ := un.tbls b #[] (H1 b m)
        exact ⟨_, hok' b _ z⟩
      refine ⟨rfl, ⟨fun b o e => ?_, fun b o e => ?_⟩, os,  bare⟩
      · by_cases m : b ∈ tb
        · obtain ⟨more, z⟩ := grow b m
          rw [tAt b m] at e
          cases e
          obtain ⟨p, hp, rfl⟩ := List.mem_map.mp m
          exact .inr (.inl ⟨((C p hp).tab (hT p hp)).isCodeTable, rfl, #[], more, rfl, by rw [Array.empty_append]; exact z⟩)
        · exact .inl (stay b o m e)
      · by_cases m : b ∈ tb
        · obtain ⟨more, z⟩ := grow b m
          exact ⟨_, z⟩
        · exact ⟨o, stay b o m e⟩
/-- what is known of the law's promise at the head's heap h; its defs know that nothing guards -/
def LawAtH (l : PySem.W.OpenLaw) (w : World) (K : PySem.W.Frag) (k n : Nat) (x : Str) (mg : Str → Option Value) (fa : Addr) (h : Heap) : Prop :=
  ∃ (fd : FuncData) (cs : List (Addr × Addr)) (sp : Sp), ((∀ p ∈ cs, h.get? p.2 = some { cls := .none, data := .fields #[] }) ∧ (∀ p ∈ cs, K.lookup p.2 = none) ∧ (∀ p ∈ cs, PySem.W.CodeHd h p.1 p.2)) ∧ (∀ (s : Shared) (u : Value), BindsTo s fd ⟨[u], []⟩ [(x, u)]) ∧
    (∀ (H : Hp) (a : Addr) (ns : List Int), ns.length ≤ n → (∀ z ∈ ns, Builtin.Int.intBits z ≤ 1048576) → (∀ p ∈ cs, H p.2 = some (.tbl #[])) → SqL K H a (ns.map V.int) → sp [.ref a] H (fun v _ => v = .bl true) fun _ _ _ => False)  ∧
    ∀ base : Heap, K.In base → base.Ns mainGlobals mg → (∀ p ∈ cs, LamX.TabB base mg p.1 p.2) → SmB base → FnG l.prog w K mg base k fa fd [x] sp
theorem walkH {l : PySem.W.OpenLaw} {n k : Nat} {q : Program} {loose : List Str} {XP : (Str → Option Value) → Heap → Prop} {YP : World → Heap → Prop} {d : DefRec} {K : Params → PySem.W.Frag} {x : Str}
    (hn : l.most = some n) (hn2 : n ≤ sizeLine) (hdf : d.params.defaults = []) (hr : RoomG k callerA) (hY : ∀ (w : World) (h : Heap), YP w h → (K w.params).In h) (hS : ∀ (w : World) (h : Heap), YP w h → ∃ o es n, h.get? sysModules = some o ∧ o.data = .dict es n)
    (F : ∀ (w : World) (mg : Str → Option Value) (fa : Addr) (h : Heap), YP w h → (K w.params).In h → h.Ns mainGlobals mg → mg d.name = some (.ref fa) → LawAtH l w (K w.params) k n x mg fa h) :
    PySem.W.WalkO q loose XP YP l.row.toRowW d [] (fun f vs => PySem.call f vs) :=  by
  refine Att.attach_callB hn hdf fun w s₀ s₁ mg mb fa o pm cd doc a vs ns G Y ho hd hcd hmg hobj hints hlen hbits hg =>  ?_
  obtain ⟨fd, cs, sp, ⟨hT, nT, C⟩, hb, hsp, hF⟩ := F w mg fa _ Y (hY w _ Y) G.T.g hmg
  exact law_callH (hY w _ Y) G.T.g G.T.b G.T.builtins G.T.nolimit hg hT nT C G.T.bmain hobj hints (Nat.le_trans hlen hn2) hr (hS w _ Y) hF hb fun H hH hS => hsp H a ns hlen hbits hH hS
end L3
namespace Cl
open PySem PySem.Spec L2 L3
open PyProof.Rows hiding St
def excN : List Str := ["BadFrame", "BadHouse", "BadLoad", "BadName", "BadNet", "BadNumber", "BadRow", "BadTable", "BadText", "BadWeb", "Flat", "NoName", "NoPlace", "NoRow", "NoWall", "NotKept", "NotOnce", "NotPlain", "NothingToRedo", "NothingToUndo", "TakenName", "TooMany", "Unlike"]
def errK (k : Nat) (a b c : D) : XD := match k with
  | 0 => exD "BadNumber" ["what", "number"] [a, b]
  | 1 => exD "BadRow" ["what", "row"] [a, b]
  | 2 => exD "BadTable" ["what"] [a]
  | 3 => exD "BadFrame" ["what", "place"] [a, b]
  | 4 => exD "BadLoad" ["what"] [a]
  | 5 => exD "BadNet" ["what", "gate"] [a, b]
  | 6 => exD "BadHouse" ["what", "place"] [a, b]
  | 7 => exD "BadWeb" ["what", "place"] [a, b]
  | 8 => exD "BadName" ["name"] [a]
  | 9 => exD "BadText" ["line", "word"] [a, b]
  | 10 => exD "NoPlace" ["place"] [a]
  | 11 => exD "NoRow" ["place", "row"] [a, b]
  | 12 => exD "NoWall" ["place"] [a]
  | 13 => exD "NoName" ["name"] [a]
  | 14 => exD "TakenName" ["name"] [a]
  | 15 => exD "Unlike" ["what"] [a]
  | 16 => exD "Flat" ["choice"] [a]
  | 17 => exD "NotOnce" ["row"] [a]
  | 18 => exD "NotPlain" ["choice"] [a]
  | 19 => exD "TooMany" ["what", "many", "limit"] [a, b, c]
  | 20 => exD "NotKept" ["promise", "witness"] [a, b]
  | 21 => exD "NothingToUndo" [] []
  | _ => exD "NothingToRedo" [] []
def dueK (k : Nat) (a b c : D) : D := match k with
  | 0 => .tup [.str "number", a, .str (reprE b)]
  | 1 => .tup [.str "row", a, .str (reprE b)]
  | 2 => .tup [.str "table", a]
  | 3 => .tup [.str "frame", a, .str (reprE b)]
  | 4 => .tup [.str "load", a]
  | 5 => .tup [.str "net", a, .str (reprE b)]
  | 6 => .tup [.str "house", a, .str (reprE b)]
  | 7 => .tup [.str "web", a, .str (reprE b)]
  | 8 => .tup [.str "badname", .str (reprE a)]
  | 9 => .tup [.str "text", a, b]
  | 10 => .tup [.str "place", .str (reprE a)]
  | 11 => .tup [.str "norow", .str (reprE a), .str (reprE b)]
  | 12 => .tup [.str "wall", .str (reprE a)]
  | 13 => .tup [.str "noname", .str (reprE a)]
  | 14 => .tup [.str "taken", .str (reprE a)]
  | 15 => .tup [.str "unlike", a]
  | 16 => .tup [.str "flat", .str (reprE a)]
  | 17 => .tup [.str "once", a]
  | 18 => .tup [.str "plain", .str (reprE a)]
  | 19 => .tup [.str "many", a, b, c]
  | 20 => .tup [.str "kept", a, b]
  | 21 => .tup [.str "undo"]
  | _ => .tup [.str "redo"]
/-- a value of a field: small, with a text of known signs -/
structure VaD (d : D) : Prop where
  sh : shE d = true
  nx : nxD d = true
  dp : (pyE d).depth ≤ 3
  bk : (pyE d).bulk ≤ 20
  ls : (pyE d).leavesShort 60 = true
  cp : cpOk (reprE d)
theorem VaD.len {d : D} (h : VaD d) : (reprE d).length ≤ 1300 := by
  have := PyData.shown_le_bulk 60 (by decide) (pyE d) h.ls
  have h2 : (60 + 2) * (pyE d).bulk ≤ (60 + 2) * 20 := Nat.mul_le_mul_left _ h.bk
  show (pyE d).shown.length ≤ _
  omega
theorem VaD.ok {d : D} (h : VaD d) : reprOkE d = true := by
  unfold reprOkE
  have := h.dp
  have h2 := h.len
  rw [h.sh, decide_eq_true (by omega : (pyE d).depth ≤ 60), decide_eq_true (by rw [sizeLine_eq]; omega : (reprE d).length ≤ sizeLine)]
  rfl
/-- an item of what is told -/
structure ItD (d : D) : Prop where
  sh : shE d = true
  nx : nxD d = true
  dp : (pyE d).depth ≤ 3
  bk : (pyE d).bulk ≤ 1300
  ls : (pyE d).leavesShort 60 = true
theorem VaD.it {d : D} (h : VaD d) : ItD d := ⟨h.sh, h.nx, h.dp, by have := h.bk; omega, h.ls⟩
theorem ls_str {x : Str} (h : cpOk x) : (PyData.str x).leavesShort 60 = true := by
  unfold PyData.leavesShort
  rw [List.all_eq_true]
  intro c hc
  have := h c hc
  exact decide_eq_true (by  omega)
theorem VaD.tx {d : D} (h : VaD d) : ItD (.str (reprE d)) := ⟨rfl, rfl, Nat.zero_le _, h.len, ls_str h.cp⟩
theorem tup_ok {w : Str} {xs : List D} (hw : cpOk w) (hl : w.length ≤ 10) (hx : xs.length ≤ 3) (h : ∀ x ∈ xs, ItD x) : reprOkE (.tup (.str w :: xs)) = true ∧ nxD (.tup (.str w :: xs)) = true := by
  have e1 : ∀ ys : List D, (∀ y ∈ ys, ItD y) → shEs ys = true ∧ nxs ys = true ∧ PyData.depthAll (pyEs ys) ≤ 3 ∧ PyData.bulkAll (pyEs ys) ≤ 1301 * ys.length ∧ PyData.leavesShortAll 60 (pyEs ys) = true := by
    intro ys
    induction ys with
    | nil => intro _; exact ⟨rfl, rfl, Nat.zero_le _, Nat.zero_le _, rfl⟩
    | cons y ys ih =>
      intro h
      obtain ⟨a1, a2, a3, a4, a5⟩ := ih fun z hz => h z (by simp [hz])
      have hy := h y (by simp)
      refine ⟨by unfold shEs; rw [hy.sh, a1]; rfl, by unfold nxs; rw [hy.nx, a2]; rfl, ?_, ?_, ?_⟩
      · unfold pyEs PyData.depthAll
        exact Nat.max_le.mpr ⟨hy.dp, a3⟩
      · unfold pyEs PyData.bulkAll
        have := hy.bk
        rw [List.length_cons]
        omega
      · unfold pyEs PyData.leavesShortAll
        rw [hy.ls, a5]
        rfl
  obtain ⟨a1, a2, a3, a4, a5⟩ := e1 xs h
  have s : shE (.tup (.str w :: xs)) = true := by
    unfold shE shEs
    rw [a1]
    rfl
  have dp : (pyE (.tup (.str w :: xs))).depth ≤ 4 := by
    unfold pyE PyData.depth pyEs PyData.depthAll
    exact Nat.succ_le_succ (Nat.max_le.mpr ⟨Nat.zero_le _, a3⟩)
  have bk : (pyE (.tup (.str w :: xs))).bulk ≤ 4000 := by
    unfold pyE PyData.bulk pyEs PyData.bulkAll
    have e : (pyE (.str w)).bulk = w.length := rfl
    rw [e]
    have := Nat.mul_le_mul_left 1301 hx
    omega
  have ls : (pyE (.tup (.str w :: xs))).leavesShort 60 = true := by
    unfold pyE PyData.leavesShort pyEs PyData.leavesShortAll
    rw [show (pyE (.str w)).leavesShort 60 = true from ls_str hw, a5]
    rfl
  have len := PyData.shown_le_bulk 60 (by decide) _ ls
  have h2 : (60 + 2) * (pyE (.tup (.str w :: xs))).bulk ≤ (60 + 2) * 4000 := Nat.mul_le_mul_left _ bk
  refine ⟨?_, by unfold nxD nxs; rw [a2]; rfl⟩
  unfold reprOkE
  rw [s, decide_eq_true (by omega : (pyE (.tup (.str w :: xs))).depth ≤ 60), decide_eq_true (by rw [sizeLine_eq]; show (pyE (.tup (.str w :: xs))).shown.length ≤ _; omega : (reprE (.tup (.str w :: xs))).length ≤ sizeLine)]
  rfl
theorem it_mem {xs : List D} : (∀ x ∈ xs, ItD x) ↔ (∀ x ∈ xs, ItD x) := Iff.rfl
theorem due_ok {k : Nat} (hk : k < 23) {a b c : D} (ha : VaD a) (hb : VaD b) (hc : VaD c) : reprOkE (dueK k a b c) = true ∧ nxD (dueK k a b c) = true := by
  have k1 : ∀ x ∈ ([a] : List D), ItD x := fun x h => by rw [List.mem_singleton.mp h]; exact ha.it
  rcases (by omega : k = 0 ∨ k = 1 ∨ k = 2 ∨ k = 3 ∨ k = 4 ∨ k = 5 ∨ k = 6 ∨ k = 7 ∨ k = 8 ∨ k = 9 ∨ k = 10 ∨ k = 11 ∨ k = 12 ∨ k = 13 ∨ k = 14 ∨ k = 15 ∨ k = 16 ∨ k = 17 ∨ k = 18 ∨ k = 19 ∨ k = 20 ∨ k = 21 ∨ k = 22) with rfl | rfl | rfl | rfl | rfl | rfl | rfl | rfl | rfl | rfl | rfl | rfl | rfl | rfl | rfl | rfl | rfl | rfl | rfl | rfl | rfl | rfl | rfl
  · exact tup_ok (w := "number") (cpOk_lit (by decide +kernel)) (by decide) (by simp) (fun x h => by
      simp only [List.mem_cons, List.mem_nil_iff, or_false] at h
      rcases h with rfl | rfl
      · exact ha.it
      · exact hb.tx)
  · exact tup_ok (w := "row") (cpOk_lit (by decide +kernel)) (by decide) (by simp) (fun x h => by
      simp only [List.mem_cons, List.mem_nil_iff, or_false] at h
      rcases h with rfl | rfl
      · exact ha.it
      · exact hb.tx)
  · exact tup_ok (w := "table") (cpOk_lit (by decide +kernel)) (by decide) (by simp) (fun x h => by rw [List.mem_singleton.mp h]; exact ha.it)
  · exact tup_ok (w := "frame") (cpOk_lit (by decide +kernel)) (by decide) (by simp) (fun x h => by
      simp only [List.mem_cons, List.mem_nil_iff, or_false] at h
      rcases h with rfl | rfl
      · exact ha.it
      · exact hb.tx)
  · exact tup_ok (w := "load") (cpOk_lit (by decide +kernel)) (by decide) (by simp) (fun x h => by rw [List.mem_singleton.mp h]; exact ha.it)
  · exact tup_ok (w := "net") (cpOk_lit (by decide +kernel)) (by decide) (by simp) (fun x h => by
      simp only [List.mem_cons, List.mem_nil_iff, or_false] at h
      rcases h with rfl | rfl
      · exact ha.it
      · exact hb.tx)
  · exact tup_ok (w := "house") (cpOk_lit (by decide +kernel)) (by decide) (by simp) (fun x h => by
      simp only [List.mem_cons, List.mem_nil_iff, or_false] at h
      rcases h with rfl | rfl
      · exact ha.it
      · exact hb.tx)
  · exact tup_ok (w := "web") (cpOk_lit (by decide +kernel)) (by decide) (by simp) (fun x h => by
      simp only [List.mem_cons, List.mem_nil_iff, or_false] at h
      rcases h with rfl | rfl
      · exact ha.it
      · exact hb.tx)
  · exact tup_ok (w := "badname") (cpOk_lit (by decide +kernel)) (by decide) (by simp) (fun x h => by rw [List.mem_singleton.mp h]; exact ha.tx)
  · exact tup_ok (w := "text") (cpOk_lit (by decide +kernel)) (by decide) (by simp) (fun x h => by
      simp only [List.mem_cons, List.mem_nil_iff, or_false] at h
      rcases h with rfl | rfl
      · exact ha.it
      · exact hb.it)
  · exact tup_ok (w := "place") (cpOk_lit (by decide +kernel)) (by decide) (by simp) (fun x h => by rw [List.mem_singleton.mp h]; exact ha.tx)
  · exact tup_ok (w := "norow") (cpOk_lit (by decide +kernel)) (by decide) (by simp) (fun x h => by
      simp only [List.mem_cons, List.mem_nil_iff, or_false] at h
      rcases h with rfl | rfl
      · exact ha.tx
      · exact hb.tx)
  · exact tup_ok (w := "wall") (cpOk_lit (by decide +kernel)) (by decide) (by simp) (fun x h => by rw [List.mem_singleton.mp h]; exact ha.tx)
  · exact tup_ok (w := "noname") (cpOk_lit (by decide +kernel)) (by decide) (by simp) (fun x h => by rw [List.mem_singleton.mp h]; exact ha.tx)
  · exact tup_ok (w := "taken") (cpOk_lit (by decide +kernel)) (by decide) (by simp) (fun x h => by rw [List.mem_singleton.mp h]; exact ha.tx)
  · exact tup_ok (w := "unlike") (cpOk_lit (by decide +kernel)) (by decide) (by simp) (fun x h => by rw [List.mem_singleton.mp h]; exact ha.it)
  · exact tup_ok (w := "flat") (cpOk_lit (by decide +kernel)) (by decide) (by simp) (fun x h => by rw [List.mem_singleton.mp h]; exact ha.tx)
  · exact tup_ok (w := "once") (cpOk_lit (by decide +kernel)) (by decide) (by simp) (fun x h => by rw [List.mem_singleton.mp h]; exact ha.it)
  · exact tup_ok (w := "plain") (cpOk_lit (by decide +kernel)) (by decide) (by simp) (fun x h => by rw [List.mem_singleton.mp h]; exact ha.tx)
  · exact tup_ok (w := "many") (cpOk_lit (by decide +kernel)) (by decide) (by simp) (fun x h => by
      simp only [List.mem_cons, List.mem_nil_iff, or_false] at h
      rcases h with rfl | rfl | rfl
      · exact ha.it
      · exact hb.it
      · exact hc.it)
  · exact tup_ok (w := "kept") (cpOk_lit (by decide +kernel)) (by decide) (by simp) (fun x h => by
      simp only [List.mem_cons, List.mem_nil_iff, or_false] at h
      rcases h with rfl | rfl
      · exact ha.it
      · exact hb.it)
  · exact tup_ok (w := "undo") (cpOk_lit (by decide +kernel)) (by decide) (by simp) (fun x h => by simp at h)
  · exact tup_ok (w := "redo") (cpOk_lit (by decide +kernel)) (by decide) (by simp) (fun x h => by simp at h)
def sp__law_value : Sp3 := fun ds Q _ => ds = [.pen] ∧ ∀ d, VaD d → Q d
def sp__law_first : Sp3 := fun ds Q E => ∃ (k : Nat) (a b : D), ds = [.int (k : Nat), a, b] ∧ k < 23 ∧ (k < 12 → E (errK k a b b)) ∧ (12 ≤ k → Q .non)
def sp__law_second : Sp3 := fun ds Q E => ∃ (k : Nat) (a b c : D), ds = [.int (k : Nat), a, b, c] ∧ 12 ≤ k ∧ k < 23 ∧ E (errK k a b c)
def sp__law_told : Sp3 := fun ds Q _ => ∃ (k : Nat) (a b c : D), ds = [.int (k : Nat), a, b, c] ∧ k < 23 ∧ VaD a ∧ VaD b ∧ VaD c ∧ Q (.lst [dueK k a b c])
def sp__law_due : Sp3 := fun ds Q _ => ∃ (k : Nat) (a b c : D), ds = [.int (k : Nat), a, b, c] ∧ k < 23 ∧ VaD a ∧ VaD b ∧ VaD c ∧ Q (dueK k a b c)
def sp_law : Sp3 := fun ds Q _ => ∃ xs, ds = [.scr xs] ∧ xs.length ≤ 63 ∧ Q (.bl true)

def sp__law_pen : Sp3 := fun ds Q _ => ∃ xs, ds = [.scr xs] ∧ xs.length ≤ 63 ∧ Q .pen

def t__law_pen : RS := (rSeq (rSet 1 (rC (.int 0)))
    (rSeq (rFor (rIt (rVar 0)) (g3N 2) (rSet 1 (rOp gMod (rCB gInt (rCons (rOp gAdd (rOp gMul (rVar 1) (rC (.int 47))) (rVar 2)) rNil)) (rC (.int 1000000007)))))
    (rRet (rPenNew (rListOf (rVar 0)) (rVar 1)))))

theorem pl__law_pen : ∀ (ds : List D) (Q : D → Prop) (E : XD → Prop), ds.length = 1 → sp__law_pen ds Q E → t__law_pen { nx := fun _ => Q .non, rt := Q, ex := E } (start3 3 ds) := fun ds Q E hl h => by
  obtain ⟨xs, rfl, hx, q⟩ := h
  let I : List D → Env3 → Prop := fun l ρ => ∃ (rest : List Int) (acc : Int) (c : Sl), l = rest.map D.int ∧ ρ = [.val (.scr xs), .val (.int acc), c] ∧ 0 ≤ acc ∧ acc < 1000000007
  refine for_inv I (fun d l ρ K hI hK => ?_) (fun ρ hI => ?_) _ _ ⟨xs, 0, .emp, rfl, rfl, by omega, by omega⟩
  · obtain ⟨rest, acc, c, el, rfl, h0, h1⟩ := hI
    cases rest with
    | nil => cases el
    | cons n rest =>
      cases el
      refine ⟨CMul.ok (.inr (by omega)), by omega, hK _ ⟨rest, _, _, rfl, rfl, ?_, ?_⟩⟩
      · exact Int.fmod_nonneg_of_pos _ (by omega)
      · exact Int.fmod_lt_of_pos _ (by omega)
  · obtain ⟨rest, acc, c, el, rfl, h0, h1⟩ := hI
    refine ⟨le_size (by rw [List.length_map]; omega), xs, rfl, acc, rfl, ⟨h0, by omega⟩, q⟩



def sp__law_pick : Sp3 := fun ds Q _ => ∃ d xs, ds = [.pen, d] ∧ (d = .tup xs ∨ d = .lst xs) ∧ 1 ≤ xs.length ∧ xs.length ≤ 65536 ∧ ∀ x ∈ xs, Q x

def t__law_pick : RS := (rRet (rOp gIx (rVar 1) (rCall 2 sp__law_draw (rCons (rVar 0) (rCons (rCB gLen (rCons (rVar 1) rNil)) rNil)))))

theorem pl__law_pick : ∀ (ds : List D) (Q : D → Prop) (E : XD → Prop), ds.length = 2 → sp__law_pick ds Q E → t__law_pick { nx := fun _ => Q .non, rt := Q, ex := E } (start3 2 ds) := fun ds Q E hl h => by
  obtain ⟨d, xs, rfl, hd, h1, h2, q⟩ := h
  have key : ∀ k : Int, 0 ≤ k → k < (xs.length : Nat) → ∃ x, atI xs k = some x ∧ Q x := fun k k0 k1 => by
    obtain ⟨n, rfl⟩ := Int.eq_ofNat_of_zero_le k0
    have hn : n < xs.length := by omega
    exact ⟨xs[n], atJ_nat (List.getElem?_eq_getElem hn), q _ (List.getElem_mem hn)⟩
  rcases hd with rfl | rfl
  · refine ⟨rfl, ⟨by omega, by omega⟩, fun k k0 k1 => ?_⟩
    obtain ⟨x, hx, qx⟩ := key k k0 k1
    show (match atI xs k with | some d => Q d | none => False)
    rw [hx]
    exact qx
  · refine ⟨rfl, ⟨by omega, by omega⟩, fun k k0 k1 => ?_⟩
    obtain ⟨x, hx, qx⟩ := key k k0 k1
    show (match atI xs k with | some d => Q d | none => False)
    rw [hx]
    exact qx

def kdA (y : XD) (t : D) : Prop := (y.cls = "BadNumber" ∧ ∃ x_what x_number : D, y.fs = [(("number" : Str), x_number), (("what" : Str), x_what)] ∧ reprOkE x_number = true ∧ t = .tup [.str "number", x_what, .str (reprE x_number)]) ∨ (y.cls = "BadRow" ∧ ∃ x_what x_row : D, y.fs = [(("row" : Str), x_row), (("what" : Str), x_what)] ∧ reprOkE x_row = true ∧ t = .tup [.str "row", x_what, .str (reprE x_row)]) ∨ (y.cls = "BadTable" ∧ ∃ x_what : D, y.fs = [(("what" : Str), x_what)] ∧ t = .tup [.str "table", x_what]) ∨ (y.cls = "BadFrame" ∧ ∃ x_what x_place : D, y.fs = [(("place" : Str), x_place), (("what" : Str), x_what)] ∧ reprOkE x_place = true ∧ t = .tup [.str "frame", x_what, .str (reprE x_place)]) ∨ (y.cls = "BadLoad" ∧ ∃ x_what : D, y.fs = [(("what" : Str), x_what)] ∧ t = .tup [.str "load", x_what]) ∨ (y.cls = "BadNet" ∧ ∃ x_what x_gate : D, y.fs = [(("gate" : Str), x_gate), (("what" : Str), x_what)] ∧ reprOkE x_gate = true ∧ t = .tup [.str "net", x_what, .str (reprE x_gate)]) ∨ (y.cls = "BadHouse" ∧ ∃ x_what x_place : D, y.fs = [(("place" : Str), x_place), (("what" : Str), x_what)] ∧ reprOkE x_place = true ∧ t = .tup [.str "house", x_what, .str (reprE x_place)]) ∨ (y.cls = "BadWeb" ∧ ∃ x_what x_place : D, y.fs = [(("place" : Str), x_place), (("what" : Str), x_what)] ∧ reprOkE x_place = true ∧ t = .tup [.str "web", x_what, .str (reprE x_place)]) ∨ (y.cls = "BadName" ∧ ∃ x_name : D, y.fs = [(("name" : Str), x_name)] ∧ reprOkE x_name = true ∧ t = .tup [.str "badname", .str (reprE x_name)]) ∨ (y.cls = "BadText" ∧ ∃ x_line x_word : D, y.fs = [(("word" : Str), x_word), (("line" : Str), x_line)] ∧ t = .tup [.str "text", x_line, x_word])
def kdB (y : XD) (t : D) : Prop := (y.cls = "NoPlace" ∧ ∃ x_place : D, y.fs = [(("place" : Str), x_place)] ∧ reprOkE x_place = true ∧ t = .tup [.str "place", .str (reprE x_place)]) ∨ (y.cls = "NoRow" ∧ ∃ x_place x_row : D, y.fs = [(("row" : Str), x_row), (("place" : Str), x_place)] ∧ reprOkE x_place = true ∧ reprOkE x_row = true ∧ t = .tup [.str "norow", .str (reprE x_place), .str (reprE x_row)]) ∨ (y.cls = "NoWall" ∧ ∃ x_place : D, y.fs = [(("place" : Str), x_place)] ∧ reprOkE x_place = true ∧ t = .tup [.str "wall", .str (reprE x_place)]) ∨ (y.cls = "NoName" ∧ ∃ x_name : D, y.fs = [(("name" : Str), x_name)] ∧ reprOkE x_name = true ∧ t = .tup [.str "noname", .str (reprE x_name)]) ∨ (y.cls = "TakenName" ∧ ∃ x_name : D, y.fs = [(("name" : Str), x_name)] ∧ reprOkE x_name = true ∧ t = .tup [.str "taken", .str (reprE x_name)]) ∨ (y.cls = "Unlike" ∧ ∃ x_what : D, y.fs = [(("what" : Str), x_what)] ∧ t = .tup [.str "unlike", x_what]) ∨ (y.cls = "Flat" ∧ ∃ x_choice : D, y.fs = [(("choice" : Str), x_choice)] ∧ reprOkE x_choice = true ∧ t = .tup [.str "flat", .str (reprE x_choice)]) ∨ (y.cls = "NotOnce" ∧ ∃ x_row : D, y.fs = [(("row" : Str), x_row)] ∧ t = .tup [.str "once", x_row]) ∨ (y.cls = "NotPlain" ∧ ∃ x_choice : D, y.fs = [(("choice" : Str), x_choice)] ∧ reprOkE x_choice = true ∧ t = .tup [.str "plain", .str (reprE x_choice)]) ∨ (y.cls = "TooMany" ∧ ∃ x_what x_many x_limit : D, y.fs = [(("limit" : Str), x_limit), (("many" : Str), x_many), (("what" : Str), x_what)] ∧ t = .tup [.str "many", x_what, x_many, x_limit]) ∨ (y.cls = "NotKept" ∧ ∃ x_promise x_witness : D, y.fs = [(("witness" : Str), x_witness), (("promise" : Str), x_promise)] ∧ t = .tup [.str "kept", x_promise, x_witness]) ∨ (y.cls = "NothingToUndo" ∧ y.fs = [] ∧ t = .tup [.str "undo"]) ∨ (y.cls = "NothingToRedo" ∧ y.fs = [] ∧ t = .tup [.str "redo"])
abbrev kd (y : XD) (t : D) : Prop := kdA y t ∨ kdB y t
theorem xm_BadFrame : ("BadFrame" : Str) ∈ excN := by decide +kernel
theorem xm_BadHouse : ("BadHouse" : Str) ∈ excN := by decide +kernel
theorem xm_BadLoad : ("BadLoad" : Str) ∈ excN := by decide +kernel
theorem xm_BadName : ("BadName" : Str) ∈ excN := by decide +kernel
theorem xm_BadNet : ("BadNet" : Str) ∈ excN := by decide +kernel
theorem xm_BadNumber : ("BadNumber" : Str) ∈ excN := by decide +kernel
theorem xm_BadRow : ("BadRow" : Str) ∈ excN := by decide +kernel
theorem xm_BadTable : ("BadTable" : Str) ∈ excN := by decide +kernel
theorem xm_BadText : ("BadText" : Str) ∈ excN := by decide +kernel
theorem xm_BadWeb : ("BadWeb" : Str) ∈ excN := by decide +kernel
theorem xm_Flat : ("Flat" : Str) ∈ excN := by decide +kernel
theorem xm_NoName : ("NoName" : Str) ∈ excN := by decide +kernel
theorem xm_NoPlace : ("NoPlace" : Str) ∈ excN := by decide +kernel
theorem xm_NoRow : ("NoRow" : Str) ∈ excN := by decide +kernel
theorem xm_NoWall : ("NoWall" : Str) ∈ excN := by decide +kernel
theorem xm_NotKept : ("NotKept" : Str) ∈ excN := by decide +kernel
theorem xm_NotOnce : ("NotOnce" : Str) ∈ excN := by decide +kernel
theorem xm_NotPlain : ("NotPlain" : Str) ∈ excN := by decide +kernel
theorem xm_NothingToRedo : ("NothingToRedo" : Str) ∈ excN := by decide +kernel
theorem xm_NothingToUndo : ("NothingToUndo" : Str) ∈ excN := by decide +kernel
theorem xm_TakenName : ("TakenName" : Str) ∈ excN := by decide +kernel
theorem xm_TooMany : ("TooMany" : Str) ∈ excN := by decide +kernel
theorem xm_Unlike : ("Unlike" : Str) ∈ excN := by decide +kernel
theorem kdA_mem {y : XD} {t : D} (h : kdA y t) : y.cls ∈ excN := by
  rcases h with ⟨h, _⟩ | ⟨h, _⟩ | ⟨h, _⟩ | ⟨h, _⟩ | ⟨h, _⟩ | ⟨h, _⟩ | ⟨h, _⟩ | ⟨h, _⟩ | ⟨h, _⟩ | ⟨h, _⟩
  · rw [h]; exact xm_BadNumber
  · rw [h]; exact xm_BadRow
  · rw [h]; exact xm_BadTable
  · rw [h]; exact xm_BadFrame
  · rw [h]; exact xm_BadLoad
  · rw [h]; exact xm_BadNet
  · rw [h]; exact xm_BadHouse
  · rw [h]; exact xm_BadWeb
  · rw [h]; exact xm_BadName
  · rw [h]; exact xm_BadText
theorem kdB_mem {y : XD} {t : D} (h : kdB y t) : y.cls ∈ excN := by
  rcases h with ⟨h, _⟩ | ⟨h, _⟩ | ⟨h, _⟩ | ⟨h, _⟩ | ⟨h, _⟩ | ⟨h, _⟩ | ⟨h, _⟩ | ⟨h, _⟩ | ⟨h, _⟩ | ⟨h, _⟩ | ⟨h, _⟩ | ⟨h, _⟩ | ⟨h, _⟩
  · rw [h]; exact xm_NoPlace
  · rw [h]; exact xm_NoRow
  · rw [h]; exact xm_NoWall
  · rw [h]; exact xm_NoName
  · rw [h]; exact xm_TakenName
  · rw [h]; exact xm_Unlike
  · rw [h]; exact xm_Flat
  · rw [h]; exact xm_NotOnce
  · rw [h]; exact xm_NotPlain
  · rw [h]; exact xm_TooMany
  · rw [h]; exact xm_NotKept
  · rw [h]; exact xm_NothingToUndo
  · rw [h]; exact xm_NothingToRedo
theorem kd_mem {y : XD} {t : D} (h : kd y t) : y.cls ∈ excN := h.elim kdA_mem kdB_mem
def sp__law_more_kinds : XD → (D → Prop) → Prop := fun y Q => (∃ t, kdB y t ∧ Q (.lst [t])) ∨ (∃ t, kdA y t ∧ Q (.lst []))

def t__law_more_kinds : RS := (rSeq (rSetL 1 (rLst rNil))
    (rSeq (rIf (rTV (rIsX excN (· == "NoPlace") (rVar 0))) (rApp 1 (rTup (rCons (rC (.str "place")) (rCons (rReprE (rXf "NoPlace" "place" (rVar 0))) rNil)))) rNext)
    (rSeq (rIf (rTV (rIsX excN (· == "NoRow") (rVar 0))) (rApp 1 (rTup (rCons (rC (.str "norow")) (rCons (rReprE (rXf "NoRow" "place" (rVar 0))) (rCons (rReprE (rXf "NoRow" "row" (rVar 0))) rNil))))) rNext)
    (rSeq (rIf (rTV (rIsX excN (· == "NoWall") (rVar 0))) (rApp 1 (rTup (rCons (rC (.str "wall")) (rCons (rReprE (rXf "NoWall" "place" (rVar 0))) rNil)))) rNext)
    (rSeq (rIf (rTV (rIsX excN (· == "NoName") (rVar 0))) (rApp 1 (rTup (rCons (rC (.str "noname")) (rCons (rReprE (rXf "NoName" "name" (rVar 0))) rNil)))) rNext)
    (rSeq (rIf (rTV (rIsX excN (· == "TakenName") (rVar 0))) (rApp 1 (rTup (rCons (rC (.str "taken")) (rCons (rReprE (rXf "TakenName" "name" (rVar 0))) rNil)))) rNext)
    (rSeq (rIf (rTV (rIsX excN (· == "Unlike") (rVar 0))) (rApp 1 (rTup (rCons (rC (.str "unlike")) (rCons (rXf "Unlike" "what" (rVar 0)) rNil)))) rNext)
    (rSeq (rIf (rTV (rIsX excN (· == "Flat") (rVar 0))) (rApp 1 (rTup (rCons (rC (.str "flat")) (rCons (rReprE (rXf "Flat" "choice" (rVar 0))) rNil)))) rNext)
    (rSeq (rIf (rTV (rIsX excN (· == "NotOnce") (rVar 0))) (rApp 1 (rTup (rCons (rC (.str "once")) (rCons (rXf "NotOnce" "row" (rVar 0)) rNil)))) rNext)
    (rSeq (rIf (rTV (rIsX excN (· == "NotPlain") (rVar 0))) (rApp 1 (rTup (rCons (rC (.str "plain")) (rCons (rReprE (rXf "NotPlain" "choice" (rVar 0))) rNil)))) rNext)
    (rSeq (rIf (rTV (rIsX excN (· == "TooMany") (rVar 0))) (rApp 1 (rTup (rCons (rC (.str "many")) (rCons (rXf "TooMany" "what" (rVar 0)) (rCons (rXf "TooMany" "many" (rVar 0)) (rCons (rXf "TooMany" "limit" (rVar 0)) rNil)))))) rNext)
    (rSeq (rIf (rTV (rIsX excN (· == "NotKept") (rVar 0))) (rApp 1 (rTup (rCons (rC (.str "kept")) (rCons (rXf "NotKept" "promise" (rVar 0)) (rCons (rXf "NotKept" "witness" (rVar 0)) rNil))))) rNext)
    (rSeq (rIf (rTV (rIsX excN (· == "NothingToUndo") (rVar 0))) (rApp 1 (rTup (rCons (rC (.str "undo")) rNil))) rNext)
    (rSeq (rIf (rTV (rIsX excN (· == "NothingToRedo") (rVar 0))) (rApp 1 (rTup (rCons (rC (.str "redo")) rNil))) rNext)
    (rFrz 1 (rRet (rVar 1)))))))))))))))))

theorem pl__law_more_kinds : ∀ (x : XD) (Q : D → Prop), sp__law_more_kinds x Q → t__law_more_kinds { nx := fun _ => Q .non, rt := Q, ex := fun _ => False } (start3 2 [.exc x.cls x.fs]) := fun x Q h => by
  obtain ⟨c, fs⟩ := x
  rcases h with ⟨t, h, q⟩ | ⟨t, h, q⟩
  · rcases h with ⟨hc, x_place, hf, hr_place, rfl⟩ | ⟨hc, x_place, x_row, hf, hr_place, hr_row, rfl⟩ | ⟨hc, x_place, hf, hr_place, rfl⟩ | ⟨hc, x_name, hf, hr_name, rfl⟩ | ⟨hc, x_name, hf, hr_name, rfl⟩ | ⟨hc, x_what, hf, rfl⟩ | ⟨hc, x_choice, hf, hr_choice, rfl⟩ | ⟨hc, x_row, hf, rfl⟩ | ⟨hc, x_choice, hf, hr_choice, rfl⟩ | ⟨hc, x_what, x_many, x_limit, hf, rfl⟩ | ⟨hc, x_promise, x_witness, hf, rfl⟩ | ⟨hc, hf, rfl⟩ | ⟨hc, hf, rfl⟩
    · have hc : c = "NoPlace" := hc
      have hf : fs = _ := hf
      subst hc hf
      exact ⟨by show 1 < 2; decide, by show 0 ≤ sizeLine; exact Nat.zero_le _, xm_NoPlace, rfl, hr_place, by show 2 ≤ sizeLine; decide, by show 0 < sizeLine; decide, xm_NoPlace, xm_NoPlace, xm_NoPlace, xm_NoPlace, xm_NoPlace, xm_NoPlace, xm_NoPlace, xm_NoPlace, xm_NoPlace, xm_NoPlace, xm_NoPlace, xm_NoPlace, q⟩
    · have hc : c = "NoRow" := hc
      have hf : fs = _ := hf
      subst hc hf
      exact ⟨by show 1 < 2; decide, by show 0 ≤ sizeLine; exact Nat.zero_le _, xm_NoRow, xm_NoRow, rfl, hr_place, rfl, hr_row, by show 3 ≤ sizeLine; decide, by show 0 < sizeLine; decide, xm_NoRow, xm_NoRow, xm_NoRow, xm_NoRow, xm_NoRow, xm_NoRow, xm_NoRow, xm_NoRow, xm_NoRow, xm_NoRow, xm_NoRow, q⟩
    · have hc : c = "NoWall" := hc
      have hf : fs = _ := hf
      subst hc hf
      exact ⟨by show 1 < 2; decide, by show 0 ≤ sizeLine; exact Nat.zero_le _, xm_NoWall, xm_NoWall, xm_NoWall, rfl, hr_place, by show 2 ≤ sizeLine; decide, by show 0 < sizeLine; decide, xm_NoWall, xm_NoWall, xm_NoWall, xm_NoWall, xm_NoWall, xm_NoWall, xm_NoWall, xm_NoWall, xm_NoWall, xm_NoWall, q⟩
    · have hc : c = "NoName" := hc
      have hf : fs = _ := hf
      subst hc hf
      exact ⟨by show 1 < 2; decide, by show 0 ≤ sizeLine; exact Nat.zero_le _, xm_NoName, xm_NoName, xm_NoName, xm_NoName, rfl, hr_name, by show 2 ≤ sizeLine; decide, by show 0 < sizeLine; decide, xm_NoName, xm_NoName, xm_NoName, xm_NoName, xm_NoName, xm_NoName, xm_NoName, xm_NoName, xm_NoName, q⟩
    · have hc : c = "TakenName" := hc
      have hf : fs = _ := hf
      subst hc hf
      exact ⟨by show 1 < 2; decide, by show 0 ≤ sizeLine; exact Nat.zero_le _, xm_TakenName, xm_TakenName, xm_TakenName, xm_TakenName, xm_TakenName, rfl, hr_name, by show 2 ≤ sizeLine; decide, by show 0 < sizeLine; decide, xm_TakenName, xm_TakenName, xm_TakenName, xm_TakenName, xm_TakenName, xm_TakenName, xm_TakenName, xm_TakenName, q⟩
    · have hc : c = "Unlike" := hc
      have hf : fs = _ := hf
      subst hc hf
      exact ⟨by show 1 < 2; decide, by show 0 ≤ sizeLine; exact Nat.zero_le _, xm_Unlike, xm_Unlike, xm_Unlike, xm_Unlike, xm_Unlike, xm_Unlike, rfl, by show 2 ≤ sizeLine; decide, by show 0 < sizeLine; decide, xm_Unlike, xm_Unlike, xm_Unlike, xm_Unlike, xm_Unlike, xm_Unlike, xm_Unlike, q⟩
    · have hc : c = "Flat" := hc
      have hf : fs = _ := hf
      subst hc hf
      exact ⟨by show 1 < 2; decide, by show 0 ≤ sizeLine; exact Nat.zero_le _, xm_Flat, xm_Flat, xm_Flat, xm_Flat, xm_Flat, xm_Flat, xm_Flat, rfl, hr_choice, by show 2 ≤ sizeLine; decide, by show 0 < sizeLine; decide, xm_Flat, xm_Flat, xm_Flat, xm_Flat, xm_Flat, xm_Flat, q⟩
    · have hc : c = "NotOnce" := hc
      have hf : fs = _ := hf
      subst hc hf
      exact ⟨by show 1 < 2; decide, by show 0 ≤ sizeLine; exact Nat.zero_le _, xm_NotOnce, xm_NotOnce, xm_NotOnce, xm_NotOnce, xm_NotOnce, xm_NotOnce, xm_NotOnce, xm_NotOnce, rfl, by show 2 ≤ sizeLine; decide, by show 0 < sizeLine; decide, xm_NotOnce, xm_NotOnce, xm_NotOnce, xm_NotOnce, xm_NotOnce, q⟩
    · have hc : c = "NotPlain" := hc
      have hf : fs = _ := hf
      subst hc hf
      exact ⟨by show 1 < 2; decide, by show 0 ≤ sizeLine; exact Nat.zero_le _, xm_NotPlain, xm_NotPlain, xm_NotPlain, xm_NotPlain, xm_NotPlain, xm_NotPlain, xm_NotPlain, xm_NotPlain, xm_NotPlain, rfl, hr_choice, by show 2 ≤ sizeLine; decide, by show 0 < sizeLine; decide, xm_NotPlain, xm_NotPlain, xm_NotPlain, xm_NotPlain, q⟩
    · have hc : c = "TooMany" := hc
      have hf : fs = _ := hf
      subst hc hf
      exact ⟨by show 1 < 2; decide, by show 0 ≤ sizeLine; exact Nat.zero_le _, xm_TooMany, xm_TooMany, xm_TooMany, xm_TooMany, xm_TooMany, xm_TooMany, xm_TooMany, xm_TooMany, xm_TooMany, xm_TooMany, rfl, rfl, rfl, by show 4 ≤ sizeLine; decide, by show 0 < sizeLine; decide, xm_TooMany, xm_TooMany, xm_TooMany, q⟩
    · have hc : c = "NotKept" := hc
      have hf : fs = _ := hf
      subst hc hf
      exact ⟨by show 1 < 2; decide, by show 0 ≤ sizeLine; exact Nat.zero_le _, xm_NotKept, xm_NotKept, xm_NotKept, xm_NotKept, xm_NotKept, xm_NotKept, xm_NotKept, xm_NotKept, xm_NotKept, xm_NotKept, xm_NotKept, rfl, rfl, by show 3 ≤ sizeLine; decide, by show 0 < sizeLine; decide, xm_NotKept, xm_NotKept, q⟩
    · have hc : c = "NothingToUndo" := hc
      have hf : fs = _ := hf
      subst hc hf
      exact ⟨by show 1 < 2; decide, by show 0 ≤ sizeLine; exact Nat.zero_le _, xm_NothingToUndo, xm_NothingToUndo, xm_NothingToUndo, xm_NothingToUndo, xm_NothingToUndo, xm_NothingToUndo, xm_NothingToUndo, xm_NothingToUndo, xm_NothingToUndo, xm_NothingToUndo, xm_NothingToUndo, xm_NothingToUndo, by show 1 ≤ sizeLine; decide, by show 0 < sizeLine; decide, xm_NothingToUndo, q⟩
    · have hc : c = "NothingToRedo" := hc
      have hf : fs = _ := hf
      subst hc hf
      exact ⟨by show 1 < 2; decide, by show 0 ≤ sizeLine; exact Nat.zero_le _, xm_NothingToRedo, xm_NothingToRedo, xm_NothingToRedo, xm_NothingToRedo, xm_NothingToRedo, xm_NothingToRedo, xm_NothingToRedo, xm_NothingToRedo, xm_NothingToRedo, xm_NothingToRedo, xm_NothingToRedo, xm_NothingToRedo, xm_NothingToRedo, by show 1 ≤ sizeLine; decide, by show 0 < sizeLine; decide, q⟩
  · rcases h with ⟨hc, x_what, x_number, hf, hr_number, rfl⟩ | ⟨hc, x_what, x_row, hf, hr_row, rfl⟩ | ⟨hc, x_what, hf, rfl⟩ | ⟨hc, x_what, x_place, hf, hr_place, rfl⟩ | ⟨hc, x_what, hf, rfl⟩ | ⟨hc, x_what, x_gate, hf, hr_gate, rfl⟩ | ⟨hc, x_what, x_place, hf, hr_place, rfl⟩ | ⟨hc, x_what, x_place, hf, hr_place, rfl⟩ | ⟨hc, x_name, hf, hr_name, rfl⟩ | ⟨hc, x_line, x_word, hf, rfl⟩
    · have hc : c = "BadNumber" := hc
      have hf : fs = _ := hf
      subst hc hf
      exact ⟨by show 1 < 2; decide, by show 0 ≤ sizeLine; exact Nat.zero_le _, xm_BadNumber, xm_BadNumber, xm_BadNumber, xm_BadNumber, xm_BadNumber, xm_BadNumber, xm_BadNumber, xm_BadNumber, xm_BadNumber, xm_BadNumber, xm_BadNumber, xm_BadNumber, xm_BadNumber, q⟩
    · have hc : c = "BadRow" := hc
      have hf : fs = _ := hf
      subst hc hf
      exact ⟨by show 1 < 2; decide, by show 0 ≤ sizeLine; exact Nat.zero_le _, xm_BadRow, xm_BadRow, xm_BadRow, xm_BadRow, xm_BadRow, xm_BadRow, xm_BadRow, xm_BadRow, xm_BadRow, xm_BadRow, xm_BadRow, xm_BadRow, xm_BadRow, q⟩
    · have hc : c = "BadTable" := hc
      have hf : fs = _ := hf
      subst hc hf
      exact ⟨by show 1 < 2; decide, by show 0 ≤ sizeLine; exact Nat.zero_le _, xm_BadTable, xm_BadTable, xm_BadTable, xm_BadTable, xm_BadTable, xm_BadTable, xm_BadTable, xm_BadTable, xm_BadTable, xm_BadTable, xm_BadTable, xm_BadTable, xm_BadTable, q⟩
    · have hc : c = "BadFrame" := hc
      have hf : fs = _ := hf
      subst hc hf
      exact ⟨by show 1 < 2; decide, by show 0 ≤ sizeLine; exact Nat.zero_le _, xm_BadFrame, xm_BadFrame, xm_BadFrame, xm_BadFrame, xm_BadFrame, xm_BadFrame, xm_BadFrame, xm_BadFrame, xm_BadFrame, xm_BadFrame, xm_BadFrame, xm_BadFrame, xm_BadFrame, q⟩
    · have hc : c = "BadLoad" := hc
      have hf : fs = _ := hf
      subst hc hf
      exact ⟨by show 1 < 2; decide, by show 0 ≤ sizeLine; exact Nat.zero_le _, xm_BadLoad, xm_BadLoad, xm_BadLoad, xm_BadLoad, xm_BadLoad, xm_BadLoad, xm_BadLoad, xm_BadLoad, xm_BadLoad, xm_BadLoad, xm_BadLoad, xm_BadLoad, xm_BadLoad, q⟩
    · have hc : c = "BadNet" := hc
      have hf : fs = _ := hf
      subst hc hf
      exact ⟨by show 1 < 2; decide, by show 0 ≤ sizeLine; exact Nat.zero_le _, xm_BadNet, xm_BadNet, xm_BadNet, xm_BadNet, xm_BadNet, xm_BadNet, xm_BadNet, xm_BadNet, xm_BadNet, xm_BadNet, xm_BadNet, xm_BadNet, xm_BadNet, q⟩
    · have hc : c = "BadHouse" := hc
      have hf : fs = _ := hf
      subst hc hf
      exact ⟨by show 1 < 2; decide, by show 0 ≤ sizeLine; exact Nat.zero_le _, xm_BadHouse, xm_BadHouse, xm_BadHouse, xm_BadHouse, xm_BadHouse, xm_BadHouse, xm_BadHouse, xm_BadHouse, xm_BadHouse, xm_BadHouse, xm_BadHouse, xm_BadHouse, xm_BadHouse, q⟩
    · have hc : c = "BadWeb" := hc
      have hf : fs = _ := hf
      subst hc hf
      exact ⟨by show 1 < 2; decide, by show 0 ≤ sizeLine; exact Nat.zero_le _, xm_BadWeb, xm_BadWeb, xm_BadWeb, xm_BadWeb, xm_BadWeb, xm_BadWeb, xm_BadWeb, xm_BadWeb, xm_BadWeb, xm_BadWeb, xm_BadWeb, xm_BadWeb, xm_BadWeb, q⟩
    · have hc : c = "BadName" := hc
      have hf : fs = _ := hf
      subst hc hf
      exact ⟨by show 1 < 2; decide, by show 0 ≤ sizeLine; exact Nat.zero_le _, xm_BadName, xm_BadName, xm_BadName, xm_BadName, xm_BadName, xm_BadName, xm_BadName, xm_BadName, xm_BadName, xm_BadName, xm_BadName, xm_BadName, xm_BadName, q⟩
    · have hc : c = "BadText" := hc
      have hf : fs = _ := hf
      subst hc hf
      exact ⟨by show 1 < 2; decide, by show 0 ≤ sizeLine; exact Nat.zero_le _, xm_BadText, xm_BadText, xm_BadText, xm_BadText, xm_BadText, xm_BadText, xm_BadText, xm_BadText, xm_BadText, xm_BadText, xm_BadText, xm_BadText, xm_BadText, q⟩

theorem kdi_BadFrame {x_what x_place : D} (hr_place : reprOkE x_place = true) : kd (exD "BadFrame" ["what", "place"] [x_what, x_place]) (.tup [.str "frame", x_what, .str (reprE x_place)]) := .inl (.inr (.inr (.inr (.inl ⟨rfl, x_what, x_place, rfl, hr_place, rfl⟩))))
theorem kdi_BadHouse {x_what x_place : D} (hr_place : reprOkE x_place = true) : kd (exD "BadHouse" ["what", "place"] [x_what, x_place]) (.tup [.str "house", x_what, .str (reprE x_place)]) := .inl (.inr (.inr (.inr (.inr (.inr (.inr (.inl ⟨rfl, x_what, x_place, rfl, hr_place, rfl⟩)))))))
theorem kdi_BadLoad {x_what : D}  : kd (exD "BadLoad" ["what"] [x_what]) (.tup [.str "load", x_what]) := .inl (.inr (.inr (.inr (.inr (.inl ⟨rfl, x_what, rfl, rfl⟩)))))
theorem kdi_BadName {x_name : D} (hr_name : reprOkE x_name = true) : kd (exD "BadName" ["name"] [x_name]) (.tup [.str "badname", .str (reprE x_name)]) := .inl (.inr (.inr (.inr (.inr (.inr (.inr (.inr (.inr (.inl ⟨rfl, x_name, rfl, hr_name, rfl⟩)))))))))
theorem kdi_BadNet {x_what x_gate : D} (hr_gate : reprOkE x_gate = true) : kd (exD "BadNet" ["what", "gate"] [x_what, x_gate]) (.tup [.str "net", x_what, .str (reprE x_gate)]) := .inl (.inr (.inr (.inr (.inr (.inr (.inl ⟨rfl, x_what, x_gate, rfl, hr_gate, rfl⟩))))))
theorem kdi_BadNumber {x_what x_number : D} (hr_number : reprOkE x_number = true) : kd (exD "BadNumber" ["what", "number"] [x_what, x_number]) (.tup [.str "number", x_what, .str (reprE x_number)]) := .inl (.inl ⟨rfl, x_what, x_number, rfl, hr_number, rfl⟩)
theorem kdi_BadRow {x_what x_row : D} (hr_row : reprOkE x_row = true) : kd (exD "BadRow" ["what", "row"] [x_what, x_row]) (.tup [.str "row", x_what, .str (reprE x_row)]) := .inl (.inr (.inl ⟨rfl, x_what, x_row, rfl, hr_row, rfl⟩))
theorem kdi_BadTable {x_what : D}  : kd (exD "BadTable" ["what"] [x_what]) (.tup [.str "table", x_what]) := .inl (.inr (.inr (.inl ⟨rfl, x_what, rfl, rfl⟩)))
theorem kdi_BadText {x_line x_word : D}  : kd (exD "BadText" ["line", "word"] [x_line, x_word]) (.tup [.str "text", x_line, x_word]) := .inl (.inr (.inr (.inr (.inr (.inr (.inr (.inr (.inr (.inr (⟨rfl, x_line, x_word, rfl, rfl⟩))))))))))
theorem kdi_BadWeb {x_what x_place : D} (hr_place : reprOkE x_place = true) : kd (exD "BadWeb" ["what", "place"] [x_what, x_place]) (.tup [.str "web", x_what, .str (reprE x_place)]) := .inl (.inr (.inr (.inr (.inr (.inr (.inr (.inr (.inl ⟨rfl, x_what, x_place, rfl, hr_place, rfl⟩))))))))
theorem kdi_Flat {x_choice : D} (hr_choice : reprOkE x_choice = true) : kd (exD "Flat" ["choice"] [x_choice]) (.tup [.str "flat", .str (reprE x_choice)]) := .inr (.inr (.inr (.inr (.inr (.inr (.inr (.inl ⟨rfl, x_choice, rfl, hr_choice, rfl⟩)))))))
theorem kdi_NoName {x_name : D} (hr_name : reprOkE x_name = true) : kd (exD "NoName" ["name"] [x_name]) (.tup [.str "noname", .str (reprE x_name)]) := .inr (.inr (.inr (.inr (.inl ⟨rfl, x_name, rfl, hr_name, rfl⟩))))
theorem kdi_NoPlace {x_place : D} (hr_place : reprOkE x_place = true) : kd (exD "NoPlace" ["place"] [x_place]) (.tup [.str "place", .str (reprE x_place)]) := .inr (.inl ⟨rfl, x_place, rfl, hr_place, rfl⟩)
theorem kdi_NoRow {x_place x_row : D} (hr_place : reprOkE x_place = true) (hr_row : reprOkE x_row = true) : kd (exD "NoRow" ["place", "row"] [x_place, x_row]) (.tup [.str "norow", .str (reprE x_place), .str (reprE x_row)]) := .inr (.inr (.inl ⟨rfl, x_place, x_row, rfl, hr_place, hr_row, rfl⟩))
theorem kdi_NoWall {x_place : D} (hr_place : reprOkE x_place = true) : kd (exD "NoWall" ["place"] [x_place]) (.tup [.str "wall", .str (reprE x_place)]) := .inr (.inr (.inr (.inl ⟨rfl, x_place, rfl, hr_place, rfl⟩)))
theorem kdi_NotKept {x_promise x_witness : D}  : kd (exD "NotKept" ["promise", "witness"] [x_promise, x_witness]) (.tup [.str "kept", x_promise, x_witness]) := .inr (.inr (.inr (.inr (.inr (.inr (.inr (.inr (.inr (.inr (.inr (.inl ⟨rfl, x_promise, x_witness, rfl, rfl⟩)))))))))))
theorem kdi_NotOnce {x_row : D}  : kd (exD "NotOnce" ["row"] [x_row]) (.tup [.str "once", x_row]) := .inr (.inr (.inr (.inr (.inr (.inr (.inr (.inr (.inl ⟨rfl, x_row, rfl, rfl⟩))))))))
theorem kdi_NotPlain {x_choice : D} (hr_choice : reprOkE x_choice = true) : kd (exD "NotPlain" ["choice"] [x_choice]) (.tup [.str "plain", .str (reprE x_choice)]) := .inr (.inr (.inr (.inr (.inr (.inr (.inr (.inr (.inr (.inl ⟨rfl, x_choice, rfl, hr_choice, rfl⟩)))))))))
theorem kdi_NothingToRedo   : kd (exD "NothingToRedo" [] []) (.tup [.str "redo"]) := .inr (.inr (.inr (.inr (.inr (.inr (.inr (.inr (.inr (.inr (.inr (.inr (.inr (⟨rfl, rfl, rfl⟩)))))))))))))
theorem kdi_NothingToUndo   : kd (exD "NothingToUndo" [] []) (.tup [.str "undo"]) := .inr (.inr (.inr (.inr (.inr (.inr (.inr (.inr (.inr (.inr (.inr (.inr (.inl ⟨rfl, rfl, rfl⟩))))))))))))
theorem kdi_TakenName {x_name : D} (hr_name : reprOkE x_name = true) : kd (exD "TakenName" ["name"] [x_name]) (.tup [.str "taken", .str (reprE x_name)]) := .inr (.inr (.inr (.inr (.inr (.inl ⟨rfl, x_name, rfl, hr_name, rfl⟩)))))
theorem kdi_TooMany {x_what x_many x_limit : D}  : kd (exD "TooMany" ["what", "many", "limit"] [x_what, x_many, x_limit]) (.tup [.str "many", x_what, x_many, x_limit]) := .inr (.inr (.inr (.inr (.inr (.inr (.inr (.inr (.inr (.inr (.inl ⟨rfl, x_what, x_many, x_limit, rfl, rfl⟩))))))))))
theorem kdi_Unlike {x_what : D}  : kd (exD "Unlike" ["what"] [x_what]) (.tup [.str "unlike", x_what]) := .inr (.inr (.inr (.inr (.inr (.inr (.inl ⟨rfl, x_what, rfl, rfl⟩))))))
def sp__law_kinds : XD → (D → Prop) → Prop := fun y Q => ∃ t, kd y t ∧ Q (.lst [t])

def t__law_kinds : RS := (rSeq (rSetL 1 (rLst rNil))
    (rSeq (rIf (rTV (rIsX excN (· == "BadNumber") (rVar 0))) (rApp 1 (rTup (rCons (rC (.str "number")) (rCons (rXf "BadNumber" "what" (rVar 0)) (rCons (rReprE (rXf "BadNumber" "number" (rVar 0))) rNil))))) rNext)
    (rSeq (rIf (rTV (rIsX excN (· == "BadRow") (rVar 0))) (rApp 1 (rTup (rCons (rC (.str "row")) (rCons (rXf "BadRow" "what" (rVar 0)) (rCons (rReprE (rXf "BadRow" "row" (rVar 0))) rNil))))) rNext)
    (rSeq (rIf (rTV (rIsX excN (· == "BadTable") (rVar 0))) (rApp 1 (rTup (rCons (rC (.str "table")) (rCons (rXf "BadTable" "what" (rVar 0)) rNil)))) rNext)
    (rSeq (rIf (rTV (rIsX excN (· == "BadFrame") (rVar 0))) (rApp 1 (rTup (rCons (rC (.str "frame")) (rCons (rXf "BadFrame" "what" (rVar 0)) (rCons (rReprE (rXf "BadFrame" "place" (rVar 0))) rNil))))) rNext)
    (rSeq (rIf (rTV (rIsX excN (· == "BadLoad") (rVar 0))) (rApp 1 (rTup (rCons (rC (.str "load")) (rCons (rXf "BadLoad" "what" (rVar 0)) rNil)))) rNext)
    (rSeq (rIf (rTV (rIsX excN (· == "BadNet") (rVar 0))) (rApp 1 (rTup (rCons (rC (.str "net")) (rCons (rXf "BadNet" "what" (rVar 0)) (rCons (rReprE (rXf "BadNet" "gate" (rVar 0))) rNil))))) rNext)
    (rSeq (rIf (rTV (rIsX excN (· == "BadHouse") (rVar 0))) (rApp 1 (rTup (rCons (rC (.str "house")) (rCons (rXf "BadHouse" "what" (rVar 0)) (rCons (rReprE (rXf "BadHouse" "place" (rVar 0))) rNil))))) rNext)
    (rSeq (rIf (rTV (rIsX excN (· == "BadWeb") (rVar 0))) (rApp 1 (rTup (rCons (rC (.str "web")) (rCons (rXf "BadWeb" "what" (rVar 0)) (rCons (rReprE (rXf "BadWeb" "place" (rVar 0))) rNil))))) rNext)
    (rSeq (rIf (rTV (rIsX excN (· == "BadName") (rVar 0))) (rApp 1 (rTup (rCons (rC (.str "badname")) (rCons (rReprE (rXf "BadName" "name" (rVar 0))) rNil)))) rNext)
    (rSeq (rIf (rTV (rIsX excN (· == "BadText") (rVar 0))) (rApp 1 (rTup (rCons (rC (.str "text")) (rCons (rXf "BadText" "line" (rVar 0)) (rCons (rXf "BadText" "word" (rVar 0)) rNil))))) rNext)
    (rFrz 1 (rRet (rOp gAdd (rVar 1) (rCallP sp__law_more_kinds (rVar 0))))))))))))))))

theorem pl__law_kinds : ∀ (x : XD) (Q : D → Prop), sp__law_kinds x Q → t__law_kinds { nx := fun _ => Q .non, rt := Q, ex := fun _ => False } (start3 2 [.exc x.cls x.fs]) := fun x Q h => by
  obtain ⟨c, fs⟩ := x
  obtain ⟨t, h, q⟩ := h
  rcases h with h | h
  · rcases h with ⟨hc, x_what, x_number, hf, hr_number, rfl⟩ | ⟨hc, x_what, x_row, hf, hr_row, rfl⟩ | ⟨hc, x_what, hf, rfl⟩ | ⟨hc, x_what, x_place, hf, hr_place, rfl⟩ | ⟨hc, x_what, hf, rfl⟩ | ⟨hc, x_what, x_gate, hf, hr_gate, rfl⟩ | ⟨hc, x_what, x_place, hf, hr_place, rfl⟩ | ⟨hc, x_what, x_place, hf, hr_place, rfl⟩ | ⟨hc, x_name, hf, hr_name, rfl⟩ | ⟨hc, x_line, x_word, hf, rfl⟩
    · have hc : c = "BadNumber" := hc
      have hf : fs = _ := hf
      subst hc hf
      exact ⟨by show 1 < 2; decide, by show 0 ≤ sizeLine; exact Nat.zero_le _, xm_BadNumber, rfl, rfl, hr_number, by show 3 ≤ sizeLine; decide, by show 0 < sizeLine; decide, xm_BadNumber, xm_BadNumber, xm_BadNumber, xm_BadNumber, xm_BadNumber, xm_BadNumber, xm_BadNumber, xm_BadNumber, xm_BadNumber, .inr ⟨_, .inl ⟨rfl, x_what, x_number, rfl, hr_number, rfl⟩, by show 1 + 0 ≤ sizeLine; decide, q⟩⟩
    · have hc : c = "BadRow" := hc
      have hf : fs = _ := hf
      subst hc hf
      exact ⟨by show 1 < 2; decide, by show 0 ≤ sizeLine; exact Nat.zero_le _, xm_BadRow, xm_BadRow, rfl, rfl, hr_row, by show 3 ≤ sizeLine; decide, by show 0 < sizeLine; decide, xm_BadRow, xm_BadRow, xm_BadRow, xm_BadRow, xm_BadRow, xm_BadRow, xm_BadRow, xm_BadRow, .inr ⟨_, .inr (.inl ⟨rfl, x_what, x_row, rfl, hr_row, rfl⟩), by show 1 + 0 ≤ sizeLine; decide, q⟩⟩
    · have hc : c = "BadTable" := hc
      have hf : fs = _ := hf
      subst hc hf
      exact ⟨by show 1 < 2; decide, by show 0 ≤ sizeLine; exact Nat.zero_le _, xm_BadTable, xm_BadTable, xm_BadTable, rfl, by show 2 ≤ sizeLine; decide, by show 0 < sizeLine; decide, xm_BadTable, xm_BadTable, xm_BadTable, xm_BadTable, xm_BadTable, xm_BadTable, xm_BadTable, .inr ⟨_, .inr (.inr (.inl ⟨rfl, x_what, rfl, rfl⟩)), by show 1 + 0 ≤ sizeLine; decide, q⟩⟩
    · have hc : c = "BadFrame" := hc
      have hf : fs = _ := hf
      subst hc hf
      exact ⟨by show 1 < 2; decide, by show 0 ≤ sizeLine; exact Nat.zero_le _, xm_BadFrame, xm_BadFrame, xm_BadFrame, xm_BadFrame, rfl, rfl, hr_place, by show 3 ≤ sizeLine; decide, by show 0 < sizeLine; decide, xm_BadFrame, xm_BadFrame, xm_BadFrame, xm_BadFrame, xm_BadFrame, xm_BadFrame, .inr ⟨_, .inr (.inr (.inr (.inl ⟨rfl, x_what, x_place, rfl, hr_place, rfl⟩))), by show 1 + 0 ≤ sizeLine; decide, q⟩⟩
    · have hc : c = "BadLoad" := hc
      have hf : fs = _ := hf
      subst hc hf
      exact ⟨by show 1 < 2; decide, by show 0 ≤ sizeLine; exact Nat.zero_le _, xm_BadLoad, xm_BadLoad, xm_BadLoad, xm_BadLoad, xm_BadLoad, rfl, by show 2 ≤ sizeLine; decide, by show 0 < sizeLine; decide, xm_BadLoad, xm_BadLoad, xm_BadLoad, xm_BadLoad, xm_BadLoad, .inr ⟨_, .inr (.inr (.inr (.inr (.inl ⟨rfl, x_what, rfl, rfl⟩)))), by show 1 + 0 ≤ sizeLine; decide, q⟩⟩
    · have hc : c = "BadNet" := hc
      have hf : fs = _ := hf
      subst hc hf
      exact ⟨by show 1 < 2; decide, by show 0 ≤ sizeLine; exact Nat.zero_le _, xm_BadNet, xm_BadNet, xm_BadNet, xm_BadNet, xm_BadNet, xm_BadNet, rfl, rfl, hr_gate, by show 3 ≤ sizeLine; decide, by show 0 < sizeLine; decide, xm_BadNet, xm_BadNet, xm_BadNet, xm_BadNet, .inr ⟨_, .inr (.inr (.inr (.inr (.inr (.inl ⟨rfl, x_what, x_gate, rfl, hr_gate, rfl⟩))))), by show 1 + 0 ≤ sizeLine; decide, q⟩⟩
    · have hc : c = "BadHouse" := hc
      have hf : fs = _ := hf
      subst hc hf
      exact ⟨by show 1 < 2; decide, by show 0 ≤ sizeLine; exact Nat.zero_le _, xm_BadHouse, xm_BadHouse, xm_BadHouse, xm_BadHouse, xm_BadHouse, xm_BadHouse, xm_BadHouse, rfl, rfl, hr_place, by show 3 ≤ sizeLine; decide, by show 0 < sizeLine; decide, xm_BadHouse, xm_BadHouse, xm_BadHouse, .inr ⟨_, .inr (.inr (.inr (.inr (.inr (.inr (.inl ⟨rfl, x_what, x_place, rfl, hr_place, rfl⟩)))))), by show 1 + 0 ≤ sizeLine; decide, q⟩⟩
    · have hc : c = "BadWeb" := hc
      have hf : fs = _ := hf
      subst hc hf
      exact ⟨by show 1 < 2; decide, by show 0 ≤ sizeLine; exact Nat.zero_le _, xm_BadWeb, xm_BadWeb, xm_BadWeb, xm_BadWeb, xm_BadWeb, xm_BadWeb, xm_BadWeb, xm_BadWeb, rfl, rfl, hr_place, by show 3 ≤ sizeLine; decide, by show 0 < sizeLine; decide, xm_BadWeb, xm_BadWeb, .inr ⟨_, .inr (.inr (.inr (.inr (.inr (.inr (.inr (.inl ⟨rfl, x_what, x_place, rfl, hr_place, rfl⟩))))))), by show 1 + 0 ≤ sizeLine; decide, q⟩⟩
    · have hc : c = "BadName" := hc
      have hf : fs = _ := hf
      subst hc hf
      exact ⟨by show 1 < 2; decide, by show 0 ≤ sizeLine; exact Nat.zero_le _, xm_BadName, xm_BadName, xm_BadName, xm_BadName, xm_BadName, xm_BadName, xm_BadName, xm_BadName, xm_BadName, rfl, hr_name, by show 2 ≤ sizeLine; decide, by show 0 < sizeLine; decide, xm_BadName, .inr ⟨_, .inr (.inr (.inr (.inr (.inr (.inr (.inr (.inr (.inl ⟨rfl, x_name, rfl, hr_name, rfl⟩)))))))), by show 1 + 0 ≤ sizeLine; decide, q⟩⟩
    · have hc : c = "BadText" := hc
      have hf : fs = _ := hf
      subst hc hf
      exact ⟨by show 1 < 2; decide, by show 0 ≤ sizeLine; exact Nat.zero_le _, xm_BadText, xm_BadText, xm_BadText, xm_BadText, xm_BadText, xm_BadText, xm_BadText, xm_BadText, xm_BadText, xm_BadText, rfl, rfl, by show 3 ≤ sizeLine; decide, by show 0 < sizeLine; decide, .inr ⟨_, .inr (.inr (.inr (.inr (.inr (.inr (.inr (.inr (.inr (⟨rfl, x_line, x_word, rfl, rfl⟩))))))))), by show 1 + 0 ≤ sizeLine; decide, q⟩⟩
  · rcases h with ⟨hc, x_place, hf, hr_place, rfl⟩ | ⟨hc, x_place, x_row, hf, hr_place, hr_row, rfl⟩ | ⟨hc, x_place, hf, hr_place, rfl⟩ | ⟨hc, x_name, hf, hr_name, rfl⟩ | ⟨hc, x_name, hf, hr_name, rfl⟩ | ⟨hc, x_what, hf, rfl⟩ | ⟨hc, x_choice, hf, hr_choice, rfl⟩ | ⟨hc, x_row, hf, rfl⟩ | ⟨hc, x_choice, hf, hr_choice, rfl⟩ | ⟨hc, x_what, x_many, x_limit, hf, rfl⟩ | ⟨hc, x_promise, x_witness, hf, rfl⟩ | ⟨hc, hf, rfl⟩ | ⟨hc, hf, rfl⟩
    · have hc : c = "NoPlace" := hc
      have hf : fs = _ := hf
      subst hc hf
      exact ⟨by show 1 < 2; decide, by show 0 ≤ sizeLine; exact Nat.zero_le _, xm_NoPlace, xm_NoPlace, xm_NoPlace, xm_NoPlace, xm_NoPlace, xm_NoPlace, xm_NoPlace, xm_NoPlace, xm_NoPlace, xm_NoPlace, .inl ⟨_, .inl ⟨rfl, x_place, rfl, hr_place, rfl⟩, by show 0 + 1 ≤ sizeLine; decide, q⟩⟩
    · have hc : c = "NoRow" := hc
      have hf : fs = _ := hf
      subst hc hf
      exact ⟨by show 1 < 2; decide, by show 0 ≤ sizeLine; exact Nat.zero_le _, xm_NoRow, xm_NoRow, xm_NoRow, xm_NoRow, xm_NoRow, xm_NoRow, xm_NoRow, xm_NoRow, xm_NoRow, xm_NoRow, .inl ⟨_, .inr (.inl ⟨rfl, x_place, x_row, rfl, hr_place, hr_row, rfl⟩), by show 0 + 1 ≤ sizeLine; decide, q⟩⟩
    · have hc : c = "NoWall" := hc
      have hf : fs = _ := hf
      subst hc hf
      exact ⟨by show 1 < 2; decide, by show 0 ≤ sizeLine; exact Nat.zero_le _, xm_NoWall, xm_NoWall, xm_NoWall, xm_NoWall, xm_NoWall, xm_NoWall, xm_NoWall, xm_NoWall, xm_NoWall, xm_NoWall, .inl ⟨_, .inr (.inr (.inl ⟨rfl, x_place, rfl, hr_place, rfl⟩)), by show 0 + 1 ≤ sizeLine; decide, q⟩⟩
    · have hc : c = "NoName" := hc
      have hf : fs = _ := hf
      subst hc hf
      exact ⟨by show 1 < 2; decide, by show 0 ≤ sizeLine; exact Nat.zero_le _, xm_NoName, xm_NoName, xm_NoName, xm_NoName, xm_NoName, xm_NoName, xm_NoName, xm_NoName, xm_NoName, xm_NoName, .inl ⟨_, .inr (.inr (.inr (.inl ⟨rfl, x_name, rfl, hr_name, rfl⟩))), by show 0 + 1 ≤ sizeLine; decide, q⟩⟩
    · have hc : c = "TakenName" := hc
      have hf : fs = _ := hf
      subst hc hf
      exact ⟨by show 1 < 2; decide, by show 0 ≤ sizeLine; exact Nat.zero_le _, xm_TakenName, xm_TakenName, xm_TakenName, xm_TakenName, xm_TakenName, xm_TakenName, xm_TakenName, xm_TakenName, xm_TakenName, xm_TakenName, .inl ⟨_, .inr (.inr (.inr (.inr (.inl ⟨rfl, x_name, rfl, hr_name, rfl⟩)))), by show 0 + 1 ≤ sizeLine; decide, q⟩⟩
    · have hc : c = "Unlike" := hc
      have hf : fs = _ := hf
      subst hc hf
      exact ⟨by show 1 < 2; decide, by show 0 ≤ sizeLine; exact Nat.zero_le _, xm_Unlike, xm_Unlike, xm_Unlike, xm_Unlike, xm_Unlike, xm_Unlike, xm_Unlike, xm_Unlike, xm_Unlike, xm_Unlike, .inl ⟨_, .inr (.inr (.inr (.inr (.inr (.inl ⟨rfl, x_what, rfl, rfl⟩))))), by show 0 + 1 ≤ sizeLine; decide, q⟩⟩
    · have hc : c = "Flat" := hc
      have hf : fs = _ := hf
      subst hc hf
      exact ⟨by show 1 < 2; decide, by show 0 ≤ sizeLine; exact Nat.zero_le _, xm_Flat, xm_Flat, xm_Flat, xm_Flat, xm_Flat, xm_Flat, xm_Flat, xm_Flat, xm_Flat, xm_Flat, .inl ⟨_, .inr (.inr (.inr (.inr (.inr (.inr (.inl ⟨rfl, x_choice, rfl, hr_choice, rfl⟩)))))), by show 0 + 1 ≤ sizeLine; decide, q⟩⟩
    · have hc : c = "NotOnce" := hc
      have hf : fs = _ := hf
      subst hc hf
      exact ⟨by show 1 < 2; decide, by show 0 ≤ sizeLine; exact Nat.zero_le _, xm_NotOnce, xm_NotOnce, xm_NotOnce, xm_NotOnce, xm_NotOnce, xm_NotOnce, xm_NotOnce, xm_NotOnce, xm_NotOnce, xm_NotOnce, .inl ⟨_, .inr (.inr (.inr (.inr (.inr (.inr (.inr (.inl ⟨rfl, x_row, rfl, rfl⟩))))))), by show 0 + 1 ≤ sizeLine; decide, q⟩⟩
    · have hc : c = "NotPlain" := hc
      have hf : fs = _ := hf
      subst hc hf
      exact ⟨by show 1 < 2; decide, by show 0 ≤ sizeLine; exact Nat.zero_le _, xm_NotPlain, xm_NotPlain, xm_NotPlain, xm_NotPlain, xm_NotPlain, xm_NotPlain, xm_NotPlain, xm_NotPlain, xm_NotPlain, xm_NotPlain, .inl ⟨_, .inr (.inr (.inr (.inr (.inr (.inr (.inr (.inr (.inl ⟨rfl, x_choice, rfl, hr_choice, rfl⟩)))))))), by show 0 + 1 ≤ sizeLine; decide, q⟩⟩
    · have hc : c = "TooMany" := hc
      have hf : fs = _ := hf
      subst hc hf
      exact ⟨by show 1 < 2; decide, by show 0 ≤ sizeLine; exact Nat.zero_le _, xm_TooMany, xm_TooMany, xm_TooMany, xm_TooMany, xm_TooMany, xm_TooMany, xm_TooMany, xm_TooMany, xm_TooMany, xm_TooMany, .inl ⟨_, .inr (.inr (.inr (.inr (.inr (.inr (.inr (.inr (.inr (.inl ⟨rfl, x_what, x_many, x_limit, rfl, rfl⟩))))))))), by show 0 + 1 ≤ sizeLine; decide, q⟩⟩
    · have hc : c = "NotKept" := hc
      have hf : fs = _ := hf
      subst hc hf
      exact ⟨by show 1 < 2; decide, by show 0 ≤ sizeLine; exact Nat.zero_le _, xm_NotKept, xm_NotKept, xm_NotKept, xm_NotKept, xm_NotKept, xm_NotKept, xm_NotKept, xm_NotKept, xm_NotKept, xm_NotKept, .inl ⟨_, .inr (.inr (.inr (.inr (.inr (.inr (.inr (.inr (.inr (.inr (.inl ⟨rfl, x_promise, x_witness, rfl, rfl⟩)))))))))), by show 0 + 1 ≤ sizeLine; decide, q⟩⟩
    · have hc : c = "NothingToUndo" := hc
      have hf : fs = _ := hf
      subst hc hf
      exact ⟨by show 1 < 2; decide, by show 0 ≤ sizeLine; exact Nat.zero_le _, xm_NothingToUndo, xm_NothingToUndo, xm_NothingToUndo, xm_NothingToUndo, xm_NothingToUndo, xm_NothingToUndo, xm_NothingToUndo, xm_NothingToUndo, xm_NothingToUndo, xm_NothingToUndo, .inl ⟨_, .inr (.inr (.inr (.inr (.inr (.inr (.inr (.inr (.inr (.inr (.inr (.inl ⟨rfl, rfl, rfl⟩))))))))))), by show 0 + 1 ≤ sizeLine; decide, q⟩⟩
    · have hc : c = "NothingToRedo" := hc
      have hf : fs = _ := hf
      subst hc hf
      exact ⟨by show 1 < 2; decide, by show 0 ≤ sizeLine; exact Nat.zero_le _, xm_NothingToRedo, xm_NothingToRedo, xm_NothingToRedo, xm_NothingToRedo, xm_NothingToRedo, xm_NothingToRedo, xm_NothingToRedo, xm_NothingToRedo, xm_NothingToRedo, xm_NothingToRedo, .inl ⟨_, .inr (.inr (.inr (.inr (.inr (.inr (.inr (.inr (.inr (.inr (.inr (.inr (⟨rfl, rfl, rfl⟩)))))))))))), by show 0 + 1 ≤ sizeLine; decide, q⟩⟩


def t__law_value : RS := (rSeq (rSet 1 (rCall 2 sp__law_draw (rCons (rVar 0) (rCons (rC (.int 8)) rNil))))
    (rSeq (rIf (rTV (rOp gEq (rVar 1) (rC (.int 0)))) (rRet (rL (rLst (rCons (rCall 2 sp__law_draw (rCons (rVar 0) (rCons (rC (.int 100)) rNil))) (rCons (rL (rLst rNil)) rNil))))) rNext)
    (rSeq (rIf (rTV (rOp gEq (rVar 1) (rC (.int 1)))) (rRet (rTup (rCons (rC (.str "a")) (rCons (rTup (rCons (rCall 2 sp__law_draw (rCons (rVar 0) (rCons (rOp gPow (rC (.int 10)) (rC (.int 6))) rNil))) rNil)) rNil)))) rNext)
    (rRet (rCall 2 sp__law_pick (rCons (rVar 0) (rCons (rL (rLst (rCons (rC .non) (rCons (rC (.bl true)) (rCons (rC (.bl false)) (rCons (rC (.int 0)) (rCons (rUn gNeg (rC (.int 1))) (rCons (rC (.str "x")) (rCons (rC (.str "")) (rCons (rOp gPow (rC (.int 10)) (rC (.int 40))) (rCons (rC (.dct [(.inr "k", .int 1)])) rNil))))))))))) rNil)))))))

theorem cpOk_dict {ts : List Str} (h : ∀ t ∈ ts, cpOk t) : cpOk (dictText ts) := cpOk_append (cpOk_append (cpOk_lit (by decide +kernel)) (cpOk_join ts h)) (cpOk_lit (by decide +kernel))
theorem int_short {i : Int} {k : Nat} (hk : 0 < k) (h : i.natAbs < 10 ^ k) (h2 : k + 1 ≤ 60) : (PyData.int i).leavesShort 60 = true := by
  unfold PyData.leavesShort
  refine decide_eq_true ?_
  show (Str.ofString (toString i)).length ≤ 60
  rw [PySem.ofString_length]
  exact Nat.le_trans (PySem.int_text_length_le10 hk h) h2
theorem int_sh {i : Int} (h : i.natAbs < 2 ^ 1900) : shE (.int i) = true := by
  unfold shE
  refine decide_eq_true ?_
  by_cases z : i.natAbs = 0
  · rw [z]; decide
  · exact (Nat.log2_lt z).mpr (Nat.lt_of_lt_of_le h (Nat.pow_le_pow_right (by decide) (by decide)))
theorem va_int {i : Int} {k : Nat} (hk : 0 < k) (h : i.natAbs < 10 ^ k) (h2 : k + 1 ≤ 60) : VaD (.int i) := ⟨int_sh (Nat.lt_of_lt_of_le h (Nat.le_trans (Nat.pow_le_pow_right (by decide) (by omega : k ≤ 59)) (by decide +kernel))), rfl, Nat.zero_le _, Nat.zero_le _, int_short hk h h2, cpOk_int i⟩
theorem va_str {x : Str} (h : cpOk x) (h2 : cpOk (reprText x)) (hl : x.length ≤ 20) : VaD (.str x) := ⟨rfl, rfl, Nat.zero_le _, hl, ls_str h, h2⟩
theorem pl__law_value : ∀ (ds : List D) (Q : D → Prop) (E : XD → Prop), ds.length = 1 → sp__law_value ds Q E → t__law_value { nx := fun _ => Q .non, rt := Q, ex := E } (start3 2 ds) := fun ds Q E hl h => by
  obtain ⟨rfl, q⟩ := h
  refine ⟨rfl, ⟨by decide, by decide⟩, fun w w0 w1 => ?_⟩
  conv => whnf
  split
  · refine ⟨rfl, ⟨by decide, by decide⟩, fun k k0 k1 => ⟨sz 0, sz 2, q _ ?_⟩⟩
    have hi : VaD (.int k) := va_int (k := 2) (by decide) (by omega) (by decide)
    refine ⟨?_, rfl, ?_, ?_, ?_, ?_⟩
    · unfold shE shEs
      rw [hi.sh]
      rfl
    · exact (by decide : 2 ≤ 3)
    · exact (by decide : 2 ≤ 20)
    · unfold pyE PyData.leavesShort pyEs PyData.leavesShortAll
      rw [hi.ls]
      rfl
    · refine cpOk_list (ts := [(PyData.int k).shown, (PyData.list []).shown]) fun t ht => ?_
      simp only [List.mem_cons, List.mem_nil_iff, or_false] at ht
      rcases ht with rfl | rfl
      · exact cpOk_int k
      · exact cpOk_lit (by decide +kernel)
  · conv => whnf
    split
    · have c6 : CPow 10 6 := ⟨by decide, by decide, by decide⟩
      refine ⟨c6, rfl, ⟨by decide, by decide⟩, fun k k0 k1 => ⟨sz 1, sz 2, q _ ?_⟩⟩
      have k1 : k < 10 ^ 6 := k1
      have hi : VaD (.int k) := va_int (k := 6) (by decide) (by omega) (by decide)
      refine ⟨?_, rfl, ?_, ?_, ?_, ?_⟩
      · unfold shE shEs shE shEs
        show (true && (shE (.tup [.int k]) && true)) = true
        unfold shE shEs
        rw [hi.sh]
        rfl
      · exact (by decide : 2 ≤ 3)
      · exact (by decide : 4 ≤ 20)
      · show ((PyData.str "a").leavesShort 60 && (((PyData.int k).leavesShort 60 && true) && true)) = true
        rw [show (PyData.int k).leavesShort 60 = true from hi.ls, ls_str (cpOk_lit (by decide +kernel))]
        rfl
      · refine cpOk_tuple (ts := [(PyData.str "a").shown, (PyData.tuple [.int k]).shown]) fun t ht => ?_
        simp only [List.mem_cons, List.mem_nil_iff, or_false] at ht
        rcases ht with rfl | rfl
        · exact cpOk_lit (by decide +kernel)
        · exact cpOk_tuple (ts := [(PyData.int k).shown]) fun t ht => by
            rw [List.mem_singleton.mp ht]
            exact cpOk_int k
    · have c40 : CPow 10 40 := ⟨by decide, by decide, by decide⟩
      refine ⟨c40, sz 9, rfl, _, _, rfl, .inr rfl, by show 1 ≤ 9; decide, by show 9 ≤ 65536; decide, fun x hx => q x ?_⟩
      simp only [List.mem_cons, List.mem_nil_iff, or_false] at hx
      rcases hx with rfl | rfl | rfl | rfl | rfl | rfl | rfl | rfl | rfl
      · exact ⟨rfl, rfl, Nat.zero_le _, Nat.zero_le _, rfl, cpOk_lit (by decide +kernel)⟩
      · exact ⟨rfl, rfl, Nat.zero_le _, Nat.zero_le _, rfl, cpOk_lit (by decide +kernel)⟩
      · exact ⟨rfl, rfl, Nat.zero_le _, Nat.zero_le _, rfl, cpOk_lit (by decide +kernel)⟩
      · exact va_int (k := 1) (by decide) (by decide) (by decide)
      · exact va_int (k := 1) (by decide) (by decide) (by decide)
      · exact va_str (cpOk_lit (by decide +kernel)) (cpOk_lit (by decide +kernel)) (by decide)
      · exact va_str (cpOk_lit (by decide +kernel)) (cpOk_lit (by decide +kernel)) (by decide)
      · exact va_int (k := 41) (by decide) (by decide +kernel) (by decide)
      · refine ⟨?_, rfl, by decide, by decide, ?_, ?_⟩
        · unfold shE shEk
          rw [int_sh (by decide)]
          rfl
        · show (((PyData.str "k").leavesShort 60 && (PyData.int 1).leavesShort 60) && true) = true
          rw [ls_str (cpOk_lit (by decide +kernel)), int_short (k := 1) (by decide) (by decide) (by decide)]
          rfl
        · exact cpOk_dict (ts := [(PyData.str "k").shown ++ ": " ++ (PyData.int 1).shown]) fun t ht => by
            rw [List.mem_singleton.mp ht]
            exact cpOk_append (cpOk_append (cpOk_lit (by decide +kernel)) (cpOk_lit (by decide +kernel))) (cpOk_int 1)


def t__law_first : RS := (rSeq (rIf (rTV (rOp gEq (rVar 0) (rC (.int 0)))) (rRaise "BadNumber" ["what", "number"] (rCons (rVar 1) (rCons (rVar 2) rNil))) rNext)
    (rSeq (rIf (rTV (rOp gEq (rVar 0) (rC (.int 1)))) (rRaise "BadRow" ["what", "row"] (rCons (rVar 1) (rCons (rVar 2) rNil))) rNext)
    (rSeq (rIf (rTV (rOp gEq (rVar 0) (rC (.int 2)))) (rRaise "BadTable" ["what"] (rCons (rVar 1) rNil)) rNext)
    (rSeq (rIf (rTV (rOp gEq (rVar 0) (rC (.int 3)))) (rRaise "BadFrame" ["what", "place"] (rCons (rVar 1) (rCons (rVar 2) rNil))) rNext)
    (rSeq (rIf (rTV (rOp gEq (rVar 0) (rC (.int 4)))) (rRaise "BadLoad" ["what"] (rCons (rVar 1) rNil)) rNext)
    (rSeq (rIf (rTV (rOp gEq (rVar 0) (rC (.int 5)))) (rRaise "BadNet" ["what", "gate"] (rCons (rVar 1) (rCons (rVar 2) rNil))) rNext)
    (rSeq (rIf (rTV (rOp gEq (rVar 0) (rC (.int 6)))) (rRaise "BadHouse" ["what", "place"] (rCons (rVar 1) (rCons (rVar 2) rNil))) rNext)
    (rSeq (rIf (rTV (rOp gEq (rVar 0) (rC (.int 7)))) (rRaise "BadWeb" ["what", "place"] (rCons (rVar 1) (rCons (rVar 2) rNil))) rNext)
    (rSeq (rIf (rTV (rOp gEq (rVar 0) (rC (.int 8)))) (rRaise "BadName" ["name"] (rCons (rVar 1) rNil)) rNext)
    (rSeq (rIf (rTV (rOp gEq (rVar 0) (rC (.int 9)))) (rRaise "BadText" ["line", "word"] (rCons (rVar 1) (rCons (rVar 2) rNil))) rNext)
    (rSeq (rIf (rTV (rOp gEq (rVar 0) (rC (.int 10)))) (rRaise "NoPlace" ["place"] (rCons (rVar 1) rNil)) rNext)
    (rIf (rTV (rOp gEq (rVar 0) (rC (.int 11)))) (rRaise "NoRow" ["place", "row"] (rCons (rVar 1) (rCons (rVar 2) rNil))) rNext))))))))))))

theorem pl__law_first : ∀ (ds : List D) (Q : D → Prop) (E : XD → Prop), ds.length = 3 → sp__law_first ds Q E → t__law_first { nx := fun _ => Q .non, rt := Q, ex := E } (start3 3 ds) := fun ds Q E hl h => by
  obtain ⟨k, a, b, rfl, hk, q1, q2⟩ := h
  conv => whnf
  split
  · rename_i e
    have e : decide (((k : Nat) : Int) = 0) = true := e
    obtain rfl : k = 0 := by have := of_decide_eq_true e; omega
    exact ⟨rfl, q1 (by decide)⟩
  · rename_i e0
    have e0 : decide (((k : Nat) : Int) = 0) = false := e0
    have e0 := of_decide_eq_false e0
    conv => whnf
    split
    · rename_i e
      have e : decide (((k : Nat) : Int) = 1) = true := e
      obtain rfl : k = 1 := by have := of_decide_eq_true e; omega
      exact ⟨rfl, q1 (by decide)⟩
    · rename_i e1
      have e1 : decide (((k : Nat) : Int) = 1) = false := e1
      have e1 := of_decide_eq_false e1
      conv => whnf
      split
      · rename_i e
        have e : decide (((k : Nat) : Int) = 2) = true := e
        obtain rfl : k = 2 := by have := of_decide_eq_true e; omega
        exact ⟨rfl, q1 (by decide)⟩
      · rename_i e2
        have e2 : decide (((k : Nat) : Int) = 2) = false := e2
        have e2 := of_decide_eq_false e2
        conv => whnf
        split
        · rename_i e
          have e : decide (((k : Nat) : Int) = 3) = true := e
          obtain rfl : k = 3 := by have := of_decide_eq_true e; omega
          exact ⟨rfl, q1 (by decide)⟩
        · rename_i e3
          have e3 : decide (((k : Nat) : Int) = 3) = false := e3
          have e3 := of_decide_eq_false e3
          conv => whnf
          split
          · rename_i e
            have e : decide (((k : Nat) : Int) = 4) = true := e
            obtain rfl : k = 4 := by have := of_decide_eq_true e; omega
            exact ⟨rfl, q1 (by decide)⟩
          · rename_i e4
            have e4 : decide (((k : Nat) : Int) = 4) = false := e4
            have e4 := of_decide_eq_false e4
            conv => whnf
            split
            · rename_i e
              have e : decide (((k : Nat) : Int) = 5) = true := e
              obtain rfl : k = 5 := by have := of_decide_eq_true e; omega
              exact ⟨rfl, q1 (by decide)⟩
            · rename_i e5
              have e5 : decide (((k : Nat) : Int) = 5) = false := e5
              have e5 := of_decide_eq_false e5
              conv => whnf
              split
              · rename_i e
                have e : decide (((k : Nat) : Int) = 6) = true := e
                obtain rfl : k = 6 := by have := of_decide_eq_true e; omega
                exact ⟨rfl, q1 (by decide)⟩
              · rename_i e6
                have e6 : decide (((k : Nat) : Int) = 6) = false := e6
                have e6 := of_decide_eq_false e6
                conv => whnf
                split
                · rename_i e
                  have e : decide (((k : Nat) : Int) = 7) = true := e
                  obtain rfl : k = 7 := by have := of_decide_eq_true e; omega
                  exact ⟨rfl, q1 (by decide)⟩
                · rename_i e7
                  have e7 : decide (((k : Nat) : Int) = 7) = false := e7
                  have e7 := of_decide_eq_false e7
                  conv => whnf
                  split
                  · rename_i e
                    have e : decide (((k : Nat) : Int) = 8) = true := e
                    obtain rfl : k = 8 := by have := of_decide_eq_true e; omega
                    exact ⟨rfl, q1 (by decide)⟩
                  · rename_i e8
                    have e8 : decide (((k : Nat) : Int) = 8) = false := e8
                    have e8 := of_decide_eq_false e8
                    conv => whnf
                    split
                    · rename_i e
                      have e : decide (((k : Nat) : Int) = 9) = true := e
                      obtain rfl : k = 9 := by have := of_decide_eq_true e; omega
                      exact ⟨rfl, q1 (by decide)⟩
                    · rename_i e9
                      have e9 : decide (((k : Nat) : Int) = 9) = false := e9
                      have e9 := of_decide_eq_false e9
                      conv => whnf
                      split
                      · rename_i e
                        have e : decide (((k : Nat) : Int) = 10) = true := e
                        obtain rfl : k = 10 := by have := of_decide_eq_true e; omega
                        exact ⟨rfl, q1 (by decide)⟩
                      · rename_i e10
                        have e10 : decide (((k : Nat) : Int) = 10) = false := e10
                        have e10 := of_decide_eq_false e10
                        conv => whnf
                        split
                        · rename_i e
                          have e : decide (((k : Nat) : Int) = 11) = true := e
                          obtain rfl : k = 11 := by have := of_decide_eq_true e; omega
                          exact ⟨rfl, q1 (by decide)⟩
                        · rename_i e11
                          have e11 : decide (((k : Nat) : Int) = 11) = false := e11
                          have e11 := of_decide_eq_false e11
                          exact q2 (by omega)



def t__law_second : RS := (rSeq (rIf (rTV (rOp gEq (rVar 0) (rC (.int 12)))) (rRaise "NoWall" ["place"] (rCons (rVar 1) rNil)) rNext)
    (rSeq (rIf (rTV (rOp gEq (rVar 0) (rC (.int 13)))) (rRaise "NoName" ["name"] (rCons (rVar 1) rNil)) rNext)
    (rSeq (rIf (rTV (rOp gEq (rVar 0) (rC (.int 14)))) (rRaise "TakenName" ["name"] (rCons (rVar 1) rNil)) rNext)
    (rSeq (rIf (rTV (rOp gEq (rVar 0) (rC (.int 15)))) (rRaise "Unlike" ["what"] (rCons (rVar 1) rNil)) rNext)
    (rSeq (rIf (rTV (rOp gEq (rVar 0) (rC (.int 16)))) (rRaise "Flat" ["choice"] (rCons (rVar 1) rNil)) rNext)
    (rSeq (rIf (rTV (rOp gEq (rVar 0) (rC (.int 17)))) (rRaise "NotOnce" ["row"] (rCons (rVar 1) rNil)) rNext)
    (rSeq (rIf (rTV (rOp gEq (rVar 0) (rC (.int 18)))) (rRaise "NotPlain" ["choice"] (rCons (rVar 1) rNil)) rNext)
    (rSeq (rIf (rTV (rOp gEq (rVar 0) (rC (.int 19)))) (rRaise "TooMany" ["what", "many", "limit"] (rCons (rVar 1) (rCons (rVar 2) (rCons (rVar 3) rNil)))) rNext)
    (rSeq (rIf (rTV (rOp gEq (rVar 0) (rC (.int 20)))) (rRaise "NotKept" ["promise", "witness"] (rCons (rVar 1) (rCons (rVar 2) rNil))) rNext)
    (rSeq (rIf (rTV (rOp gEq (rVar 0) (rC (.int 21)))) (rRaise0 "NothingToUndo") rNext)
    (rIf (rTV (rOp gEq (rVar 0) (rC (.int 22)))) (rRaise0 "NothingToRedo") rNext)))))))))))

theorem pl__law_second : ∀ (ds : List D) (Q : D → Prop) (E : XD → Prop), ds.length = 4 → sp__law_second ds Q E → t__law_second { nx := fun _ => Q .non, rt := Q, ex := E } (start3 4 ds) := fun ds Q E hl h => by
  obtain ⟨k, a, b, c, rfl, hk, hk2, q⟩ := h
  conv => whnf
  split
  · rename_i e
    have e : decide (((k : Nat) : Int) = 12) = true := e
    obtain rfl : k = 12 := by have := of_decide_eq_true e; omega
    exact ⟨rfl, q⟩
  · rename_i e12
    have e12 : decide (((k : Nat) : Int) = 12) = false := e12
    have e12 := of_decide_eq_false e12
    conv => whnf
    split
    · rename_i e
      have e : decide (((k : Nat) : Int) = 13) = true := e
      obtain rfl : k = 13 := by have := of_decide_eq_true e; omega
      exact ⟨rfl, q⟩
    · rename_i e13
      have e13 : decide (((k : Nat) : Int) = 13) = false := e13
      have e13 := of_decide_eq_false e13
      conv => whnf
      split
      · rename_i e
        have e : decide (((k : Nat) : Int) = 14) = true := e
        obtain rfl : k = 14 := by have := of_decide_eq_true e; omega
        exact ⟨rfl, q⟩
      · rename_i e14
        have e14 : decide (((k : Nat) : Int) = 14) = false := e14
        have e14 := of_decide_eq_false e14
        conv => whnf
        split
        · rename_i e
          have e : decide (((k : Nat) : Int) = 15) = true := e
          obtain rfl : k = 15 := by have := of_decide_eq_true e; omega
          exact ⟨rfl, q⟩
        · rename_i e15
          have e15 : decide (((k : Nat) : Int) = 15) = false := e15
          have e15 := of_decide_eq_false e15
          conv => whnf
          split
          · rename_i e
            have e : decide (((k : Nat) : Int) = 16) = true := e
            obtain rfl : k = 16 := by have := of_decide_eq_true e; omega
            exact ⟨rfl, q⟩
          · rename_i e16
            have e16 : decide (((k : Nat) : Int) = 16) = false := e16
            have e16 := of_decide_eq_false e16
            conv => whnf
            split
            · rename_i e
              have e : decide (((k : Nat) : Int) = 17) = true := e
              obtain rfl : k = 17 := by have := of_decide_eq_true e; omega
              exact ⟨rfl, q⟩
            · rename_i e17
              have e17 : decide (((k : Nat) : Int) = 17) = false := e17
              have e17 := of_decide_eq_false e17
              conv => whnf
              split
              · rename_i e
                have e : decide (((k : Nat) : Int) = 18) = true := e
                obtain rfl : k = 18 := by have := of_decide_eq_true e; omega
                exact ⟨rfl, q⟩
              · rename_i e18
                have e18 : decide (((k : Nat) : Int) = 18) = false := e18
                have e18 := of_decide_eq_false e18
                conv => whnf
                split
                · rename_i e
                  have e : decide (((k : Nat) : Int) = 19) = true := e
                  obtain rfl : k = 19 := by have := of_decide_eq_true e; omega
                  exact ⟨rfl, q⟩
                · rename_i e19
                  have e19 : decide (((k : Nat) : Int) = 19) = false := e19
                  have e19 := of_decide_eq_false e19
                  conv => whnf
                  split
                  · rename_i e
                    have e : decide (((k : Nat) : Int) = 20) = true := e
                    obtain rfl : k = 20 := by have := of_decide_eq_true e; omega
                    exact ⟨rfl, q⟩
                  · rename_i e20
                    have e20 : decide (((k : Nat) : Int) = 20) = false := e20
                    have e20 := of_decide_eq_false e20
                    conv => whnf
                    split
                    · rename_i e
                      have e : decide (((k : Nat) : Int) = 21) = true := e
                      obtain rfl : k = 21 := by have := of_decide_eq_true e; omega
                      exact q
                    · rename_i e21
                      have e21 : decide (((k : Nat) : Int) = 21) = false := e21
                      have e21 := of_decide_eq_false e21
                      conv => whnf
                      split
                      · rename_i e
                        have e : decide (((k : Nat) : Int) = 22) = true := e
                        obtain rfl : k = 22 := by have := of_decide_eq_true e; omega
                        exact q
                      · rename_i e22
                        have e22 : decide (((k : Nat) : Int) = 22) = false := e22
                        have e22 := of_decide_eq_false e22
                        omega



def t__law_told : RS := (rSeq (rSet 4 (rC .non))
    (rSeq (rTryX 6 5 4 (· ∈ excN) (rSeq (rDrop (rCallN 3 sp__law_first (rCons (rVar 0) (rCons (rVar 1) (rCons (rVar 2) rNil)))))
    (rDrop (rCallN 4 sp__law_second (rCons (rVar 0) (rCons (rVar 1) (rCons (rVar 2) (rCons (rVar 3) rNil))))))) (rIf (rTV (rIsX excN (fun _ => true) (rVar 5))) (rSet 4 (rCallP sp__law_kinds (rVar 5))) rNext))
    (rRet (rVar 4))))

theorem kd_err {k : Nat} (hk : k < 23) {a b c : D} (ha : VaD a) (hb : VaD b) (hc : VaD c) : kd (errK k a b c) (dueK k a b c) ∧ nxF (errK k a b c).fs = true := by
  have n1 : ∀ {x : D} {f : Str}, VaD x → nxF [(f, x)] = true := fun h => by unfold nxF; rw [h.nx]; rfl
  have n2 : ∀ {x y : D} {f g : Str}, VaD x → VaD y → nxF [(f, x), (g, y)] = true := fun h1 h2 => by unfold nxF nxF; rw [h1.nx, h2.nx]; rfl
  have n3 : ∀ {x y z : D} {f g h : Str}, VaD x → VaD y → VaD z → nxF [(f, x), (g, y), (h, z)] = true := fun h1 h2 h3 => by unfold nxF nxF nxF; rw [h1.nx, h2.nx, h3.nx]; rfl
  rcases (by omega : k = 0 ∨ k = 1 ∨ k = 2 ∨ k = 3 ∨ k = 4 ∨ k = 5 ∨ k = 6 ∨ k = 7 ∨ k = 8 ∨ k = 9 ∨ k = 10 ∨ k = 11 ∨ k = 12 ∨ k = 13 ∨ k = 14 ∨ k = 15 ∨ k = 16 ∨ k = 17 ∨ k = 18 ∨ k = 19 ∨ k = 20 ∨ k = 21 ∨ k = 22) with rfl | rfl | rfl | rfl | rfl | rfl | rfl | rfl | rfl | rfl | rfl | rfl | rfl | rfl | rfl | rfl | rfl | rfl | rfl | rfl | rfl | rfl | rfl
  · exact ⟨kdi_BadNumber (x_what := a) (x_number := b) hb.ok, n2 hb ha⟩
  · exact ⟨kdi_BadRow (x_what := a) (x_row := b) hb.ok, n2 hb ha⟩
  · exact ⟨kdi_BadTable (x_what := a), n1 ha⟩
  · exact ⟨kdi_BadFrame (x_what := a) (x_place := b) hb.ok, n2 hb ha⟩
  · exact ⟨kdi_BadLoad (x_what := a), n1 ha⟩
  · exact ⟨kdi_BadNet (x_what := a) (x_gate := b) hb.ok, n2 hb ha⟩
  · exact ⟨kdi_BadHouse (x_what := a) (x_place := b) hb.ok, n2 hb ha⟩
  · exact ⟨kdi_BadWeb (x_what := a) (x_place := b) hb.ok, n2 hb ha⟩
  · exact ⟨kdi_BadName (x_name := a) ha.ok, n1 ha⟩
  · exact ⟨kdi_BadText (x_line := a) (x_word := b), n2 hb ha⟩
  · exact ⟨kdi_NoPlace (x_place := a) ha.ok, n1 ha⟩
  · exact ⟨kdi_NoRow (x_place := a) (x_row := b) ha.ok hb.ok, n2 hb ha⟩
  · exact ⟨kdi_NoWall (x_place := a) ha.ok, n1 ha⟩
  · exact ⟨kdi_NoName (x_name := a) ha.ok, n1 ha⟩
  · exact ⟨kdi_TakenName (x_name := a) ha.ok, n1 ha⟩
  · exact ⟨kdi_Unlike (x_what := a), n1 ha⟩
  · exact ⟨kdi_Flat (x_choice := a) ha.ok, n1 ha⟩
  · exact ⟨kdi_NotOnce (x_row := a), n1 ha⟩
  · exact ⟨kdi_NotPlain (x_choice := a) ha.ok, n1 ha⟩
  · exact ⟨kdi_TooMany (x_what := a) (x_many := b) (x_limit := c), n3 hc hb ha⟩
  · exact ⟨kdi_NotKept (x_promise := a) (x_witness := b), n2 hb ha⟩
  · exact ⟨kdi_NothingToUndo, rfl⟩
  · exact ⟨kdi_NothingToRedo, rfl⟩
theorem pl__law_told : ∀ (ds : List D) (Q : D → Prop) (E : XD → Prop), ds.length = 4 → sp__law_told ds Q E → t__law_told { nx := fun _ => Q .non, rt := Q, ex := E } (start3 6 ds) := fun ds Q E hl h => by
  obtain ⟨k, a, b, c, rfl, hk, ha, hb, hc, q⟩ := h
  have fin : ∀ (y : XD) (t : D), kd y t → nxF y.fs = true → nxD t = true → Q (.lst [t]) → y.cls ∈ excN ∧ nxF y.fs = true ∧ (rIf (rTV (rIsX excN (fun _ => true) (rVar 5))) (rSet 4 (rCallP sp__law_kinds (rVar 5))) rNext) { nx := fun ρ' => ρ'.length = 6 ∧ ∃ d, (ρ'[4]? : Option Sl) = some (.val d) ∧ nxD d = true ∧ (rRet (rVar 4)) { nx := fun _ => Q .non, rt := Q, ex := E } ((emps 6).set 4 (.val d)), rt := fun _ => False, ex := fun _ => False } ((emps 6).set 5 (.val (.exc y.cls y.fs))) := fun y t h1 h2 h3 q => by
    refine ⟨kd_mem h1, h2, kd_mem h1, t, h1, rfl, .lst [t], rfl, ?_, q⟩
    unfold nxD nxs
    rw [h3]
    rfl
  have n2 : nxs [.int (k : Nat), a, b] = true := by
    show (true && (nxD a && (nxD b && true))) = true
    rw [ha.nx, hb.nx]
    rfl
  have n3 : nxs [.int (k : Nat), a, b, c] = true := by
    show (true && (nxD a && (nxD b && (nxD c && true)))) = true
    rw [ha.nx, hb.nx, hc.nx]
    rfl
  have dk := due_ok hk ha hb hc
  refine ⟨rfl, n2, rfl, k, a, b, rfl, hk, fun h12 => ?_, fun h12 => ⟨n3, rfl, k, a, b, c, rfl, h12, hk, ?_⟩⟩
  · have e1 : errK k a b b = errK k a b c := by
      rcases (by omega : k = 0 ∨ k = 1 ∨ k = 2 ∨ k = 3 ∨ k = 4 ∨ k = 5 ∨ k = 6 ∨ k = 7 ∨ k = 8 ∨ k = 9 ∨ k = 10 ∨ k = 11) with rfl | rfl | rfl | rfl | rfl | rfl | rfl | rfl | rfl | rfl | rfl | rfl <;> rfl
    rw [e1]
    obtain ⟨k1, k2⟩ := kd_err hk ha hb hc
    exact fin _ _ k1 k2 dk.2 q
  · obtain ⟨k1, k2⟩ := kd_err hk ha hb hc
    exact fin _ _ k1 k2 dk.2 q


def t__law_due : RS := (rSeq (rSetL 4 (rLst (rCons (rC (.str "number")) (rCons (rC (.str "row")) (rCons (rC (.str "table")) (rCons (rC (.str "frame")) (rCons (rC (.str "load")) (rCons (rC (.str "net")) (rCons (rC (.str "house")) (rCons (rC (.str "web")) (rCons (rC (.str "badname")) (rCons (rC (.str "text")) (rCons (rC (.str "place")) (rCons (rC (.str "norow")) rNil))))))))))))))
    (rSeq (rFrz 4 (rSet 4 (rOp gAdd (rVar 4) (rL (rLst (rCons (rC (.str "wall")) (rCons (rC (.str "noname")) (rCons (rC (.str "taken")) (rCons (rC (.str "unlike")) (rCons (rC (.str "flat")) (rCons (rC (.str "once")) (rCons (rC (.str "plain")) (rCons (rC (.str "many")) (rCons (rC (.str "kept")) (rCons (rC (.str "undo")) (rCons (rC (.str "redo")) rNil))))))))))))))))
    (rSeq (rIf (rTV (rOp gIn (rVar 0) (rTup (rCons (rC (.int 0)) (rCons (rC (.int 1)) (rCons (rC (.int 3)) (rCons (rC (.int 5)) (rCons (rC (.int 6)) (rCons (rC (.int 7)) rNil))))))))) (rFrz 4 (rRet (rTup (rCons (rOp gIx (rVar 4) (rVar 0)) (rCons (rVar 1) (rCons (rReprE (rVar 2)) rNil)))))) rNext)
    (rSeq (rIf (rTV (rOp gIn (rVar 0) (rTup (rCons (rC (.int 2)) (rCons (rC (.int 4)) (rCons (rC (.int 15)) (rCons (rC (.int 17)) rNil))))))) (rFrz 4 (rRet (rTup (rCons (rOp gIx (rVar 4) (rVar 0)) (rCons (rVar 1) rNil))))) rNext)
    (rSeq (rIf (rTV (rOp gIn (rVar 0) (rTup (rCons (rC (.int 8)) (rCons (rC (.int 10)) (rCons (rC (.int 12)) (rCons (rC (.int 13)) (rCons (rC (.int 14)) (rCons (rC (.int 16)) (rCons (rC (.int 18)) rNil)))))))))) (rFrz 4 (rRet (rTup (rCons (rOp gIx (rVar 4) (rVar 0)) (rCons (rReprE (rVar 1)) rNil))))) rNext)
    (rSeq (rIf (rTV (rOp gIn (rVar 0) (rTup (rCons (rC (.int 9)) (rCons (rC (.int 20)) rNil))))) (rFrz 4 (rRet (rTup (rCons (rOp gIx (rVar 4) (rVar 0)) (rCons (rVar 1) (rCons (rVar 2) rNil)))))) rNext)
    (rSeq (rIf (rTV (rOp gEq (rVar 0) (rC (.int 11)))) (rFrz 4 (rRet (rTup (rCons (rOp gIx (rVar 4) (rVar 0)) (rCons (rReprE (rVar 1)) (rCons (rReprE (rVar 2)) rNil)))))) rNext)
    (rFrz 4 (rRet (rIte (rTV (rOp gEq (rVar 0) (rC (.int 19)))) (rTup (rCons (rOp gIx (rVar 4) (rVar 0)) (rCons (rVar 1) (rCons (rVar 2) (rCons (rVar 3) rNil))))) (rTup (rCons (rOp gIx (rVar 4) (rVar 0)) rNil))))))))))))

theorem pl__law_due : ∀ (ds : List D) (Q : D → Prop) (E : XD → Prop), ds.length = 4 → sp__law_due ds Q E → t__law_due { nx := fun _ => Q .non, rt := Q, ex := E } (start3 5 ds) := fun ds Q E hl h => by
  obtain ⟨k, a, b, c, rfl, hk, ha, hb, hc, q⟩ := h
  refine ⟨by show 4 < 5; decide, sz 12, sz 11, by show 12 + 11 ≤ sizeLine; decide, ?_⟩
  rcases (by omega : k = 0 ∨ k = 1 ∨ k = 2 ∨ k = 3 ∨ k = 4 ∨ k = 5 ∨ k = 6 ∨ k = 7 ∨ k = 8 ∨ k = 9 ∨ k = 10 ∨ k = 11 ∨ k = 12 ∨ k = 13 ∨ k = 14 ∨ k = 15 ∨ k = 16 ∨ k = 17 ∨ k = 18 ∨ k = 19 ∨ k = 20 ∨ k = 21 ∨ k = 22) with rfl | rfl | rfl | rfl | rfl | rfl | rfl | rfl | rfl | rfl | rfl | rfl | rfl | rfl | rfl | rfl | rfl | rfl | rfl | rfl | rfl | rfl | rfl
  · exact ⟨sz 6, hb.ok, sz 3, q⟩
  · exact ⟨sz 6, hb.ok, sz 3, q⟩
  · exact ⟨sz 6, sz 4, sz 2, q⟩
  · exact ⟨sz 6, hb.ok, sz 3, q⟩
  · exact ⟨sz 6, sz 4, sz 2, q⟩
  · exact ⟨sz 6, hb.ok, sz 3, q⟩
  · exact ⟨sz 6, hb.ok, sz 3, q⟩
  · exact ⟨sz 6, hb.ok, sz 3, q⟩
  · exact ⟨sz 6, sz 4, sz 7, ha.ok, sz 2, q⟩
  · exact ⟨sz 6, sz 4, sz 7, sz 2, sz 3, q⟩
  · exact ⟨sz 6, sz 4, sz 7, ha.ok, sz 2, q⟩
  · exact ⟨sz 6, sz 4, sz 7, sz 2, ha.ok, hb.ok, sz 3, q⟩
  · exact ⟨sz 6, sz 4, sz 7, ha.ok, sz 2, q⟩
  · exact ⟨sz 6, sz 4, sz 7, ha.ok, sz 2, q⟩
  · exact ⟨sz 6, sz 4, sz 7, ha.ok, sz 2, q⟩
  · exact ⟨sz 6, sz 4, sz 2, q⟩
  · exact ⟨sz 6, sz 4, sz 7, ha.ok, sz 2, q⟩
  · exact ⟨sz 6, sz 4, sz 2, q⟩
  · exact ⟨sz 6, sz 4, sz 7, ha.ok, sz 2, q⟩
  · exact ⟨sz 6, sz 4, sz 7, sz 2, sz 4, q⟩
  · exact ⟨sz 6, sz 4, sz 7, sz 2, sz 3, q⟩
  · exact ⟨sz 6, sz 4, sz 7, sz 2, sz 1, q⟩
  · exact ⟨sz 6, sz 4, sz 7, sz 2, sz 1, q⟩


def t_law : RS := (rSeq (rSet 1 (rCall 1 sp__law_pen (rCons (rVar 0) rNil)))
    (rSeq (rFor (rRange1 (rCons (rC (.int 23)) rNil)) (g3N 2) (rSeq (rPar3 3 4 5 (rCons (rCall 1 sp__law_value (rCons (rVar 1) rNil)) (rCons (rCall 1 sp__law_value (rCons (rVar 1) rNil)) (rCons (rCall 1 sp__law_value (rCons (rVar 1) rNil)) rNil))))
    (rSeq (rSet 6 (rCall 4 sp__law_told (rCons (rVar 2) (rCons (rVar 3) (rCons (rVar 4) (rCons (rVar 5) rNil))))))
    (rIf (rOr (rTV (rIsN (rVar 6))) (rOr (rTV (rOp gNe (rCB gLen (rCons (rVar 6) rNil)) (rC (.int 1)))) (rTV (rOp gNe (rReprE (rOp gIx (rVar 6) (rC (.int 0)))) (rReprE (rCall 4 sp__law_due (rCons (rVar 2) (rCons (rVar 3) (rCons (rVar 4) (rCons (rVar 5) rNil)))))))))) (rRet (rC (.bl false))) rNext))))
    (rRet (rC (.bl true)))))

theorem pl_law : ∀ (ds : List D) (Q : D → Prop) (E : XD → Prop), ds.length = 1 → sp_law ds Q E → t_law { nx := fun _ => Q .non, rt := Q, ex := E } (start3 7 ds) := fun ds Q E hl h => by
  obtain ⟨xs, rfl, hx, q⟩ := h
  refine ⟨rfl, xs, rfl, hx, ?_⟩
  refine ⟨⟨by decide, by decide⟩, ?_⟩
  show forL _ _ _ (rangeD 0 23) _
  refine for_inv (fun l ρ => ∃ (n : Nat) (a b c e f : Sl), l = (rangeD 0 23).drop n ∧ ρ = [.val (.scr xs), .val .pen, a, b, c, e, f]) (fun d l ρ K hI hK => ?_) (fun ρ hI => ?_) _ _ ⟨0, .emp, .emp, .emp, .emp, .emp, rfl, rfl⟩
  · obtain ⟨n, s2, s3, s4, s5, s6, el, rfl⟩ := hI
    have hn : n < 23 := by
      by_cases hn : n < 23
      · exact hn
      · rw [List.drop_eq_nil_of_le (by rw [rangeD_len]; omega)] at el
        cases el
    rw [rd_get hn] at el
    cases el
    refine ⟨rfl, rfl, fun a ha => ⟨rfl, rfl, fun b hb => ⟨rfl, rfl, fun c hc => ?_⟩⟩⟩
    refine ⟨rfl, n, a, b, c, rfl, hn, ha, hb, hc, ?_⟩
    have dk := due_ok hn ha hb hc
    refine ⟨dk.1, rfl, n, a, b, c, rfl, hn, ha, hb, hc, dk.1, ?_⟩
    have e0 : decide (reprE (dueK n a b c) = reprE (dueK n a b c)) = true := decide_eq_true rfl
    conv => whnf
    split
    · rename_i e
      have e : (!decide (reprE (dueK n a b c) = reprE (dueK n a b c))) = true := e
      rw [e0] at e
      cases e
    · exact hK _ ⟨n + 1, _, _, _, _, _, rfl, rfl⟩
  · obtain ⟨n, s2, s3, s4, s5, s6, el, rfl⟩ := hI
    exact q

end Cl
namespace Cl
open PySem PySem.Spec L2 L3
open PyProof.Rows hiding St
def topS (i : Nat) : Stmt := PySem.Challenge.pw_onerests_k01_errors_as_told.main.body.getD i (.Pass ⟨0, 0, 0, 0⟩)
def cfE (l c : Nat) : Nat → Expr → Option Scope
  | 0, _ => none
  | n + 1, .ListComp e gs sc p => if p.line == l && p.col == c then some sc else (cfE l c n e).orElse fun _ => gs.findSome? fun g => (cfE l c n g.iter).orElse fun _ => g.ifs.findSome? (cfE l c n)
  | n + 1, .Call f as _ _ => (f :: as).findSome? (cfE l c n)
  | n + 1, .Tuple es _ _ => es.findSome? (cfE l c n)
  | n + 1, .List es _ => es.findSome? (cfE l c n)
  | n + 1, .BinOp a _ b _ => [a, b].findSome? (cfE l c n)
  | n + 1, .Compare a _ bs _ => (a :: bs).findSome? (cfE l c n)
  | n + 1, .BoolOp _ es _ => es.findSome? (cfE l c n)
  | n + 1, .UnaryOp _ a _ => cfE l c n a
  | n + 1, .IfExp a b d _ => [a, b, d].findSome? (cfE l c n)
  | n + 1, .Subscript a b _ => [a, b].findSome? (cfE l c n)
  | n + 1, .Attribute a _ _ => cfE l c n a
  | _, _ => none
def cfS (l c : Nat) : Nat → Stmt → Option Scope
  | 0, _ => none
  | _ + 1, .Return (some e) _ => cfE l c 14 e
  | _ + 1, .Assign _ e _ => cfE l c 14 e
  | _ + 1, .Expr e _ => cfE l c 14 e
  | n + 1, .If t b o _ => (cfE l c 14 t).orElse fun _ => (b ++ o).findSome? (cfS l c n)
  | n + 1, .For _ i b o _ => (cfE l c 14 i).orElse fun _ => (b ++ o).findSome? (cfS l c n)
  | n + 1, .While t b o _ => (cfE l c 14 t).orElse fun _ => (b ++ o).findSome? (cfS l c n)
  | _, _ => none
/-- the scope of the comprehension that begins at line l, column c -/
def cfD (l c : Nat) (st : Stmt) : Scope := ((defBody st).findSome? (cfS l c 12)).getD (defScope st)
/-- .. with the names that lie in a cell of the scope around -/
def cfR (l c : Nat) (st : Stmt) (up : Scope) : Scope := { cfD l c st with «names» := (cfD l c st).names.map fun (n, k) => if (k == .free && up.kind == .function && up.names.lookup n == some .cell) then (n, .cell) else (n, k) }
structure DefAt (K : PySem.W.Frag) (mg : Str → Option Value) (ps : List Str) (f : Addr) (fd : FuncData) : Prop where
  k : PySem.W.keepIn K (.ref f) = true
  b : Binds K fd ps []
structure DefG (K : PySem.W.Frag) (mg : Str → Option Value) (x : Str) (ps : List Str) (f : Addr) (fd : FuncData) : Prop extends DefAt K mg ps f fd where
  g : mg x = some (.ref f)
def suiteOf (st : Stmt) : List Stmt := match defBody st with
  | _ :: .Try _ (.ExceptHandler _ _ b _ :: _) _ _ _ :: _ => b
  | _ => []
def suiteOf0 (st : Stmt) : Stmt := (suiteOf st).getD 0 (.Pass ⟨0, 0, 0, 0⟩)
def suiteOf1 (st : Stmt) : List Stmt := (suiteOf st).drop 1
structure Zn (mg : Str → Option Value) : Prop where
  ValueError : mg "ValueError" = none
  int : mg "int" = none
  isinstance : mg "isinstance" = none
  len : mg "len" = none
  list : mg "list" = none
  range : mg "range" = none
  repr : mg "repr" = none
structure Yn (K : PySem.W.Frag) (mg : Str → Option Value) : Prop where
  one : True
structure XnOk (K : PySem.W.Frag) (mg : Str → Option Value) : Prop where
  m_BadFrame : mg "BadFrame" = some (.ref (cmOf mg "BadFrame"))
  k_BadFrame : ∀ c ∈ excN, XcC K (cmOf mg c) ∧ PySem.W.kitOne K (.ref (cmOf mg c)) (.ref (cmOf mg "BadFrame")) = some (c == "BadFrame")
  m_BadHouse : mg "BadHouse" = some (.ref (cmOf mg "BadHouse"))
  k_BadHouse : ∀ c ∈ excN, XcC K (cmOf mg c) ∧ PySem.W.kitOne K (.ref (cmOf mg c)) (.ref (cmOf mg "BadHouse")) = some (c == "BadHouse")
  m_BadLoad : mg "BadLoad" = some (.ref (cmOf mg "BadLoad"))
  k_BadLoad : ∀ c ∈ excN, XcC K (cmOf mg c) ∧ PySem.W.kitOne K (.ref (cmOf mg c)) (.ref (cmOf mg "BadLoad")) = some (c == "BadLoad")
  m_BadName : mg "BadName" = some (.ref (cmOf mg "BadName"))
  k_BadName : ∀ c ∈ excN, XcC K (cmOf mg c) ∧ PySem.W.kitOne K (.ref (cmOf mg c)) (.ref (cmOf mg "BadName")) = some (c == "BadName")
  m_BadNet : mg "BadNet" = some (.ref (cmOf mg "BadNet"))
  k_BadNet : ∀ c ∈ excN, XcC K (cmOf mg c) ∧ PySem.W.kitOne K (.ref (cmOf mg c)) (.ref (cmOf mg "BadNet")) = some (c == "BadNet")
  m_BadNumber : mg "BadNumber" = some (.ref (cmOf mg "BadNumber"))
  k_BadNumber : ∀ c ∈ excN, XcC K (cmOf mg c) ∧ PySem.W.kitOne K (.ref (cmOf mg c)) (.ref (cmOf mg "BadNumber")) = some (c == "BadNumber")
  m_BadRow : mg "BadRow" = some (.ref (cmOf mg "BadRow"))
  k_BadRow : ∀ c ∈ excN, XcC K (cmOf mg c) ∧ PySem.W.kitOne K (.ref (cmOf mg c)) (.ref (cmOf mg "BadRow")) = some (c == "BadRow")
  m_BadTable : mg "BadTable" = some (.ref (cmOf mg "BadTable"))
  k_BadTable : ∀ c ∈ excN, XcC K (cmOf mg c) ∧ PySem.W.kitOne K (.ref (cmOf mg c)) (.ref (cmOf mg "BadTable")) = some (c == "BadTable")
  m_BadText : mg "BadText" = some (.ref (cmOf mg "BadText"))
  k_BadText : ∀ c ∈ excN, XcC K (cmOf mg c) ∧ PySem.W.kitOne K (.ref (cmOf mg c)) (.ref (cmOf mg "BadText")) = some (c == "BadText")
  m_BadWeb : mg "BadWeb" = some (.ref (cmOf mg "BadWeb"))
  k_BadWeb : ∀ c ∈ excN, XcC K (cmOf mg c) ∧ PySem.W.kitOne K (.ref (cmOf mg c)) (.ref (cmOf mg "BadWeb")) = some (c == "BadWeb")
  m_Flat : mg "Flat" = some (.ref (cmOf mg "Flat"))
  k_Flat : ∀ c ∈ excN, XcC K (cmOf mg c) ∧ PySem.W.kitOne K (.ref (cmOf mg c)) (.ref (cmOf mg "Flat")) = some (c == "Flat")
  m_NoName : mg "NoName" = some (.ref (cmOf mg "NoName"))
  k_NoName : ∀ c ∈ excN, XcC K (cmOf mg c) ∧ PySem.W.kitOne K (.ref (cmOf mg c)) (.ref (cmOf mg "NoName")) = some (c == "NoName")
  m_NoPlace : mg "NoPlace" = some (.ref (cmOf mg "NoPlace"))
  k_NoPlace : ∀ c ∈ excN, XcC K (cmOf mg c) ∧ PySem.W.kitOne K (.ref (cmOf mg c)) (.ref (cmOf mg "NoPlace")) = some (c == "NoPlace")
  m_NoRow : mg "NoRow" = some (.ref (cmOf mg "NoRow"))
  k_NoRow : ∀ c ∈ excN, XcC K (cmOf mg c) ∧ PySem.W.kitOne K (.ref (cmOf mg c)) (.ref (cmOf mg "NoRow")) = some (c == "NoRow")
  m_NoWall : mg "NoWall" = some (.ref (cmOf mg "NoWall"))
  k_NoWall : ∀ c ∈ excN, XcC K (cmOf mg c) ∧ PySem.W.kitOne K (.ref (cmOf mg c)) (.ref (cmOf mg "NoWall")) = some (c == "NoWall")
  m_NotKept : mg "NotKept" = some (.ref (cmOf mg "NotKept"))
  k_NotKept : ∀ c ∈ excN, XcC K (cmOf mg c) ∧ PySem.W.kitOne K (.ref (cmOf mg c)) (.ref (cmOf mg "NotKept")) = some (c == "NotKept")
  m_NotOnce : mg "NotOnce" = some (.ref (cmOf mg "NotOnce"))
  k_NotOnce : ∀ c ∈ excN, XcC K (cmOf mg c) ∧ PySem.W.kitOne K (.ref (cmOf mg c)) (.ref (cmOf mg "NotOnce")) = some (c == "NotOnce")
  m_NotPlain : mg "NotPlain" = some (.ref (cmOf mg "NotPlain"))
  k_NotPlain : ∀ c ∈ excN, XcC K (cmOf mg c) ∧ PySem.W.kitOne K (.ref (cmOf mg c)) (.ref (cmOf mg "NotPlain")) = some (c == "NotPlain")
  m_NothingToRedo : mg "NothingToRedo" = some (.ref (cmOf mg "NothingToRedo"))
  k_NothingToRedo : ∀ c ∈ excN, XcC K (cmOf mg c) ∧ PySem.W.kitOne K (.ref (cmOf mg c)) (.ref (cmOf mg "NothingToRedo")) = some (c == "NothingToRedo")
  m_NothingToUndo : mg "NothingToUndo" = some (.ref (cmOf mg "NothingToUndo"))
  k_NothingToUndo : ∀ c ∈ excN, XcC K (cmOf mg c) ∧ PySem.W.kitOne K (.ref (cmOf mg c)) (.ref (cmOf mg "NothingToUndo")) = some (c == "NothingToUndo")
  m_TakenName : mg "TakenName" = some (.ref (cmOf mg "TakenName"))
  k_TakenName : ∀ c ∈ excN, XcC K (cmOf mg c) ∧ PySem.W.kitOne K (.ref (cmOf mg c)) (.ref (cmOf mg "TakenName")) = some (c == "TakenName")
  m_TooMany : mg "TooMany" = some (.ref (cmOf mg "TooMany"))
  k_TooMany : ∀ c ∈ excN, XcC K (cmOf mg c) ∧ PySem.W.kitOne K (.ref (cmOf mg c)) (.ref (cmOf mg "TooMany")) = some (c == "TooMany")
  m_Unlike : mg "Unlike" = some (.ref (cmOf mg "Unlike"))
  k_Unlike : ∀ c ∈ excN, XcC K (cmOf mg c) ∧ PySem.W.kitOne K (.ref (cmOf mg c)) (.ref (cmOf mg "Unlike")) = some (c == "Unlike")
  v_ValueError : ∀ c ∈ excN, XcC K (cmOf mg c) ∧ PySem.W.kitOne K (.ref (cmOf mg c)) (.type "ValueError") = some true
  f_BadFrame_place : XfOk K mg "BadFrame" "place"
  f_BadFrame_what : XfOk K mg "BadFrame" "what"
  f_BadHouse_place : XfOk K mg "BadHouse" "place"
  f_BadHouse_what : XfOk K mg "BadHouse" "what"
  f_BadLoad_what : XfOk K mg "BadLoad" "what"
  f_BadName_name : XfOk K mg "BadName" "name"
  f_BadNet_gate : XfOk K mg "BadNet" "gate"
  f_BadNet_what : XfOk K mg "BadNet" "what"
  f_BadNumber_number : XfOk K mg "BadNumber" "number"
  f_BadNumber_what : XfOk K mg "BadNumber" "what"
  f_BadRow_row : XfOk K mg "BadRow" "row"
  f_BadRow_what : XfOk K mg "BadRow" "what"
  f_BadTable_what : XfOk K mg "BadTable" "what"
  f_BadText_line : XfOk K mg "BadText" "line"
  f_BadText_word : XfOk K mg "BadText" "word"
  f_BadWeb_place : XfOk K mg "BadWeb" "place"
  f_BadWeb_what : XfOk K mg "BadWeb" "what"
  f_Flat_choice : XfOk K mg "Flat" "choice"
  f_NoName_name : XfOk K mg "NoName" "name"
  f_NoPlace_place : XfOk K mg "NoPlace" "place"
  f_NoRow_place : XfOk K mg "NoRow" "place"
  f_NoRow_row : XfOk K mg "NoRow" "row"
  f_NoWall_place : XfOk K mg "NoWall" "place"
  f_NotKept_promise : XfOk K mg "NotKept" "promise"
  f_NotKept_witness : XfOk K mg "NotKept" "witness"
  f_NotOnce_row : XfOk K mg "NotOnce" "row"
  f_NotPlain_choice : XfOk K mg "NotPlain" "choice"
  f_TakenName_name : XfOk K mg "TakenName" "name"
  f_TooMany_limit : XfOk K mg "TooMany" "limit"
  f_TooMany_many : XfOk K mg "TooMany" "many"
  f_TooMany_what : XfOk K mg "TooMany" "what"
  f_Unlike_what : XfOk K mg "Unlike" "what"
def XrOk (K : PySem.W.Frag) (mg : Str → Option Value) (CS : Addr) : Prop := ∀ c ∈ excN, PySem.W.exmOne K (.ref (cmOf mg c)) (.ref CS) = some true
theorem x_one {P : Str → Prop} (h0 : P "BadFrame") (h1 : P "BadHouse") (h2 : P "BadLoad") (h3 : P "BadName") (h4 : P "BadNet") (h5 : P "BadNumber") (h6 : P "BadRow") (h7 : P "BadTable") (h8 : P "BadText") (h9 : P "BadWeb") (h10 : P "Flat") (h11 : P "NoName") (h12 : P "NoPlace") (h13 : P "NoRow") (h14 : P "NoWall") (h15 : P "NotKept") (h16 : P "NotOnce") (h17 : P "NotPlain") (h18 : P "NothingToRedo") (h19 : P "NothingToUndo") (h20 : P "TakenName") (h21 : P "TooMany") (h22 : P "Unlike") : ∀ c ∈ excN, P c := fun c hc => by
  unfold excN at hc
  simp only [List.mem_cons, List.mem_nil_iff, or_false] at hc
  rcases hc with rfl | rfl | rfl | rfl | rfl | rfl | rfl | rfl | rfl | rfl | rfl | rfl | rfl | rfl | rfl | rfl | rfl | rfl | rfl | rfl | rfl | rfl | rfl
  · exact h0
  · exact h1
  · exact h2
  · exact h3
  · exact h4
  · exact h5
  · exact h6
  · exact h7
  · exact h8
  · exact h9
  · exact h10
  · exact h11
  · exact h12
  · exact h13
  · exact h14
  · exact h15
  · exact h16
  · exact h17
  · exact h18
  · exact h19
  · exact h20
  · exact h21
  · exact h22
theorem fn_zero {P : Program} {w : World} {K : PySem.W.Frag} {mg : Str → Option Value} {base : Heap} {k : Nat} {f : Addr} {fd : FuncData} {ps : List Str} {KK : KC} {n : Nat} {sp : Sp3} (h : ∀ ds Q E, sp ds Q E → False) : FnOk P w K mg base (L2.CX P w) k f fd ps (lSp KK n sp) := by
  refine ⟨fun vs H Q E z => ?_, fun A outer s H args us vs Q E _ _ _ _ z => ?_⟩
  · obtain ⟨_, _, _, _, _, _, _, _, _, _, hs, _⟩ := z
    exact (h _ _ _ hs).elim
  · obtain ⟨_, _, _, _, _, _, _, _, _, _, hs, _⟩ := z
    exact (h _ _ _ hs).elim
theorem jn_none' (F : Hp) : jn F (fun _ => none) = F := by
  funext a
  unfold jn
  cases F a <;> rfl
abbrev s_BadFrame___init__ : Stmt := inClass (topS 5) 0
theorem sc_BadFrame___init__ : FnScope ["self", "what", "place"] ["self", "what", "place"] (defScope s_BadFrame___init__) := ⟨rfl, rfl, rfl, by decide +kernel, rfl, by decide +kernel, by decide +kernel⟩
abbrev s_BadHouse___init__ : Stmt := inClass (topS 8) 0
theorem sc_BadHouse___init__ : FnScope ["self", "what", "place"] ["self", "what", "place"] (defScope s_BadHouse___init__) := ⟨rfl, rfl, rfl, by decide +kernel, rfl, by decide +kernel, by decide +kernel⟩
abbrev s_BadLoad___init__ : Stmt := inClass (topS 6) 0
theorem sc_BadLoad___init__ : FnScope ["self", "what"] ["self", "what"] (defScope s_BadLoad___init__) := ⟨rfl, rfl, rfl, by decide +kernel, rfl, by decide +kernel, by decide +kernel⟩
abbrev s_BadName___init__ : Stmt := inClass (topS 10) 0
theorem sc_BadName___init__ : FnScope ["self", "name"] ["self", "name"] (defScope s_BadName___init__) := ⟨rfl, rfl, rfl, by decide +kernel, rfl, by decide +kernel, by decide +kernel⟩
abbrev s_BadNet___init__ : Stmt := inClass (topS 7) 0
theorem sc_BadNet___init__ : FnScope ["self", "what", "gate"] ["self", "what", "gate"] (defScope s_BadNet___init__) := ⟨rfl, rfl, rfl, by decide +kernel, rfl, by decide +kernel, by decide +kernel⟩
abbrev s_BadNumber___init__ : Stmt := inClass (topS 2) 0
theorem sc_BadNumber___init__ : FnScope ["self", "what", "number"] ["self", "what", "number"] (defScope s_BadNumber___init__) := ⟨rfl, rfl, rfl, by decide +kernel, rfl, by decide +kernel, by decide +kernel⟩
abbrev s_BadRow___init__ : Stmt := inClass (topS 3) 0
theorem sc_BadRow___init__ : FnScope ["self", "what", "row"] ["self", "what", "row"] (defScope s_BadRow___init__) := ⟨rfl, rfl, rfl, by decide +kernel, rfl, by decide +kernel, by decide +kernel⟩
abbrev s_BadTable___init__ : Stmt := inClass (topS 4) 0
theorem sc_BadTable___init__ : FnScope ["self", "what"] ["self", "what"] (defScope s_BadTable___init__) := ⟨rfl, rfl, rfl, by decide +kernel, rfl, by decide +kernel, by decide +kernel⟩
abbrev s_BadText___init__ : Stmt := inClass (topS 11) 0
theorem sc_BadText___init__ : FnScope ["self", "line", "word"] ["self", "line", "word"] (defScope s_BadText___init__) := ⟨rfl, rfl, rfl, by decide +kernel, rfl, by decide +kernel, by decide +kernel⟩
abbrev s_BadWeb___init__ : Stmt := inClass (topS 9) 0
theorem sc_BadWeb___init__ : FnScope ["self", "what", "place"] ["self", "what", "place"] (defScope s_BadWeb___init__) := ⟨rfl, rfl, rfl, by decide +kernel, rfl, by decide +kernel, by decide +kernel⟩
abbrev s_Flat___init__ : Stmt := inClass (topS 18) 0
theorem sc_Flat___init__ : FnScope ["self", "choice"] ["self", "choice"] (defScope s_Flat___init__) := ⟨rfl, rfl, rfl, by decide +kernel, rfl, by decide +kernel, by decide +kernel⟩
abbrev s_NoName___init__ : Stmt := inClass (topS 15) 0
theorem sc_NoName___init__ : FnScope ["self", "name"] ["self", "name"] (defScope s_NoName___init__) := ⟨rfl, rfl, rfl, by decide +kernel, rfl, by decide +kernel, by decide +kernel⟩
abbrev s_NoPlace___init__ : Stmt := inClass (topS 12) 0
theorem sc_NoPlace___init__ : FnScope ["self", "place"] ["self", "place"] (defScope s_NoPlace___init__) := ⟨rfl, rfl, rfl, by decide +kernel, rfl, by decide +kernel, by decide +kernel⟩
abbrev s_NoRow___init__ : Stmt := inClass (topS 14) 0
theorem sc_NoRow___init__ : FnScope ["self", "place", "row"] ["self", "place", "row"] (defScope s_NoRow___init__) := ⟨rfl, rfl, rfl, by decide +kernel, rfl, by decide +kernel, by decide +kernel⟩
abbrev s_NoWall___init__ : Stmt := inClass (topS 13) 0
theorem sc_NoWall___init__ : FnScope ["self", "place"] ["self", "place"] (defScope s_NoWall___init__) := ⟨rfl, rfl, rfl, by decide +kernel, rfl, by decide +kernel, by decide +kernel⟩
abbrev s_NotKept___init__ : Stmt := inClass (topS 22) 0
theorem sc_NotKept___init__ : FnScope ["self", "promise", "witness"] ["self", "promise", "witness"] (defScope s_NotKept___init__) := ⟨rfl, rfl, rfl, by decide +kernel, rfl, by decide +kernel, by decide +kernel⟩
abbrev s_NotOnce___init__ : Stmt := inClass (topS 19) 0
theorem sc_NotOnce___init__ : FnScope ["self", "row"] ["self", "row"] (defScope s_NotOnce___init__) := ⟨rfl, rfl, rfl, by decide +kernel, rfl, by decide +kernel, by decide +kernel⟩
abbrev s_NotPlain___init__ : Stmt := inClass (topS 20) 0
theorem sc_NotPlain___init__ : FnScope ["self", "choice"] ["self", "choice"] (defScope s_NotPlain___init__) := ⟨rfl, rfl, rfl, by decide +kernel, rfl, by decide +kernel, by decide +kernel⟩
abbrev s_TakenName___init__ : Stmt := inClass (topS 16) 0
theorem sc_TakenName___init__ : FnScope ["self", "name"] ["self", "name"] (defScope s_TakenName___init__) := ⟨rfl, rfl, rfl, by decide +kernel, rfl, by decide +kernel, by decide +kernel⟩
abbrev s_TooMany___init__ : Stmt := inClass (topS 21) 0
theorem sc_TooMany___init__ : FnScope ["self", "what", "many", "limit"] ["self", "what", "many", "limit"] (defScope s_TooMany___init__) := ⟨rfl, rfl, rfl, by decide +kernel, rfl, by decide +kernel, by decide +kernel⟩
abbrev s_Unlike___init__ : Stmt := inClass (topS 17) 0
theorem sc_Unlike___init__ : FnScope ["self", "what"] ["self", "what"] (defScope s_Unlike___init__) := ⟨rfl, rfl, rfl, by decide +kernel, rfl, by decide +kernel, by decide +kernel⟩
abbrev s__law_draw : Stmt := topS 27
theorem sc__law_draw : FnScope ["pen", "many", "cell", "digit", "blend"] ["pen", "many"] (defScope s__law_draw) := ⟨rfl, rfl, rfl, by decide +kernel, rfl, by decide +kernel, by decide +kernel⟩
set_option maxHeartbeats 8100000 in
theorem ok__law_draw {P : Program} {w : World} {K : PySem.W.Frag} {mg : Str → Option Value} {base : Heap} {T : List (Addr × Str)} (zlen : mg "len" = none) (zint : mg "int" = none) {f : Addr} {fd : FuncData} (F : Fun K "_law_draw" "_law_draw" s__law_draw f fd) :
    FnOk P w K mg base (L2.CX P w) 1 f fd ["pen", "many"] (lSp ⟨K, cmOf mg, [], T⟩ 2 sp__law_draw) := by
  refine F.okX sc__law_draw (fun vs H Q E h => ?_) (fun cdv A outer s H vs Q E hr h => ?_)
  · obtain ⟨_, _, _, _, _, _, _, _, _, hl, _⟩ := h
    exact hl
  · have hu := hu_of hr
    have gk : ∀ {X : Cx} {e : Expr} {pos : Pos} {k : Str} {j : Nat} {p2 : Pos}, X.A.units + 1 < cLine → PE X e (tVar 0) → PE X (.Subscript e (.Constant (.str k) j p2) pos) (tDGet (tVar 0) (tC (.str k))) := fun hu he => pe_dget hu he pe_str (fun _ _ => rfl)
    have int1 : ∀ {X : Cx} {e : Expr} {p pos : Pos} {te : TE}, Gl X "int" → X.mg "int" = none → PE X e te → starEach (e :: []) X.env = (false, eval e X.env) :: starEach [] X.env → (backTo pos (starEach [] X.env)).any (·.1) = false → PE X (.Call (.Name "int" p) [e] [] pos) (tCB cbInt (tCons te tNil)) :=
      fun hg hm he h1 h2 => pe_callTy call_int1 hg hm (by decide +kernel) (pa_cons he pa_nil h1) (by decide) (by decide) h1 h2
    refine ⟨_, pss_cons (ps_dput hu (pv 0) pe_str (pe_op op_add (gk hu (pv 0)) pe_int) rfl)
      (pss_cons (ps_if (PW.pt (pw_and (pt_cmpR op_eq (gk hu (pv 0)) pe_int (nobehind _ (by decide) (by decide))) (pw_and1 (pt_cmpR op_lt (gk hu (pv 0)) (by exact pe_callB call_len_seq rfl zlen (by decide +kernel) (by exact pa_cons (gk hu (pv 0)) pa_nil)) (nobehind _ (by decide) (by decide))))))
        (pss_cons (ps_set (i := 2) sc__law_draw.nd rfl (.inl rfl) (pe_ix ix_list (gk hu (pv 0)) (gk hu (pv 0)) (fun _ _ => rfl)))
          (pss_cons (ps_dput hu (pv 0) pe_str (pe_op op_add (gk hu (pv 0)) pe_int) rfl)
            (pss_one (ps_if (pt_cmpR op_ge (pv 2) (pe_op op_pow pe_int pe_int) (nobehind _ (by decide) (by decide)))
              (pss_one (ps_dput hu (pv 0) pe_str (pe_op op_sub (pv 2) (pe_op op_pow pe_int pe_int)) rfl))
              (pss_one (ps_dput hu (pv 0) pe_str (pe_op op_mod (by exact int1 rfl zint (pe_op op_add (pe_op op_mul (gk hu (pv 0)) pe_int) (pv 2)) rfl rfl) pe_int) rfl)))))) pss_nil)
      (pss_cons (ps_if (pt_cmpR op_gt (gk hu (pv 0)) pe_int (nobehind _ (by decide) (by decide)))
        (pss_cons (ps_set (i := 3) sc__law_draw.nd rfl (.inl rfl) (pe_op op_mod (by exact int1 rfl zint (gk hu (pv 0)) rfl rfl) (pv 1)))
          (pss_cons (ps_dput hu (pv 0) pe_str (pe_op op_fdiv (gk hu (pv 0)) (pv 1)) rfl)
            (pss_one (ps_ret (pv 3))))) pss_nil)
      (pss_cons (ps_set (i := 4) sc__law_draw.nd rfl (.inl rfl) (pe_op op_mod (by exact int1 rfl zint (pe_op op_add (pe_op op_add (pe_op op_mul (gk hu (pv 0)) pe_int) (pe_op op_mul (gk hu (pv 0)) pe_int)) pe_int) rfl rfl) pe_int))
      (pss_cons (ps_set (i := 4) sc__law_draw.nd rfl (.inl rfl) (pe_op op_mod (by exact int1 rfl zint (pe_op op_add (pe_op op_add (pe_op op_mul (pv 4) (pv 4)) (pe_op op_mul pe_int (pv 4))) (gk hu (pv 0))) rfl rfl) pe_int))
      (pss_cons (ps_dput hu (pv 0) pe_str (pe_op op_mod (by exact int1 rfl zint (pe_op op_add (pe_op op_mul (pv 4) pe_int) pe_int) rfl rfl) pe_int) rfl)
      (pss_one (ps_ret (pe_op op_mod (by exact int1 rfl zint (pe_op op_fdiv (pv 4) pe_int) rfl rfl) (pv 1))))))))), ?_⟩
    exact pure_draw (K := ⟨K, cmOf mg, [], T⟩) h
abbrev s__law_pen : Stmt := topS 26
theorem sc__law_pen : FnScope ["script", "fold", "cell"] ["script"] (defScope s__law_pen) := ⟨rfl, rfl, rfl, by decide +kernel, rfl, by decide +kernel, by decide +kernel⟩
theorem dv__law_pen {P : Program} {w : World} {K : PySem.W.Frag} {mg : Str → Option Value} {base : Heap} {B : Bs} (Z : Zn mg) (Y : Yn K mg)
    {f : Addr} {cdv : Value} {fd : FuncData} {A : Around} {outer : List Env} {s : Shared} {H : Hp} {E : XK} (hr : Room 0 (A.deeper (envOfC "_law_pen" (defScope s__law_pen) s.heap.objs.size f cdv)))
    (tk : Takes (cxOf (L2.CX P w) P w K mg base ["script", "fold", "cell"] "_law_pen" (defScope s__law_pen) f cdv A outer s H E) (WD E)) :
    DSs B (cxOf (L2.CX P w) P w K mg base ["script", "fold", "cell"] "_law_pen" (defScope s__law_pen) f cdv A outer s H E) (WD E) (defBody s__law_pen) t__law_pen :=
    (dss_cons (ds_set sc__law_pen.nd rfl (by first | exact Or.inl rfl | exact Or.inr rfl) de_int)
    (dss_cons (ds_for (passes_of rfl) rfl (di_seq (de_name (pv 0))) (dg_name sc__law_pen.nd rfl (by first | exact Or.inl rfl | exact Or.inr rfl)) (fun _ => (dss_one (ds_set sc__law_pen.nd rfl (by first | exact Or.inl rfl | exact Or.inr rfl) (de_op op2_mod (de_ct cr_int rfl Z.int (by decide +kernel) (by exact (da_cons (de_op op2_add (de_op op2_mul (de_name (pv 1)) de_int) (de_name (pv 2))) da_nil))) de_int)))))
    (dss_one (ds_ret (de_penNew (by exact (fe_list rfl Z.list (de_name (pv 0)))) (by exact (de_name (pv 1))))))))

abbrev s__law_pick : Stmt := topS 28
theorem sc__law_pick : FnScope ["pen", "some"] ["pen", "some"] (defScope s__law_pick) := ⟨rfl, rfl, rfl, by decide +kernel, rfl, by decide +kernel, by decide +kernel⟩
theorem dv__law_pick {P : Program} {w : World} {K : PySem.W.Frag} {mg : Str → Option Value} {base : Heap} {B : Bs} (Z : Zn mg) (Y : Yn K mg)
    {f__law_draw : Addr} {fd__law_draw : FuncData} (D__law_draw : DefG K mg "_law_draw" ["pen", "many"] f__law_draw fd__law_draw) (G__law_draw : FnOk P w K mg base (L2.CX P w) 1 f__law_draw fd__law_draw ["pen", "many"] (lSp ⟨K, cmOf mg, [], B.T⟩ 2 sp__law_draw))
    {f : Addr} {cdv : Value} {fd : FuncData} {A : Around} {outer : List Env} {s : Shared} {H : Hp} {E : XK} (hr : Room 1 (A.deeper (envOfC "_law_pick" (defScope s__law_pick) s.heap.objs.size f cdv)))
    (tk : Takes (cxOf (L2.CX P w) P w K mg base ["pen", "some"] "_law_pick" (defScope s__law_pick) f cdv A outer s H E) (WD E)) :
    DSs B (cxOf (L2.CX P w) P w K mg base ["pen", "some"] "_law_pick" (defScope s__law_pick) f cdv A outer s H E) (WD E) (defBody s__law_pick) t__law_pick :=
    (dss_one (ds_ret (de_ix (de_name (pv 1)) (de_call G__law_draw (hr.mono (by decide)) rfl D__law_draw.g D__law_draw.k D__law_draw.b tk (by exact (da_cons (de_name (pv 0)) (da_cons (de_cb cr_len rfl Z.len (by decide +kernel) (by exact (da_cons (de_name (pv 1)) da_nil))) da_nil)))) (fun _ _ => rfl))))

abbrev s__law_more_kinds : Stmt := topS 30
theorem sc__law_more_kinds : FnScope ["e", "found"] ["e"] (defScope s__law_more_kinds) := ⟨rfl, rfl, rfl, by decide +kernel, rfl, by decide +kernel, by decide +kernel⟩
theorem dv__law_more_kinds {P : Program} {w : World} {K : PySem.W.Frag} {mg : Str → Option Value} {base : Heap} {B : Bs} (Z : Zn mg) (Y : Yn K mg)
    (Xn : XnOk K mg)
    (SM : SmB base)
    {f : Addr} {cdv : Value} {A : Around} {outer : List Env} {s : Shared} {H : Hp} {p : Addr × Obj} (hr : RoomP true 0 (A.deeper (envOfC "_law_more_kinds" (defScope s__law_more_kinds) s.heap.objs.size f cdv))) :
    DSs B (cxP P w K mg base ["e", "found"] "_law_more_kinds" (defScope s__law_more_kinds) f cdv A outer s H p) W0 (defBody s__law_more_kinds) t__law_more_kinds :=
    (dss_cons (ds_setL sc__law_more_kinds.nd rfl (by first | exact Or.inl rfl | exact Or.inr rfl) (fe_lst (by exact da_nil)))
    (dss_cons (ds_if (dt_val (de_isXc (nm := excN) (f := (· == "NoPlace")) rfl Z.isinstance rfl Xn.m_NoPlace Xn.k_NoPlace (de_name (pv 0)))) (dss_one (ds_app (pv 1) (de_tup (by exact (da_cons de_str (da_cons (de_reprE SM (hr.gd rfl) hr.units rfl Z.repr (de_xf Xn.f_NoPlace_place (de_name (pv 0)))) da_nil)))))) dss_nil)
    (dss_cons (ds_if (dt_val (de_isXc (nm := excN) (f := (· == "NoRow")) rfl Z.isinstance rfl Xn.m_NoRow Xn.k_NoRow (de_name (pv 0)))) (dss_one (ds_app (pv 1) (de_tup (by exact (da_cons de_str (da_cons (de_reprE SM (hr.gd rfl) hr.units rfl Z.repr (de_xf Xn.f_NoRow_place (de_name (pv 0)))) (da_cons (de_reprE SM (hr.gd rfl) hr.units rfl Z.repr (de_xf Xn.f_NoRow_row (de_name (pv 0)))) da_nil))))))) dss_nil)
    (dss_cons (ds_if (dt_val (de_isXc (nm := excN) (f := (· == "NoWall")) rfl Z.isinstance rfl Xn.m_NoWall Xn.k_NoWall (de_name (pv 0)))) (dss_one (ds_app (pv 1) (de_tup (by exact (da_cons de_str (da_cons (de_reprE SM (hr.gd rfl) hr.units rfl Z.repr (de_xf Xn.f_NoWall_place (de_name (pv 0)))) da_nil)))))) dss_nil)
    (dss_cons (ds_if (dt_val (de_isXc (nm := excN) (f := (· == "NoName")) rfl Z.isinstance rfl Xn.m_NoName Xn.k_NoName (de_name (pv 0)))) (dss_one (ds_app (pv 1) (de_tup (by exact (da_cons de_str (da_cons (de_reprE SM (hr.gd rfl) hr.units rfl Z.repr (de_xf Xn.f_NoName_name (de_name (pv 0)))) da_nil)))))) dss_nil)
    (dss_cons (ds_if (dt_val (de_isXc (nm := excN) (f := (· == "TakenName")) rfl Z.isinstance rfl Xn.m_TakenName Xn.k_TakenName (de_name (pv 0)))) (dss_one (ds_app (pv 1) (de_tup (by exact (da_cons de_str (da_cons (de_reprE SM (hr.gd rfl) hr.units rfl Z.repr (de_xf Xn.f_TakenName_name (de_name (pv 0)))) da_nil)))))) dss_nil)
    (dss_cons (ds_if (dt_val (de_isXc (nm := excN) (f := (· == "Unlike")) rfl Z.isinstance rfl Xn.m_Unlike Xn.k_Unlike (de_name (pv 0)))) (dss_one (ds_app (pv 1) (de_tup (by exact (da_cons de_str (da_cons (de_xf Xn.f_Unlike_what (de_name (pv 0))) da_nil)))))) dss_nil)
    (dss_cons (ds_if (dt_val (de_isXc (nm := excN) (f := (· == "Flat")) rfl Z.isinstance rfl Xn.m_Flat Xn.k_Flat (de_name (pv 0)))) (dss_one (ds_app (pv 1) (de_tup (by exact (da_cons de_str (da_cons (de_reprE SM (hr.gd rfl) hr.units rfl Z.repr (de_xf Xn.f_Flat_choice (de_name (pv 0)))) da_nil)))))) dss_nil)
    (dss_cons (ds_if (dt_val (de_isXc (nm := excN) (f := (· == "NotOnce")) rfl Z.isinstance rfl Xn.m_NotOnce Xn.k_NotOnce (de_name (pv 0)))) (dss_one (ds_app (pv 1) (de_tup (by exact (da_cons de_str (da_cons (de_xf Xn.f_NotOnce_row (de_name (pv 0))) da_nil)))))) dss_nil)
    (dss_cons (ds_if (dt_val (de_isXc (nm := excN) (f := (· == "NotPlain")) rfl Z.isinstance rfl Xn.m_NotPlain Xn.k_NotPlain (de_name (pv 0)))) (dss_one (ds_app (pv 1) (de_tup (by exact (da_cons de_str (da_cons (de_reprE SM (hr.gd rfl) hr.units rfl Z.repr (de_xf Xn.f_NotPlain_choice (de_name (pv 0)))) da_nil)))))) dss_nil)
    (dss_cons (ds_if (dt_val (de_isXc (nm := excN) (f := (· == "TooMany")) rfl Z.isinstance rfl Xn.m_TooMany Xn.k_TooMany (de_name (pv 0)))) (dss_one (ds_app (pv 1) (de_tup (by exact (da_cons de_str (da_cons (de_xf Xn.f_TooMany_what (de_name (pv 0))) (da_cons (de_xf Xn.f_TooMany_many (de_name (pv 0))) (da_cons (de_xf Xn.f_TooMany_limit (de_name (pv 0))) da_nil)))))))) dss_nil)
    (dss_cons (ds_if (dt_val (de_isXc (nm := excN) (f := (· == "NotKept")) rfl Z.isinstance rfl Xn.m_NotKept Xn.k_NotKept (de_name (pv 0)))) (dss_one (ds_app (pv 1) (de_tup (by exact (da_cons de_str (da_cons (de_xf Xn.f_NotKept_promise (de_name (pv 0))) (da_cons (de_xf Xn.f_NotKept_witness (de_name (pv 0))) da_nil))))))) dss_nil)
    (dss_cons (ds_if (dt_val (de_isXc (nm := excN) (f := (· == "NothingToUndo")) rfl Z.isinstance rfl Xn.m_NothingToUndo Xn.k_NothingToUndo (de_name (pv 0)))) (dss_one (ds_app (pv 1) (de_tup (by exact (da_cons de_str da_nil))))) dss_nil)
    (dss_cons (ds_if (dt_val (de_isXc (nm := excN) (f := (· == "NothingToRedo")) rfl Z.isinstance rfl Xn.m_NothingToRedo Xn.k_NothingToRedo (de_name (pv 0)))) (dss_one (ds_app (pv 1) (de_tup (by exact (da_cons de_str da_nil))))) dss_nil)
    (dss_one (ds_frz 1 (ds_ret (de_name (pv 1)))))))))))))))))))

abbrev s__law_kinds : Stmt := topS 29
theorem sc__law_kinds : FnScope ["e", "found"] ["e"] (defScope s__law_kinds) := ⟨rfl, rfl, rfl, by decide +kernel, rfl, by decide +kernel, by decide +kernel⟩
theorem dv__law_kinds {P : Program} {w : World} {K : PySem.W.Frag} {mg : Str → Option Value} {base : Heap} {B : Bs} (Z : Zn mg) (Y : Yn K mg)
    {f__law_more_kinds : Addr} {fd__law_more_kinds : FuncData} (D__law_more_kinds : DefG K mg "_law_more_kinds" ["e"] f__law_more_kinds fd__law_more_kinds) (G__law_more_kinds : FnP P w K mg base true 1 f__law_more_kinds fd__law_more_kinds ["e"] (lSpP ⟨K, cmOf mg, [], B.T⟩ sp__law_more_kinds))
    (Xn : XnOk K mg)
    (SM : SmB base)
    {f : Addr} {cdv : Value} {A : Around} {outer : List Env} {s : Shared} {H : Hp} {p : Addr × Obj} (hr : RoomP true 1 (A.deeper (envOfC "_law_kinds" (defScope s__law_kinds) s.heap.objs.size f cdv))) :
    DSs B (cxP P w K mg base ["e", "found"] "_law_kinds" (defScope s__law_kinds) f cdv A outer s H p) W0 (defBody s__law_kinds) t__law_kinds :=
    (dss_cons (ds_setL sc__law_kinds.nd rfl (by first | exact Or.inl rfl | exact Or.inr rfl) (fe_lst (by exact da_nil)))
    (dss_cons (ds_if (dt_val (de_isXc (nm := excN) (f := (· == "BadNumber")) rfl Z.isinstance rfl Xn.m_BadNumber Xn.k_BadNumber (de_name (pv 0)))) (dss_one (ds_app (pv 1) (de_tup (by exact (da_cons de_str (da_cons (de_xf Xn.f_BadNumber_what (de_name (pv 0))) (da_cons (de_reprE SM (hr.gd rfl) hr.units rfl Z.repr (de_xf Xn.f_BadNumber_number (de_name (pv 0)))) da_nil))))))) dss_nil)
    (dss_cons (ds_if (dt_val (de_isXc (nm := excN) (f := (· == "BadRow")) rfl Z.isinstance rfl Xn.m_BadRow Xn.k_BadRow (de_name (pv 0)))) (dss_one (ds_app (pv 1) (de_tup (by exact (da_cons de_str (da_cons (de_xf Xn.f_BadRow_what (de_name (pv 0))) (da_cons (de_reprE SM (hr.gd rfl) hr.units rfl Z.repr (de_xf Xn.f_BadRow_row (de_name (pv 0)))) da_nil))))))) dss_nil)
    (dss_cons (ds_if (dt_val (de_isXc (nm := excN) (f := (· == "BadTable")) rfl Z.isinstance rfl Xn.m_BadTable Xn.k_BadTable (de_name (pv 0)))) (dss_one (ds_app (pv 1) (de_tup (by exact (da_cons de_str (da_cons (de_xf Xn.f_BadTable_what (de_name (pv 0))) da_nil)))))) dss_nil)
    (dss_cons (ds_if (dt_val (de_isXc (nm := excN) (f := (· == "BadFrame")) rfl Z.isinstance rfl Xn.m_BadFrame Xn.k_BadFrame (de_name (pv 0)))) (dss_one (ds_app (pv 1) (de_tup (by exact (da_cons de_str (da_cons (de_xf Xn.f_BadFrame_what (de_name (pv 0))) (da_cons (de_reprE SM (hr.gd rfl) hr.units rfl Z.repr (de_xf Xn.f_BadFrame_place (de_name (pv 0)))) da_nil))))))) dss_nil)
    (dss_cons (ds_if (dt_val (de_isXc (nm := excN) (f := (· == "BadLoad")) rfl Z.isinstance rfl Xn.m_BadLoad Xn.k_BadLoad (de_name (pv 0)))) (dss_one (ds_app (pv 1) (de_tup (by exact (da_cons de_str (da_cons (de_xf Xn.f_BadLoad_what (de_name (pv 0))) da_nil)))))) dss_nil)
    (dss_cons (ds_if (dt_val (de_isXc (nm := excN) (f := (· == "BadNet")) rfl Z.isinstance rfl Xn.m_BadNet Xn.k_BadNet (de_name (pv 0)))) (dss_one (ds_app (pv 1) (de_tup (by exact (da_cons de_str (da_cons (de_xf Xn.f_BadNet_what (de_name (pv 0))) (da_cons (de_reprE SM (hr.gd rfl) hr.units rfl Z.repr (de_xf Xn.f_BadNet_gate (de_name (pv 0)))) da_nil))))))) dss_nil)
    (dss_cons (ds_if (dt_val (de_isXc (nm := excN) (f := (· == "BadHouse")) rfl Z.isinstance rfl Xn.m_BadHouse Xn.k_BadHouse (de_name (pv 0)))) (dss_one (ds_app (pv 1) (de_tup (by exact (da_cons de_str (da_cons (de_xf Xn.f_BadHouse_what (de_name (pv 0))) (da_cons (de_reprE SM (hr.gd rfl) hr.units rfl Z.repr (de_xf Xn.f_BadHouse_place (de_name (pv 0)))) da_nil))))))) dss_nil)
    (dss_cons (ds_if (dt_val (de_isXc (nm := excN) (f := (· == "BadWeb")) rfl Z.isinstance rfl Xn.m_BadWeb Xn.k_BadWeb (de_name (pv 0)))) (dss_one (ds_app (pv 1) (de_tup (by exact (da_cons de_str (da_cons (de_xf Xn.f_BadWeb_what (de_name (pv 0))) (da_cons (de_reprE SM (hr.gd rfl) hr.units rfl Z.repr (de_xf Xn.f_BadWeb_place (de_name (pv 0)))) da_nil))))))) dss_nil)
    (dss_cons (ds_if (dt_val (de_isXc (nm := excN) (f := (· == "BadName")) rfl Z.isinstance rfl Xn.m_BadName Xn.k_BadName (de_name (pv 0)))) (dss_one (ds_app (pv 1) (de_tup (by exact (da_cons de_str (da_cons (de_reprE SM (hr.gd rfl) hr.units rfl Z.repr (de_xf Xn.f_BadName_name (de_name (pv 0)))) da_nil)))))) dss_nil)
    (dss_cons (ds_if (dt_val (de_isXc (nm := excN) (f := (· == "BadText")) rfl Z.isinstance rfl Xn.m_BadText Xn.k_BadText (de_name (pv 0)))) (dss_one (ds_app (pv 1) (de_tup (by exact (da_cons de_str (da_cons (de_xf Xn.f_BadText_line (de_name (pv 0))) (da_cons (de_xf Xn.f_BadText_word (de_name (pv 0))) da_nil))))))) dss_nil)
    (dss_one (ds_frz 1 (ds_ret (de_op op2_add (de_name (pv 1)) (de_callP G__law_more_kinds (hr.mono (by decide)) rfl D__law_more_kinds.g D__law_more_kinds.k D__law_more_kinds.b (de_name (pv 0))))))))))))))))))

abbrev s__law_value : Stmt := topS 31
theorem sc__law_value : FnScope ["pen", "way"] ["pen"] (defScope s__law_value) := ⟨rfl, rfl, rfl, by decide +kernel, rfl, by decide +kernel, by decide +kernel⟩
theorem dv__law_value {P : Program} {w : World} {K : PySem.W.Frag} {mg : Str → Option Value} {base : Heap} {B : Bs} (Z : Zn mg) (Y : Yn K mg)
    {f__law_draw : Addr} {fd__law_draw : FuncData} (D__law_draw : DefG K mg "_law_draw" ["pen", "many"] f__law_draw fd__law_draw) (G__law_draw : FnOk P w K mg base (L2.CX P w) 1 f__law_draw fd__law_draw ["pen", "many"] (lSp ⟨K, cmOf mg, [], B.T⟩ 2 sp__law_draw))
    {f__law_pick : Addr} {fd__law_pick : FuncData} (D__law_pick : DefG K mg "_law_pick" ["pen", "some"] f__law_pick fd__law_pick) (G__law_pick : FnOk P w K mg base (L2.CX P w) 2 f__law_pick fd__law_pick ["pen", "some"] (lSp ⟨K, cmOf mg, [], B.T⟩ 2 sp__law_pick))
    {f : Addr} {cdv : Value} {fd : FuncData} {A : Around} {outer : List Env} {s : Shared} {H : Hp} {E : XK} (hr : Room 2 (A.deeper (envOfC "_law_value" (defScope s__law_value) s.heap.objs.size f cdv)))
    (tk : Takes (cxOf (L2.CX P w) P w K mg base ["pen", "way"] "_law_value" (defScope s__law_value) f cdv A outer s H E) (WD E)) :
    DSs B (cxOf (L2.CX P w) P w K mg base ["pen", "way"] "_law_value" (defScope s__law_value) f cdv A outer s H E) (WD E) (defBody s__law_value) t__law_value :=
    (dss_cons (ds_set sc__law_value.nd rfl (by first | exact Or.inl rfl | exact Or.inr rfl) (de_call G__law_draw (hr.mono (by decide)) rfl D__law_draw.g D__law_draw.k D__law_draw.b tk (by exact (da_cons (de_name (pv 0)) (da_cons de_int da_nil)))))
    (dss_cons (ds_if (dt_cmp (op2_eq hr.units) (de_name (pv 1)) de_int (nobehind _ (by decide) (by decide))) (dss_one (ds_ret (de_new (by exact (fe_lst (by exact (da_cons (de_call G__law_draw (hr.mono (by decide)) rfl D__law_draw.g D__law_draw.k D__law_draw.b tk (by exact (da_cons (de_name (pv 0)) (da_cons de_int da_nil)))) (da_cons (de_new (by exact (fe_lst (by exact da_nil)))) da_nil)))))))) dss_nil)
    (dss_cons (ds_if (dt_cmp (op2_eq hr.units) (de_name (pv 1)) de_int (nobehind _ (by decide) (by decide))) (dss_one (ds_ret (de_tup (by exact (da_cons de_str (da_cons (de_tup (by exact (da_cons (de_call G__law_draw (hr.mono (by decide)) rfl D__law_draw.g D__law_draw.k D__law_draw.b tk (by exact (da_cons (de_name (pv 0)) (da_cons (de_op op2_pow de_int de_int) da_nil)))) da_nil))) da_nil)))))) dss_nil)
    (dss_one (ds_ret (de_call G__law_pick (hr.mono (by decide)) rfl D__law_pick.g D__law_pick.k D__law_pick.b tk (by exact (da_cons (de_name (pv 0)) (da_cons (de_new (by exact (fe_lst (by exact (da_cons de_non (da_cons de_bl (da_cons de_bl (da_cons de_int (da_cons (de_un un1_neg de_int) (da_cons de_str (da_cons de_str (da_cons (de_op op2_pow de_int de_int) (da_cons de_dict1 da_nil))))))))))))) da_nil)))))))))

abbrev s__law_first : Stmt := topS 32
theorem sc__law_first : FnScope ["kind", "one", "two"] ["kind", "one", "two"] (defScope s__law_first) := ⟨rfl, rfl, rfl, by decide +kernel, rfl, by decide +kernel, by decide +kernel⟩
theorem dv__law_first {P : Program} {w : World} {K : PySem.W.Frag} {mg : Str → Option Value} {base : Heap} {B : Bs} (Z : Zn mg) (Y : Yn K mg)
    {C_BadNumber___init__ f_BadNumber___init__ : Addr} {fd_BadNumber___init__ : FuncData} (O_BadNumber : ExOk K mg "BadNumber" C_BadNumber___init__ f_BadNumber___init__ ["what", "number"]) (D_BadNumber___init__ : DefAt K mg ["self", "what", "number"] f_BadNumber___init__ fd_BadNumber___init__) (G_BadNumber___init__ : FnOk P w K mg base (L2.CX P w) 1 f_BadNumber___init__ fd_BadNumber___init__ ["self", "what", "number"] (spInit K ["what", "number"]))
    {C_BadRow___init__ f_BadRow___init__ : Addr} {fd_BadRow___init__ : FuncData} (O_BadRow : ExOk K mg "BadRow" C_BadRow___init__ f_BadRow___init__ ["what", "row"]) (D_BadRow___init__ : DefAt K mg ["self", "what", "row"] f_BadRow___init__ fd_BadRow___init__) (G_BadRow___init__ : FnOk P w K mg base (L2.CX P w) 1 f_BadRow___init__ fd_BadRow___init__ ["self", "what", "row"] (spInit K ["what", "row"]))
    {C_BadTable___init__ f_BadTable___init__ : Addr} {fd_BadTable___init__ : FuncData} (O_BadTable : ExOk K mg "BadTable" C_BadTable___init__ f_BadTable___init__ ["what"]) (D_BadTable___init__ : DefAt K mg ["self", "what"] f_BadTable___init__ fd_BadTable___init__) (G_BadTable___init__ : FnOk P w K mg base (L2.CX P w) 1 f_BadTable___init__ fd_BadTable___init__ ["self", "what"] (spInit K ["what"]))
    {C_BadFrame___init__ f_BadFrame___init__ : Addr} {fd_BadFrame___init__ : FuncData} (O_BadFrame : ExOk K mg "BadFrame" C_BadFrame___init__ f_BadFrame___init__ ["what", "place"]) (D_BadFrame___init__ : DefAt K mg ["self", "what", "place"] f_BadFrame___init__ fd_BadFrame___init__) (G_BadFrame___init__ : FnOk P w K mg base (L2.CX P w) 1 f_BadFrame___init__ fd_BadFrame___init__ ["self", "what", "place"] (spInit K ["what", "place"]))
    {C_BadLoad___init__ f_BadLoad___init__ : Addr} {fd_BadLoad___init__ : FuncData} (O_BadLoad : ExOk K mg "BadLoad" C_BadLoad___init__ f_BadLoad___init__ ["what"]) (D_BadLoad___init__ : DefAt K mg ["self", "what"] f_BadLoad___init__ fd_BadLoad___init__) (G_BadLoad___init__ : FnOk P w K mg base (L2.CX P w) 1 f_BadLoad___init__ fd_BadLoad___init__ ["self", "what"] (spInit K ["what"]))
    {C_BadNet___init__ f_BadNet___init__ : Addr} {fd_BadNet___init__ : FuncData} (O_BadNet : ExOk K mg "BadNet" C_BadNet___init__ f_BadNet___init__ ["what", "gate"]) (D_BadNet___init__ : DefAt K mg ["self", "what", "gate"] f_BadNet___init__ fd_BadNet___init__) (G_BadNet___init__ : FnOk P w K mg base (L2.CX P w) 1 f_BadNet___init__ fd_BadNet___init__ ["self", "what", "gate"] (spInit K ["what", "gate"]))
    {C_BadHouse___init__ f_BadHouse___init__ : Addr} {fd_BadHouse___init__ : FuncData} (O_BadHouse : ExOk K mg "BadHouse" C_BadHouse___init__ f_BadHouse___init__ ["what", "place"]) (D_BadHouse___init__ : DefAt K mg ["self", "what", "place"] f_BadHouse___init__ fd_BadHouse___init__) (G_BadHouse___init__ : FnOk P w K mg base (L2.CX P w) 1 f_BadHouse___init__ fd_BadHouse___init__ ["self", "what", "place"] (spInit K ["what", "place"]))
    {C_BadWeb___init__ f_BadWeb___init__ : Addr} {fd_BadWeb___init__ : FuncData} (O_BadWeb : ExOk K mg "BadWeb" C_BadWeb___init__ f_BadWeb___init__ ["what", "place"]) (D_BadWeb___init__ : DefAt K mg ["self", "what", "place"] f_BadWeb___init__ fd_BadWeb___init__) (G_BadWeb___init__ : FnOk P w K mg base (L2.CX P w) 1 f_BadWeb___init__ fd_BadWeb___init__ ["self", "what", "place"] (spInit K ["what", "place"]))
    {C_BadName___init__ f_BadName___init__ : Addr} {fd_BadName___init__ : FuncData} (O_BadName : ExOk K mg "BadName" C_BadName___init__ f_BadName___init__ ["name"]) (D_BadName___init__ : DefAt K mg ["self", "name"] f_BadName___init__ fd_BadName___init__) (G_BadName___init__ : FnOk P w K mg base (L2.CX P w) 1 f_BadName___init__ fd_BadName___init__ ["self", "name"] (spInit K ["name"]))
    {C_BadText___init__ f_BadText___init__ : Addr} {fd_BadText___init__ : FuncData} (O_BadText : ExOk K mg "BadText" C_BadText___init__ f_BadText___init__ ["line", "word"]) (D_BadText___init__ : DefAt K mg ["self", "line", "word"] f_BadText___init__ fd_BadText___init__) (G_BadText___init__ : FnOk P w K mg base (L2.CX P w) 1 f_BadText___init__ fd_BadText___init__ ["self", "line", "word"] (spInit K ["line", "word"]))
    {C_NoPlace___init__ f_NoPlace___init__ : Addr} {fd_NoPlace___init__ : FuncData} (O_NoPlace : ExOk K mg "NoPlace" C_NoPlace___init__ f_NoPlace___init__ ["place"]) (D_NoPlace___init__ : DefAt K mg ["self", "place"] f_NoPlace___init__ fd_NoPlace___init__) (G_NoPlace___init__ : FnOk P w K mg base (L2.CX P w) 1 f_NoPlace___init__ fd_NoPlace___init__ ["self", "place"] (spInit K ["place"]))
    {C_NoRow___init__ f_NoRow___init__ : Addr} {fd_NoRow___init__ : FuncData} (O_NoRow : ExOk K mg "NoRow" C_NoRow___init__ f_NoRow___init__ ["place", "row"]) (D_NoRow___init__ : DefAt K mg ["self", "place", "row"] f_NoRow___init__ fd_NoRow___init__) (G_NoRow___init__ : FnOk P w K mg base (L2.CX P w) 1 f_NoRow___init__ fd_NoRow___init__ ["self", "place", "row"] (spInit K ["place", "row"]))
    {f : Addr} {cdv : Value} {fd : FuncData} {A : Around} {outer : List Env} {s : Shared} {H : Hp} {E : XK} (hr : Room 2 (A.deeper (envOfC "_law_first" (defScope s__law_first) s.heap.objs.size f cdv)))
    (tk : Takes (cxOf (L2.CX P w) P w K mg base ["kind", "one", "two"] "_law_first" (defScope s__law_first) f cdv A outer s H E) (WD E)) :
    DSs B (cxOf (L2.CX P w) P w K mg base ["kind", "one", "two"] "_law_first" (defScope s__law_first) f cdv A outer s H E) (WD E) (defBody s__law_first) t__law_first :=
    (dss_cons (ds_if (dt_cmp (op2_eq hr.units) (de_name (pv 0)) de_int (nobehind _ (by decide) (by decide))) (dss_one (ds_raise rfl tk O_BadNumber (by decide) (by decide) G_BadNumber___init__ (hr.mono (by decide)) D_BadNumber___init__.b rfl (by exact (da_cons (de_name (pv 1)) (da_cons (de_name (pv 2)) da_nil))))) dss_nil)
    (dss_cons (ds_if (dt_cmp (op2_eq hr.units) (de_name (pv 0)) de_int (nobehind _ (by decide) (by decide))) (dss_one (ds_raise rfl tk O_BadRow (by decide) (by decide) G_BadRow___init__ (hr.mono (by decide)) D_BadRow___init__.b rfl (by exact (da_cons (de_name (pv 1)) (da_cons (de_name (pv 2)) da_nil))))) dss_nil)
    (dss_cons (ds_if (dt_cmp (op2_eq hr.units) (de_name (pv 0)) de_int (nobehind _ (by decide) (by decide))) (dss_one (ds_raise rfl tk O_BadTable (by decide) (by decide) G_BadTable___init__ (hr.mono (by decide)) D_BadTable___init__.b rfl (by exact (da_cons (de_name (pv 1)) da_nil)))) dss_nil)
    (dss_cons (ds_if (dt_cmp (op2_eq hr.units) (de_name (pv 0)) de_int (nobehind _ (by decide) (by decide))) (dss_one (ds_raise rfl tk O_BadFrame (by decide) (by decide) G_BadFrame___init__ (hr.mono (by decide)) D_BadFrame___init__.b rfl (by exact (da_cons (de_name (pv 1)) (da_cons (de_name (pv 2)) da_nil))))) dss_nil)
    (dss_cons (ds_if (dt_cmp (op2_eq hr.units) (de_name (pv 0)) de_int (nobehind _ (by decide) (by decide))) (dss_one (ds_raise rfl tk O_BadLoad (by decide) (by decide) G_BadLoad___init__ (hr.mono (by decide)) D_BadLoad___init__.b rfl (by exact (da_cons (de_name (pv 1)) da_nil)))) dss_nil)
    (dss_cons (ds_if (dt_cmp (op2_eq hr.units) (de_name (pv 0)) de_int (nobehind _ (by decide) (by decide))) (dss_one (ds_raise rfl tk O_BadNet (by decide) (by decide) G_BadNet___init__ (hr.mono (by decide)) D_BadNet___init__.b rfl (by exact (da_cons (de_name (pv 1)) (da_cons (de_name (pv 2)) da_nil))))) dss_nil)
    (dss_cons (ds_if (dt_cmp (op2_eq hr.units) (de_name (pv 0)) de_int (nobehind _ (by decide) (by decide))) (dss_one (ds_raise rfl tk O_BadHouse (by decide) (by decide) G_BadHouse___init__ (hr.mono (by decide)) D_BadHouse___init__.b rfl (by exact (da_cons (de_name (pv 1)) (da_cons (de_name (pv 2)) da_nil))))) dss_nil)
    (dss_cons (ds_if (dt_cmp (op2_eq hr.units) (de_name (pv 0)) de_int (nobehind _ (by decide) (by decide))) (dss_one (ds_raise rfl tk O_BadWeb (by decide) (by decide) G_BadWeb___init__ (hr.mono (by decide)) D_BadWeb___init__.b rfl (by exact (da_cons (de_name (pv 1)) (da_cons (de_name (pv 2)) da_nil))))) dss_nil)
    (dss_cons (ds_if (dt_cmp (op2_eq hr.units) (de_name (pv 0)) de_int (nobehind _ (by decide) (by decide))) (dss_one (ds_raise rfl tk O_BadName (by decide) (by decide) G_BadName___init__ (hr.mono (by decide)) D_BadName___init__.b rfl (by exact (da_cons (de_name (pv 1)) da_nil)))) dss_nil)
    (dss_cons (ds_if (dt_cmp (op2_eq hr.units) (de_name (pv 0)) de_int (nobehind _ (by decide) (by decide))) (dss_one (ds_raise rfl tk O_BadText (by decide) (by decide) G_BadText___init__ (hr.mono (by decide)) D_BadText___init__.b rfl (by exact (da_cons (de_name (pv 1)) (da_cons (de_name (pv 2)) da_nil))))) dss_nil)
    (dss_cons (ds_if (dt_cmp (op2_eq hr.units) (de_name (pv 0)) de_int (nobehind _ (by decide) (by decide))) (dss_one (ds_raise rfl tk O_NoPlace (by decide) (by decide) G_NoPlace___init__ (hr.mono (by decide)) D_NoPlace___init__.b rfl (by exact (da_cons (de_name (pv 1)) da_nil)))) dss_nil)
    (dss_one (ds_if (dt_cmp (op2_eq hr.units) (de_name (pv 0)) de_int (nobehind _ (by decide) (by decide))) (dss_one (ds_raise rfl tk O_NoRow (by decide) (by decide) G_NoRow___init__ (hr.mono (by decide)) D_NoRow___init__.b rfl (by exact (da_cons (de_name (pv 1)) (da_cons (de_name (pv 2)) da_nil))))) dss_nil)))))))))))))

abbrev s__law_second : Stmt := topS 33
theorem sc__law_second : FnScope ["kind", "one", "two", "three"] ["kind", "one", "two", "three"] (defScope s__law_second) := ⟨rfl, rfl, rfl, by decide +kernel, rfl, by decide +kernel, by decide +kernel⟩
theorem dv__law_second {P : Program} {w : World} {K : PySem.W.Frag} {mg : Str → Option Value} {base : Heap} {B : Bs} (Z : Zn mg) (Y : Yn K mg)
    {C_NoWall___init__ f_NoWall___init__ : Addr} {fd_NoWall___init__ : FuncData} (O_NoWall : ExOk K mg "NoWall" C_NoWall___init__ f_NoWall___init__ ["place"]) (D_NoWall___init__ : DefAt K mg ["self", "place"] f_NoWall___init__ fd_NoWall___init__) (G_NoWall___init__ : FnOk P w K mg base (L2.CX P w) 1 f_NoWall___init__ fd_NoWall___init__ ["self", "place"] (spInit K ["place"]))
    {C_NoName___init__ f_NoName___init__ : Addr} {fd_NoName___init__ : FuncData} (O_NoName : ExOk K mg "NoName" C_NoName___init__ f_NoName___init__ ["name"]) (D_NoName___init__ : DefAt K mg ["self", "name"] f_NoName___init__ fd_NoName___init__) (G_NoName___init__ : FnOk P w K mg base (L2.CX P w) 1 f_NoName___init__ fd_NoName___init__ ["self", "name"] (spInit K ["name"]))
    {C_TakenName___init__ f_TakenName___init__ : Addr} {fd_TakenName___init__ : FuncData} (O_TakenName : ExOk K mg "TakenName" C_TakenName___init__ f_TakenName___init__ ["name"]) (D_TakenName___init__ : DefAt K mg ["self", "name"] f_TakenName___init__ fd_TakenName___init__) (G_TakenName___init__ : FnOk P w K mg base (L2.CX P w) 1 f_TakenName___init__ fd_TakenName___init__ ["self", "name"] (spInit K ["name"]))
    {C_Unlike___init__ f_Unlike___init__ : Addr} {fd_Unlike___init__ : FuncData} (O_Unlike : ExOk K mg "Unlike" C_Unlike___init__ f_Unlike___init__ ["what"]) (D_Unlike___init__ : DefAt K mg ["self", "what"] f_Unlike___init__ fd_Unlike___init__) (G_Unlike___init__ : FnOk P w K mg base (L2.CX P w) 1 f_Unlike___init__ fd_Unlike___init__ ["self", "what"] (spInit K ["what"]))
    {C_Flat___init__ f_Flat___init__ : Addr} {fd_Flat___init__ : FuncData} (O_Flat : ExOk K mg "Flat" C_Flat___init__ f_Flat___init__ ["choice"]) (D_Flat___init__ : DefAt K mg ["self", "choice"] f_Flat___init__ fd_Flat___init__) (G_Flat___init__ : FnOk P w K mg base (L2.CX P w) 1 f_Flat___init__ fd_Flat___init__ ["self", "choice"] (spInit K ["choice"]))
    {C_NotOnce___init__ f_NotOnce___init__ : Addr} {fd_NotOnce___init__ : FuncData} (O_NotOnce : ExOk K mg "NotOnce" C_NotOnce___init__ f_NotOnce___init__ ["row"]) (D_NotOnce___init__ : DefAt K mg ["self", "row"] f_NotOnce___init__ fd_NotOnce___init__) (G_NotOnce___init__ : FnOk P w K mg base (L2.CX P w) 1 f_NotOnce___init__ fd_NotOnce___init__ ["self", "row"] (spInit K ["row"]))
    {C_NotPlain___init__ f_NotPlain___init__ : Addr} {fd_NotPlain___init__ : FuncData} (O_NotPlain : ExOk K mg "NotPlain" C_NotPlain___init__ f_NotPlain___init__ ["choice"]) (D_NotPlain___init__ : DefAt K mg ["self", "choice"] f_NotPlain___init__ fd_NotPlain___init__) (G_NotPlain___init__ : FnOk P w K mg base (L2.CX P w) 1 f_NotPlain___init__ fd_NotPlain___init__ ["self", "choice"] (spInit K ["choice"]))
    {C_TooMany___init__ f_TooMany___init__ : Addr} {fd_TooMany___init__ : FuncData} (O_TooMany : ExOk K mg "TooMany" C_TooMany___init__ f_TooMany___init__ ["what", "many", "limit"]) (D_TooMany___init__ : DefAt K mg ["self", "what", "many", "limit"] f_TooMany___init__ fd_TooMany___init__) (G_TooMany___init__ : FnOk P w K mg base (L2.CX P w) 1 f_TooMany___init__ fd_TooMany___init__ ["self", "what", "many", "limit"] (spInit K ["what", "many", "limit"]))
    {C_NotKept___init__ f_NotKept___init__ : Addr} {fd_NotKept___init__ : FuncData} (O_NotKept : ExOk K mg "NotKept" C_NotKept___init__ f_NotKept___init__ ["promise", "witness"]) (D_NotKept___init__ : DefAt K mg ["self", "promise", "witness"] f_NotKept___init__ fd_NotKept___init__) (G_NotKept___init__ : FnOk P w K mg base (L2.CX P w) 1 f_NotKept___init__ fd_NotKept___init__ ["self", "promise", "witness"] (spInit K ["promise", "witness"]))
    {C0_NothingToUndo : Addr} (O0_NothingToUndo : Ex0Ok K mg "NothingToUndo" C0_NothingToUndo)
    {C0_NothingToRedo : Addr} (O0_NothingToRedo : Ex0Ok K mg "NothingToRedo" C0_NothingToRedo)
    {f : Addr} {cdv : Value} {fd : FuncData} {A : Around} {outer : List Env} {s : Shared} {H : Hp} {E : XK} (hr : Room 2 (A.deeper (envOfC "_law_second" (defScope s__law_second) s.heap.objs.size f cdv)))
    (tk : Takes (cxOf (L2.CX P w) P w K mg base ["kind", "one", "two", "three"] "_law_second" (defScope s__law_second) f cdv A outer s H E) (WD E)) :
    DSs B (cxOf (L2.CX P w) P w K mg base ["kind", "one", "two", "three"] "_law_second" (defScope s__law_second) f cdv A outer s H E) (WD E) (defBody s__law_second) t__law_second :=
    (dss_cons (ds_if (dt_cmp (op2_eq hr.units) (de_name (pv 0)) de_int (nobehind _ (by decide) (by decide))) (dss_one (ds_raise rfl tk O_NoWall (by decide) (by decide) G_NoWall___init__ (hr.mono (by decide)) D_NoWall___init__.b rfl (by exact (da_cons (de_name (pv 1)) da_nil)))) dss_nil)
    (dss_cons (ds_if (dt_cmp (op2_eq hr.units) (de_name (pv 0)) de_int (nobehind _ (by decide) (by decide))) (dss_one (ds_raise rfl tk O_NoName (by decide) (by decide) G_NoName___init__ (hr.mono (by decide)) D_NoName___init__.b rfl (by exact (da_cons (de_name (pv 1)) da_nil)))) dss_nil)
    (dss_cons (ds_if (dt_cmp (op2_eq hr.units) (de_name (pv 0)) de_int (nobehind _ (by decide) (by decide))) (dss_one (ds_raise rfl tk O_TakenName (by decide) (by decide) G_TakenName___init__ (hr.mono (by decide)) D_TakenName___init__.b rfl (by exact (da_cons (de_name (pv 1)) da_nil)))) dss_nil)
    (dss_cons (ds_if (dt_cmp (op2_eq hr.units) (de_name (pv 0)) de_int (nobehind _ (by decide) (by decide))) (dss_one (ds_raise rfl tk O_Unlike (by decide) (by decide) G_Unlike___init__ (hr.mono (by decide)) D_Unlike___init__.b rfl (by exact (da_cons (de_name (pv 1)) da_nil)))) dss_nil)
    (dss_cons (ds_if (dt_cmp (op2_eq hr.units) (de_name (pv 0)) de_int (nobehind _ (by decide) (by decide))) (dss_one (ds_raise rfl tk O_Flat (by decide) (by decide) G_Flat___init__ (hr.mono (by decide)) D_Flat___init__.b rfl (by exact (da_cons (de_name (pv 1)) da_nil)))) dss_nil)
    (dss_cons (ds_if (dt_cmp (op2_eq hr.units) (de_name (pv 0)) de_int (nobehind _ (by decide) (by decide))) (dss_one (ds_raise rfl tk O_NotOnce (by decide) (by decide) G_NotOnce___init__ (hr.mono (by decide)) D_NotOnce___init__.b rfl (by exact (da_cons (de_name (pv 1)) da_nil)))) dss_nil)
    (dss_cons (ds_if (dt_cmp (op2_eq hr.units) (de_name (pv 0)) de_int (nobehind _ (by decide) (by decide))) (dss_one (ds_raise rfl tk O_NotPlain (by decide) (by decide) G_NotPlain___init__ (hr.mono (by decide)) D_NotPlain___init__.b rfl (by exact (da_cons (de_name (pv 1)) da_nil)))) dss_nil)
    (dss_cons (ds_if (dt_cmp (op2_eq hr.units) (de_name (pv 0)) de_int (nobehind _ (by decide) (by decide))) (dss_one (ds_raise rfl tk O_TooMany (by decide) (by decide) G_TooMany___init__ (hr.mono (by decide)) D_TooMany___init__.b rfl (by exact (da_cons (de_name (pv 1)) (da_cons (de_name (pv 2)) (da_cons (de_name (pv 3)) da_nil)))))) dss_nil)
    (dss_cons (ds_if (dt_cmp (op2_eq hr.units) (de_name (pv 0)) de_int (nobehind _ (by decide) (by decide))) (dss_one (ds_raise rfl tk O_NotKept (by decide) (by decide) G_NotKept___init__ (hr.mono (by decide)) D_NotKept___init__.b rfl (by exact (da_cons (de_name (pv 1)) (da_cons (de_name (pv 2)) da_nil))))) dss_nil)
    (dss_cons (ds_if (dt_cmp (op2_eq hr.units) (de_name (pv 0)) de_int (nobehind _ (by decide) (by decide))) (dss_one (ds_raise0 rfl tk O0_NothingToUndo rfl)) dss_nil)
    (dss_one (ds_if (dt_cmp (op2_eq hr.units) (de_name (pv 0)) de_int (nobehind _ (by decide) (by decide))) (dss_one (ds_raise0 rfl tk O0_NothingToRedo rfl)) dss_nil))))))))))))

abbrev s__law_told : Stmt := topS 34
theorem sc__law_told : FnScope ["kind", "one", "two", "three", "found", "e"] ["kind", "one", "two", "three"] (defScope s__law_told) := ⟨rfl, rfl, rfl, by decide +kernel, rfl, by decide +kernel, by decide +kernel⟩
theorem dv__law_told {P : Program} {w : World} {K : PySem.W.Frag} {mg : Str → Option Value} {base : Heap} {B : Bs} (Z : Zn mg) (Y : Yn K mg)
    {f__law_first : Addr} {fd__law_first : FuncData} (D__law_first : DefG K mg "_law_first" ["kind", "one", "two"] f__law_first fd__law_first) (G__law_first : FnOk P w K mg base (L2.CX P w) 3 f__law_first fd__law_first ["kind", "one", "two"] (lSp ⟨K, cmOf mg, [], B.T⟩ 3 sp__law_first))
    {f__law_second : Addr} {fd__law_second : FuncData} (D__law_second : DefG K mg "_law_second" ["kind", "one", "two", "three"] f__law_second fd__law_second) (G__law_second : FnOk P w K mg base (L2.CX P w) 3 f__law_second fd__law_second ["kind", "one", "two", "three"] (lSp ⟨K, cmOf mg, [], B.T⟩ 4 sp__law_second))
    {f__law_kinds : Addr} {fd__law_kinds : FuncData} (D__law_kinds : DefG K mg "_law_kinds" ["e"] f__law_kinds fd__law_kinds) (G__law_kinds : FnP P w K mg base true 2 f__law_kinds fd__law_kinds ["e"] (lSpP ⟨K, cmOf mg, [], B.T⟩ sp__law_kinds))
    {CS : Addr} (Xn : XnOk K mg) (hRE : mg "RestsError" = some (.ref CS)) (XR : XrOk K mg CS)
    {f : Addr} {cdv : Value} {fd : FuncData} {A : Around} {outer : List Env} {s : Shared} {H : Hp} {E : XK} (hr : RoomG 3 (A.deeper (envOfC "_law_told" (defScope s__law_told) s.heap.objs.size f cdv)))
    (tk : Takes (cxOf (L2.CX P w) P w K mg base ["kind", "one", "two", "three", "found", "e"] "_law_told" (defScope s__law_told) f cdv A outer s H E) (WD E)) :
    DSs B (cxOf (L2.CX P w) P w K mg base ["kind", "one", "two", "three", "found", "e"] "_law_told" (defScope s__law_told) f cdv A outer s H E) (WD E) (defBody s__law_told) t__law_told :=
    (dss_cons (ds_set sc__law_told.nd rfl (by first | exact Or.inl rfl | exact Or.inr rfl) de_non)
    (dss_cons (ds_tryX rfl rfl rfl sc__law_told.nd rfl rfl rfl (by decide) (by decide) (cs := (· ∈ excN)) ⟨rfl, rfl, .inl hRE⟩ tk XR (fun W9 pn9 xe9 tk9 => by exact (dss_cons (ds_expr (de_callN G__law_first (hr.rm.mono (by decide)) rfl D__law_first.g D__law_first.k D__law_first.b tk9 (by exact (da_cons (de_name (pv 0)) (da_cons (de_name (pv 1)) (da_cons (de_name (pv 2)) da_nil))))))
    (dss_one (ds_expr (de_callN G__law_second (hr.rm.mono (by decide)) rfl D__law_second.g D__law_second.k D__law_second.b tk9 (by exact (da_cons (de_name (pv 0)) (da_cons (de_name (pv 1)) (da_cons (de_name (pv 2)) (da_cons (de_name (pv 3)) da_nil)))))))))) (fun a9 oe9 pn9 => by exact (dss_one (ds_if (dt_val (de_isXt (nm := excN) (f := fun _ => true) rfl Z.isinstance rfl Z.ValueError (by decide +kernel) Xn.v_ValueError (de_name (pv 5)))) (dss_one (ds_set sc__law_told.nd rfl (by first | exact Or.inl rfl | exact Or.inr rfl) (de_callP G__law_kinds ((rp_suite hr).mono (by decide)) rfl D__law_kinds.g D__law_kinds.k D__law_kinds.b (de_name (pv 5))))) dss_nil))))
    (dss_one (ds_ret (de_name (pv 4))))))

abbrev s__law_due : Stmt := topS 35
theorem sc__law_due : FnScope ["kind", "one", "two", "three", "words"] ["kind", "one", "two", "three"] (defScope s__law_due) := ⟨rfl, rfl, rfl, by decide +kernel, rfl, by decide +kernel, by decide +kernel⟩
theorem dv__law_due {P : Program} {w : World} {K : PySem.W.Frag} {mg : Str → Option Value} {base : Heap} {B : Bs} (Z : Zn mg) (Y : Yn K mg)
    (SM : SmB base)
    {f : Addr} {cdv : Value} {fd : FuncData} {A : Around} {outer : List Env} {s : Shared} {H : Hp} {E : XK} (hr : RoomG 0 (A.deeper (envOfC "_law_due" (defScope s__law_due) s.heap.objs.size f cdv)))
    (tk : Takes (cxOf (L2.CX P w) P w K mg base ["kind", "one", "two", "three", "words"] "_law_due" (defScope s__law_due) f cdv A outer s H E) (WD E)) :
    DSs B (cxOf (L2.CX P w) P w K mg base ["kind", "one", "two", "three", "words"] "_law_due" (defScope s__law_due) f cdv A outer s H E) (WD E) (defBody s__law_due) t__law_due :=
    (dss_cons (ds_setL sc__law_due.nd rfl (by first | exact Or.inl rfl | exact Or.inr rfl) (fe_lst (by exact (da_cons de_str (da_cons de_str (da_cons de_str (da_cons de_str (da_cons de_str (da_cons de_str (da_cons de_str (da_cons de_str (da_cons de_str (da_cons de_str (da_cons de_str (da_cons de_str da_nil)))))))))))))))
    (dss_cons (ds_frz 4 (ds_set sc__law_due.nd rfl (by first | exact Or.inl rfl | exact Or.inr rfl) (de_op op2_add (de_name (pv 4)) (de_new (by exact (fe_lst (by exact (da_cons de_str (da_cons de_str (da_cons de_str (da_cons de_str (da_cons de_str (da_cons de_str (da_cons de_str (da_cons de_str (da_cons de_str (da_cons de_str (da_cons de_str da_nil))))))))))))))))))
    (dss_cons (ds_if (dt_cmp op2_in (de_name (pv 0)) (de_tup (by exact (da_cons de_int (da_cons de_int (da_cons de_int (da_cons de_int (da_cons de_int (da_cons de_int da_nil)))))))) (by rfl)) (dss_one (ds_frz 4 (ds_ret (de_tup (by exact (da_cons (de_ix (de_name (pv 4)) (de_name (pv 0)) (fun _ _ => rfl)) (da_cons (de_name (pv 1)) (da_cons (de_reprE SM hr.gd hr.units rfl Z.repr (de_name (pv 2))) da_nil)))))))) dss_nil)
    (dss_cons (ds_if (dt_cmp op2_in (de_name (pv 0)) (de_tup (by exact (da_cons de_int (da_cons de_int (da_cons de_int (da_cons de_int da_nil)))))) (by rfl)) (dss_one (ds_frz 4 (ds_ret (de_tup (by exact (da_cons (de_ix (de_name (pv 4)) (de_name (pv 0)) (fun _ _ => rfl)) (da_cons (de_name (pv 1)) da_nil))))))) dss_nil)
    (dss_cons (ds_if (dt_cmp op2_in (de_name (pv 0)) (de_tup (by exact (da_cons de_int (da_cons de_int (da_cons de_int (da_cons de_int (da_cons de_int (da_cons de_int (da_cons de_int da_nil))))))))) (by rfl)) (dss_one (ds_frz 4 (ds_ret (de_tup (by exact (da_cons (de_ix (de_name (pv 4)) (de_name (pv 0)) (fun _ _ => rfl)) (da_cons (de_reprE SM hr.gd hr.units rfl Z.repr (de_name (pv 1))) da_nil))))))) dss_nil)
    (dss_cons (ds_if (dt_cmp op2_in (de_name (pv 0)) (de_tup (by exact (da_cons de_int (da_cons de_int da_nil)))) (by rfl)) (dss_one (ds_frz 4 (ds_ret (de_tup (by exact (da_cons (de_ix (de_name (pv 4)) (de_name (pv 0)) (fun _ _ => rfl)) (da_cons (de_name (pv 1)) (da_cons (de_name (pv 2)) da_nil)))))))) dss_nil)
    (dss_cons (ds_if (dt_cmp (op2_eq hr.units) (de_name (pv 0)) de_int (nobehind _ (by decide) (by decide))) (dss_one (ds_frz 4 (ds_ret (de_tup (by exact (da_cons (de_ix (de_name (pv 4)) (de_name (pv 0)) (fun _ _ => rfl)) (da_cons (de_reprE SM hr.gd hr.units rfl Z.repr (de_name (pv 1))) (da_cons (de_reprE SM hr.gd hr.units rfl Z.repr (de_name (pv 2))) da_nil)))))))) dss_nil)
    (dss_one (ds_frz 4 (ds_ret (de_ite (dt_cmp (op2_eq hr.units) (de_name (pv 0)) de_int (nobehind _ (by decide) (by decide))) (de_tup (by exact (da_cons (de_ix (de_name (pv 4)) (de_name (pv 0)) (fun _ _ => rfl)) (da_cons (de_name (pv 1)) (da_cons (de_name (pv 2)) (da_cons (de_name (pv 3)) da_nil)))))) (de_tup (by exact (da_cons (de_ix (de_name (pv 4)) (de_name (pv 0)) (fun _ _ => rfl)) da_nil))))))))))))))

abbrev s_law : Stmt := topS 36
theorem sc_law : FnScope ["script", "pen", "kind", "one", "two", "three", "told"] ["script"] (defScope s_law) := ⟨rfl, rfl, rfl, by decide +kernel, rfl, by decide +kernel, by decide +kernel⟩
theorem dv_law {P : Program} {w : World} {K : PySem.W.Frag} {mg : Str → Option Value} {base : Heap} {B : Bs} (Z : Zn mg) (Y : Yn K mg)
    {f__law_pen : Addr} {fd__law_pen : FuncData} (D__law_pen : DefG K mg "_law_pen" ["script"] f__law_pen fd__law_pen) (G__law_pen : FnOk P w K mg base (L2.CX P w) 1 f__law_pen fd__law_pen ["script"] (lSp ⟨K, cmOf mg, [], B.T⟩ 1 sp__law_pen))
    {f__law_value : Addr} {fd__law_value : FuncData} (D__law_value : DefG K mg "_law_value" ["pen"] f__law_value fd__law_value) (G__law_value : FnOk P w K mg base (L2.CX P w) 3 f__law_value fd__law_value ["pen"] (lSp ⟨K, cmOf mg, [], B.T⟩ 1 sp__law_value))
    {f__law_told : Addr} {fd__law_told : FuncData} (D__law_told : DefG K mg "_law_told" ["kind", "one", "two", "three"] f__law_told fd__law_told) (G__law_told : FnG P w K mg base 4 f__law_told fd__law_told ["kind", "one", "two", "three"] (lSp ⟨K, cmOf mg, [], B.T⟩ 4 sp__law_told))
    {f__law_due : Addr} {fd__law_due : FuncData} (D__law_due : DefG K mg "_law_due" ["kind", "one", "two", "three"] f__law_due fd__law_due) (G__law_due : FnG P w K mg base 1 f__law_due fd__law_due ["kind", "one", "two", "three"] (lSp ⟨K, cmOf mg, [], B.T⟩ 4 sp__law_due))
    (SM : SmB base)
    {f : Addr} {cdv : Value} {fd : FuncData} {A : Around} {outer : List Env} {s : Shared} {H : Hp} {E : XK} (hr : RoomG 4 (A.deeper (envOfC "law" (defScope s_law) s.heap.objs.size f cdv)))
    (tk : Takes (cxOf (L2.CX P w) P w K mg base ["script", "pen", "kind", "one", "two", "three", "told"] "law" (defScope s_law) f cdv A outer s H E) (WD E)) :
    DSs B (cxOf (L2.CX P w) P w K mg base ["script", "pen", "kind", "one", "two", "three", "told"] "law" (defScope s_law) f cdv A outer s H E) (WD E) (defBody s_law) t_law :=
    (dss_cons (ds_set sc_law.nd rfl (by first | exact Or.inl rfl | exact Or.inr rfl) (de_call G__law_pen (hr.rm.mono (by decide)) rfl D__law_pen.g D__law_pen.k D__law_pen.b tk (by exact (da_cons (de_name (pv 0)) da_nil))))
    (dss_cons (ds_for (passes_of rfl) rfl (di_range1 rfl Z.range (by exact (da_cons de_int da_nil))) (dg_name sc_law.nd rfl (by first | exact Or.inl rfl | exact Or.inr rfl)) (fun _ => (dss_cons (ds_par3 rfl sc_law.nd rfl rfl rfl (by decide) (by decide) (by decide) rfl rfl rfl (by exact (da_cons (de_call G__law_value (hr.rm.mono (by decide)) rfl D__law_value.g D__law_value.k D__law_value.b tk (by exact (da_cons (de_name (pv 1)) da_nil))) (da_cons (de_call G__law_value (hr.rm.mono (by decide)) rfl D__law_value.g D__law_value.k D__law_value.b tk (by exact (da_cons (de_name (pv 1)) da_nil))) (da_cons (de_call G__law_value (hr.rm.mono (by decide)) rfl D__law_value.g D__law_value.k D__law_value.b tk (by exact (da_cons (de_name (pv 1)) da_nil))) da_nil)))) rfl)
    (dss_cons (ds_set sc_law.nd rfl (by first | exact Or.inl rfl | exact Or.inr rfl) (de_callG G__law_told (hr.mono (by decide)) rfl D__law_told.g D__law_told.k D__law_told.b tk (by exact (da_cons (de_name (pv 2)) (da_cons (de_name (pv 3)) (da_cons (de_name (pv 4)) (da_cons (de_name (pv 5)) da_nil)))))))
    (dss_one (ds_if (dt_w (dw_or (dt_isN (de_name (pv 6))) (dw_or (dt_cmp (op2_ne hr.units) (de_cb cr_len rfl Z.len (by decide +kernel) (by exact (da_cons (de_name (pv 6)) da_nil))) de_int (nobehind _ (by decide) (by decide))) (dw_or1 (dt_cmp (op2_ne hr.units) (de_reprE SM hr.gd hr.units rfl Z.repr (de_ix (de_name (pv 6)) de_int (fun _ _ => rfl))) (de_reprE SM hr.gd hr.units rfl Z.repr (de_callG G__law_due (hr.mono (by decide)) rfl D__law_due.g D__law_due.k D__law_due.b tk (by exact (da_cons (de_name (pv 2)) (da_cons (de_name (pv 3)) (da_cons (de_name (pv 4)) (da_cons (de_name (pv 5)) da_nil))))))) (nobehind _ (by decide) (by decide))))))) (dss_one (ds_ret de_bl)) dss_nil))))))
    (dss_one (ds_ret de_bl))))

theorem ok__law_pen {P : Program} {w : World} {K : PySem.W.Frag} {mg : Str → Option Value} {base : Heap} {T : List (Addr × Str)} (Z : Zn mg) (Y : Yn K mg)
    {f : Addr} {fd : FuncData} (Fu : Fun K "_law_pen" "_law_pen" s__law_pen f fd) : FnOk P w K mg base (L2.CX P w) 1 f fd ["script"] (lSp ⟨K, cmOf mg, [], T⟩ 1 sp__law_pen) :=
  fn3 Fu sc__law_pen rfl (fun cdv A outer s H E B hB hr tk => by subst hB; exact dv__law_pen (fd := fd) Z Y  hr tk) pl__law_pen

theorem ok__law_pick {P : Program} {w : World} {K : PySem.W.Frag} {mg : Str → Option Value} {base : Heap} {T : List (Addr × Str)} (Z : Zn mg) (Y : Yn K mg)
    {f__law_draw : Addr} {fd__law_draw : FuncData} (D__law_draw : DefG K mg "_law_draw" ["pen", "many"] f__law_draw fd__law_draw) (G__law_draw : FnOk P w K mg base (L2.CX P w) 1 f__law_draw fd__law_draw ["pen", "many"] (lSp ⟨K, cmOf mg, [], T⟩ 2 sp__law_draw))
    {f : Addr} {fd : FuncData} (Fu : Fun K "_law_pick" "_law_pick" s__law_pick f fd) : FnOk P w K mg base (L2.CX P w) 2 f fd ["pen", "some"] (lSp ⟨K, cmOf mg, [], T⟩ 2 sp__law_pick) :=
  fn3 Fu sc__law_pick rfl (fun cdv A outer s H E B hB hr tk => by subst hB; exact dv__law_pick (fd := fd) Z Y D__law_draw G__law_draw hr tk) pl__law_pick

theorem ok__law_more_kinds {P : Program} {w : World} {K : PySem.W.Frag} {mg : Str → Option Value} {base : Heap} {T : List (Addr × Str)} (Z : Zn mg) (Y : Yn K mg)
    (Xn : XnOk K mg)
    (SM : SmB base)
    {f : Addr} {fd : FuncData} (Fu : Fun K "_law_more_kinds" "_law_more_kinds" s__law_more_kinds f fd) : FnP P w K mg base true 1 f fd ["e"] (lSpP ⟨K, cmOf mg, [], T⟩ sp__law_more_kinds) :=
  fnP Fu sc__law_more_kinds (fun cdv A outer s H p B hB hr => by subst hB; exact dv__law_more_kinds Z Y Xn SM hr) pl__law_more_kinds

theorem ok__law_kinds {P : Program} {w : World} {K : PySem.W.Frag} {mg : Str → Option Value} {base : Heap} {T : List (Addr × Str)} (Z : Zn mg) (Y : Yn K mg)
    {f__law_more_kinds : Addr} {fd__law_more_kinds : FuncData} (D__law_more_kinds : DefG K mg "_law_more_kinds" ["e"] f__law_more_kinds fd__law_more_kinds) (G__law_more_kinds : FnP P w K mg base true 1 f__law_more_kinds fd__law_more_kinds ["e"] (lSpP ⟨K, cmOf mg, [], T⟩ sp__law_more_kinds))
    (Xn : XnOk K mg)
    (SM : SmB base)
    {f : Addr} {fd : FuncData} (Fu : Fun K "_law_kinds" "_law_kinds" s__law_kinds f fd) : FnP P w K mg base true 2 f fd ["e"] (lSpP ⟨K, cmOf mg, [], T⟩ sp__law_kinds) :=
  fnP Fu sc__law_kinds (fun cdv A outer s H p B hB hr => by subst hB; exact dv__law_kinds Z Y D__law_more_kinds G__law_more_kinds Xn SM hr) pl__law_kinds

theorem ok__law_value {P : Program} {w : World} {K : PySem.W.Frag} {mg : Str → Option Value} {base : Heap} {T : List (Addr × Str)} (Z : Zn mg) (Y : Yn K mg)
    {f__law_draw : Addr} {fd__law_draw : FuncData} (D__law_draw : DefG K mg "_law_draw" ["pen", "many"] f__law_draw fd__law_draw) (G__law_draw : FnOk P w K mg base (L2.CX P w) 1 f__law_draw fd__law_draw ["pen", "many"] (lSp ⟨K, cmOf mg, [], T⟩ 2 sp__law_draw))
    {f__law_pick : Addr} {fd__law_pick : FuncData} (D__law_pick : DefG K mg "_law_pick" ["pen", "some"] f__law_pick fd__law_pick) (G__law_pick : FnOk P w K mg base (L2.CX P w) 2 f__law_pick fd__law_pick ["pen", "some"] (lSp ⟨K, cmOf mg, [], T⟩ 2 sp__law_pick))
    {f : Addr} {fd : FuncData} (Fu : Fun K "_law_value" "_law_value" s__law_value f fd) : FnOk P w K mg base (L2.CX P w) 3 f fd ["pen"] (lSp ⟨K, cmOf mg, [], T⟩ 1 sp__law_value) :=
  fn3 Fu sc__law_value rfl (fun cdv A outer s H E B hB hr tk => by subst hB; exact dv__law_value (fd := fd) Z Y D__law_draw G__law_draw D__law_pick G__law_pick hr tk) pl__law_value

theorem ok__law_first {P : Program} {w : World} {K : PySem.W.Frag} {mg : Str → Option Value} {base : Heap} {T : List (Addr × Str)} (Z : Zn mg) (Y : Yn K mg)
    {C_BadNumber___init__ f_BadNumber___init__ : Addr} {fd_BadNumber___init__ : FuncData} (O_BadNumber : ExOk K mg "BadNumber" C_BadNumber___init__ f_BadNumber___init__ ["what", "number"]) (D_BadNumber___init__ : DefAt K mg ["self", "what", "number"] f_BadNumber___init__ fd_BadNumber___init__) (G_BadNumber___init__ : FnOk P w K mg base (L2.CX P w) 1 f_BadNumber___init__ fd_BadNumber___init__ ["self", "what", "number"] (spInit K ["what", "number"]))
    {C_BadRow___init__ f_BadRow___init__ : Addr} {fd_BadRow___init__ : FuncData} (O_BadRow : ExOk K mg "BadRow" C_BadRow___init__ f_BadRow___init__ ["what", "row"]) (D_BadRow___init__ : DefAt K mg ["self", "what", "row"] f_BadRow___init__ fd_BadRow___init__) (G_BadRow___init__ : FnOk P w K mg base (L2.CX P w) 1 f_BadRow___init__ fd_BadRow___init__ ["self", "what", "row"] (spInit K ["what", "row"]))
    {C_BadTable___init__ f_BadTable___init__ : Addr} {fd_BadTable___init__ : FuncData} (O_BadTable : ExOk K mg "BadTable" C_BadTable___init__ f_BadTable___init__ ["what"]) (D_BadTable___init__ : DefAt K mg ["self", "what"] f_BadTable___init__ fd_BadTable___init__) (G_BadTable___init__ : FnOk P w K mg base (L2.CX P w) 1 f_BadTable___init__ fd_BadTable___init__ ["self", "what"] (spInit K ["what"]))
    {C_BadFrame___init__ f_BadFrame___init__ : Addr} {fd_BadFrame___init__ : FuncData} (O_BadFrame : ExOk K mg "BadFrame" C_BadFrame___init__ f_BadFrame___init__ ["what", "place"]) (D_BadFrame___init__ : DefAt K mg ["self", "what", "place"] f_BadFrame___init__ fd_BadFrame___init__) (G_BadFrame___init__ : FnOk P w K mg base (L2.CX P w) 1 f_BadFrame___init__ fd_BadFrame___init__ ["self", "what", "place"] (spInit K ["what", "place"]))
    {C_BadLoad___init__ f_BadLoad___init__ : Addr} {fd_BadLoad___init__ : FuncData} (O_BadLoad : ExOk K mg "BadLoad" C_BadLoad___init__ f_BadLoad___init__ ["what"]) (D_BadLoad___init__ : DefAt K mg ["self", "what"] f_BadLoad___init__ fd_BadLoad___init__) (G_BadLoad___init__ : FnOk P w K mg base (L2.CX P w) 1 f_BadLoad___init__ fd_BadLoad___init__ ["self", "what"] (spInit K ["what"]))
    {C_BadNet___init__ f_BadNet___init__ : Addr} {fd_BadNet___init__ : FuncData} (O_BadNet : ExOk K mg "BadNet" C_BadNet___init__ f_BadNet___init__ ["what", "gate"]) (D_BadNet___init__ : DefAt K mg ["self", "what", "gate"] f_BadNet___init__ fd_BadNet___init__) (G_BadNet___init__ : FnOk P w K mg base (L2.CX P w) 1 f_BadNet___init__ fd_BadNet___init__ ["self", "what", "gate"] (spInit K ["what", "gate"]))
    {C_BadHouse___init__ f_BadHouse___init__ : Addr} {fd_BadHouse___init__ : FuncData} (O_BadHouse : ExOk K mg "BadHouse" C_BadHouse___init__ f_BadHouse___init__ ["what", "place"]) (D_BadHouse___init__ : DefAt K mg ["self", "what", "place"] f_BadHouse___init__ fd_BadHouse___init__) (G_BadHouse___init__ : FnOk P w K mg base (L2.CX P w) 1 f_BadHouse___init__ fd_BadHouse___init__ ["self", "what", "place"] (spInit K ["what", "place"]))
    {C_BadWeb___init__ f_BadWeb___init__ : Addr} {fd_BadWeb___init__ : FuncData} (O_BadWeb : ExOk K mg "BadWeb" C_BadWeb___init__ f_BadWeb___init__ ["what", "place"]) (D_BadWeb___init__ : DefAt K mg ["self", "what", "place"] f_BadWeb___init__ fd_BadWeb___init__) (G_BadWeb___init__ : FnOk P w K mg base (L2.CX P w) 1 f_BadWeb___init__ fd_BadWeb___init__ ["self", "what", "place"] (spInit K ["what", "place"]))
    {C_BadName___init__ f_BadName___init__ : Addr} {fd_BadName___init__ : FuncData} (O_BadName : ExOk K mg "BadName" C_BadName___init__ f_BadName___init__ ["name"]) (D_BadName___init__ : DefAt K mg ["self", "name"] f_BadName___init__ fd_BadName___init__) (G_BadName___init__ : FnOk P w K mg base (L2.CX P w) 1 f_BadName___init__ fd_BadName___init__ ["self", "name"] (spInit K ["name"]))
    {C_BadText___init__ f_BadText___init__ : Addr} {fd_BadText___init__ : FuncData} (O_BadText : ExOk K mg "BadText" C_BadText___init__ f_BadText___init__ ["line", "word"]) (D_BadText___init__ : DefAt K mg ["self", "line", "word"] f_BadText___init__ fd_BadText___init__) (G_BadText___init__ : FnOk P w K mg base (L2.CX P w) 1 f_BadText___init__ fd_BadText___init__ ["self", "line", "word"] (spInit K ["line", "word"]))
    {C_NoPlace___init__ f_NoPlace___init__ : Addr} {fd_NoPlace___init__ : FuncData} (O_NoPlace : ExOk K mg "NoPlace" C_NoPlace___init__ f_NoPlace___init__ ["place"]) (D_NoPlace___init__ : DefAt K mg ["self", "place"] f_NoPlace___init__ fd_NoPlace___init__) (G_NoPlace___init__ : FnOk P w K mg base (L2.CX P w) 1 f_NoPlace___init__ fd_NoPlace___init__ ["self", "place"] (spInit K ["place"]))
    {C_NoRow___init__ f_NoRow___init__ : Addr} {fd_NoRow___init__ : FuncData} (O_NoRow : ExOk K mg "NoRow" C_NoRow___init__ f_NoRow___init__ ["place", "row"]) (D_NoRow___init__ : DefAt K mg ["self", "place", "row"] f_NoRow___init__ fd_NoRow___init__) (G_NoRow___init__ : FnOk P w K mg base (L2.CX P w) 1 f_NoRow___init__ fd_NoRow___init__ ["self", "place", "row"] (spInit K ["place", "row"]))
    {f : Addr} {fd : FuncData} (Fu : Fun K "_law_first" "_law_first" s__law_first f fd) : FnOk P w K mg base (L2.CX P w) 3 f fd ["kind", "one", "two"] (lSp ⟨K, cmOf mg, [], T⟩ 3 sp__law_first) :=
  fn3 Fu sc__law_first rfl (fun cdv A outer s H E B hB hr tk => by subst hB; exact dv__law_first (fd := fd) Z Y O_BadNumber D_BadNumber___init__ G_BadNumber___init__ O_BadRow D_BadRow___init__ G_BadRow___init__ O_BadTable D_BadTable___init__ G_BadTable___init__ O_BadFrame D_BadFrame___init__ G_BadFrame___init__ O_BadLoad D_BadLoad___init__ G_BadLoad___init__ O_BadNet D_BadNet___init__ G_BadNet___init__ O_BadHouse D_BadHouse___init__ G_BadHouse___init__ O_BadWeb D_BadWeb___init__ G_BadWeb___init__ O_BadName D_BadName___init__ G_BadName___init__ O_BadText D_BadText___init__ G_BadText___init__ O_NoPlace D_NoPlace___init__ G_NoPlace___init__ O_NoRow D_NoRow___init__ G_NoRow___init__ hr tk) pl__law_first

theorem ok__law_second {P : Program} {w : World} {K : PySem.W.Frag} {mg : Str → Option Value} {base : Heap} {T : List (Addr × Str)} (Z : Zn mg) (Y : Yn K mg)
    {C_NoWall___init__ f_NoWall___init__ : Addr} {fd_NoWall___init__ : FuncData} (O_NoWall : ExOk K mg "NoWall" C_NoWall___init__ f_NoWall___init__ ["place"]) (D_NoWall___init__ : DefAt K mg ["self", "place"] f_NoWall___init__ fd_NoWall___init__) (G_NoWall___init__ : FnOk P w K mg base (L2.CX P w) 1 f_NoWall___init__ fd_NoWall___init__ ["self", "place"] (spInit K ["place"]))
    {C_NoName___init__ f_NoName___init__ : Addr} {fd_NoName___init__ : FuncData} (O_NoName : ExOk K mg "NoName" C_NoName___init__ f_NoName___init__ ["name"]) (D_NoName___init__ : DefAt K mg ["self", "name"] f_NoName___init__ fd_NoName___init__) (G_NoName___init__ : FnOk P w K mg base (L2.CX P w) 1 f_NoName___init__ fd_NoName___init__ ["self", "name"] (spInit K ["name"]))
    {C_TakenName___init__ f_TakenName___init__ : Addr} {fd_TakenName___init__ : FuncData} (O_TakenName : ExOk K mg "TakenName" C_TakenName___init__ f_TakenName___init__ ["name"]) (D_TakenName___init__ : DefAt K mg ["self", "name"] f_TakenName___init__ fd_TakenName___init__) (G_TakenName___init__ : FnOk P w K mg base (L2.CX P w) 1 f_TakenName___init__ fd_TakenName___init__ ["self", "name"] (spInit K ["name"]))
    {C_Unlike___init__ f_Unlike___init__ : Addr} {fd_Unlike___init__ : FuncData} (O_Unlike : ExOk K mg "Unlike" C_Unlike___init__ f_Unlike___init__ ["what"]) (D_Unlike___init__ : DefAt K mg ["self", "what"] f_Unlike___init__ fd_Unlike___init__) (G_Unlike___init__ : FnOk P w K mg base (L2.CX P w) 1 f_Unlike___init__ fd_Unlike___init__ ["self", "what"] (spInit K ["what"]))
    {C_Flat___init__ f_Flat___init__ : Addr} {fd_Flat___init__ : FuncData} (O_Flat : ExOk K mg "Flat" C_Flat___init__ f_Flat___init__ ["choice"]) (D_Flat___init__ : DefAt K mg ["self", "choice"] f_Flat___init__ fd_Flat___init__) (G_Flat___init__ : FnOk P w K mg base (L2.CX P w) 1 f_Flat___init__ fd_Flat___init__ ["self", "choice"] (spInit K ["choice"]))
    {C_NotOnce___init__ f_NotOnce___init__ : Addr} {fd_NotOnce___init__ : FuncData} (O_NotOnce : ExOk K mg "NotOnce" C_NotOnce___init__ f_NotOnce___init__ ["row"]) (D_NotOnce___init__ : DefAt K mg ["self", "row"] f_NotOnce___init__ fd_NotOnce___init__) (G_NotOnce___init__ : FnOk P w K mg base (L2.CX P w) 1 f_NotOnce___init__ fd_NotOnce___init__ ["self", "row"] (spInit K ["row"]))
    {C_NotPlain___init__ f_NotPlain___init__ : Addr} {fd_NotPlain___init__ : FuncData} (O_NotPlain : ExOk K mg "NotPlain" C_NotPlain___init__ f_NotPlain___init__ ["choice"]) (D_NotPlain___init__ : DefAt K mg ["self", "choice"] f_NotPlain___init__ fd_NotPlain___init__) (G_NotPlain___init__ : FnOk P w K mg base (L2.CX P w) 1 f_NotPlain___init__ fd_NotPlain___init__ ["self", "choice"] (spInit K ["choice"]))
    {C_TooMany___init__ f_TooMany___init__ : Addr} {fd_TooMany___init__ : FuncData} (O_TooMany : ExOk K mg "TooMany" C_TooMany___init__ f_TooMany___init__ ["what", "many", "limit"]) (D_TooMany___init__ : DefAt K mg ["self", "what", "many", "limit"] f_TooMany___init__ fd_TooMany___init__) (G_TooMany___init__ : FnOk P w K mg base (L2.CX P w) 1 f_TooMany___init__ fd_TooMany___init__ ["self", "what", "many", "limit"] (spInit K ["what", "many", "limit"]))
    {C_NotKept___init__ f_NotKept___init__ : Addr} {fd_NotKept___init__ : FuncData} (O_NotKept : ExOk K mg "NotKept" C_NotKept___init__ f_NotKept___init__ ["promise", "witness"]) (D_NotKept___init__ : DefAt K mg ["self", "promise", "witness"] f_NotKept___init__ fd_NotKept___init__) (G_NotKept___init__ : FnOk P w K mg base (L2.CX P w) 1 f_NotKept___init__ fd_NotKept___init__ ["self", "promise", "witness"] (spInit K ["promise", "witness"]))
    {C0_NothingToUndo : Addr} (O0_NothingToUndo : Ex0Ok K mg "NothingToUndo" C0_NothingToUndo)
    {C0_NothingToRedo : Addr} (O0_NothingToRedo : Ex0Ok K mg "NothingToRedo" C0_NothingToRedo)
    {f : Addr} {fd : FuncData} (Fu : Fun K "_law_second" "_law_second" s__law_second f fd) : FnOk P w K mg base (L2.CX P w) 3 f fd ["kind", "one", "two", "three"] (lSp ⟨K, cmOf mg, [], T⟩ 4 sp__law_second) :=
  fn3 Fu sc__law_second rfl (fun cdv A outer s H E B hB hr tk => by subst hB; exact dv__law_second (fd := fd) Z Y O_NoWall D_NoWall___init__ G_NoWall___init__ O_NoName D_NoName___init__ G_NoName___init__ O_TakenName D_TakenName___init__ G_TakenName___init__ O_Unlike D_Unlike___init__ G_Unlike___init__ O_Flat D_Flat___init__ G_Flat___init__ O_NotOnce D_NotOnce___init__ G_NotOnce___init__ O_NotPlain D_NotPlain___init__ G_NotPlain___init__ O_TooMany D_TooMany___init__ G_TooMany___init__ O_NotKept D_NotKept___init__ G_NotKept___init__ O0_NothingToUndo O0_NothingToRedo hr tk) pl__law_second

theorem ok__law_told {P : Program} {w : World} {K : PySem.W.Frag} {mg : Str → Option Value} {base : Heap} {T : List (Addr × Str)} (Z : Zn mg) (Y : Yn K mg)
    {f__law_first : Addr} {fd__law_first : FuncData} (D__law_first : DefG K mg "_law_first" ["kind", "one", "two"] f__law_first fd__law_first) (G__law_first : FnOk P w K mg base (L2.CX P w) 3 f__law_first fd__law_first ["kind", "one", "two"] (lSp ⟨K, cmOf mg, [], T⟩ 3 sp__law_first))
    {f__law_second : Addr} {fd__law_second : FuncData} (D__law_second : DefG K mg "_law_second" ["kind", "one", "two", "three"] f__law_second fd__law_second) (G__law_second : FnOk P w K mg base (L2.CX P w) 3 f__law_second fd__law_second ["kind", "one", "two", "three"] (lSp ⟨K, cmOf mg, [], T⟩ 4 sp__law_second))
    {f__law_kinds : Addr} {fd__law_kinds : FuncData} (D__law_kinds : DefG K mg "_law_kinds" ["e"] f__law_kinds fd__law_kinds) (G__law_kinds : FnP P w K mg base true 2 f__law_kinds fd__law_kinds ["e"] (lSpP ⟨K, cmOf mg, [], T⟩ sp__law_kinds))
    {CS : Addr} (Xn : XnOk K mg) (hRE : mg "RestsError" = some (.ref CS)) (XR : XrOk K mg CS)
    {f : Addr} {fd : FuncData} (Fu : Fun K "_law_told" "_law_told" s__law_told f fd) : FnG P w K mg base 4 f fd ["kind", "one", "two", "three"] (lSp ⟨K, cmOf mg, [], T⟩ 4 sp__law_told) :=
  fnG Fu sc__law_told rfl (fun A outer s H E B hB hr tk => by subst hB; exact dv__law_told (fd := fd) Z Y D__law_first G__law_first D__law_second G__law_second D__law_kinds G__law_kinds Xn hRE XR hr tk) pl__law_told

theorem ok__law_due {P : Program} {w : World} {K : PySem.W.Frag} {mg : Str → Option Value} {base : Heap} {T : List (Addr × Str)} (Z : Zn mg) (Y : Yn K mg)
    (SM : SmB base)
    {f : Addr} {fd : FuncData} (Fu : Fun K "_law_due" "_law_due" s__law_due f fd) : FnG P w K mg base 1 f fd ["kind", "one", "two", "three"] (lSp ⟨K, cmOf mg, [], T⟩ 4 sp__law_due) :=
  fnG Fu sc__law_due rfl (fun A outer s H E B hB hr tk => by subst hB; exact dv__law_due (fd := fd) Z Y SM hr tk) pl__law_due

theorem ok_law {P : Program} {w : World} {K : PySem.W.Frag} {mg : Str → Option Value} {base : Heap} {T : List (Addr × Str)} (Z : Zn mg) (Y : Yn K mg)
    {f__law_pen : Addr} {fd__law_pen : FuncData} (D__law_pen : DefG K mg "_law_pen" ["script"] f__law_pen fd__law_pen) (G__law_pen : FnOk P w K mg base (L2.CX P w) 1 f__law_pen fd__law_pen ["script"] (lSp ⟨K, cmOf mg, [], T⟩ 1 sp__law_pen))
    {f__law_value : Addr} {fd__law_value : FuncData} (D__law_value : DefG K mg "_law_value" ["pen"] f__law_value fd__law_value) (G__law_value : FnOk P w K mg base (L2.CX P w) 3 f__law_value fd__law_value ["pen"] (lSp ⟨K, cmOf mg, [], T⟩ 1 sp__law_value))
    {f__law_told : Addr} {fd__law_told : FuncData} (D__law_told : DefG K mg "_law_told" ["kind", "one", "two", "three"] f__law_told fd__law_told) (G__law_told : FnG P w K mg base 4 f__law_told fd__law_told ["kind", "one", "two", "three"] (lSp ⟨K, cmOf mg, [], T⟩ 4 sp__law_told))
    {f__law_due : Addr} {fd__law_due : FuncData} (D__law_due : DefG K mg "_law_due" ["kind", "one", "two", "three"] f__law_due fd__law_due) (G__law_due : FnG P w K mg base 1 f__law_due fd__law_due ["kind", "one", "two", "three"] (lSp ⟨K, cmOf mg, [], T⟩ 4 sp__law_due))
    (SM : SmB base)
    {f : Addr} {fd : FuncData} (Fu : Fun K "law" "law" s_law f fd) : FnG P w K mg base 5 f fd ["script"] (lSp ⟨K, cmOf mg, [], T⟩ 1 sp_law) :=
  fnG Fu sc_law rfl (fun A outer s H E B hB hr tk => by subst hB; exact dv_law (fd := fd) Z Y D__law_pen G__law_pen D__law_value G__law_value D__law_told G__law_told D__law_due G__law_due SM hr tk) pl_law

end Cl
namespace Cl
open PySem PySem.Spec L2 L3
open PyProof.Rows hiding St
theorem all_mk {l : PySem.W.OpenLaw} {w : World} {K : PySem.W.Frag} {h : Heap} {mg : Str → Option Value} {fa : Addr} (X : K.In h) (G : h.Ns mainGlobals mg) (hfa : mg "law" = some (.ref fa))
    {C_BadFrame : Addr}
    {C_BadHouse : Addr}
    {C_BadLoad : Addr}
    {C_BadName : Addr}
    {C_BadNet : Addr}
    {C_BadNumber : Addr}
    {C_BadRow : Addr}
    {C_BadTable : Addr}
    {C_BadText : Addr}
    {C_BadWeb : Addr}
    {C_Flat : Addr}
    {C_NoName : Addr}
    {C_NoPlace : Addr}
    {C_NoRow : Addr}
    {C_NoWall : Addr}
    {C_NotKept : Addr}
    {C_NotOnce : Addr}
    {C_NotPlain : Addr}
    {C_NothingToRedo : Addr}
    {C_NothingToUndo : Addr}
    {C_RestsError : Addr}
    {C_TakenName : Addr}
    {C_TooMany : Addr}
    {C_Unlike : Addr}
    {f__law_pen : Addr} {od__law_pen an__law_pen : Option Addr} {sl__law_pen : Array (Option Value)} {oc__law_pen kV__law_pen dc__law_pen pm__law_pen cd__law_pen ct__law_pen : Value}
    {f__law_draw : Addr} {od__law_draw an__law_draw : Option Addr} {sl__law_draw : Array (Option Value)} {oc__law_draw kV__law_draw dc__law_draw pm__law_draw cd__law_draw ct__law_draw : Value}
    {f__law_pick : Addr} {od__law_pick an__law_pick : Option Addr} {sl__law_pick : Array (Option Value)} {oc__law_pick kV__law_pick dc__law_pick pm__law_pick cd__law_pick ct__law_pick : Value}
    {f__law_more_kinds : Addr} {od__law_more_kinds an__law_more_kinds : Option Addr} {sl__law_more_kinds : Array (Option Value)} {oc__law_more_kinds kV__law_more_kinds dc__law_more_kinds pm__law_more_kinds cd__law_more_kinds ct__law_more_kinds : Value}
    {f__law_kinds : Addr} {od__law_kinds an__law_kinds : Option Addr} {sl__law_kinds : Array (Option Value)} {oc__law_kinds kV__law_kinds dc__law_kinds pm__law_kinds cd__law_kinds ct__law_kinds : Value}
    {f__law_value : Addr} {od__law_value an__law_value : Option Addr} {sl__law_value : Array (Option Value)} {oc__law_value kV__law_value dc__law_value pm__law_value cd__law_value ct__law_value : Value}
    {f__law_first : Addr} {od__law_first an__law_first : Option Addr} {sl__law_first : Array (Option Value)} {oc__law_first kV__law_first dc__law_first pm__law_first cd__law_first ct__law_first : Value}
    {f__law_second : Addr} {od__law_second an__law_second : Option Addr} {sl__law_second : Array (Option Value)} {oc__law_second kV__law_second dc__law_second pm__law_second cd__law_second ct__law_second : Value}
    {f__law_told : Addr} {od__law_told an__law_told : Option Addr} {sl__law_told : Array (Option Value)} {oc__law_told kV__law_told dc__law_told pm__law_told cd__law_told ct__law_told : Value}
    {f__law_due : Addr} {od__law_due an__law_due : Option Addr} {sl__law_due : Array (Option Value)} {oc__law_due kV__law_due dc__law_due pm__law_due cd__law_due ct__law_due : Value}
    {f_law : Addr} {od_law an_law : Option Addr} {sl_law : Array (Option Value)} {oc_law kV_law dc_law pm_law cd_law ct_law : Value}
    {f_BadFrame___init__ : Addr} {od_BadFrame___init__ an_BadFrame___init__ : Option Addr} {sl_BadFrame___init__ : Array (Option Value)} {oc_BadFrame___init__ kV_BadFrame___init__ dc_BadFrame___init__ pm_BadFrame___init__ cd_BadFrame___init__ ct_BadFrame___init__ : Value}
    {nm_BadFrame q_BadFrame : Str} {N_BadFrame : Addr} {bs_BadFrame : List Value} {sn_BadFrame : List Str} {su_BadFrame : List Value} {ab_BadFrame : Bool} {co_BadFrame : Option Bool} {dd_BadFrame : Option Addr} {m0_BadFrame m1_BadFrame m2_BadFrame m3_BadFrame m5_BadFrame : Option Value}
    {f_BadHouse___init__ : Addr} {od_BadHouse___init__ an_BadHouse___init__ : Option Addr} {sl_BadHouse___init__ : Array (Option Value)} {oc_BadHouse___init__ kV_BadHouse___init__ dc_BadHouse___init__ pm_BadHouse___init__ cd_BadHouse___init__ ct_BadHouse___init__ : Value}
    {nm_BadHouse q_BadHouse : Str} {N_BadHouse : Addr} {bs_BadHouse : List Value} {sn_BadHouse : List Str} {su_BadHouse : List Value} {ab_BadHouse : Bool} {co_BadHouse : Option Bool} {dd_BadHouse : Option Addr} {m0_BadHouse m1_BadHouse m2_BadHouse m3_BadHouse m5_BadHouse : Option Value}
    {f_BadLoad___init__ : Addr} {od_BadLoad___init__ an_BadLoad___init__ : Option Addr} {sl_BadLoad___init__ : Array (Option Value)} {oc_BadLoad___init__ kV_BadLoad___init__ dc_BadLoad___init__ pm_BadLoad___init__ cd_BadLoad___init__ ct_BadLoad___init__ : Value}
    {nm_BadLoad q_BadLoad : Str} {N_BadLoad : Addr} {bs_BadLoad : List Value} {sn_BadLoad : List Str} {su_BadLoad : List Value} {ab_BadLoad : Bool} {co_BadLoad : Option Bool} {dd_BadLoad : Option Addr} {m0_BadLoad m1_BadLoad m2_BadLoad m3_BadLoad m5_BadLoad : Option Value}
    {f_BadName___init__ : Addr} {od_BadName___init__ an_BadName___init__ : Option Addr} {sl_BadName___init__ : Array (Option Value)} {oc_BadName___init__ kV_BadName___init__ dc_BadName___init__ pm_BadName___init__ cd_BadName___init__ ct_BadName___init__ : Value}
    {nm_BadName q_BadName : Str} {N_BadName : Addr} {bs_BadName : List Value} {sn_BadName : List Str} {su_BadName : List Value} {ab_BadName : Bool} {co_BadName : Option Bool} {dd_BadName : Option Addr} {m0_BadName m1_BadName m2_BadName m3_BadName m5_BadName : Option Value}
    {f_BadNet___init__ : Addr} {od_BadNet___init__ an_BadNet___init__ : Option Addr} {sl_BadNet___init__ : Array (Option Value)} {oc_BadNet___init__ kV_BadNet___init__ dc_BadNet___init__ pm_BadNet___init__ cd_BadNet___init__ ct_BadNet___init__ : Value}
    {nm_BadNet q_BadNet : Str} {N_BadNet : Addr} {bs_BadNet : List Value} {sn_BadNet : List Str} {su_BadNet : List Value} {ab_BadNet : Bool} {co_BadNet : Option Bool} {dd_BadNet : Option Addr} {m0_BadNet m1_BadNet m2_BadNet m3_BadNet m5_BadNet : Option Value}
    {f_BadNumber___init__ : Addr} {od_BadNumber___init__ an_BadNumber___init__ : Option Addr} {sl_BadNumber___init__ : Array (Option Value)} {oc_BadNumber___init__ kV_BadNumber___init__ dc_BadNumber___init__ pm_BadNumber___init__ cd_BadNumber___init__ ct_BadNumber___init__ : Value}
    {nm_BadNumber q_BadNumber : Str} {N_BadNumber : Addr} {bs_BadNumber : List Value} {sn_BadNumber : List Str} {su_BadNumber : List Value} {ab_BadNumber : Bool} {co_BadNumber : Option Bool} {dd_BadNumber : Option Addr} {m0_BadNumber m1_BadNumber m2_BadNumber m3_BadNumber m5_BadNumber : Option Value}
    {f_BadRow___init__ : Addr} {od_BadRow___init__ an_BadRow___init__ : Option Addr} {sl_BadRow___init__ : Array (Option Value)} {oc_BadRow___init__ kV_BadRow___init__ dc_BadRow___init__ pm_BadRow___init__ cd_BadRow___init__ ct_BadRow___init__ : Value}
    {nm_BadRow q_BadRow : Str} {N_BadRow : Addr} {bs_BadRow : List Value} {sn_BadRow : List Str} {su_BadRow : List Value} {ab_BadRow : Bool} {co_BadRow : Option Bool} {dd_BadRow : Option Addr} {m0_BadRow m1_BadRow m2_BadRow m3_BadRow m5_BadRow : Option Value}
    {f_BadTable___init__ : Addr} {od_BadTable___init__ an_BadTable___init__ : Option Addr} {sl_BadTable___init__ : Array (Option Value)} {oc_BadTable___init__ kV_BadTable___init__ dc_BadTable___init__ pm_BadTable___init__ cd_BadTable___init__ ct_BadTable___init__ : Value}
    {nm_BadTable q_BadTable : Str} {N_BadTable : Addr} {bs_BadTable : List Value} {sn_BadTable : List Str} {su_BadTable : List Value} {ab_BadTable : Bool} {co_BadTable : Option Bool} {dd_BadTable : Option Addr} {m0_BadTable m1_BadTable m2_BadTable m3_BadTable m5_BadTable : Option Value}
    {f_BadText___init__ : Addr} {od_BadText___init__ an_BadText___init__ : Option Addr} {sl_BadText___init__ : Array (Option Value)} {oc_BadText___init__ kV_BadText___init__ dc_BadText___init__ pm_BadText___init__ cd_BadText___init__ ct_BadText___init__ : Value}
    {nm_BadText q_BadText : Str} {N_BadText : Addr} {bs_BadText : List Value} {sn_BadText : List Str} {su_BadText : List Value} {ab_BadText : Bool} {co_BadText : Option Bool} {dd_BadText : Option Addr} {m0_BadText m1_BadText m2_BadText m3_BadText m5_BadText : Option Value}
    {f_BadWeb___init__ : Addr} {od_BadWeb___init__ an_BadWeb___init__ : Option Addr} {sl_BadWeb___init__ : Array (Option Value)} {oc_BadWeb___init__ kV_BadWeb___init__ dc_BadWeb___init__ pm_BadWeb___init__ cd_BadWeb___init__ ct_BadWeb___init__ : Value}
    {nm_BadWeb q_BadWeb : Str} {N_BadWeb : Addr} {bs_BadWeb : List Value} {sn_BadWeb : List Str} {su_BadWeb : List Value} {ab_BadWeb : Bool} {co_BadWeb : Option Bool} {dd_BadWeb : Option Addr} {m0_BadWeb m1_BadWeb m2_BadWeb m3_BadWeb m5_BadWeb : Option Value}
    {f_Flat___init__ : Addr} {od_Flat___init__ an_Flat___init__ : Option Addr} {sl_Flat___init__ : Array (Option Value)} {oc_Flat___init__ kV_Flat___init__ dc_Flat___init__ pm_Flat___init__ cd_Flat___init__ ct_Flat___init__ : Value}
    {nm_Flat q_Flat : Str} {N_Flat : Addr} {bs_Flat : List Value} {sn_Flat : List Str} {su_Flat : List Value} {ab_Flat : Bool} {co_Flat : Option Bool} {dd_Flat : Option Addr} {m0_Flat m1_Flat m2_Flat m3_Flat m5_Flat : Option Value}
    {f_NoName___init__ : Addr} {od_NoName___init__ an_NoName___init__ : Option Addr} {sl_NoName___init__ : Array (Option Value)} {oc_NoName___init__ kV_NoName___init__ dc_NoName___init__ pm_NoName___init__ cd_NoName___init__ ct_NoName___init__ : Value}
    {nm_NoName q_NoName : Str} {N_NoName : Addr} {bs_NoName : List Value} {sn_NoName : List Str} {su_NoName : List Value} {ab_NoName : Bool} {co_NoName : Option Bool} {dd_NoName : Option Addr} {m0_NoName m1_NoName m2_NoName m3_NoName m5_NoName : Option Value}
    {f_NoPlace___init__ : Addr} {od_NoPlace___init__ an_NoPlace___init__ : Option Addr} {sl_NoPlace___init__ : Array (Option Value)} {oc_NoPlace___init__ kV_NoPlace___init__ dc_NoPlace___init__ pm_NoPlace___init__ cd_NoPlace___init__ ct_NoPlace___init__ : Value}
    {nm_NoPlace q_NoPlace : Str} {N_NoPlace : Addr} {bs_NoPlace : List Value} {sn_NoPlace : List Str} {su_NoPlace : List Value} {ab_NoPlace : Bool} {co_NoPlace : Option Bool} {dd_NoPlace : Option Addr} {m0_NoPlace m1_NoPlace m2_NoPlace m3_NoPlace m5_NoPlace : Option Value}
    {f_NoRow___init__ : Addr} {od_NoRow___init__ an_NoRow___init__ : Option Addr} {sl_NoRow___init__ : Array (Option Value)} {oc_NoRow___init__ kV_NoRow___init__ dc_NoRow___init__ pm_NoRow___init__ cd_NoRow___init__ ct_NoRow___init__ : Value}
    {nm_NoRow q_NoRow : Str} {N_NoRow : Addr} {bs_NoRow : List Value} {sn_NoRow : List Str} {su_NoRow : List Value} {ab_NoRow : Bool} {co_NoRow : Option Bool} {dd_NoRow : Option Addr} {m0_NoRow m1_NoRow m2_NoRow m3_NoRow m5_NoRow : Option Value}
    {f_NoWall___init__ : Addr} {od_NoWall___init__ an_NoWall___init__ : Option Addr} {sl_NoWall___init__ : Array (Option Value)} {oc_NoWall___init__ kV_NoWall___init__ dc_NoWall___init__ pm_NoWall___init__ cd_NoWall___init__ ct_NoWall___init__ : Value}
    {nm_NoWall q_NoWall : Str} {N_NoWall : Addr} {bs_NoWall : List Value} {sn_NoWall : List Str} {su_NoWall : List Value} {ab_NoWall : Bool} {co_NoWall : Option Bool} {dd_NoWall : Option Addr} {m0_NoWall m1_NoWall m2_NoWall m3_NoWall m5_NoWall : Option Value}
    {f_NotKept___init__ : Addr} {od_NotKept___init__ an_NotKept___init__ : Option Addr} {sl_NotKept___init__ : Array (Option Value)} {oc_NotKept___init__ kV_NotKept___init__ dc_NotKept___init__ pm_NotKept___init__ cd_NotKept___init__ ct_NotKept___init__ : Value}
    {nm_NotKept q_NotKept : Str} {N_NotKept : Addr} {bs_NotKept : List Value} {sn_NotKept : List Str} {su_NotKept : List Value} {ab_NotKept : Bool} {co_NotKept : Option Bool} {dd_NotKept : Option Addr} {m0_NotKept m1_NotKept m2_NotKept m3_NotKept m5_NotKept : Option Value}
    {f_NotOnce___init__ : Addr} {od_NotOnce___init__ an_NotOnce___init__ : Option Addr} {sl_NotOnce___init__ : Array (Option Value)} {oc_NotOnce___init__ kV_NotOnce___init__ dc_NotOnce___init__ pm_NotOnce___init__ cd_NotOnce___init__ ct_NotOnce___init__ : Value}
    {nm_NotOnce q_NotOnce : Str} {N_NotOnce : Addr} {bs_NotOnce : List Value} {sn_NotOnce : List Str} {su_NotOnce : List Value} {ab_NotOnce : Bool} {co_NotOnce : Option Bool} {dd_NotOnce : Option Addr} {m0_NotOnce m1_NotOnce m2_NotOnce m3_NotOnce m5_NotOnce : Option Value}
    {f_NotPlain___init__ : Addr} {od_NotPlain___init__ an_NotPlain___init__ : Option Addr} {sl_NotPlain___init__ : Array (Option Value)} {oc_NotPlain___init__ kV_NotPlain___init__ dc_NotPlain___init__ pm_NotPlain___init__ cd_NotPlain___init__ ct_NotPlain___init__ : Value}
    {nm_NotPlain q_NotPlain : Str} {N_NotPlain : Addr} {bs_NotPlain : List Value} {sn_NotPlain : List Str} {su_NotPlain : List Value} {ab_NotPlain : Bool} {co_NotPlain : Option Bool} {dd_NotPlain : Option Addr} {m0_NotPlain m1_NotPlain m2_NotPlain m3_NotPlain m5_NotPlain : Option Value}
    {f_TakenName___init__ : Addr} {od_TakenName___init__ an_TakenName___init__ : Option Addr} {sl_TakenName___init__ : Array (Option Value)} {oc_TakenName___init__ kV_TakenName___init__ dc_TakenName___init__ pm_TakenName___init__ cd_TakenName___init__ ct_TakenName___init__ : Value}
    {nm_TakenName q_TakenName : Str} {N_TakenName : Addr} {bs_TakenName : List Value} {sn_TakenName : List Str} {su_TakenName : List Value} {ab_TakenName : Bool} {co_TakenName : Option Bool} {dd_TakenName : Option Addr} {m0_TakenName m1_TakenName m2_TakenName m3_TakenName m5_TakenName : Option Value}
    {f_TooMany___init__ : Addr} {od_TooMany___init__ an_TooMany___init__ : Option Addr} {sl_TooMany___init__ : Array (Option Value)} {oc_TooMany___init__ kV_TooMany___init__ dc_TooMany___init__ pm_TooMany___init__ cd_TooMany___init__ ct_TooMany___init__ : Value}
    {nm_TooMany q_TooMany : Str} {N_TooMany : Addr} {bs_TooMany : List Value} {sn_TooMany : List Str} {su_TooMany : List Value} {ab_TooMany : Bool} {co_TooMany : Option Bool} {dd_TooMany : Option Addr} {m0_TooMany m1_TooMany m2_TooMany m3_TooMany m5_TooMany : Option Value}
    {f_Unlike___init__ : Addr} {od_Unlike___init__ an_Unlike___init__ : Option Addr} {sl_Unlike___init__ : Array (Option Value)} {oc_Unlike___init__ kV_Unlike___init__ dc_Unlike___init__ pm_Unlike___init__ cd_Unlike___init__ ct_Unlike___init__ : Value}
    {nm_Unlike q_Unlike : Str} {N_Unlike : Addr} {bs_Unlike : List Value} {sn_Unlike : List Str} {su_Unlike : List Value} {ab_Unlike : Bool} {co_Unlike : Option Bool} {dd_Unlike : Option Addr} {m0_Unlike m1_Unlike m2_Unlike m3_Unlike m5_Unlike : Option Value}
    (A_BadFrame : PySem.W.nsIn K mainGlobals "BadFrame" = some (some (.ref C_BadFrame)))
    (A_BadHouse : PySem.W.nsIn K mainGlobals "BadHouse" = some (some (.ref C_BadHouse)))
    (A_BadLoad : PySem.W.nsIn K mainGlobals "BadLoad" = some (some (.ref C_BadLoad)))
    (A_BadName : PySem.W.nsIn K mainGlobals "BadName" = some (some (.ref C_BadName)))
    (A_BadNet : PySem.W.nsIn K mainGlobals "BadNet" = some (some (.ref C_BadNet)))
    (A_BadNumber : PySem.W.nsIn K mainGlobals "BadNumber" = some (some (.ref C_BadNumber)))
    (A_BadRow : PySem.W.nsIn K mainGlobals "BadRow" = some (some (.ref C_BadRow)))
    (A_BadTable : PySem.W.nsIn K mainGlobals "BadTable" = some (some (.ref C_BadTable)))
    (A_BadText : PySem.W.nsIn K mainGlobals "BadText" = some (some (.ref C_BadText)))
    (A_BadWeb : PySem.W.nsIn K mainGlobals "BadWeb" = some (some (.ref C_BadWeb)))
    (A_Flat : PySem.W.nsIn K mainGlobals "Flat" = some (some (.ref C_Flat)))
    (A_NoName : PySem.W.nsIn K mainGlobals "NoName" = some (some (.ref C_NoName)))
    (A_NoPlace : PySem.W.nsIn K mainGlobals "NoPlace" = some (some (.ref C_NoPlace)))
    (A_NoRow : PySem.W.nsIn K mainGlobals "NoRow" = some (some (.ref C_NoRow)))
    (A_NoWall : PySem.W.nsIn K mainGlobals "NoWall" = some (some (.ref C_NoWall)))
    (A_NotKept : PySem.W.nsIn K mainGlobals "NotKept" = some (some (.ref C_NotKept)))
    (A_NotOnce : PySem.W.nsIn K mainGlobals "NotOnce" = some (some (.ref C_NotOnce)))
    (A_NotPlain : PySem.W.nsIn K mainGlobals "NotPlain" = some (some (.ref C_NotPlain)))
    (A_NothingToRedo : PySem.W.nsIn K mainGlobals "NothingToRedo" = some (some (.ref C_NothingToRedo)))
    (A_NothingToUndo : PySem.W.nsIn K mainGlobals "NothingToUndo" = some (some (.ref C_NothingToUndo)))
    (A_RestsError : PySem.W.nsIn K mainGlobals "RestsError" = some (some (.ref C_RestsError)))
    (A_TakenName : PySem.W.nsIn K mainGlobals "TakenName" = some (some (.ref C_TakenName)))
    (A_TooMany : PySem.W.nsIn K mainGlobals "TooMany" = some (some (.ref C_TooMany)))
    (A_Unlike : PySem.W.nsIn K mainGlobals "Unlike" = some (some (.ref C_Unlike)))
    (a__law_pen : PySem.W.nsIn K mainGlobals "_law_pen" = some (some (.ref f__law_pen)))
    (l__law_pen : K.lookup f__law_pen = some ⟨oc__law_pen, od__law_pen, .func (PySem.W.fnOf "_law_pen" "_law_pen" (defArgs s__law_pen) (defBody s__law_pen) (defScope s__law_pen) .none kV__law_pen dc__law_pen pm__law_pen an__law_pen cd__law_pen ct__law_pen), sl__law_pen⟩)
    (c__law_pen : PySem.W.codeIn K cd__law_pen "_law_pen" = true)
    (k__law_pen : PySem.W.keepIn K (.ref f__law_pen) = true)
    (a__law_draw : PySem.W.nsIn K mainGlobals "_law_draw" = some (some (.ref f__law_draw)))
    (l__law_draw : K.lookup f__law_draw = some ⟨oc__law_draw, od__law_draw, .func (PySem.W.fnOf "_law_draw" "_law_draw" (defArgs s__law_draw) (defBody s__law_draw) (defScope s__law_draw) .none kV__law_draw dc__law_draw pm__law_draw an__law_draw cd__law_draw ct__law_draw), sl__law_draw⟩)
    (c__law_draw : PySem.W.codeIn K cd__law_draw "_law_draw" = true)
    (k__law_draw : PySem.W.keepIn K (.ref f__law_draw) = true)
    (a__law_pick : PySem.W.nsIn K mainGlobals "_law_pick" = some (some (.ref f__law_pick)))
    (l__law_pick : K.lookup f__law_pick = some ⟨oc__law_pick, od__law_pick, .func (PySem.W.fnOf "_law_pick" "_law_pick" (defArgs s__law_pick) (defBody s__law_pick) (defScope s__law_pick) .none kV__law_pick dc__law_pick pm__law_pick an__law_pick cd__law_pick ct__law_pick), sl__law_pick⟩)
    (c__law_pick : PySem.W.codeIn K cd__law_pick "_law_pick" = true)
    (k__law_pick : PySem.W.keepIn K (.ref f__law_pick) = true)
    (a__law_more_kinds : PySem.W.nsIn K mainGlobals "_law_more_kinds" = some (some (.ref f__law_more_kinds)))
    (l__law_more_kinds : K.lookup f__law_more_kinds = some ⟨oc__law_more_kinds, od__law_more_kinds, .func (PySem.W.fnOf "_law_more_kinds" "_law_more_kinds" (defArgs s__law_more_kinds) (defBody s__law_more_kinds) (defScope s__law_more_kinds) .none kV__law_more_kinds dc__law_more_kinds pm__law_more_kinds an__law_more_kinds cd__law_more_kinds ct__law_more_kinds), sl__law_more_kinds⟩)
    (c__law_more_kinds : PySem.W.codeIn K cd__law_more_kinds "_law_more_kinds" = true)
    (k__law_more_kinds : PySem.W.keepIn K (.ref f__law_more_kinds) = true)
    (a__law_kinds : PySem.W.nsIn K mainGlobals "_law_kinds" = some (some (.ref f__law_kinds)))
    (l__law_kinds : K.lookup f__law_kinds = some ⟨oc__law_kinds, od__law_kinds, .func (PySem.W.fnOf "_law_kinds" "_law_kinds" (defArgs s__law_kinds) (defBody s__law_kinds) (defScope s__law_kinds) .none kV__law_kinds dc__law_kinds pm__law_kinds an__law_kinds cd__law_kinds ct__law_kinds), sl__law_kinds⟩)
    (c__law_kinds : PySem.W.codeIn K cd__law_kinds "_law_kinds" = true)
    (k__law_kinds : PySem.W.keepIn K (.ref f__law_kinds) = true)
    (a__law_value : PySem.W.nsIn K mainGlobals "_law_value" = some (some (.ref f__law_value)))
    (l__law_value : K.lookup f__law_value = some ⟨oc__law_value, od__law_value, .func (PySem.W.fnOf "_law_value" "_law_value" (defArgs s__law_value) (defBody s__law_value) (defScope s__law_value) .none kV__law_value dc__law_value pm__law_value an__law_value cd__law_value ct__law_value), sl__law_value⟩)
    (c__law_value : PySem.W.codeIn K cd__law_value "_law_value" = true)
    (k__law_value : PySem.W.keepIn K (.ref f__law_value) = true)
    (a__law_first : PySem.W.nsIn K mainGlobals "_law_first" = some (some (.ref f__law_first)))
    (l__law_first : K.lookup f__law_first = some ⟨oc__law_first, od__law_first, .func (PySem.W.fnOf "_law_first" "_law_first" (defArgs s__law_first) (defBody s__law_first) (defScope s__law_first) .none kV__law_first dc__law_first pm__law_first an__law_first cd__law_first ct__law_first), sl__law_first⟩)
    (c__law_first : PySem.W.codeIn K cd__law_first "_law_first" = true)
    (k__law_first : PySem.W.keepIn K (.ref f__law_first) = true)
    (a__law_second : PySem.W.nsIn K mainGlobals "_law_second" = some (some (.ref f__law_second)))
    (l__law_second : K.lookup f__law_second = some ⟨oc__law_second, od__law_second, .func (PySem.W.fnOf "_law_second" "_law_second" (defArgs s__law_second) (defBody s__law_second) (defScope s__law_second) .none kV__law_second dc__law_second pm__law_second an__law_second cd__law_second ct__law_second), sl__law_second⟩)
    (c__law_second : PySem.W.codeIn K cd__law_second "_law_second" = true)
    (k__law_second : PySem.W.keepIn K (.ref f__law_second) = true)
    (a__law_told : PySem.W.nsIn K mainGlobals "_law_told" = some (some (.ref f__law_told)))
    (l__law_told : K.lookup f__law_told = some ⟨oc__law_told, od__law_told, .func (PySem.W.fnOf "_law_told" "_law_told" (defArgs s__law_told) (defBody s__law_told) (defScope s__law_told) .none kV__law_told dc__law_told pm__law_told an__law_told cd__law_told ct__law_told), sl__law_told⟩)
    (c__law_told : PySem.W.codeIn K cd__law_told "_law_told" = true)
    (k__law_told : PySem.W.keepIn K (.ref f__law_told) = true)
    (a__law_due : PySem.W.nsIn K mainGlobals "_law_due" = some (some (.ref f__law_due)))
    (l__law_due : K.lookup f__law_due = some ⟨oc__law_due, od__law_due, .func (PySem.W.fnOf "_law_due" "_law_due" (defArgs s__law_due) (defBody s__law_due) (defScope s__law_due) .none kV__law_due dc__law_due pm__law_due an__law_due cd__law_due ct__law_due), sl__law_due⟩)
    (c__law_due : PySem.W.codeIn K cd__law_due "_law_due" = true)
    (k__law_due : PySem.W.keepIn K (.ref f__law_due) = true)
    (a_law : PySem.W.nsIn K mainGlobals "law" = some (some (.ref f_law)))
    (l_law : K.lookup f_law = some ⟨oc_law, od_law, .func (PySem.W.fnOf "law" "law" (defArgs s_law) (defBody s_law) (defScope s_law) .none kV_law dc_law pm_law an_law cd_law ct_law), sl_law⟩)
    (c_law : PySem.W.codeIn K cd_law "law" = true)
    (k_law : PySem.W.keepIn K (.ref f_law) = true)
    (a_BadFrame___init__ : PySem.W.findIn K (.ref C_BadFrame) "__init__" = some (some (.ref f_BadFrame___init__)))
    (l_BadFrame___init__ : K.lookup f_BadFrame___init__ = some ⟨oc_BadFrame___init__, od_BadFrame___init__, .func (PySem.W.fnOf "__init__" "BadFrame.__init__" (defArgs s_BadFrame___init__) (defBody s_BadFrame___init__) (defScope s_BadFrame___init__) .none kV_BadFrame___init__ dc_BadFrame___init__ pm_BadFrame___init__ an_BadFrame___init__ cd_BadFrame___init__ ct_BadFrame___init__), sl_BadFrame___init__⟩)
    (c_BadFrame___init__ : PySem.W.codeIn K cd_BadFrame___init__ "BadFrame.__init__" = true)
    (k_BadFrame___init__ : PySem.W.keepIn K (.ref f_BadFrame___init__) = true)
    (xL_BadFrame : K.lookup C_BadFrame = some (excClassObj nm_BadFrame q_BadFrame C_BadFrame N_BadFrame bs_BadFrame [.ref C_RestsError, .type "ValueError", .type "Exception", .type "BaseException", .type "object"] true sn_BadFrame su_BadFrame ab_BadFrame co_BadFrame dd_BadFrame m0_BadFrame m1_BadFrame m2_BadFrame m3_BadFrame m5_BadFrame "ValueError.__new__"))
    (sa_BadFrame : PySem.W.findIn K (.ref C_BadFrame) "__setattr__" = some (some (.builtin "object.__setattr__")))
    (eC_BadFrame : PySem.W.subIn K (.ref C_BadFrame) (.type "BaseException") = some true)
    (tC_BadFrame : PySem.W.typeIn K (.ref C_BadFrame) = some (.type "type"))
    (kC_BadFrame : PySem.W.keepIn K (.ref C_BadFrame) = true)
    (tI_BadFrame : PySem.W.typeIn K (.ref f_BadFrame___init__) = some (.type "function"))
    (nb_BadFrame_what : PySem.W.findIn K (.ref C_BadFrame) "what" = some none)
    (nb_BadFrame_place : PySem.W.findIn K (.ref C_BadFrame) "place" = some none)
    (a_BadHouse___init__ : PySem.W.findIn K (.ref C_BadHouse) "__init__" = some (some (.ref f_BadHouse___init__)))
    (l_BadHouse___init__ : K.lookup f_BadHouse___init__ = some ⟨oc_BadHouse___init__, od_BadHouse___init__, .func (PySem.W.fnOf "__init__" "BadHouse.__init__" (defArgs s_BadHouse___init__) (defBody s_BadHouse___init__) (defScope s_BadHouse___init__) .none kV_BadHouse___init__ dc_BadHouse___init__ pm_BadHouse___init__ an_BadHouse___init__ cd_BadHouse___init__ ct_BadHouse___init__), sl_BadHouse___init__⟩)
    (c_BadHouse___init__ : PySem.W.codeIn K cd_BadHouse___init__ "BadHouse.__init__" = true)
    (k_BadHouse___init__ : PySem.W.keepIn K (.ref f_BadHouse___init__) = true)
    (xL_BadHouse : K.lookup C_BadHouse = some (excClassObj nm_BadHouse q_BadHouse C_BadHouse N_BadHouse bs_BadHouse [.ref C_RestsError, .type "ValueError", .type "Exception", .type "BaseException", .type "object"] true sn_BadHouse su_BadHouse ab_BadHouse co_BadHouse dd_BadHouse m0_BadHouse m1_BadHouse m2_BadHouse m3_BadHouse m5_BadHouse "ValueError.__new__"))
    (sa_BadHouse : PySem.W.findIn K (.ref C_BadHouse) "__setattr__" = some (some (.builtin "object.__setattr__")))
    (eC_BadHouse : PySem.W.subIn K (.ref C_BadHouse) (.type "BaseException") = some true)
    (tC_BadHouse : PySem.W.typeIn K (.ref C_BadHouse) = some (.type "type"))
    (kC_BadHouse : PySem.W.keepIn K (.ref C_BadHouse) = true)
    (tI_BadHouse : PySem.W.typeIn K (.ref f_BadHouse___init__) = some (.type "function"))
    (nb_BadHouse_what : PySem.W.findIn K (.ref C_BadHouse) "what" = some none)
    (nb_BadHouse_place : PySem.W.findIn K (.ref C_BadHouse) "place" = some none)
    (a_BadLoad___init__ : PySem.W.findIn K (.ref C_BadLoad) "__init__" = some (some (.ref f_BadLoad___init__)))
    (l_BadLoad___init__ : K.lookup f_BadLoad___init__ = some ⟨oc_BadLoad___init__, od_BadLoad___init__, .func (PySem.W.fnOf "__init__" "BadLoad.__init__" (defArgs s_BadLoad___init__) (defBody s_BadLoad___init__) (defScope s_BadLoad___init__) .none kV_BadLoad___init__ dc_BadLoad___init__ pm_BadLoad___init__ an_BadLoad___init__ cd_BadLoad___init__ ct_BadLoad___init__), sl_BadLoad___init__⟩)
    (c_BadLoad___init__ : PySem.W.codeIn K cd_BadLoad___init__ "BadLoad.__init__" = true)
    (k_BadLoad___init__ : PySem.W.keepIn K (.ref f_BadLoad___init__) = true)
    (xL_BadLoad : K.lookup C_BadLoad = some (excClassObj nm_BadLoad q_BadLoad C_BadLoad N_BadLoad bs_BadLoad [.ref C_RestsError, .type "ValueError", .type "Exception", .type "BaseException", .type "object"] true sn_BadLoad su_BadLoad ab_BadLoad co_BadLoad dd_BadLoad m0_BadLoad m1_BadLoad m2_BadLoad m3_BadLoad m5_BadLoad "ValueError.__new__"))
    (sa_BadLoad : PySem.W.findIn K (.ref C_BadLoad) "__setattr__" = some (some (.builtin "object.__setattr__")))
    (eC_BadLoad : PySem.W.subIn K (.ref C_BadLoad) (.type "BaseException") = some true)
    (tC_BadLoad : PySem.W.typeIn K (.ref C_BadLoad) = some (.type "type"))
    (kC_BadLoad : PySem.W.keepIn K (.ref C_BadLoad) = true)
    (tI_BadLoad : PySem.W.typeIn K (.ref f_BadLoad___init__) = some (.type "function"))
    (nb_BadLoad_what : PySem.W.findIn K (.ref C_BadLoad) "what" = some none)
    (a_BadName___init__ : PySem.W.findIn K (.ref C_BadName) "__init__" = some (some (.ref f_BadName___init__)))
    (l_BadName___init__ : K.lookup f_BadName___init__ = some ⟨oc_BadName___init__, od_BadName___init__, .func (PySem.W.fnOf "__init__" "BadName.__init__" (defArgs s_BadName___init__) (defBody s_BadName___init__) (defScope s_BadName___init__) .none kV_BadName___init__ dc_BadName___init__ pm_BadName___init__ an_BadName___init__ cd_BadName___init__ ct_BadName___init__), sl_BadName___init__⟩)
    (c_BadName___init__ : PySem.W.codeIn K cd_BadName___init__ "BadName.__init__" = true)
    (k_BadName___init__ : PySem.W.keepIn K (.ref f_BadName___init__) = true)
    (xL_BadName : K.lookup C_BadName = some (excClassObj nm_BadName q_BadName C_BadName N_BadName bs_BadName [.ref C_RestsError, .type "ValueError", .type "Exception", .type "BaseException", .type "object"] true sn_BadName su_BadName ab_BadName co_BadName dd_BadName m0_BadName m1_BadName m2_BadName m3_BadName m5_BadName "ValueError.__new__"))
    (sa_BadName : PySem.W.findIn K (.ref C_BadName) "__setattr__" = some (some (.builtin "object.__setattr__")))
    (eC_BadName : PySem.W.subIn K (.ref C_BadName) (.type "BaseException") = some true)
    (tC_BadName : PySem.W.typeIn K (.ref C_BadName) = some (.type "type"))
    (kC_BadName : PySem.W.keepIn K (.ref C_BadName) = true)
    (tI_BadName : PySem.W.typeIn K (.ref f_BadName___init__) = some (.type "function"))
    (nb_BadName_name : PySem.W.findIn K (.ref C_BadName) "name" = some none)
    (a_BadNet___init__ : PySem.W.findIn K (.ref C_BadNet) "__init__" = some (some (.ref f_BadNet___init__)))
    (l_BadNet___init__ : K.lookup f_BadNet___init__ = some ⟨oc_BadNet___init__, od_BadNet___init__, .func (PySem.W.fnOf "__init__" "BadNet.__init__" (defArgs s_BadNet___init__) (defBody s_BadNet___init__) (defScope s_BadNet___init__) .none kV_BadNet___init__ dc_BadNet___init__ pm_BadNet___init__ an_BadNet___init__ cd_BadNet___init__ ct_BadNet___init__), sl_BadNet___init__⟩)
    (c_BadNet___init__ : PySem.W.codeIn K cd_BadNet___init__ "BadNet.__init__" = true)
    (k_BadNet___init__ : PySem.W.keepIn K (.ref f_BadNet___init__) = true)
    (xL_BadNet : K.lookup C_BadNet = some (excClassObj nm_BadNet q_BadNet C_BadNet N_BadNet bs_BadNet [.ref C_RestsError, .type "ValueError", .type "Exception", .type "BaseException", .type "object"] true sn_BadNet su_BadNet ab_BadNet co_BadNet dd_BadNet m0_BadNet m1_BadNet m2_BadNet m3_BadNet m5_BadNet "ValueError.__new__"))
    (sa_BadNet : PySem.W.findIn K (.ref C_BadNet) "__setattr__" = some (some (.builtin "object.__setattr__")))
    (eC_BadNet : PySem.W.subIn K (.ref C_BadNet) (.type "BaseException") = some true)
    (tC_BadNet : PySem.W.typeIn K (.ref C_BadNet) = some (.type "type"))
    (kC_BadNet : PySem.W.keepIn K (.ref C_BadNet) = true)
    (tI_BadNet : PySem.W.typeIn K (.ref f_BadNet___init__) = some (.type "function"))
    (nb_BadNet_what : PySem.W.findIn K (.ref C_BadNet) "what" = some none)
    (nb_BadNet_gate : PySem.W.findIn K (.ref C_BadNet) "gate" = some none)
    (a_BadNumber___init__ : PySem.W.findIn K (.ref C_BadNumber) "__init__" = some (some (.ref f_BadNumber___init__)))
    (l_BadNumber___init__ : K.lookup f_BadNumber___init__ = some ⟨oc_BadNumber___init__, od_BadNumber___init__, .func (PySem.W.fnOf "__init__" "BadNumber.__init__" (defArgs s_BadNumber___init__) (defBody s_BadNumber___init__) (defScope s_BadNumber___init__) .none kV_BadNumber___init__ dc_BadNumber___init__ pm_BadNumber___init__ an_BadNumber___init__ cd_BadNumber___init__ ct_BadNumber___init__), sl_BadNumber___init__⟩)
    (c_BadNumber___init__ : PySem.W.codeIn K cd_BadNumber___init__ "BadNumber.__init__" = true)
    (k_BadNumber___init__ : PySem.W.keepIn K (.ref f_BadNumber___init__) = true)
    (xL_BadNumber : K.lookup C_BadNumber = some (excClassObj nm_BadNumber q_BadNumber C_BadNumber N_BadNumber bs_BadNumber [.ref C_RestsError, .type "ValueError", .type "Exception", .type "BaseException", .type "object"] true sn_BadNumber su_BadNumber ab_BadNumber co_BadNumber dd_BadNumber m0_BadNumber m1_BadNumber m2_BadNumber m3_BadNumber m5_BadNumber "ValueError.__new__"))
    (sa_BadNumber : PySem.W.findIn K (.ref C_BadNumber) "__setattr__" = some (some (.builtin "object.__setattr__")))
    (eC_BadNumber : PySem.W.subIn K (.ref C_BadNumber) (.type "BaseException") = some true)
    (tC_BadNumber : PySem.W.typeIn K (.ref C_BadNumber) = some (.type "type"))
    (kC_BadNumber : PySem.W.keepIn K (.ref C_BadNumber) = true)
    (tI_BadNumber : PySem.W.typeIn K (.ref f_BadNumber___init__) = some (.type "function"))
    (nb_BadNumber_what : PySem.W.findIn K (.ref C_BadNumber) "what" = some none)
    (nb_BadNumber_number : PySem.W.findIn K (.ref C_BadNumber) "number" = some none)
    (a_BadRow___init__ : PySem.W.findIn K (.ref C_BadRow) "__init__" = some (some (.ref f_BadRow___init__)))
    (l_BadRow___init__ : K.lookup f_BadRow___init__ = some ⟨oc_BadRow___init__, od_BadRow___init__, .func (PySem.W.fnOf "__init__" "BadRow.__init__" (defArgs s_BadRow___init__) (defBody s_BadRow___init__) (defScope s_BadRow___init__) .none kV_BadRow___init__ dc_BadRow___init__ pm_BadRow___init__ an_BadRow___init__ cd_BadRow___init__ ct_BadRow___init__), sl_BadRow___init__⟩)
    (c_BadRow___init__ : PySem.W.codeIn K cd_BadRow___init__ "BadRow.__init__" = true)
    (k_BadRow___init__ : PySem.W.keepIn K (.ref f_BadRow___init__) = true)
    (xL_BadRow : K.lookup C_BadRow = some (excClassObj nm_BadRow q_BadRow C_BadRow N_BadRow bs_BadRow [.ref C_RestsError, .type "ValueError", .type "Exception", .type "BaseException", .type "object"] true sn_BadRow su_BadRow ab_BadRow co_BadRow dd_BadRow m0_BadRow m1_BadRow m2_BadRow m3_BadRow m5_BadRow "ValueError.__new__"))
    (sa_BadRow : PySem.W.findIn K (.ref C_BadRow) "__setattr__" = some (some (.builtin "object.__setattr__")))
    (eC_BadRow : PySem.W.subIn K (.ref C_BadRow) (.type "BaseException") = some true)
    (tC_BadRow : PySem.W.typeIn K (.ref C_BadRow) = some (.type "type"))
    (kC_BadRow : PySem.W.keepIn K (.ref C_BadRow) = true)
    (tI_BadRow : PySem.W.typeIn K (.ref f_BadRow___init__) = some (.type "function"))
    (nb_BadRow_what : PySem.W.findIn K (.ref C_BadRow) "what" = some none)
    (nb_BadRow_row : PySem.W.findIn K (.ref C_BadRow) "row" = some none)
    (a_BadTable___init__ : PySem.W.findIn K (.ref C_BadTable) "__init__" = some (some (.ref f_BadTable___init__)))
    (l_BadTable___init__ : K.lookup f_BadTable___init__ = some ⟨oc_BadTable___init__, od_BadTable___init__, .func (PySem.W.fnOf "__init__" "BadTable.__init__" (defArgs s_BadTable___init__) (defBody s_BadTable___init__) (defScope s_BadTable___init__) .none kV_BadTable___init__ dc_BadTable___init__ pm_BadTable___init__ an_BadTable___init__ cd_BadTable___init__ ct_BadTable___init__), sl_BadTable___init__⟩)
    (c_BadTable___init__ : PySem.W.codeIn K cd_BadTable___init__ "BadTable.__init__" = true)
    (k_BadTable___init__ : PySem.W.keepIn K (.ref f_BadTable___init__) = true)
    (xL_BadTable : K.lookup C_BadTable = some (excClassObj nm_BadTable q_BadTable C_BadTable N_BadTable bs_BadTable [.ref C_RestsError, .type "ValueError", .type "Exception", .type "BaseException", .type "object"] true sn_BadTable su_BadTable ab_BadTable co_BadTable dd_BadTable m0_BadTable m1_BadTable m2_BadTable m3_BadTable m5_BadTable "ValueError.__new__"))
    (sa_BadTable : PySem.W.findIn K (.ref C_BadTable) "__setattr__" = some (some (.builtin "object.__setattr__")))
    (eC_BadTable : PySem.W.subIn K (.ref C_BadTable) (.type "BaseException") = some true)
    (tC_BadTable : PySem.W.typeIn K (.ref C_BadTable) = some (.type "type"))
    (kC_BadTable : PySem.W.keepIn K (.ref C_BadTable) = true)
    (tI_BadTable : PySem.W.typeIn K (.ref f_BadTable___init__) = some (.type "function"))
    (nb_BadTable_what : PySem.W.findIn K (.ref C_BadTable) "what" = some none)
    (a_BadText___init__ : PySem.W.findIn K (.ref C_BadText) "__init__" = some (some (.ref f_BadText___init__)))
    (l_BadText___init__ : K.lookup f_BadText___init__ = some ⟨oc_BadText___init__, od_BadText___init__, .func (PySem.W.fnOf "__init__" "BadText.__init__" (defArgs s_BadText___init__) (defBody s_BadText___init__) (defScope s_BadText___init__) .none kV_BadText___init__ dc_BadText___init__ pm_BadText___init__ an_BadText___init__ cd_BadText___init__ ct_BadText___init__), sl_BadText___init__⟩)
    (c_BadText___init__ : PySem.W.codeIn K cd_BadText___init__ "BadText.__init__" = true)
    (k_BadText___init__ : PySem.W.keepIn K (.ref f_BadText___init__) = true)
    (xL_BadText : K.lookup C_BadText = some (excClassObj nm_BadText q_BadText C_BadText N_BadText bs_BadText [.ref C_RestsError, .type "ValueError", .type "Exception", .type "BaseException", .type "object"] true sn_BadText su_BadText ab_BadText co_BadText dd_BadText m0_BadText m1_BadText m2_BadText m3_BadText m5_BadText "ValueError.__new__"))
    (sa_BadText : PySem.W.findIn K (.ref C_BadText) "__setattr__" = some (some (.builtin "object.__setattr__")))
    (eC_BadText : PySem.W.subIn K (.ref C_BadText) (.type "BaseException") = some true)
    (tC_BadText : PySem.W.typeIn K (.ref C_BadText) = some (.type "type"))
    (kC_BadText : PySem.W.keepIn K (.ref C_BadText) = true)
    (tI_BadText : PySem.W.typeIn K (.ref f_BadText___init__) = some (.type "function"))
    (nb_BadText_line : PySem.W.findIn K (.ref C_BadText) "line" = some none)
    (nb_BadText_word : PySem.W.findIn K (.ref C_BadText) "word" = some none)
    (a_BadWeb___init__ : PySem.W.findIn K (.ref C_BadWeb) "__init__" = some (some (.ref f_BadWeb___init__)))
    (l_BadWeb___init__ : K.lookup f_BadWeb___init__ = some ⟨oc_BadWeb___init__, od_BadWeb___init__, .func (PySem.W.fnOf "__init__" "BadWeb.__init__" (defArgs s_BadWeb___init__) (defBody s_BadWeb___init__) (defScope s_BadWeb___init__) .none kV_BadWeb___init__ dc_BadWeb___init__ pm_BadWeb___init__ an_BadWeb___init__ cd_BadWeb___init__ ct_BadWeb___init__), sl_BadWeb___init__⟩)
    (c_BadWeb___init__ : PySem.W.codeIn K cd_BadWeb___init__ "BadWeb.__init__" = true)
    (k_BadWeb___init__ : PySem.W.keepIn K (.ref f_BadWeb___init__) = true)
    (xL_BadWeb : K.lookup C_BadWeb = some (excClassObj nm_BadWeb q_BadWeb C_BadWeb N_BadWeb bs_BadWeb [.ref C_RestsError, .type "ValueError", .type "Exception", .type "BaseException", .type "object"] true sn_BadWeb su_BadWeb ab_BadWeb co_BadWeb dd_BadWeb m0_BadWeb m1_BadWeb m2_BadWeb m3_BadWeb m5_BadWeb "ValueError.__new__"))
    (sa_BadWeb : PySem.W.findIn K (.ref C_BadWeb) "__setattr__" = some (some (.builtin "object.__setattr__")))
    (eC_BadWeb : PySem.W.subIn K (.ref C_BadWeb) (.type "BaseException") = some true)
    (tC_BadWeb : PySem.W.typeIn K (.ref C_BadWeb) = some (.type "type"))
    (kC_BadWeb : PySem.W.keepIn K (.ref C_BadWeb) = true)
    (tI_BadWeb : PySem.W.typeIn K (.ref f_BadWeb___init__) = some (.type "function"))
    (nb_BadWeb_what : PySem.W.findIn K (.ref C_BadWeb) "what" = some none)
    (nb_BadWeb_place : PySem.W.findIn K (.ref C_BadWeb) "place" = some none)
    (a_Flat___init__ : PySem.W.findIn K (.ref C_Flat) "__init__" = some (some (.ref f_Flat___init__)))
    (l_Flat___init__ : K.lookup f_Flat___init__ = some ⟨oc_Flat___init__, od_Flat___init__, .func (PySem.W.fnOf "__init__" "Flat.__init__" (defArgs s_Flat___init__) (defBody s_Flat___init__) (defScope s_Flat___init__) .none kV_Flat___init__ dc_Flat___init__ pm_Flat___init__ an_Flat___init__ cd_Flat___init__ ct_Flat___init__), sl_Flat___init__⟩)
    (c_Flat___init__ : PySem.W.codeIn K cd_Flat___init__ "Flat.__init__" = true)
    (k_Flat___init__ : PySem.W.keepIn K (.ref f_Flat___init__) = true)
    (xL_Flat : K.lookup C_Flat = some (excClassObj nm_Flat q_Flat C_Flat N_Flat bs_Flat [.ref C_RestsError, .type "ValueError", .type "Exception", .type "BaseException", .type "object"] true sn_Flat su_Flat ab_Flat co_Flat dd_Flat m0_Flat m1_Flat m2_Flat m3_Flat m5_Flat "ValueError.__new__"))
    (sa_Flat : PySem.W.findIn K (.ref C_Flat) "__setattr__" = some (some (.builtin "object.__setattr__")))
    (eC_Flat : PySem.W.subIn K (.ref C_Flat) (.type "BaseException") = some true)
    (tC_Flat : PySem.W.typeIn K (.ref C_Flat) = some (.type "type"))
    (kC_Flat : PySem.W.keepIn K (.ref C_Flat) = true)
    (tI_Flat : PySem.W.typeIn K (.ref f_Flat___init__) = some (.type "function"))
    (nb_Flat_choice : PySem.W.findIn K (.ref C_Flat) "choice" = some none)
    (a_NoName___init__ : PySem.W.findIn K (.ref C_NoName) "__init__" = some (some (.ref f_NoName___init__)))
    (l_NoName___init__ : K.lookup f_NoName___init__ = some ⟨oc_NoName___init__, od_NoName___init__, .func (PySem.W.fnOf "__init__" "NoName.__init__" (defArgs s_NoName___init__) (defBody s_NoName___init__) (defScope s_NoName___init__) .none kV_NoName___init__ dc_NoName___init__ pm_NoName___init__ an_NoName___init__ cd_NoName___init__ ct_NoName___init__), sl_NoName___init__⟩)
    (c_NoName___init__ : PySem.W.codeIn K cd_NoName___init__ "NoName.__init__" = true)
    (k_NoName___init__ : PySem.W.keepIn K (.ref f_NoName___init__) = true)
    (xL_NoName : K.lookup C_NoName = some (excClassObj nm_NoName q_NoName C_NoName N_NoName bs_NoName [.ref C_RestsError, .type "ValueError", .type "Exception", .type "BaseException", .type "object"] true sn_NoName su_NoName ab_NoName co_NoName dd_NoName m0_NoName m1_NoName m2_NoName m3_NoName m5_NoName "ValueError.__new__"))
    (sa_NoName : PySem.W.findIn K (.ref C_NoName) "__setattr__" = some (some (.builtin "object.__setattr__")))
    (eC_NoName : PySem.W.subIn K (.ref C_NoName) (.type "BaseException") = some true)
    (tC_NoName : PySem.W.typeIn K (.ref C_NoName) = some (.type "type"))
    (kC_NoName : PySem.W.keepIn K (.ref C_NoName) = true)
    (tI_NoName : PySem.W.typeIn K (.ref f_NoName___init__) = some (.type "function"))
    (nb_NoName_name : PySem.W.findIn K (.ref C_NoName) "name" = some none)
    (a_NoPlace___init__ : PySem.W.findIn K (.ref C_NoPlace) "__init__" = some (some (.ref f_NoPlace___init__)))
    (l_NoPlace___init__ : K.lookup f_NoPlace___init__ = some ⟨oc_NoPlace___init__, od_NoPlace___init__, .func (PySem.W.fnOf "__init__" "NoPlace.__init__" (defArgs s_NoPlace___init__) (defBody s_NoPlace___init__) (defScope s_NoPlace___init__) .none kV_NoPlace___init__ dc_NoPlace___init__ pm_NoPlace___init__ an_NoPlace___init__ cd_NoPlace___init__ ct_NoPlace___init__), sl_NoPlace___init__⟩)
    (c_NoPlace___init__ : PySem.W.codeIn K cd_NoPlace___init__ "NoPlace.__init__" = true)
    (k_NoPlace___init__ : PySem.W.keepIn K (.ref f_NoPlace___init__) = true)
    (xL_NoPlace : K.lookup C_NoPlace = some (excClassObj nm_NoPlace q_NoPlace C_NoPlace N_NoPlace bs_NoPlace [.ref C_RestsError, .type "ValueError", .type "Exception", .type "BaseException", .type "object"] true sn_NoPlace su_NoPlace ab_NoPlace co_NoPlace dd_NoPlace m0_NoPlace m1_NoPlace m2_NoPlace m3_NoPlace m5_NoPlace "ValueError.__new__"))
    (sa_NoPlace : PySem.W.findIn K (.ref C_NoPlace) "__setattr__" = some (some (.builtin "object.__setattr__")))
    (eC_NoPlace : PySem.W.subIn K (.ref C_NoPlace) (.type "BaseException") = some true)
    (tC_NoPlace : PySem.W.typeIn K (.ref C_NoPlace) = some (.type "type"))
    (kC_NoPlace : PySem.W.keepIn K (.ref C_NoPlace) = true)
    (tI_NoPlace : PySem.W.typeIn K (.ref f_NoPlace___init__) = some (.type "function"))
    (nb_NoPlace_place : PySem.W.findIn K (.ref C_NoPlace) "place" = some none)
    (a_NoRow___init__ : PySem.W.findIn K (.ref C_NoRow) "__init__" = some (some (.ref f_NoRow___init__)))
    (l_NoRow___init__ : K.lookup f_NoRow___init__ = some ⟨oc_NoRow___init__, od_NoRow___init__, .func (PySem.W.fnOf "__init__" "NoRow.__init__" (defArgs s_NoRow___init__) (defBody s_NoRow___init__) (defScope s_NoRow___init__) .none kV_NoRow___init__ dc_NoRow___init__ pm_NoRow___init__ an_NoRow___init__ cd_NoRow___init__ ct_NoRow___init__), sl_NoRow___init__⟩)
    (c_NoRow___init__ : PySem.W.codeIn K cd_NoRow___init__ "NoRow.__init__" = true)
    (k_NoRow___init__ : PySem.W.keepIn K (.ref f_NoRow___init__) = true)
    (xL_NoRow : K.lookup C_NoRow = some (excClassObj nm_NoRow q_NoRow C_NoRow N_NoRow bs_NoRow [.ref C_RestsError, .type "ValueError", .type "Exception", .type "BaseException", .type "object"] true sn_NoRow su_NoRow ab_NoRow co_NoRow dd_NoRow m0_NoRow m1_NoRow m2_NoRow m3_NoRow m5_NoRow "ValueError.__new__"))
    (sa_NoRow : PySem.W.findIn K (.ref C_NoRow) "__setattr__" = some (some (.builtin "object.__setattr__")))
    (eC_NoRow : PySem.W.subIn K (.ref C_NoRow) (.type "BaseException") = some true)
    (tC_NoRow : PySem.W.typeIn K (.ref C_NoRow) = some (.type "type"))
    (kC_NoRow : PySem.W.keepIn K (.ref C_NoRow) = true)
    (tI_NoRow : PySem.W.typeIn K (.ref f_NoRow___init__) = some (.type "function"))
    (nb_NoRow_place : PySem.W.findIn K (.ref C_NoRow) "place" = some none)
    (nb_NoRow_row : PySem.W.findIn K (.ref C_NoRow) "row" = some none)
    (a_NoWall___init__ : PySem.W.findIn K (.ref C_NoWall) "__init__" = some (some (.ref f_NoWall___init__)))
    (l_NoWall___init__ : K.lookup f_NoWall___init__ = some ⟨oc_NoWall___init__, od_NoWall___init__, .func (PySem.W.fnOf "__init__" "NoWall.__init__" (defArgs s_NoWall___init__) (defBody s_NoWall___init__) (defScope s_NoWall___init__) .none kV_NoWall___init__ dc_NoWall___init__ pm_NoWall___init__ an_NoWall___init__ cd_NoWall___init__ ct_NoWall___init__), sl_NoWall___init__⟩)
    (c_NoWall___init__ : PySem.W.codeIn K cd_NoWall___init__ "NoWall.__init__" = true)
    (k_NoWall___init__ : PySem.W.keepIn K (.ref f_NoWall___init__) = true)
    (xL_NoWall : K.lookup C_NoWall = some (excClassObj nm_NoWall q_NoWall C_NoWall N_NoWall bs_NoWall [.ref C_RestsError, .type "ValueError", .type "Exception", .type "BaseException", .type "object"] true sn_NoWall su_NoWall ab_NoWall co_NoWall dd_NoWall m0_NoWall m1_NoWall m2_NoWall m3_NoWall m5_NoWall "ValueError.__new__"))
    (sa_NoWall : PySem.W.findIn K (.ref C_NoWall) "__setattr__" = some (some (.builtin "object.__setattr__")))
    (eC_NoWall : PySem.W.subIn K (.ref C_NoWall) (.type "BaseException") = some true)
    (tC_NoWall : PySem.W.typeIn K (.ref C_NoWall) = some (.type "type"))
    (kC_NoWall : PySem.W.keepIn K (.ref C_NoWall) = true)
    (tI_NoWall : PySem.W.typeIn K (.ref f_NoWall___init__) = some (.type "function"))
    (nb_NoWall_place : PySem.W.findIn K (.ref C_NoWall) "place" = some none)
    (a_NotKept___init__ : PySem.W.findIn K (.ref C_NotKept) "__init__" = some (some (.ref f_NotKept___init__)))
    (l_NotKept___init__ : K.lookup f_NotKept___init__ = some ⟨oc_NotKept___init__, od_NotKept___init__, .func (PySem.W.fnOf "__init__" "NotKept.__init__" (defArgs s_NotKept___init__) (defBody s_NotKept___init__) (defScope s_NotKept___init__) .none kV_NotKept___init__ dc_NotKept___init__ pm_NotKept___init__ an_NotKept___init__ cd_NotKept___init__ ct_NotKept___init__), sl_NotKept___init__⟩)
    (c_NotKept___init__ : PySem.W.codeIn K cd_NotKept___init__ "NotKept.__init__" = true)
    (k_NotKept___init__ : PySem.W.keepIn K (.ref f_NotKept___init__) = true)
    (xL_NotKept : K.lookup C_NotKept = some (excClassObj nm_NotKept q_NotKept C_NotKept N_NotKept bs_NotKept [.ref C_RestsError, .type "ValueError", .type "Exception", .type "BaseException", .type "object"] true sn_NotKept su_NotKept ab_NotKept co_NotKept dd_NotKept m0_NotKept m1_NotKept m2_NotKept m3_NotKept m5_NotKept "ValueError.__new__"))
    (sa_NotKept : PySem.W.findIn K (.ref C_NotKept) "__setattr__" = some (some (.builtin "object.__setattr__")))
    (eC_NotKept : PySem.W.subIn K (.ref C_NotKept) (.type "BaseException") = some true)
    (tC_NotKept : PySem.W.typeIn K (.ref C_NotKept) = some (.type "type"))
    (kC_NotKept : PySem.W.keepIn K (.ref C_NotKept) = true)
    (tI_NotKept : PySem.W.typeIn K (.ref f_NotKept___init__) = some (.type "function"))
    (nb_NotKept_promise : PySem.W.findIn K (.ref C_NotKept) "promise" = some none)
    (nb_NotKept_witness : PySem.W.findIn K (.ref C_NotKept) "witness" = some none)
    (a_NotOnce___init__ : PySem.W.findIn K (.ref C_NotOnce) "__init__" = some (some (.ref f_NotOnce___init__)))
    (l_NotOnce___init__ : K.lookup f_NotOnce___init__ = some ⟨oc_NotOnce___init__, od_NotOnce___init__, .func (PySem.W.fnOf "__init__" "NotOnce.__init__" (defArgs s_NotOnce___init__) (defBody s_NotOnce___init__) (defScope s_NotOnce___init__) .none kV_NotOnce___init__ dc_NotOnce___init__ pm_NotOnce___init__ an_NotOnce___init__ cd_NotOnce___init__ ct_NotOnce___init__), sl_NotOnce___init__⟩)
    (c_NotOnce___init__ : PySem.W.codeIn K cd_NotOnce___init__ "NotOnce.__init__" = true)
    (k_NotOnce___init__ : PySem.W.keepIn K (.ref f_NotOnce___init__) = true)
    (xL_NotOnce : K.lookup C_NotOnce = some (excClassObj nm_NotOnce q_NotOnce C_NotOnce N_NotOnce bs_NotOnce [.ref C_RestsError, .type "ValueError", .type "Exception", .type "BaseException", .type "object"] true sn_NotOnce su_NotOnce ab_NotOnce co_NotOnce dd_NotOnce m0_NotOnce m1_NotOnce m2_NotOnce m3_NotOnce m5_NotOnce "ValueError.__new__"))
    (sa_NotOnce : PySem.W.findIn K (.ref C_NotOnce) "__setattr__" = some (some (.builtin "object.__setattr__")))
    (eC_NotOnce : PySem.W.subIn K (.ref C_NotOnce) (.type "BaseException") = some true)
    (tC_NotOnce : PySem.W.typeIn K (.ref C_NotOnce) = some (.type "type"))
    (kC_NotOnce : PySem.W.keepIn K (.ref C_NotOnce) = true)
    (tI_NotOnce : PySem.W.typeIn K (.ref f_NotOnce___init__) = some (.type "function"))
    (nb_NotOnce_row : PySem.W.findIn K (.ref C_NotOnce) "row" = some none)
    (a_NotPlain___init__ : PySem.W.findIn K (.ref C_NotPlain) "__init__" = some (some (.ref f_NotPlain___init__)))
    (l_NotPlain___init__ : K.lookup f_NotPlain___init__ = some ⟨oc_NotPlain___init__, od_NotPlain___init__, .func (PySem.W.fnOf "__init__" "NotPlain.__init__" (defArgs s_NotPlain___init__) (defBody s_NotPlain___init__) (defScope s_NotPlain___init__) .none kV_NotPlain___init__ dc_NotPlain___init__ pm_NotPlain___init__ an_NotPlain___init__ cd_NotPlain___init__ ct_NotPlain___init__), sl_NotPlain___init__⟩)
    (c_NotPlain___init__ : PySem.W.codeIn K cd_NotPlain___init__ "NotPlain.__init__" = true)
    (k_NotPlain___init__ : PySem.W.keepIn K (.ref f_NotPlain___init__) = true)
    (xL_NotPlain : K.lookup C_NotPlain = some (excClassObj nm_NotPlain q_NotPlain C_NotPlain N_NotPlain bs_NotPlain [.ref C_RestsError, .type "ValueError", .type "Exception", .type "BaseException", .type "object"] true sn_NotPlain su_NotPlain ab_NotPlain co_NotPlain dd_NotPlain m0_NotPlain m1_NotPlain m2_NotPlain m3_NotPlain m5_NotPlain "ValueError.__new__"))
    (sa_NotPlain : PySem.W.findIn K (.ref C_NotPlain) "__setattr__" = some (some (.builtin "object.__setattr__")))
    (eC_NotPlain : PySem.W.subIn K (.ref C_NotPlain) (.type "BaseException") = some true)
    (tC_NotPlain : PySem.W.typeIn K (.ref C_NotPlain) = some (.type "type"))
    (kC_NotPlain : PySem.W.keepIn K (.ref C_NotPlain) = true)
    (tI_NotPlain : PySem.W.typeIn K (.ref f_NotPlain___init__) = some (.type "function"))
    (nb_NotPlain_choice : PySem.W.findIn K (.ref C_NotPlain) "choice" = some none)
    (a_TakenName___init__ : PySem.W.findIn K (.ref C_TakenName) "__init__" = some (some (.ref f_TakenName___init__)))
    (l_TakenName___init__ : K.lookup f_TakenName___init__ = some ⟨oc_TakenName___init__, od_TakenName___init__, .func (PySem.W.fnOf "__init__" "TakenName.__init__" (defArgs s_TakenName___init__) (defBody s_TakenName___init__) (defScope s_TakenName___init__) .none kV_TakenName___init__ dc_TakenName___init__ pm_TakenName___init__ an_TakenName___init__ cd_TakenName___init__ ct_TakenName___init__), sl_TakenName___init__⟩)
    (c_TakenName___init__ : PySem.W.codeIn K cd_TakenName___init__ "TakenName.__init__" = true)
    (k_TakenName___init__ : PySem.W.keepIn K (.ref f_TakenName___init__) = true)
    (xL_TakenName : K.lookup C_TakenName = some (excClassObj nm_TakenName q_TakenName C_TakenName N_TakenName bs_TakenName [.ref C_RestsError, .type "ValueError", .type "Exception", .type "BaseException", .type "object"] true sn_TakenName su_TakenName ab_TakenName co_TakenName dd_TakenName m0_TakenName m1_TakenName m2_TakenName m3_TakenName m5_TakenName "ValueError.__new__"))
    (sa_TakenName : PySem.W.findIn K (.ref C_TakenName) "__setattr__" = some (some (.builtin "object.__setattr__")))
    (eC_TakenName : PySem.W.subIn K (.ref C_TakenName) (.type "BaseException") = some true)
    (tC_TakenName : PySem.W.typeIn K (.ref C_TakenName) = some (.type "type"))
    (kC_TakenName : PySem.W.keepIn K (.ref C_TakenName) = true)
    (tI_TakenName : PySem.W.typeIn K (.ref f_TakenName___init__) = some (.type "function"))
    (nb_TakenName_name : PySem.W.findIn K (.ref C_TakenName) "name" = some none)
    (a_TooMany___init__ : PySem.W.findIn K (.ref C_TooMany) "__init__" = some (some (.ref f_TooMany___init__)))
    (l_TooMany___init__ : K.lookup f_TooMany___init__ = some ⟨oc_TooMany___init__, od_TooMany___init__, .func (PySem.W.fnOf "__init__" "TooMany.__init__" (defArgs s_TooMany___init__) (defBody s_TooMany___init__) (defScope s_TooMany___init__) .none kV_TooMany___init__ dc_TooMany___init__ pm_TooMany___init__ an_TooMany___init__ cd_TooMany___init__ ct_TooMany___init__), sl_TooMany___init__⟩)
    (c_TooMany___init__ : PySem.W.codeIn K cd_TooMany___init__ "TooMany.__init__" = true)
    (k_TooMany___init__ : PySem.W.keepIn K (.ref f_TooMany___init__) = true)
    (xL_TooMany : K.lookup C_TooMany = some (excClassObj nm_TooMany q_TooMany C_TooMany N_TooMany bs_TooMany [.ref C_RestsError, .type "ValueError", .type "Exception", .type "BaseException", .type "object"] true sn_TooMany su_TooMany ab_TooMany co_TooMany dd_TooMany m0_TooMany m1_TooMany m2_TooMany m3_TooMany m5_TooMany "ValueError.__new__"))
    (sa_TooMany : PySem.W.findIn K (.ref C_TooMany) "__setattr__" = some (some (.builtin "object.__setattr__")))
    (eC_TooMany : PySem.W.subIn K (.ref C_TooMany) (.type "BaseException") = some true)
    (tC_TooMany : PySem.W.typeIn K (.ref C_TooMany) = some (.type "type"))
    (kC_TooMany : PySem.W.keepIn K (.ref C_TooMany) = true)
    (tI_TooMany : PySem.W.typeIn K (.ref f_TooMany___init__) = some (.type "function"))
    (nb_TooMany_what : PySem.W.findIn K (.ref C_TooMany) "what" = some none)
    (nb_TooMany_many : PySem.W.findIn K (.ref C_TooMany) "many" = some none)
    (nb_TooMany_limit : PySem.W.findIn K (.ref C_TooMany) "limit" = some none)
    (a_Unlike___init__ : PySem.W.findIn K (.ref C_Unlike) "__init__" = some (some (.ref f_Unlike___init__)))
    (l_Unlike___init__ : K.lookup f_Unlike___init__ = some ⟨oc_Unlike___init__, od_Unlike___init__, .func (PySem.W.fnOf "__init__" "Unlike.__init__" (defArgs s_Unlike___init__) (defBody s_Unlike___init__) (defScope s_Unlike___init__) .none kV_Unlike___init__ dc_Unlike___init__ pm_Unlike___init__ an_Unlike___init__ cd_Unlike___init__ ct_Unlike___init__), sl_Unlike___init__⟩)
    (c_Unlike___init__ : PySem.W.codeIn K cd_Unlike___init__ "Unlike.__init__" = true)
    (k_Unlike___init__ : PySem.W.keepIn K (.ref f_Unlike___init__) = true)
    (xL_Unlike : K.lookup C_Unlike = some (excClassObj nm_Unlike q_Unlike C_Unlike N_Unlike bs_Unlike [.ref C_RestsError, .type "ValueError", .type "Exception", .type "BaseException", .type "object"] true sn_Unlike su_Unlike ab_Unlike co_Unlike dd_Unlike m0_Unlike m1_Unlike m2_Unlike m3_Unlike m5_Unlike "ValueError.__new__"))
    (sa_Unlike : PySem.W.findIn K (.ref C_Unlike) "__setattr__" = some (some (.builtin "object.__setattr__")))
    (eC_Unlike : PySem.W.subIn K (.ref C_Unlike) (.type "BaseException") = some true)
    (tC_Unlike : PySem.W.typeIn K (.ref C_Unlike) = some (.type "type"))
    (kC_Unlike : PySem.W.keepIn K (.ref C_Unlike) = true)
    (tI_Unlike : PySem.W.typeIn K (.ref f_Unlike___init__) = some (.type "function"))
    (nb_Unlike_what : PySem.W.findIn K (.ref C_Unlike) "what" = some none)
    (z_ValueError : PySem.W.nsIn K mainGlobals "ValueError" = some none)
    (z_int : PySem.W.nsIn K mainGlobals "int" = some none)
    (z_isinstance : PySem.W.nsIn K mainGlobals "isinstance" = some none)
    (z_len : PySem.W.nsIn K mainGlobals "len" = some none)
    (z_list : PySem.W.nsIn K mainGlobals "list" = some none)
    (z_range : PySem.W.nsIn K mainGlobals "range" = some none)
    (z_repr : PySem.W.nsIn K mainGlobals "repr" = some none)
    (cl_BadFrame : (PySem.W.clsIn K C_BadFrame).isSome = true)
    (ga_BadFrame : PySem.W.findIn K (.ref C_BadFrame) "__getattribute__" = some (some (.builtin "BaseException.__getattribute__")))
    (gg_BadFrame : PySem.W.findIn K (.ref C_BadFrame) "__getattr__" = some none)
    (fc_BadFrame : PySem.W.findIn K (.ref C_BadFrame) "__class__" = some (some (.builtin "object.__class__")))
    (mo_BadFrame : PySem.W.mroIn K C_BadFrame (.type "object") = some true)
    (hD_BadFrame : PySem.W.hasDictIn K C_BadFrame = true)
    (ve_BadFrame : PySem.W.kitOne K (.ref C_BadFrame) (.type "ValueError") = some true)
    (er_BadFrame : PySem.W.exmOne K (.ref C_BadFrame) (.ref C_RestsError) = some true)
    (kt_BadFrame_BadFrame : PySem.W.kitOne K (.ref C_BadFrame) (.ref C_BadFrame) = some true)
    (kt_BadFrame_BadHouse : PySem.W.kitOne K (.ref C_BadFrame) (.ref C_BadHouse) = some false)
    (kt_BadFrame_BadLoad : PySem.W.kitOne K (.ref C_BadFrame) (.ref C_BadLoad) = some false)
    (kt_BadFrame_BadName : PySem.W.kitOne K (.ref C_BadFrame) (.ref C_BadName) = some false)
    (kt_BadFrame_BadNet : PySem.W.kitOne K (.ref C_BadFrame) (.ref C_BadNet) = some false)
    (kt_BadFrame_BadNumber : PySem.W.kitOne K (.ref C_BadFrame) (.ref C_BadNumber) = some false)
    (kt_BadFrame_BadRow : PySem.W.kitOne K (.ref C_BadFrame) (.ref C_BadRow) = some false)
    (kt_BadFrame_BadTable : PySem.W.kitOne K (.ref C_BadFrame) (.ref C_BadTable) = some false)
    (kt_BadFrame_BadText : PySem.W.kitOne K (.ref C_BadFrame) (.ref C_BadText) = some false)
    (kt_BadFrame_BadWeb : PySem.W.kitOne K (.ref C_BadFrame) (.ref C_BadWeb) = some false)
    (kt_BadFrame_Flat : PySem.W.kitOne K (.ref C_BadFrame) (.ref C_Flat) = some false)
    (kt_BadFrame_NoName : PySem.W.kitOne K (.ref C_BadFrame) (.ref C_NoName) = some false)
    (kt_BadFrame_NoPlace : PySem.W.kitOne K (.ref C_BadFrame) (.ref C_NoPlace) = some false)
    (kt_BadFrame_NoRow : PySem.W.kitOne K (.ref C_BadFrame) (.ref C_NoRow) = some false)
    (kt_BadFrame_NoWall : PySem.W.kitOne K (.ref C_BadFrame) (.ref C_NoWall) = some false)
    (kt_BadFrame_NotKept : PySem.W.kitOne K (.ref C_BadFrame) (.ref C_NotKept) = some false)
    (kt_BadFrame_NotOnce : PySem.W.kitOne K (.ref C_BadFrame) (.ref C_NotOnce) = some false)
    (kt_BadFrame_NotPlain : PySem.W.kitOne K (.ref C_BadFrame) (.ref C_NotPlain) = some false)
    (kt_BadFrame_NothingToRedo : PySem.W.kitOne K (.ref C_BadFrame) (.ref C_NothingToRedo) = some false)
    (kt_BadFrame_NothingToUndo : PySem.W.kitOne K (.ref C_BadFrame) (.ref C_NothingToUndo) = some false)
    (kt_BadFrame_TakenName : PySem.W.kitOne K (.ref C_BadFrame) (.ref C_TakenName) = some false)
    (kt_BadFrame_TooMany : PySem.W.kitOne K (.ref C_BadFrame) (.ref C_TooMany) = some false)
    (kt_BadFrame_Unlike : PySem.W.kitOne K (.ref C_BadFrame) (.ref C_Unlike) = some false)
    (cl_BadHouse : (PySem.W.clsIn K C_BadHouse).isSome = true)
    (ga_BadHouse : PySem.W.findIn K (.ref C_BadHouse) "__getattribute__" = some (some (.builtin "BaseException.__getattribute__")))
    (gg_BadHouse : PySem.W.findIn K (.ref C_BadHouse) "__getattr__" = some none)
    (fc_BadHouse : PySem.W.findIn K (.ref C_BadHouse) "__class__" = some (some (.builtin "object.__class__")))
    (mo_BadHouse : PySem.W.mroIn K C_BadHouse (.type "object") = some true)
    (hD_BadHouse : PySem.W.hasDictIn K C_BadHouse = true)
    (ve_BadHouse : PySem.W.kitOne K (.ref C_BadHouse) (.type "ValueError") = some true)
    (er_BadHouse : PySem.W.exmOne K (.ref C_BadHouse) (.ref C_RestsError) = some true)
    (kt_BadHouse_BadFrame : PySem.W.kitOne K (.ref C_BadHouse) (.ref C_BadFrame) = some false)
    (kt_BadHouse_BadHouse : PySem.W.kitOne K (.ref C_BadHouse) (.ref C_BadHouse) = some true)
    (kt_BadHouse_BadLoad : PySem.W.kitOne K (.ref C_BadHouse) (.ref C_BadLoad) = some false)
    (kt_BadHouse_BadName : PySem.W.kitOne K (.ref C_BadHouse) (.ref C_BadName) = some false)
    (kt_BadHouse_BadNet : PySem.W.kitOne K (.ref C_BadHouse) (.ref C_BadNet) = some false)
    (kt_BadHouse_BadNumber : PySem.W.kitOne K (.ref C_BadHouse) (.ref C_BadNumber) = some false)
    (kt_BadHouse_BadRow : PySem.W.kitOne K (.ref C_BadHouse) (.ref C_BadRow) = some false)
    (kt_BadHouse_BadTable : PySem.W.kitOne K (.ref C_BadHouse) (.ref C_BadTable) = some false)
    (kt_BadHouse_BadText : PySem.W.kitOne K (.ref C_BadHouse) (.ref C_BadText) = some false)
    (kt_BadHouse_BadWeb : PySem.W.kitOne K (.ref C_BadHouse) (.ref C_BadWeb) = some false)
    (kt_BadHouse_Flat : PySem.W.kitOne K (.ref C_BadHouse) (.ref C_Flat) = some false)
    (kt_BadHouse_NoName : PySem.W.kitOne K (.ref C_BadHouse) (.ref C_NoName) = some false)
    (kt_BadHouse_NoPlace : PySem.W.kitOne K (.ref C_BadHouse) (.ref C_NoPlace) = some false)
    (kt_BadHouse_NoRow : PySem.W.kitOne K (.ref C_BadHouse) (.ref C_NoRow) = some false)
    (kt_BadHouse_NoWall : PySem.W.kitOne K (.ref C_BadHouse) (.ref C_NoWall) = some false)
    (kt_BadHouse_NotKept : PySem.W.kitOne K (.ref C_BadHouse) (.ref C_NotKept) = some false)
    (kt_BadHouse_NotOnce : PySem.W.kitOne K (.ref C_BadHouse) (.ref C_NotOnce) = some false)
    (kt_BadHouse_NotPlain : PySem.W.kitOne K (.ref C_BadHouse) (.ref C_NotPlain) = some false)
    (kt_BadHouse_NothingToRedo : PySem.W.kitOne K (.ref C_BadHouse) (.ref C_NothingToRedo) = some false)
    (kt_BadHouse_NothingToUndo : PySem.W.kitOne K (.ref C_BadHouse) (.ref C_NothingToUndo) = some false)
    (kt_BadHouse_TakenName : PySem.W.kitOne K (.ref C_BadHouse) (.ref C_TakenName) = some false)
    (kt_BadHouse_TooMany : PySem.W.kitOne K (.ref C_BadHouse) (.ref C_TooMany) = some false)
    (kt_BadHouse_Unlike : PySem.W.kitOne K (.ref C_BadHouse) (.ref C_Unlike) = some false)
    (cl_BadLoad : (PySem.W.clsIn K C_BadLoad).isSome = true)
    (ga_BadLoad : PySem.W.findIn K (.ref C_BadLoad) "__getattribute__" = some (some (.builtin "BaseException.__getattribute__")))
    (gg_BadLoad : PySem.W.findIn K (.ref C_BadLoad) "__getattr__" = some none)
    (fc_BadLoad : PySem.W.findIn K (.ref C_BadLoad) "__class__" = some (some (.builtin "object.__class__")))
    (mo_BadLoad : PySem.W.mroIn K C_BadLoad (.type "object") = some true)
    (hD_BadLoad : PySem.W.hasDictIn K C_BadLoad = true)
    (ve_BadLoad : PySem.W.kitOne K (.ref C_BadLoad) (.type "ValueError") = some true)
    (er_BadLoad : PySem.W.exmOne K (.ref C_BadLoad) (.ref C_RestsError) = some true)
    (kt_BadLoad_BadFrame : PySem.W.kitOne K (.ref C_BadLoad) (.ref C_BadFrame) = some false)
    (kt_BadLoad_BadHouse : PySem.W.kitOne K (.ref C_BadLoad) (.ref C_BadHouse) = some false)
    (kt_BadLoad_BadLoad : PySem.W.kitOne K (.ref C_BadLoad) (.ref C_BadLoad) = some true)
    (kt_BadLoad_BadName : PySem.W.kitOne K (.ref C_BadLoad) (.ref C_BadName) = some false)
    (kt_BadLoad_BadNet : PySem.W.kitOne K (.ref C_BadLoad) (.ref C_BadNet) = some false)
    (kt_BadLoad_BadNumber : PySem.W.kitOne K (.ref C_BadLoad) (.ref C_BadNumber) = some false)
    (kt_BadLoad_BadRow : PySem.W.kitOne K (.ref C_BadLoad) (.ref C_BadRow) = some false)
    (kt_BadLoad_BadTable : PySem.W.kitOne K (.ref C_BadLoad) (.ref C_BadTable) = some false)
    (kt_BadLoad_BadText : PySem.W.kitOne K (.ref C_BadLoad) (.ref C_BadText) = some false)
    (kt_BadLoad_BadWeb : PySem.W.kitOne K (.ref C_BadLoad) (.ref C_BadWeb) = some false)
    (kt_BadLoad_Flat : PySem.W.kitOne K (.ref C_BadLoad) (.ref C_Flat) = some false)
    (kt_BadLoad_NoName : PySem.W.kitOne K (.ref C_BadLoad) (.ref C_NoName) = some false)
    (kt_BadLoad_NoPlace : PySem.W.kitOne K (.ref C_BadLoad) (.ref C_NoPlace) = some false)
    (kt_BadLoad_NoRow : PySem.W.kitOne K (.ref C_BadLoad) (.ref C_NoRow) = some false)
    (kt_BadLoad_NoWall : PySem.W.kitOne K (.ref C_BadLoad) (.ref C_NoWall) = some false)
    (kt_BadLoad_NotKept : PySem.W.kitOne K (.ref C_BadLoad) (.ref C_NotKept) = some false)
    (kt_BadLoad_NotOnce : PySem.W.kitOne K (.ref C_BadLoad) (.ref C_NotOnce) = some false)
    (kt_BadLoad_NotPlain : PySem.W.kitOne K (.ref C_BadLoad) (.ref C_NotPlain) = some false)
    (kt_BadLoad_NothingToRedo : PySem.W.kitOne K (.ref C_BadLoad) (.ref C_NothingToRedo) = some false)
    (kt_BadLoad_NothingToUndo : PySem.W.kitOne K (.ref C_BadLoad) (.ref C_NothingToUndo) = some false)
    (kt_BadLoad_TakenName : PySem.W.kitOne K (.ref C_BadLoad) (.ref C_TakenName) = some false)
    (kt_BadLoad_TooMany : PySem.W.kitOne K (.ref C_BadLoad) (.ref C_TooMany) = some false)
    (kt_BadLoad_Unlike : PySem.W.kitOne K (.ref C_BadLoad) (.ref C_Unlike) = some false)
    (cl_BadName : (PySem.W.clsIn K C_BadName).isSome = true)
    (ga_BadName : PySem.W.findIn K (.ref C_BadName) "__getattribute__" = some (some (.builtin "BaseException.__getattribute__")))
    (gg_BadName : PySem.W.findIn K (.ref C_BadName) "__getattr__" = some none)
    (fc_BadName : PySem.W.findIn K (.ref C_BadName) "__class__" = some (some (.builtin "object.__class__")))
    (mo_BadName : PySem.W.mroIn K C_BadName (.type "object") = some true)
    (hD_BadName : PySem.W.hasDictIn K C_BadName = true)
    (ve_BadName : PySem.W.kitOne K (.ref C_BadName) (.type "ValueError") = some true)
    (er_BadName : PySem.W.exmOne K (.ref C_BadName) (.ref C_RestsError) = some true)
    (kt_BadName_BadFrame : PySem.W.kitOne K (.ref C_BadName) (.ref C_BadFrame) = some false)
    (kt_BadName_BadHouse : PySem.W.kitOne K (.ref C_BadName) (.ref C_BadHouse) = some false)
    (kt_BadName_BadLoad : PySem.W.kitOne K (.ref C_BadName) (.ref C_BadLoad) = some false)
    (kt_BadName_BadName : PySem.W.kitOne K (.ref C_BadName) (.ref C_BadName) = some true)
    (kt_BadName_BadNet : PySem.W.kitOne K (.ref C_BadName) (.ref C_BadNet) = some false)
    (kt_BadName_BadNumber : PySem.W.kitOne K (.ref C_BadName) (.ref C_BadNumber) = some false)
    (kt_BadName_BadRow : PySem.W.kitOne K (.ref C_BadName) (.ref C_BadRow) = some false)
    (kt_BadName_BadTable : PySem.W.kitOne K (.ref C_BadName) (.ref C_BadTable) = some false)
    (kt_BadName_BadText : PySem.W.kitOne K (.ref C_BadName) (.ref C_BadText) = some false)
    (kt_BadName_BadWeb : PySem.W.kitOne K (.ref C_BadName) (.ref C_BadWeb) = some false)
    (kt_BadName_Flat : PySem.W.kitOne K (.ref C_BadName) (.ref C_Flat) = some false)
    (kt_BadName_NoName : PySem.W.kitOne K (.ref C_BadName) (.ref C_NoName) = some false)
    (kt_BadName_NoPlace : PySem.W.kitOne K (.ref C_BadName) (.ref C_NoPlace) = some false)
    (kt_BadName_NoRow : PySem.W.kitOne K (.ref C_BadName) (.ref C_NoRow) = some false)
    (kt_BadName_NoWall : PySem.W.kitOne K (.ref C_BadName) (.ref C_NoWall) = some false)
    (kt_BadName_NotKept : PySem.W.kitOne K (.ref C_BadName) (.ref C_NotKept) = some false)
    (kt_BadName_NotOnce : PySem.W.kitOne K (.ref C_BadName) (.ref C_NotOnce) = some false)
    (kt_BadName_NotPlain : PySem.W.kitOne K (.ref C_BadName) (.ref C_NotPlain) = some false)
    (kt_BadName_NothingToRedo : PySem.W.kitOne K (.ref C_BadName) (.ref C_NothingToRedo) = some false)
    (kt_BadName_NothingToUndo : PySem.W.kitOne K (.ref C_BadName) (.ref C_NothingToUndo) = some false)
    (kt_BadName_TakenName : PySem.W.kitOne K (.ref C_BadName) (.ref C_TakenName) = some false)
    (kt_BadName_TooMany : PySem.W.kitOne K (.ref C_BadName) (.ref C_TooMany) = some false)
    (kt_BadName_Unlike : PySem.W.kitOne K (.ref C_BadName) (.ref C_Unlike) = some false)
    (cl_BadNet : (PySem.W.clsIn K C_BadNet).isSome = true)
    (ga_BadNet : PySem.W.findIn K (.ref C_BadNet) "__getattribute__" = some (some (.builtin "BaseException.__getattribute__")))
    (gg_BadNet : PySem.W.findIn K (.ref C_BadNet) "__getattr__" = some none)
    (fc_BadNet : PySem.W.findIn K (.ref C_BadNet) "__class__" = some (some (.builtin "object.__class__")))
    (mo_BadNet : PySem.W.mroIn K C_BadNet (.type "object") = some true)
    (hD_BadNet : PySem.W.hasDictIn K C_BadNet = true)
    (ve_BadNet : PySem.W.kitOne K (.ref C_BadNet) (.type "ValueError") = some true)
    (er_BadNet : PySem.W.exmOne K (.ref C_BadNet) (.ref C_RestsError) = some true)
    (kt_BadNet_BadFrame : PySem.W.kitOne K (.ref C_BadNet) (.ref C_BadFrame) = some false)
    (kt_BadNet_BadHouse : PySem.W.kitOne K (.ref C_BadNet) (.ref C_BadHouse) = some false)
    (kt_BadNet_BadLoad : PySem.W.kitOne K (.ref C_BadNet) (.ref C_BadLoad) = some false)
    (kt_BadNet_BadName : PySem.W.kitOne K (.ref C_BadNet) (.ref C_BadName) = some false)
    (kt_BadNet_BadNet : PySem.W.kitOne K (.ref C_BadNet) (.ref C_BadNet) = some true)
    (kt_BadNet_BadNumber : PySem.W.kitOne K (.ref C_BadNet) (.ref C_BadNumber) = some false)
    (kt_BadNet_BadRow : PySem.W.kitOne K (.ref C_BadNet) (.ref C_BadRow) = some false)
    (kt_BadNet_BadTable : PySem.W.kitOne K (.ref C_BadNet) (.ref C_BadTable) = some false)
    (kt_BadNet_BadText : PySem.W.kitOne K (.ref C_BadNet) (.ref C_BadText) = some false)
    (kt_BadNet_BadWeb : PySem.W.kitOne K (.ref C_BadNet) (.ref C_BadWeb) = some false)
    (kt_BadNet_Flat : PySem.W.kitOne K (.ref C_BadNet) (.ref C_Flat) = some false)
    (kt_BadNet_NoName : PySem.W.kitOne K (.ref C_BadNet) (.ref C_NoName) = some false)
    (kt_BadNet_NoPlace : PySem.W.kitOne K (.ref C_BadNet) (.ref C_NoPlace) = some false)
    (kt_BadNet_NoRow : PySem.W.kitOne K (.ref C_BadNet) (.ref C_NoRow) = some false)
    (kt_BadNet_NoWall : PySem.W.kitOne K (.ref C_BadNet) (.ref C_NoWall) = some false)
    (kt_BadNet_NotKept : PySem.W.kitOne K (.ref C_BadNet) (.ref C_NotKept) = some false)
    (kt_BadNet_NotOnce : PySem.W.kitOne K (.ref C_BadNet) (.ref C_NotOnce) = some false)
    (kt_BadNet_NotPlain : PySem.W.kitOne K (.ref C_BadNet) (.ref C_NotPlain) = some false)
    (kt_BadNet_NothingToRedo : PySem.W.kitOne K (.ref C_BadNet) (.ref C_NothingToRedo) = some false)
    (kt_BadNet_NothingToUndo : PySem.W.kitOne K (.ref C_BadNet) (.ref C_NothingToUndo) = some false)
    (kt_BadNet_TakenName : PySem.W.kitOne K (.ref C_BadNet) (.ref C_TakenName) = some false)
    (kt_BadNet_TooMany : PySem.W.kitOne K (.ref C_BadNet) (.ref C_TooMany) = some false)
    (kt_BadNet_Unlike : PySem.W.kitOne K (.ref C_BadNet) (.ref C_Unlike) = some false)
    (cl_BadNumber : (PySem.W.clsIn K C_BadNumber).isSome = true)
    (ga_BadNumber : PySem.W.findIn K (.ref C_BadNumber) "__getattribute__" = some (some (.builtin "BaseException.__getattribute__")))
    (gg_BadNumber : PySem.W.findIn K (.ref C_BadNumber) "__getattr__" = some none)
    (fc_BadNumber : PySem.W.findIn K (.ref C_BadNumber) "__class__" = some (some (.builtin "object.__class__")))
    (mo_BadNumber : PySem.W.mroIn K C_BadNumber (.type "object") = some true)
    (hD_BadNumber : PySem.W.hasDictIn K C_BadNumber = true)
    (ve_BadNumber : PySem.W.kitOne K (.ref C_BadNumber) (.type "ValueError") = some true)
    (er_BadNumber : PySem.W.exmOne K (.ref C_BadNumber) (.ref C_RestsError) = some true)
    (kt_BadNumber_BadFrame : PySem.W.kitOne K (.ref C_BadNumber) (.ref C_BadFrame) = some false)
    (kt_BadNumber_BadHouse : PySem.W.kitOne K (.ref C_BadNumber) (.ref C_BadHouse) = some false)
    (kt_BadNumber_BadLoad : PySem.W.kitOne K (.ref C_BadNumber) (.ref C_BadLoad) = some false)
    (kt_BadNumber_BadName : PySem.W.kitOne K (.ref C_BadNumber) (.ref C_BadName) = some false)
    (kt_BadNumber_BadNet : PySem.W.kitOne K (.ref C_BadNumber) (.ref C_BadNet) = some false)
    (kt_BadNumber_BadNumber : PySem.W.kitOne K (.ref C_BadNumber) (.ref C_BadNumber) = some true)
    (kt_BadNumber_BadRow : PySem.W.kitOne K (.ref C_BadNumber) (.ref C_BadRow) = some false)
    (kt_BadNumber_BadTable : PySem.W.kitOne K (.ref C_BadNumber) (.ref C_BadTable) = some false)
    (kt_BadNumber_BadText : PySem.W.kitOne K (.ref C_BadNumber) (.ref C_BadText) = some false)
    (kt_BadNumber_BadWeb : PySem.W.kitOne K (.ref C_BadNumber) (.ref C_BadWeb) = some false)
    (kt_BadNumber_Flat : PySem.W.kitOne K (.ref C_BadNumber) (.ref C_Flat) = some false)
    (kt_BadNumber_NoName : PySem.W.kitOne K (.ref C_BadNumber) (.ref C_NoName) = some false)
    (kt_BadNumber_NoPlace : PySem.W.kitOne K (.ref C_BadNumber) (.ref C_NoPlace) = some false)
    (kt_BadNumber_NoRow : PySem.W.kitOne K (.ref C_BadNumber) (.ref C_NoRow) = some false)
    (kt_BadNumber_NoWall : PySem.W.kitOne K (.ref C_BadNumber) (.ref C_NoWall) = some false)
    (kt_BadNumber_NotKept : PySem.W.kitOne K (.ref C_BadNumber) (.ref C_NotKept) = some false)
    (kt_BadNumber_NotOnce : PySem.W.kitOne K (.ref C_BadNumber) (.ref C_NotOnce) = some false)
    (kt_BadNumber_NotPlain : PySem.W.kitOne K (.ref C_BadNumber) (.ref C_NotPlain) = some false)
    (kt_BadNumber_NothingToRedo : PySem.W.kitOne K (.ref C_BadNumber) (.ref C_NothingToRedo) = some false)
    (kt_BadNumber_NothingToUndo : PySem.W.kitOne K (.ref C_BadNumber) (.ref C_NothingToUndo) = some false)
    (kt_BadNumber_TakenName : PySem.W.kitOne K (.ref C_BadNumber) (.ref C_TakenName) = some false)
    (kt_BadNumber_TooMany : PySem.W.kitOne K (.ref C_BadNumber) (.ref C_TooMany) = some false)
    (kt_BadNumber_Unlike : PySem.W.kitOne K (.ref C_BadNumber) (.ref C_Unlike) = some false)
    (cl_BadRow : (PySem.W.clsIn K C_BadRow).isSome = true)
    (ga_BadRow : PySem.W.findIn K (.ref C_BadRow) "__getattribute__" = some (some (.builtin "BaseException.__getattribute__")))
    (gg_BadRow : PySem.W.findIn K (.ref C_BadRow) "__getattr__" = some none)
    (fc_BadRow : PySem.W.findIn K (.ref C_BadRow) "__class__" = some (some (.builtin "object.__class__")))
    (mo_BadRow : PySem.W.mroIn K C_BadRow (.type "object") = some true)
    (hD_BadRow : PySem.W.hasDictIn K C_BadRow = true)
    (ve_BadRow : PySem.W.kitOne K (.ref C_BadRow) (.type "ValueError") = some true)
    (er_BadRow : PySem.W.exmOne K (.ref C_BadRow) (.ref C_RestsError) = some true)
    (kt_BadRow_BadFrame : PySem.W.kitOne K (.ref C_BadRow) (.ref C_BadFrame) = some false)
    (kt_BadRow_BadHouse : PySem.W.kitOne K (.ref C_BadRow) (.ref C_BadHouse) = some false)
    (kt_BadRow_BadLoad : PySem.W.kitOne K (.ref C_BadRow) (.ref C_BadLoad) = some false)
    (kt_BadRow_BadName : PySem.W.kitOne K (.ref C_BadRow) (.ref C_BadName) = some false)
    (kt_BadRow_BadNet : PySem.W.kitOne K (.ref C_BadRow) (.ref C_BadNet) = some false)
    (kt_BadRow_BadNumber : PySem.W.kitOne K (.ref C_BadRow) (.ref C_BadNumber) = some false)
    (kt_BadRow_BadRow : PySem.W.kitOne K (.ref C_BadRow) (.ref C_BadRow) = some true)
    (kt_BadRow_BadTable : PySem.W.kitOne K (.ref C_BadRow) (.ref C_BadTable) = some false)
    (kt_BadRow_BadText : PySem.W.kitOne K (.ref C_BadRow) (.ref C_BadText) = some false)
    (kt_BadRow_BadWeb : PySem.W.kitOne K (.ref C_BadRow) (.ref C_BadWeb) = some false)
    (kt_BadRow_Flat : PySem.W.kitOne K (.ref C_BadRow) (.ref C_Flat) = some false)
    (kt_BadRow_NoName : PySem.W.kitOne K (.ref C_BadRow) (.ref C_NoName) = some false)
    (kt_BadRow_NoPlace : PySem.W.kitOne K (.ref C_BadRow) (.ref C_NoPlace) = some false)
    (kt_BadRow_NoRow : PySem.W.kitOne K (.ref C_BadRow) (.ref C_NoRow) = some false)
    (kt_BadRow_NoWall : PySem.W.kitOne K (.ref C_BadRow) (.ref C_NoWall) = some false)
    (kt_BadRow_NotKept : PySem.W.kitOne K (.ref C_BadRow) (.ref C_NotKept) = some false)
    (kt_BadRow_NotOnce : PySem.W.kitOne K (.ref C_BadRow) (.ref C_NotOnce) = some false)
    (kt_BadRow_NotPlain : PySem.W.kitOne K (.ref C_BadRow) (.ref C_NotPlain) = some false)
    (kt_BadRow_NothingToRedo : PySem.W.kitOne K (.ref C_BadRow) (.ref C_NothingToRedo) = some false)
    (kt_BadRow_NothingToUndo : PySem.W.kitOne K (.ref C_BadRow) (.ref C_NothingToUndo) = some false)
    (kt_BadRow_TakenName : PySem.W.kitOne K (.ref C_BadRow) (.ref C_TakenName) = some false)
    (kt_BadRow_TooMany : PySem.W.kitOne K (.ref C_BadRow) (.ref C_TooMany) = some false)
    (kt_BadRow_Unlike : PySem.W.kitOne K (.ref C_BadRow) (.ref C_Unlike) = some false)
    (cl_BadTable : (PySem.W.clsIn K C_BadTable).isSome = true)
    (ga_BadTable : PySem.W.findIn K (.ref C_BadTable) "__getattribute__" = some (some (.builtin "BaseException.__getattribute__")))
    (gg_BadTable : PySem.W.findIn K (.ref C_BadTable) "__getattr__" = some none)
    (fc_BadTable : PySem.W.findIn K (.ref C_BadTable) "__class__" = some (some (.builtin "object.__class__")))
    (mo_BadTable : PySem.W.mroIn K C_BadTable (.type "object") = some true)
    (hD_BadTable : PySem.W.hasDictIn K C_BadTable = true)
    (ve_BadTable : PySem.W.kitOne K (.ref C_BadTable) (.type "ValueError") = some true)
    (er_BadTable : PySem.W.exmOne K (.ref C_BadTable) (.ref C_RestsError) = some true)
    (kt_BadTable_BadFrame : PySem.W.kitOne K (.ref C_BadTable) (.ref C_BadFrame) = some false)
    (kt_BadTable_BadHouse : PySem.W.kitOne K (.ref C_BadTable) (.ref C_BadHouse) = some false)
    (kt_BadTable_BadLoad : PySem.W.kitOne K (.ref C_BadTable) (.ref C_BadLoad) = some false)
    (kt_BadTable_BadName : PySem.W.kitOne K (.ref C_BadTable) (.ref C_BadName) = some false)
    (kt_BadTable_BadNet : PySem.W.kitOne K (.ref C_BadTable) (.ref C_BadNet) = some false)
    (kt_BadTable_BadNumber : PySem.W.kitOne K (.ref C_BadTable) (.ref C_BadNumber) = some false)
    (kt_BadTable_BadRow : PySem.W.kitOne K (.ref C_BadTable) (.ref C_BadRow) = some false)
    (kt_BadTable_BadTable : PySem.W.kitOne K (.ref C_BadTable) (.ref C_BadTable) = some true)
    (kt_BadTable_BadText : PySem.W.kitOne K (.ref C_BadTable) (.ref C_BadText) = some false)
    (kt_BadTable_BadWeb : PySem.W.kitOne K (.ref C_BadTable) (.ref C_BadWeb) = some false)
    (kt_BadTable_Flat : PySem.W.kitOne K (.ref C_BadTable) (.ref C_Flat) = some false)
    (kt_BadTable_NoName : PySem.W.kitOne K (.ref C_BadTable) (.ref C_NoName) = some false)
    (kt_BadTable_NoPlace : PySem.W.kitOne K (.ref C_BadTable) (.ref C_NoPlace) = some false)
    (kt_BadTable_NoRow : PySem.W.kitOne K (.ref C_BadTable) (.ref C_NoRow) = some false)
    (kt_BadTable_NoWall : PySem.W.kitOne K (.ref C_BadTable) (.ref C_NoWall) = some false)
    (kt_BadTable_NotKept : PySem.W.kitOne K (.ref C_BadTable) (.ref C_NotKept) = some false)
    (kt_BadTable_NotOnce : PySem.W.kitOne K (.ref C_BadTable) (.ref C_NotOnce) = some false)
    (kt_BadTable_NotPlain : PySem.W.kitOne K (.ref C_BadTable) (.ref C_NotPlain) = some false)
    (kt_BadTable_NothingToRedo : PySem.W.kitOne K (.ref C_BadTable) (.ref C_NothingToRedo) = some false)
    (kt_BadTable_NothingToUndo : PySem.W.kitOne K (.ref C_BadTable) (.ref C_NothingToUndo) = some false)
    (kt_BadTable_TakenName : PySem.W.kitOne K (.ref C_BadTable) (.ref C_TakenName) = some false)
    (kt_BadTable_TooMany : PySem.W.kitOne K (.ref C_BadTable) (.ref C_TooMany) = some false)
    (kt_BadTable_Unlike : PySem.W.kitOne K (.ref C_BadTable) (.ref C_Unlike) = some false)
    (cl_BadText : (PySem.W.clsIn K C_BadText).isSome = true)
    (ga_BadText : PySem.W.findIn K (.ref C_BadText) "__getattribute__" = some (some (.builtin "BaseException.__getattribute__")))
    (gg_BadText : PySem.W.findIn K (.ref C_BadText) "__getattr__" = some none)
    (fc_BadText : PySem.W.findIn K (.ref C_BadText) "__class__" = some (some (.builtin "object.__class__")))
    (mo_BadText : PySem.W.mroIn K C_BadText (.type "object") = some true)
    (hD_BadText : PySem.W.hasDictIn K C_BadText = true)
    (ve_BadText : PySem.W.kitOne K (.ref C_BadText) (.type "ValueError") = some true)
    (er_BadText : PySem.W.exmOne K (.ref C_BadText) (.ref C_RestsError) = some true)
    (kt_BadText_BadFrame : PySem.W.kitOne K (.ref C_BadText) (.ref C_BadFrame) = some false)
    (kt_BadText_BadHouse : PySem.W.kitOne K (.ref C_BadText) (.ref C_BadHouse) = some false)
    (kt_BadText_BadLoad : PySem.W.kitOne K (.ref C_BadText) (.ref C_BadLoad) = some false)
    (kt_BadText_BadName : PySem.W.kitOne K (.ref C_BadText) (.ref C_BadName) = some false)
    (kt_BadText_BadNet : PySem.W.kitOne K (.ref C_BadText) (.ref C_BadNet) = some false)
    (kt_BadText_BadNumber : PySem.W.kitOne K (.ref C_BadText) (.ref C_BadNumber) = some false)
    (kt_BadText_BadRow : PySem.W.kitOne K (.ref C_BadText) (.ref C_BadRow) = some false)
    (kt_BadText_BadTable : PySem.W.kitOne K (.ref C_BadText) (.ref C_BadTable) = some false)
    (kt_BadText_BadText : PySem.W.kitOne K (.ref C_BadText) (.ref C_BadText) = some true)
    (kt_BadText_BadWeb : PySem.W.kitOne K (.ref C_BadText) (.ref C_BadWeb) = some false)
    (kt_BadText_Flat : PySem.W.kitOne K (.ref C_BadText) (.ref C_Flat) = some false)
    (kt_BadText_NoName : PySem.W.kitOne K (.ref C_BadText) (.ref C_NoName) = some false)
    (kt_BadText_NoPlace : PySem.W.kitOne K (.ref C_BadText) (.ref C_NoPlace) = some false)
    (kt_BadText_NoRow : PySem.W.kitOne K (.ref C_BadText) (.ref C_NoRow) = some false)
    (kt_BadText_NoWall : PySem.W.kitOne K (.ref C_BadText) (.ref C_NoWall) = some false)
    (kt_BadText_NotKept : PySem.W.kitOne K (.ref C_BadText) (.ref C_NotKept) = some false)
    (kt_BadText_NotOnce : PySem.W.kitOne K (.ref C_BadText) (.ref C_NotOnce) = some false)
    (kt_BadText_NotPlain : PySem.W.kitOne K (.ref C_BadText) (.ref C_NotPlain) = some false)
    (kt_BadText_NothingToRedo : PySem.W.kitOne K (.ref C_BadText) (.ref C_NothingToRedo) = some false)
    (kt_BadText_NothingToUndo : PySem.W.kitOne K (.ref C_BadText) (.ref C_NothingToUndo) = some false)
    (kt_BadText_TakenName : PySem.W.kitOne K (.ref C_BadText) (.ref C_TakenName) = some false)
    (kt_BadText_TooMany : PySem.W.kitOne K (.ref C_BadText) (.ref C_TooMany) = some false)
    (kt_BadText_Unlike : PySem.W.kitOne K (.ref C_BadText) (.ref C_Unlike) = some false)
    (cl_BadWeb : (PySem.W.clsIn K C_BadWeb).isSome = true)
    (ga_BadWeb : PySem.W.findIn K (.ref C_BadWeb) "__getattribute__" = some (some (.builtin "BaseException.__getattribute__")))
    (gg_BadWeb : PySem.W.findIn K (.ref C_BadWeb) "__getattr__" = some none)
    (fc_BadWeb : PySem.W.findIn K (.ref C_BadWeb) "__class__" = some (some (.builtin "object.__class__")))
    (mo_BadWeb : PySem.W.mroIn K C_BadWeb (.type "object") = some true)
    (hD_BadWeb : PySem.W.hasDictIn K C_BadWeb = true)
    (ve_BadWeb : PySem.W.kitOne K (.ref C_BadWeb) (.type "ValueError") = some true)
    (er_BadWeb : PySem.W.exmOne K (.ref C_BadWeb) (.ref C_RestsError) = some true)
    (kt_BadWeb_BadFrame : PySem.W.kitOne K (.ref C_BadWeb) (.ref C_BadFrame) = some false)
    (kt_BadWeb_BadHouse : PySem.W.kitOne K (.ref C_BadWeb) (.ref C_BadHouse) = some false)
    (kt_BadWeb_BadLoad : PySem.W.kitOne K (.ref C_BadWeb) (.ref C_BadLoad) = some false)
    (kt_BadWeb_BadName : PySem.W.kitOne K (.ref C_BadWeb) (.ref C_BadName) = some false)
    (kt_BadWeb_BadNet : PySem.W.kitOne K (.ref C_BadWeb) (.ref C_BadNet) = some false)
    (kt_BadWeb_BadNumber : PySem.W.kitOne K (.ref C_BadWeb) (.ref C_BadNumber) = some false)
    (kt_BadWeb_BadRow : PySem.W.kitOne K (.ref C_BadWeb) (.ref C_BadRow) = some false)
    (kt_BadWeb_BadTable : PySem.W.kitOne K (.ref C_BadWeb) (.ref C_BadTable) = some false)
    (kt_BadWeb_BadText : PySem.W.kitOne K (.ref C_BadWeb) (.ref C_BadText) = some false)
    (kt_BadWeb_BadWeb : PySem.W.kitOne K (.ref C_BadWeb) (.ref C_BadWeb) = some true)
    (kt_BadWeb_Flat : PySem.W.kitOne K (.ref C_BadWeb) (.ref C_Flat) = some false)
    (kt_BadWeb_NoName : PySem.W.kitOne K (.ref C_BadWeb) (.ref C_NoName) = some false)
    (kt_BadWeb_NoPlace : PySem.W.kitOne K (.ref C_BadWeb) (.ref C_NoPlace) = some false)
    (kt_BadWeb_NoRow : PySem.W.kitOne K (.ref C_BadWeb) (.ref C_NoRow) = some false)
    (kt_BadWeb_NoWall : PySem.W.kitOne K (.ref C_BadWeb) (.ref C_NoWall) = some false)
    (kt_BadWeb_NotKept : PySem.W.kitOne K (.ref C_BadWeb) (.ref C_NotKept) = some false)
    (kt_BadWeb_NotOnce : PySem.W.kitOne K (.ref C_BadWeb) (.ref C_NotOnce) = some false)
    (kt_BadWeb_NotPlain : PySem.W.kitOne K (.ref C_BadWeb) (.ref C_NotPlain) = some false)
    (kt_BadWeb_NothingToRedo : PySem.W.kitOne K (.ref C_BadWeb) (.ref C_NothingToRedo) = some false)
    (kt_BadWeb_NothingToUndo : PySem.W.kitOne K (.ref C_BadWeb) (.ref C_NothingToUndo) = some false)
    (kt_BadWeb_TakenName : PySem.W.kitOne K (.ref C_BadWeb) (.ref C_TakenName) = some false)
    (kt_BadWeb_TooMany : PySem.W.kitOne K (.ref C_BadWeb) (.ref C_TooMany) = some false)
    (kt_BadWeb_Unlike : PySem.W.kitOne K (.ref C_BadWeb) (.ref C_Unlike) = some false)
    (cl_Flat : (PySem.W.clsIn K C_Flat).isSome = true)
    (ga_Flat : PySem.W.findIn K (.ref C_Flat) "__getattribute__" = some (some (.builtin "BaseException.__getattribute__")))
    (gg_Flat : PySem.W.findIn K (.ref C_Flat) "__getattr__" = some none)
    (fc_Flat : PySem.W.findIn K (.ref C_Flat) "__class__" = some (some (.builtin "object.__class__")))
    (mo_Flat : PySem.W.mroIn K C_Flat (.type "object") = some true)
    (hD_Flat : PySem.W.hasDictIn K C_Flat = true)
    (ve_Flat : PySem.W.kitOne K (.ref C_Flat) (.type "ValueError") = some true)
    (er_Flat : PySem.W.exmOne K (.ref C_Flat) (.ref C_RestsError) = some true)
    (kt_Flat_BadFrame : PySem.W.kitOne K (.ref C_Flat) (.ref C_BadFrame) = some false)
    (kt_Flat_BadHouse : PySem.W.kitOne K (.ref C_Flat) (.ref C_BadHouse) = some false)
    (kt_Flat_BadLoad : PySem.W.kitOne K (.ref C_Flat) (.ref C_BadLoad) = some false)
    (kt_Flat_BadName : PySem.W.kitOne K (.ref C_Flat) (.ref C_BadName) = some false)
    (kt_Flat_BadNet : PySem.W.kitOne K (.ref C_Flat) (.ref C_BadNet) = some false)
    (kt_Flat_BadNumber : PySem.W.kitOne K (.ref C_Flat) (.ref C_BadNumber) = some false)
    (kt_Flat_BadRow : PySem.W.kitOne K (.ref C_Flat) (.ref C_BadRow) = some false)
    (kt_Flat_BadTable : PySem.W.kitOne K (.ref C_Flat) (.ref C_BadTable) = some false)
    (kt_Flat_BadText : PySem.W.kitOne K (.ref C_Flat) (.ref C_BadText) = some false)
    (kt_Flat_BadWeb : PySem.W.kitOne K (.ref C_Flat) (.ref C_BadWeb) = some false)
    (kt_Flat_Flat : PySem.W.kitOne K (.ref C_Flat) (.ref C_Flat) = some true)
    (kt_Flat_NoName : PySem.W.kitOne K (.ref C_Flat) (.ref C_NoName) = some false)
    (kt_Flat_NoPlace : PySem.W.kitOne K (.ref C_Flat) (.ref C_NoPlace) = some false)
    (kt_Flat_NoRow : PySem.W.kitOne K (.ref C_Flat) (.ref C_NoRow) = some false)
    (kt_Flat_NoWall : PySem.W.kitOne K (.ref C_Flat) (.ref C_NoWall) = some false)
    (kt_Flat_NotKept : PySem.W.kitOne K (.ref C_Flat) (.ref C_NotKept) = some false)
    (kt_Flat_NotOnce : PySem.W.kitOne K (.ref C_Flat) (.ref C_NotOnce) = some false)
    (kt_Flat_NotPlain : PySem.W.kitOne K (.ref C_Flat) (.ref C_NotPlain) = some false)
    (kt_Flat_NothingToRedo : PySem.W.kitOne K (.ref C_Flat) (.ref C_NothingToRedo) = some false)
    (kt_Flat_NothingToUndo : PySem.W.kitOne K (.ref C_Flat) (.ref C_NothingToUndo) = some false)
    (kt_Flat_TakenName : PySem.W.kitOne K (.ref C_Flat) (.ref C_TakenName) = some false)
    (kt_Flat_TooMany : PySem.W.kitOne K (.ref C_Flat) (.ref C_TooMany) = some false)
    (kt_Flat_Unlike : PySem.W.kitOne K (.ref C_Flat) (.ref C_Unlike) = some false)
    (cl_NoName : (PySem.W.clsIn K C_NoName).isSome = true)
    (ga_NoName : PySem.W.findIn K (.ref C_NoName) "__getattribute__" = some (some (.builtin "BaseException.__getattribute__")))
    (gg_NoName : PySem.W.findIn K (.ref C_NoName) "__getattr__" = some none)
    (fc_NoName : PySem.W.findIn K (.ref C_NoName) "__class__" = some (some (.builtin "object.__class__")))
    (mo_NoName : PySem.W.mroIn K C_NoName (.type "object") = some true)
    (hD_NoName : PySem.W.hasDictIn K C_NoName = true)
    (ve_NoName : PySem.W.kitOne K (.ref C_NoName) (.type "ValueError") = some true)
    (er_NoName : PySem.W.exmOne K (.ref C_NoName) (.ref C_RestsError) = some true)
    (kt_NoName_BadFrame : PySem.W.kitOne K (.ref C_NoName) (.ref C_BadFrame) = some false)
    (kt_NoName_BadHouse : PySem.W.kitOne K (.ref C_NoName) (.ref C_BadHouse) = some false)
    (kt_NoName_BadLoad : PySem.W.kitOne K (.ref C_NoName) (.ref C_BadLoad) = some false)
    (kt_NoName_BadName : PySem.W.kitOne K (.ref C_NoName) (.ref C_BadName) = some false)
    (kt_NoName_BadNet : PySem.W.kitOne K (.ref C_NoName) (.ref C_BadNet) = some false)
    (kt_NoName_BadNumber : PySem.W.kitOne K (.ref C_NoName) (.ref C_BadNumber) = some false)
    (kt_NoName_BadRow : PySem.W.kitOne K (.ref C_NoName) (.ref C_BadRow) = some false)
    (kt_NoName_BadTable : PySem.W.kitOne K (.ref C_NoName) (.ref C_BadTable) = some false)
    (kt_NoName_BadText : PySem.W.kitOne K (.ref C_NoName) (.ref C_BadText) = some false)
    (kt_NoName_BadWeb : PySem.W.kitOne K (.ref C_NoName) (.ref C_BadWeb) = some false)
    (kt_NoName_Flat : PySem.W.kitOne K (.ref C_NoName) (.ref C_Flat) = some false)
    (kt_NoName_NoName : PySem.W.kitOne K (.ref C_NoName) (.ref C_NoName) = some true)
    (kt_NoName_NoPlace : PySem.W.kitOne K (.ref C_NoName) (.ref C_NoPlace) = some false)
    (kt_NoName_NoRow : PySem.W.kitOne K (.ref C_NoName) (.ref C_NoRow) = some false)
    (kt_NoName_NoWall : PySem.W.kitOne K (.ref C_NoName) (.ref C_NoWall) = some false)
    (kt_NoName_NotKept : PySem.W.kitOne K (.ref C_NoName) (.ref C_NotKept) = some false)
    (kt_NoName_NotOnce : PySem.W.kitOne K (.ref C_NoName) (.ref C_NotOnce) = some false)
    (kt_NoName_NotPlain : PySem.W.kitOne K (.ref C_NoName) (.ref C_NotPlain) = some false)
    (kt_NoName_NothingToRedo : PySem.W.kitOne K (.ref C_NoName) (.ref C_NothingToRedo) = some false)
    (kt_NoName_NothingToUndo : PySem.W.kitOne K (.ref C_NoName) (.ref C_NothingToUndo) = some false)
    (kt_NoName_TakenName : PySem.W.kitOne K (.ref C_NoName) (.ref C_TakenName) = some false)
    (kt_NoName_TooMany : PySem.W.kitOne K (.ref C_NoName) (.ref C_TooMany) = some false)
    (kt_NoName_Unlike : PySem.W.kitOne K (.ref C_NoName) (.ref C_Unlike) = some false)
    (cl_NoPlace : (PySem.W.clsIn K C_NoPlace).isSome = true)
    (ga_NoPlace : PySem.W.findIn K (.ref C_NoPlace) "__getattribute__" = some (some (.builtin "BaseException.__getattribute__")))
    (gg_NoPlace : PySem.W.findIn K (.ref C_NoPlace) "__getattr__" = some none)
    (fc_NoPlace : PySem.W.findIn K (.ref C_NoPlace) "__class__" = some (some (.builtin "object.__class__")))
    (mo_NoPlace : PySem.W.mroIn K C_NoPlace (.type "object") = some true)
    (hD_NoPlace : PySem.W.hasDictIn K C_NoPlace = true)
    (ve_NoPlace : PySem.W.kitOne K (.ref C_NoPlace) (.type "ValueError") = some true)
    (er_NoPlace : PySem.W.exmOne K (.ref C_NoPlace) (.ref C_RestsError) = some true)
    (kt_NoPlace_BadFrame : PySem.W.kitOne K (.ref C_NoPlace) (.ref C_BadFrame) = some false)
    (kt_NoPlace_BadHouse : PySem.W.kitOne K (.ref C_NoPlace) (.ref C_BadHouse) = some false)
    (kt_NoPlace_BadLoad : PySem.W.kitOne K (.ref C_NoPlace) (.ref C_BadLoad) = some false)
    (kt_NoPlace_BadName : PySem.W.kitOne K (.ref C_NoPlace) (.ref C_BadName) = some false)
    (kt_NoPlace_BadNet : PySem.W.kitOne K (.ref C_NoPlace) (.ref C_BadNet) = some false)
    (kt_NoPlace_BadNumber : PySem.W.kitOne K (.ref C_NoPlace) (.ref C_BadNumber) = some false)
    (kt_NoPlace_BadRow : PySem.W.kitOne K (.ref C_NoPlace) (.ref C_BadRow) = some false)
    (kt_NoPlace_BadTable : PySem.W.kitOne K (.ref C_NoPlace) (.ref C_BadTable) = some false)
    (kt_NoPlace_BadText : PySem.W.kitOne K (.ref C_NoPlace) (.ref C_BadText) = some false)
    (kt_NoPlace_BadWeb : PySem.W.kitOne K (.ref C_NoPlace) (.ref C_BadWeb) = some false)
    (kt_NoPlace_Flat : PySem.W.kitOne K (.ref C_NoPlace) (.ref C_Flat) = some false)
    (kt_NoPlace_NoName : PySem.W.kitOne K (.ref C_NoPlace) (.ref C_NoName) = some false)
    (kt_NoPlace_NoPlace : PySem.W.kitOne K (.ref C_NoPlace) (.ref C_NoPlace) = some true)
    (kt_NoPlace_NoRow : PySem.W.kitOne K (.ref C_NoPlace) (.ref C_NoRow) = some false)
    (kt_NoPlace_NoWall : PySem.W.kitOne K (.ref C_NoPlace) (.ref C_NoWall) = some false)
    (kt_NoPlace_NotKept : PySem.W.kitOne K (.ref C_NoPlace) (.ref C_NotKept) = some false)
    (kt_NoPlace_NotOnce : PySem.W.kitOne K (.ref C_NoPlace) (.ref C_NotOnce) = some false)
    (kt_NoPlace_NotPlain : PySem.W.kitOne K (.ref C_NoPlace) (.ref C_NotPlain) = some false)
    (kt_NoPlace_NothingToRedo : PySem.W.kitOne K (.ref C_NoPlace) (.ref C_NothingToRedo) = some false)
    (kt_NoPlace_NothingToUndo : PySem.W.kitOne K (.ref C_NoPlace) (.ref C_NothingToUndo) = some false)
    (kt_NoPlace_TakenName : PySem.W.kitOne K (.ref C_NoPlace) (.ref C_TakenName) = some false)
    (kt_NoPlace_TooMany : PySem.W.kitOne K (.ref C_NoPlace) (.ref C_TooMany) = some false)
    (kt_NoPlace_Unlike : PySem.W.kitOne K (.ref C_NoPlace) (.ref C_Unlike) = some false)
    (cl_NoRow : (PySem.W.clsIn K C_NoRow).isSome = true)
    (ga_NoRow : PySem.W.findIn K (.ref C_NoRow) "__getattribute__" = some (some (.builtin "BaseException.__getattribute__")))
    (gg_NoRow : PySem.W.findIn K (.ref C_NoRow) "__getattr__" = some none)
    (fc_NoRow : PySem.W.findIn K (.ref C_NoRow) "__class__" = some (some (.builtin "object.__class__")))
    (mo_NoRow : PySem.W.mroIn K C_NoRow (.type "object") = some true)
    (hD_NoRow : PySem.W.hasDictIn K C_NoRow = true)
    (ve_NoRow : PySem.W.kitOne K (.ref C_NoRow) (.type "ValueError") = some true)
    (er_NoRow : PySem.W.exmOne K (.ref C_NoRow) (.ref C_RestsError) = some true)
    (kt_NoRow_BadFrame : PySem.W.kitOne K (.ref C_NoRow) (.ref C_BadFrame) = some false)
    (kt_NoRow_BadHouse : PySem.W.kitOne K (.ref C_NoRow) (.ref C_BadHouse) = some false)
    (kt_NoRow_BadLoad : PySem.W.kitOne K (.ref C_NoRow) (.ref C_BadLoad) = some false)
    (kt_NoRow_BadName : PySem.W.kitOne K (.ref C_NoRow) (.ref C_BadName) = some false)
    (kt_NoRow_BadNet : PySem.W.kitOne K (.ref C_NoRow) (.ref C_BadNet) = some false)
    (kt_NoRow_BadNumber : PySem.W.kitOne K (.ref C_NoRow) (.ref C_BadNumber) = some false)
    (kt_NoRow_BadRow : PySem.W.kitOne K (.ref C_NoRow) (.ref C_BadRow) = some false)
    (kt_NoRow_BadTable : PySem.W.kitOne K (.ref C_NoRow) (.ref C_BadTable) = some false)
    (kt_NoRow_BadText : PySem.W.kitOne K (.ref C_NoRow) (.ref C_BadText) = some false)
    (kt_NoRow_BadWeb : PySem.W.kitOne K (.ref C_NoRow) (.ref C_BadWeb) = some false)
    (kt_NoRow_Flat : PySem.W.kitOne K (.ref C_NoRow) (.ref C_Flat) = some false)
    (kt_NoRow_NoName : PySem.W.kitOne K (.ref C_NoRow) (.ref C_NoName) = some false)
    (kt_NoRow_NoPlace : PySem.W.kitOne K (.ref C_NoRow) (.ref C_NoPlace) = some false)
    (kt_NoRow_NoRow : PySem.W.kitOne K (.ref C_NoRow) (.ref C_NoRow) = some true)
    (kt_NoRow_NoWall : PySem.W.kitOne K (.ref C_NoRow) (.ref C_NoWall) = some false)
    (kt_NoRow_NotKept : PySem.W.kitOne K (.ref C_NoRow) (.ref C_NotKept) = some false)
    (kt_NoRow_NotOnce : PySem.W.kitOne K (.ref C_NoRow) (.ref C_NotOnce) = some false)
    (kt_NoRow_NotPlain : PySem.W.kitOne K (.ref C_NoRow) (.ref C_NotPlain) = some false)
    (kt_NoRow_NothingToRedo : PySem.W.kitOne K (.ref C_NoRow) (.ref C_NothingToRedo) = some false)
    (kt_NoRow_NothingToUndo : PySem.W.kitOne K (.ref C_NoRow) (.ref C_NothingToUndo) = some false)
    (kt_NoRow_TakenName : PySem.W.kitOne K (.ref C_NoRow) (.ref C_TakenName) = some false)
    (kt_NoRow_TooMany : PySem.W.kitOne K (.ref C_NoRow) (.ref C_TooMany) = some false)
    (kt_NoRow_Unlike : PySem.W.kitOne K (.ref C_NoRow) (.ref C_Unlike) = some false)
    (cl_NoWall : (PySem.W.clsIn K C_NoWall).isSome = true)
    (ga_NoWall : PySem.W.findIn K (.ref C_NoWall) "__getattribute__" = some (some (.builtin "BaseException.__getattribute__")))
    (gg_NoWall : PySem.W.findIn K (.ref C_NoWall) "__getattr__" = some none)
    (fc_NoWall : PySem.W.findIn K (.ref C_NoWall) "__class__" = some (some (.builtin "object.__class__")))
    (mo_NoWall : PySem.W.mroIn K C_NoWall (.type "object") = some true)
    (hD_NoWall : PySem.W.hasDictIn K C_NoWall = true)
    (ve_NoWall : PySem.W.kitOne K (.ref C_NoWall) (.type "ValueError") = some true)
    (er_NoWall : PySem.W.exmOne K (.ref C_NoWall) (.ref C_RestsError) = some true)
    (kt_NoWall_BadFrame : PySem.W.kitOne K (.ref C_NoWall) (.ref C_BadFrame) = some false)
    (kt_NoWall_BadHouse : PySem.W.kitOne K (.ref C_NoWall) (.ref C_BadHouse) = some false)
    (kt_NoWall_BadLoad : PySem.W.kitOne K (.ref C_NoWall) (.ref C_BadLoad) = some false)
    (kt_NoWall_BadName : PySem.W.kitOne K (.ref C_NoWall) (.ref C_BadName) = some false)
    (kt_NoWall_BadNet : PySem.W.kitOne K (.ref C_NoWall) (.ref C_BadNet) = some false)
    (kt_NoWall_BadNumber : PySem.W.kitOne K (.ref C_NoWall) (.ref C_BadNumber) = some false)
    (kt_NoWall_BadRow : PySem.W.kitOne K (.ref C_NoWall) (.ref C_BadRow) = some false)
    (kt_NoWall_BadTable : PySem.W.kitOne K (.ref C_NoWall) (.ref C_BadTable) = some false)
    (kt_NoWall_BadText : PySem.W.kitOne K (.ref C_NoWall) (.ref C_BadText) = some false)
    (kt_NoWall_BadWeb : PySem.W.kitOne K (.ref C_NoWall) (.ref C_BadWeb) = some false)
    (kt_NoWall_Flat : PySem.W.kitOne K (.ref C_NoWall) (.ref C_Flat) = some false)
    (kt_NoWall_NoName : PySem.W.kitOne K (.ref C_NoWall) (.ref C_NoName) = some false)
    (kt_NoWall_NoPlace : PySem.W.kitOne K (.ref C_NoWall) (.ref C_NoPlace) = some false)
    (kt_NoWall_NoRow : PySem.W.kitOne K (.ref C_NoWall) (.ref C_NoRow) = some false)
    (kt_NoWall_NoWall : PySem.W.kitOne K (.ref C_NoWall) (.ref C_NoWall) = some true)
    (kt_NoWall_NotKept : PySem.W.kitOne K (.ref C_NoWall) (.ref C_NotKept) = some false)
    (kt_NoWall_NotOnce : PySem.W.kitOne K (.ref C_NoWall) (.ref C_NotOnce) = some false)
    (kt_NoWall_NotPlain : PySem.W.kitOne K (.ref C_NoWall) (.ref C_NotPlain) = some false)
    (kt_NoWall_NothingToRedo : PySem.W.kitOne K (.ref C_NoWall) (.ref C_NothingToRedo) = some false)
    (kt_NoWall_NothingToUndo : PySem.W.kitOne K (.ref C_NoWall) (.ref C_NothingToUndo) = some false)
    (kt_NoWall_TakenName : PySem.W.kitOne K (.ref C_NoWall) (.ref C_TakenName) = some false)
    (kt_NoWall_TooMany : PySem.W.kitOne K (.ref C_NoWall) (.ref C_TooMany) = some false)
    (kt_NoWall_Unlike : PySem.W.kitOne K (.ref C_NoWall) (.ref C_Unlike) = some false)
    (cl_NotKept : (PySem.W.clsIn K C_NotKept).isSome = true)
    (ga_NotKept : PySem.W.findIn K (.ref C_NotKept) "__getattribute__" = some (some (.builtin "BaseException.__getattribute__")))
    (gg_NotKept : PySem.W.findIn K (.ref C_NotKept) "__getattr__" = some none)
    (fc_NotKept : PySem.W.findIn K (.ref C_NotKept) "__class__" = some (some (.builtin "object.__class__")))
    (mo_NotKept : PySem.W.mroIn K C_NotKept (.type "object") = some true)
    (hD_NotKept : PySem.W.hasDictIn K C_NotKept = true)
    (ve_NotKept : PySem.W.kitOne K (.ref C_NotKept) (.type "ValueError") = some true)
    (er_NotKept : PySem.W.exmOne K (.ref C_NotKept) (.ref C_RestsError) = some true)
    (kt_NotKept_BadFrame : PySem.W.kitOne K (.ref C_NotKept) (.ref C_BadFrame) = some false)
    (kt_NotKept_BadHouse : PySem.W.kitOne K (.ref C_NotKept) (.ref C_BadHouse) = some false)
    (kt_NotKept_BadLoad : PySem.W.kitOne K (.ref C_NotKept) (.ref C_BadLoad) = some false)
    (kt_NotKept_BadName : PySem.W.kitOne K (.ref C_NotKept) (.ref C_BadName) = some false)
    (kt_NotKept_BadNet : PySem.W.kitOne K (.ref C_NotKept) (.ref C_BadNet) = some false)
    (kt_NotKept_BadNumber : PySem.W.kitOne K (.ref C_NotKept) (.ref C_BadNumber) = some false)
    (kt_NotKept_BadRow : PySem.W.kitOne K (.ref C_NotKept) (.ref C_BadRow) = some false)
    (kt_NotKept_BadTable : PySem.W.kitOne K (.ref C_NotKept) (.ref C_BadTable) = some false)
    (kt_NotKept_BadText : PySem.W.kitOne K (.ref C_NotKept) (.ref C_BadText) = some false)
    (kt_NotKept_BadWeb : PySem.W.kitOne K (.ref C_NotKept) (.ref C_BadWeb) = some false)
    (kt_NotKept_Flat : PySem.W.kitOne K (.ref C_NotKept) (.ref C_Flat) = some false)
    (kt_NotKept_NoName : PySem.W.kitOne K (.ref C_NotKept) (.ref C_NoName) = some false)
    (kt_NotKept_NoPlace : PySem.W.kitOne K (.ref C_NotKept) (.ref C_NoPlace) = some false)
    (kt_NotKept_NoRow : PySem.W.kitOne K (.ref C_NotKept) (.ref C_NoRow) = some false)
    (kt_NotKept_NoWall : PySem.W.kitOne K (.ref C_NotKept) (.ref C_NoWall) = some false)
    (kt_NotKept_NotKept : PySem.W.kitOne K (.ref C_NotKept) (.ref C_NotKept) = some true)
    (kt_NotKept_NotOnce : PySem.W.kitOne K (.ref C_NotKept) (.ref C_NotOnce) = some false)
    (kt_NotKept_NotPlain : PySem.W.kitOne K (.ref C_NotKept) (.ref C_NotPlain) = some false)
    (kt_NotKept_NothingToRedo : PySem.W.kitOne K (.ref C_NotKept) (.ref C_NothingToRedo) = some false)
    (kt_NotKept_NothingToUndo : PySem.W.kitOne K (.ref C_NotKept) (.ref C_NothingToUndo) = some false)
    (kt_NotKept_TakenName : PySem.W.kitOne K (.ref C_NotKept) (.ref C_TakenName) = some false)
    (kt_NotKept_TooMany : PySem.W.kitOne K (.ref C_NotKept) (.ref C_TooMany) = some false)
    (kt_NotKept_Unlike : PySem.W.kitOne K (.ref C_NotKept) (.ref C_Unlike) = some false)
    (cl_NotOnce : (PySem.W.clsIn K C_NotOnce).isSome = true)
    (ga_NotOnce : PySem.W.findIn K (.ref C_NotOnce) "__getattribute__" = some (some (.builtin "BaseException.__getattribute__")))
    (gg_NotOnce : PySem.W.findIn K (.ref C_NotOnce) "__getattr__" = some none)
    (fc_NotOnce : PySem.W.findIn K (.ref C_NotOnce) "__class__" = some (some (.builtin "object.__class__")))
    (mo_NotOnce : PySem.W.mroIn K C_NotOnce (.type "object") = some true)
    (hD_NotOnce : PySem.W.hasDictIn K C_NotOnce = true)
    (ve_NotOnce : PySem.W.kitOne K (.ref C_NotOnce) (.type "ValueError") = some true)
    (er_NotOnce : PySem.W.exmOne K (.ref C_NotOnce) (.ref C_RestsError) = some true)
    (kt_NotOnce_BadFrame : PySem.W.kitOne K (.ref C_NotOnce) (.ref C_BadFrame) = some false)
    (kt_NotOnce_BadHouse : PySem.W.kitOne K (.ref C_NotOnce) (.ref C_BadHouse) = some false)
    (kt_NotOnce_BadLoad : PySem.W.kitOne K (.ref C_NotOnce) (.ref C_BadLoad) = some false)
    (kt_NotOnce_BadName : PySem.W.kitOne K (.ref C_NotOnce) (.ref C_BadName) = some false)
    (kt_NotOnce_BadNet : PySem.W.kitOne K (.ref C_NotOnce) (.ref C_BadNet) = some false)
    (kt_NotOnce_BadNumber : PySem.W.kitOne K (.ref C_NotOnce) (.ref C_BadNumber) = some false)
    (kt_NotOnce_BadRow : PySem.W.kitOne K (.ref C_NotOnce) (.ref C_BadRow) = some false)
    (kt_NotOnce_BadTable : PySem.W.kitOne K (.ref C_NotOnce) (.ref C_BadTable) = some false)
    (kt_NotOnce_BadText : PySem.W.kitOne K (.ref C_NotOnce) (.ref C_BadText) = some false)
    (kt_NotOnce_BadWeb : PySem.W.kitOne K (.ref C_NotOnce) (.ref C_BadWeb) = some false)
    (kt_NotOnce_Flat : PySem.W.kitOne K (.ref C_NotOnce) (.ref C_Flat) = some false)
    (kt_NotOnce_NoName : PySem.W.kitOne K (.ref C_NotOnce) (.ref C_NoName) = some false)
    (kt_NotOnce_NoPlace : PySem.W.kitOne K (.ref C_NotOnce) (.ref C_NoPlace) = some false)
    (kt_NotOnce_NoRow : PySem.W.kitOne K (.ref C_NotOnce) (.ref C_NoRow) = some false)
    (kt_NotOnce_NoWall : PySem.W.kitOne K (.ref C_NotOnce) (.ref C_NoWall) = some false)
    (kt_NotOnce_NotKept : PySem.W.kitOne K (.ref C_NotOnce) (.ref C_NotKept) = some false)
    (kt_NotOnce_NotOnce : PySem.W.kitOne K (.ref C_NotOnce) (.ref C_NotOnce) = some true)
    (kt_NotOnce_NotPlain : PySem.W.kitOne K (.ref C_NotOnce) (.ref C_NotPlain) = some false)
    (kt_NotOnce_NothingToRedo : PySem.W.kitOne K (.ref C_NotOnce) (.ref C_NothingToRedo) = some false)
    (kt_NotOnce_NothingToUndo : PySem.W.kitOne K (.ref C_NotOnce) (.ref C_NothingToUndo) = some false)
    (kt_NotOnce_TakenName : PySem.W.kitOne K (.ref C_NotOnce) (.ref C_TakenName) = some false)
    (kt_NotOnce_TooMany : PySem.W.kitOne K (.ref C_NotOnce) (.ref C_TooMany) = some false)
    (kt_NotOnce_Unlike : PySem.W.kitOne K (.ref C_NotOnce) (.ref C_Unlike) = some false)
    (cl_NotPlain : (PySem.W.clsIn K C_NotPlain).isSome = true)
    (ga_NotPlain : PySem.W.findIn K (.ref C_NotPlain) "__getattribute__" = some (some (.builtin "BaseException.__getattribute__")))
    (gg_NotPlain : PySem.W.findIn K (.ref C_NotPlain) "__getattr__" = some none)
    (fc_NotPlain : PySem.W.findIn K (.ref C_NotPlain) "__class__" = some (some (.builtin "object.__class__")))
    (mo_NotPlain : PySem.W.mroIn K C_NotPlain (.type "object") = some true)
    (hD_NotPlain : PySem.W.hasDictIn K C_NotPlain = true)
    (ve_NotPlain : PySem.W.kitOne K (.ref C_NotPlain) (.type "ValueError") = some true)
    (er_NotPlain : PySem.W.exmOne K (.ref C_NotPlain) (.ref C_RestsError) = some true)
    (kt_NotPlain_BadFrame : PySem.W.kitOne K (.ref C_NotPlain) (.ref C_BadFrame) = some false)
    (kt_NotPlain_BadHouse : PySem.W.kitOne K (.ref C_NotPlain) (.ref C_BadHouse) = some false)
    (kt_NotPlain_BadLoad : PySem.W.kitOne K (.ref C_NotPlain) (.ref C_BadLoad) = some false)
    (kt_NotPlain_BadName : PySem.W.kitOne K (.ref C_NotPlain) (.ref C_BadName) = some false)
    (kt_NotPlain_BadNet : PySem.W.kitOne K (.ref C_NotPlain) (.ref C_BadNet) = some false)
    (kt_NotPlain_BadNumber : PySem.W.kitOne K (.ref C_NotPlain) (.ref C_BadNumber) = some false)
    (kt_NotPlain_BadRow : PySem.W.kitOne K (.ref C_NotPlain) (.ref C_BadRow) = some false)
    (kt_NotPlain_BadTable : PySem.W.kitOne K (.ref C_NotPlain) (.ref C_BadTable) = some false)
    (kt_NotPlain_BadText : PySem.W.kitOne K (.ref C_NotPlain) (.ref C_BadText) = some false)
    (kt_NotPlain_BadWeb : PySem.W.kitOne K (.ref C_NotPlain) (.ref C_BadWeb) = some false)
    (kt_NotPlain_Flat : PySem.W.kitOne K (.ref C_NotPlain) (.ref C_Flat) = some false)
    (kt_NotPlain_NoName : PySem.W.kitOne K (.ref C_NotPlain) (.ref C_NoName) = some false)
    (kt_NotPlain_NoPlace : PySem.W.kitOne K (.ref C_NotPlain) (.ref C_NoPlace) = some false)
    (kt_NotPlain_NoRow : PySem.W.kitOne K (.ref C_NotPlain) (.ref C_NoRow) = some false)
    (kt_NotPlain_NoWall : PySem.W.kitOne K (.ref C_NotPlain) (.ref C_NoWall) = some false)
    (kt_NotPlain_NotKept : PySem.W.kitOne K (.ref C_NotPlain) (.ref C_NotKept) = some false)
    (kt_NotPlain_NotOnce : PySem.W.kitOne K (.ref C_NotPlain) (.ref C_NotOnce) = some false)
    (kt_NotPlain_NotPlain : PySem.W.kitOne K (.ref C_NotPlain) (.ref C_NotPlain) = some true)
    (kt_NotPlain_NothingToRedo : PySem.W.kitOne K (.ref C_NotPlain) (.ref C_NothingToRedo) = some false)
    (kt_NotPlain_NothingToUndo : PySem.W.kitOne K (.ref C_NotPlain) (.ref C_NothingToUndo) = some false)
    (kt_NotPlain_TakenName : PySem.W.kitOne K (.ref C_NotPlain) (.ref C_TakenName) = some false)
    (kt_NotPlain_TooMany : PySem.W.kitOne K (.ref C_NotPlain) (.ref C_TooMany) = some false)
    (kt_NotPlain_Unlike : PySem.W.kitOne K (.ref C_NotPlain) (.ref C_Unlike) = some false)
    (cl_NothingToRedo : (PySem.W.clsIn K C_NothingToRedo).isSome = true)
    (ga_NothingToRedo : PySem.W.findIn K (.ref C_NothingToRedo) "__getattribute__" = some (some (.builtin "BaseException.__getattribute__")))
    (gg_NothingToRedo : PySem.W.findIn K (.ref C_NothingToRedo) "__getattr__" = some none)
    (fc_NothingToRedo : PySem.W.findIn K (.ref C_NothingToRedo) "__class__" = some (some (.builtin "object.__class__")))
    (mo_NothingToRedo : PySem.W.mroIn K C_NothingToRedo (.type "object") = some true)
    (hD_NothingToRedo : PySem.W.hasDictIn K C_NothingToRedo = true)
    (ve_NothingToRedo : PySem.W.kitOne K (.ref C_NothingToRedo) (.type "ValueError") = some true)
    (er_NothingToRedo : PySem.W.exmOne K (.ref C_NothingToRedo) (.ref C_RestsError) = some true)
    (kt_NothingToRedo_BadFrame : PySem.W.kitOne K (.ref C_NothingToRedo) (.ref C_BadFrame) = some false)
    (kt_NothingToRedo_BadHouse : PySem.W.kitOne K (.ref C_NothingToRedo) (.ref C_BadHouse) = some false)
    (kt_NothingToRedo_BadLoad : PySem.W.kitOne K (.ref C_NothingToRedo) (.ref C_BadLoad) = some false)
    (kt_NothingToRedo_BadName : PySem.W.kitOne K (.ref C_NothingToRedo) (.ref C_BadName) = some false)
    (kt_NothingToRedo_BadNet : PySem.W.kitOne K (.ref C_NothingToRedo) (.ref C_BadNet) = some false)
    (kt_NothingToRedo_BadNumber : PySem.W.kitOne K (.ref C_NothingToRedo) (.ref C_BadNumber) = some false)
    (kt_NothingToRedo_BadRow : PySem.W.kitOne K (.ref C_NothingToRedo) (.ref C_BadRow) = some false)
    (kt_NothingToRedo_BadTable : PySem.W.kitOne K (.ref C_NothingToRedo) (.ref C_BadTable) = some false)
    (kt_NothingToRedo_BadText : PySem.W.kitOne K (.ref C_NothingToRedo) (.ref C_BadText) = some false)
    (kt_NothingToRedo_BadWeb : PySem.W.kitOne K (.ref C_NothingToRedo) (.ref C_BadWeb) = some false)
    (kt_NothingToRedo_Flat : PySem.W.kitOne K (.ref C_NothingToRedo) (.ref C_Flat) = some false)
    (kt_NothingToRedo_NoName : PySem.W.kitOne K (.ref C_NothingToRedo) (.ref C_NoName) = some false)
    (kt_NothingToRedo_NoPlace : PySem.W.kitOne K (.ref C_NothingToRedo) (.ref C_NoPlace) = some false)
    (kt_NothingToRedo_NoRow : PySem.W.kitOne K (.ref C_NothingToRedo) (.ref C_NoRow) = some false)
    (kt_NothingToRedo_NoWall : PySem.W.kitOne K (.ref C_NothingToRedo) (.ref C_NoWall) = some false)
    (kt_NothingToRedo_NotKept : PySem.W.kitOne K (.ref C_NothingToRedo) (.ref C_NotKept) = some false)
    (kt_NothingToRedo_NotOnce : PySem.W.kitOne K (.ref C_NothingToRedo) (.ref C_NotOnce) = some false)
    (kt_NothingToRedo_NotPlain : PySem.W.kitOne K (.ref C_NothingToRedo) (.ref C_NotPlain) = some false)
    (kt_NothingToRedo_NothingToRedo : PySem.W.kitOne K (.ref C_NothingToRedo) (.ref C_NothingToRedo) = some true)
    (kt_NothingToRedo_NothingToUndo : PySem.W.kitOne K (.ref C_NothingToRedo) (.ref C_NothingToUndo) = some false)
    (kt_NothingToRedo_TakenName : PySem.W.kitOne K (.ref C_NothingToRedo) (.ref C_TakenName) = some false)
    (kt_NothingToRedo_TooMany : PySem.W.kitOne K (.ref C_NothingToRedo) (.ref C_TooMany) = some false)
    (kt_NothingToRedo_Unlike : PySem.W.kitOne K (.ref C_NothingToRedo) (.ref C_Unlike) = some false)
    (cl_NothingToUndo : (PySem.W.clsIn K C_NothingToUndo).isSome = true)
    (ga_NothingToUndo : PySem.W.findIn K (.ref C_NothingToUndo) "__getattribute__" = some (some (.builtin "BaseException.__getattribute__")))
    (gg_NothingToUndo : PySem.W.findIn K (.ref C_NothingToUndo) "__getattr__" = some none)
    (fc_NothingToUndo : PySem.W.findIn K (.ref C_NothingToUndo) "__class__" = some (some (.builtin "object.__class__")))
    (mo_NothingToUndo : PySem.W.mroIn K C_NothingToUndo (.type "object") = some true)
    (hD_NothingToUndo : PySem.W.hasDictIn K C_NothingToUndo = true)
    (ve_NothingToUndo : PySem.W.kitOne K (.ref C_NothingToUndo) (.type "ValueError") = some true)
    (er_NothingToUndo : PySem.W.exmOne K (.ref C_NothingToUndo) (.ref C_RestsError) = some true)
    (kt_NothingToUndo_BadFrame : PySem.W.kitOne K (.ref C_NothingToUndo) (.ref C_BadFrame) = some false)
    (kt_NothingToUndo_BadHouse : PySem.W.kitOne K (.ref C_NothingToUndo) (.ref C_BadHouse) = some false)
    (kt_NothingToUndo_BadLoad : PySem.W.kitOne K (.ref C_NothingToUndo) (.ref C_BadLoad) = some false)
    (kt_NothingToUndo_BadName : PySem.W.kitOne K (.ref C_NothingToUndo) (.ref C_BadName) = some false)
    (kt_NothingToUndo_BadNet : PySem.W.kitOne K (.ref C_NothingToUndo) (.ref C_BadNet) = some false)
    (kt_NothingToUndo_BadNumber : PySem.W.kitOne K (.ref C_NothingToUndo) (.ref C_BadNumber) = some false)
    (kt_NothingToUndo_BadRow : PySem.W.kitOne K (.ref C_NothingToUndo) (.ref C_BadRow) = some false)
    (kt_NothingToUndo_BadTable : PySem.W.kitOne K (.ref C_NothingToUndo) (.ref C_BadTable) = some false)
    (kt_NothingToUndo_BadText : PySem.W.kitOne K (.ref C_NothingToUndo) (.ref C_BadText) = some false)
    (kt_NothingToUndo_BadWeb : PySem.W.kitOne K (.ref C_NothingToUndo) (.ref C_BadWeb) = some false)
    (kt_NothingToUndo_Flat : PySem.W.kitOne K (.ref C_NothingToUndo) (.ref C_Flat) = some false)
    (kt_NothingToUndo_NoName : PySem.W.kitOne K (.ref C_NothingToUndo) (.ref C_NoName) = some false)
    (kt_NothingToUndo_NoPlace : PySem.W.kitOne K (.ref C_NothingToUndo) (.ref C_NoPlace) = some false)
    (kt_NothingToUndo_NoRow : PySem.W.kitOne K (.ref C_NothingToUndo) (.ref C_NoRow) = some false)
    (kt_NothingToUndo_NoWall : PySem.W.kitOne K (.ref C_NothingToUndo) (.ref C_NoWall) = some false)
    (kt_NothingToUndo_NotKept : PySem.W.kitOne K (.ref C_NothingToUndo) (.ref C_NotKept) = some false)
    (kt_NothingToUndo_NotOnce : PySem.W.kitOne K (.ref C_NothingToUndo) (.ref C_NotOnce) = some false)
    (kt_NothingToUndo_NotPlain : PySem.W.kitOne K (.ref C_NothingToUndo) (.ref C_NotPlain) = some false)
    (kt_NothingToUndo_NothingToRedo : PySem.W.kitOne K (.ref C_NothingToUndo) (.ref C_NothingToRedo) = some false)
    (kt_NothingToUndo_NothingToUndo : PySem.W.kitOne K (.ref C_NothingToUndo) (.ref C_NothingToUndo) = some true)
    (kt_NothingToUndo_TakenName : PySem.W.kitOne K (.ref C_NothingToUndo) (.ref C_TakenName) = some false)
    (kt_NothingToUndo_TooMany : PySem.W.kitOne K (.ref C_NothingToUndo) (.ref C_TooMany) = some false)
    (kt_NothingToUndo_Unlike : PySem.W.kitOne K (.ref C_NothingToUndo) (.ref C_Unlike) = some false)
    (cl_TakenName : (PySem.W.clsIn K C_TakenName).isSome = true)
    (ga_TakenName : PySem.W.findIn K (.ref C_TakenName) "__getattribute__" = some (some (.builtin "BaseException.__getattribute__")))
    (gg_TakenName : PySem.W.findIn K (.ref C_TakenName) "__getattr__" = some none)
    (fc_TakenName : PySem.W.findIn K (.ref C_TakenName) "__class__" = some (some (.builtin "object.__class__")))
    (mo_TakenName : PySem.W.mroIn K C_TakenName (.type "object") = some true)
    (hD_TakenName : PySem.W.hasDictIn K C_TakenName = true)
    (ve_TakenName : PySem.W.kitOne K (.ref C_TakenName) (.type "ValueError") = some true)
    (er_TakenName : PySem.W.exmOne K (.ref C_TakenName) (.ref C_RestsError) = some true)
    (kt_TakenName_BadFrame : PySem.W.kitOne K (.ref C_TakenName) (.ref C_BadFrame) = some false)
    (kt_TakenName_BadHouse : PySem.W.kitOne K (.ref C_TakenName) (.ref C_BadHouse) = some false)
    (kt_TakenName_BadLoad : PySem.W.kitOne K (.ref C_TakenName) (.ref C_BadLoad) = some false)
    (kt_TakenName_BadName : PySem.W.kitOne K (.ref C_TakenName) (.ref C_BadName) = some false)
    (kt_TakenName_BadNet : PySem.W.kitOne K (.ref C_TakenName) (.ref C_BadNet) = some false)
    (kt_TakenName_BadNumber : PySem.W.kitOne K (.ref C_TakenName) (.ref C_BadNumber) = some false)
    (kt_TakenName_BadRow : PySem.W.kitOne K (.ref C_TakenName) (.ref C_BadRow) = some false)
    (kt_TakenName_BadTable : PySem.W.kitOne K (.ref C_TakenName) (.ref C_BadTable) = some false)
    (kt_TakenName_BadText : PySem.W.kitOne K (.ref C_TakenName) (.ref C_BadText) = some false)
    (kt_TakenName_BadWeb : PySem.W.kitOne K (.ref C_TakenName) (.ref C_BadWeb) = some false)
    (kt_TakenName_Flat : PySem.W.kitOne K (.ref C_TakenName) (.ref C_Flat) = some false)
    (kt_TakenName_NoName : PySem.W.kitOne K (.ref C_TakenName) (.ref C_NoName) = some false)
    (kt_TakenName_NoPlace : PySem.W.kitOne K (.ref C_TakenName) (.ref C_NoPlace) = some false)
    (kt_TakenName_NoRow : PySem.W.kitOne K (.ref C_TakenName) (.ref C_NoRow) = some false)
    (kt_TakenName_NoWall : PySem.W.kitOne K (.ref C_TakenName) (.ref C_NoWall) = some false)
    (kt_TakenName_NotKept : PySem.W.kitOne K (.ref C_TakenName) (.ref C_NotKept) = some false)
    (kt_TakenName_NotOnce : PySem.W.kitOne K (.ref C_TakenName) (.ref C_NotOnce) = some false)
    (kt_TakenName_NotPlain : PySem.W.kitOne K (.ref C_TakenName) (.ref C_NotPlain) = some false)
    (kt_TakenName_NothingToRedo : PySem.W.kitOne K (.ref C_TakenName) (.ref C_NothingToRedo) = some false)
    (kt_TakenName_NothingToUndo : PySem.W.kitOne K (.ref C_TakenName) (.ref C_NothingToUndo) = some false)
    (kt_TakenName_TakenName : PySem.W.kitOne K (.ref C_TakenName) (.ref C_TakenName) = some true)
    (kt_TakenName_TooMany : PySem.W.kitOne K (.ref C_TakenName) (.ref C_TooMany) = some false)
    (kt_TakenName_Unlike : PySem.W.kitOne K (.ref C_TakenName) (.ref C_Unlike) = some false)
    (cl_TooMany : (PySem.W.clsIn K C_TooMany).isSome = true)
    (ga_TooMany : PySem.W.findIn K (.ref C_TooMany) "__getattribute__" = some (some (.builtin "BaseException.__getattribute__")))
    (gg_TooMany : PySem.W.findIn K (.ref C_TooMany) "__getattr__" = some none)
    (fc_TooMany : PySem.W.findIn K (.ref C_TooMany) "__class__" = some (some (.builtin "object.__class__")))
    (mo_TooMany : PySem.W.mroIn K C_TooMany (.type "object") = some true)
    (hD_TooMany : PySem.W.hasDictIn K C_TooMany = true)
    (ve_TooMany : PySem.W.kitOne K (.ref C_TooMany) (.type "ValueError") = some true)
    (er_TooMany : PySem.W.exmOne K (.ref C_TooMany) (.ref C_RestsError) = some true)
    (kt_TooMany_BadFrame : PySem.W.kitOne K (.ref C_TooMany) (.ref C_BadFrame) = some false)
    (kt_TooMany_BadHouse : PySem.W.kitOne K (.ref C_TooMany) (.ref C_BadHouse) = some false)
    (kt_TooMany_BadLoad : PySem.W.kitOne K (.ref C_TooMany) (.ref C_BadLoad) = some false)
    (kt_TooMany_BadName : PySem.W.kitOne K (.ref C_TooMany) (.ref C_BadName) = some false)
    (kt_TooMany_BadNet : PySem.W.kitOne K (.ref C_TooMany) (.ref C_BadNet) = some false)
    (kt_TooMany_BadNumber : PySem.W.kitOne K (.ref C_TooMany) (.ref C_BadNumber) = some false)
    (kt_TooMany_BadRow : PySem.W.kitOne K (.ref C_TooMany) (.ref C_BadRow) = some false)
    (kt_TooMany_BadTable : PySem.W.kitOne K (.ref C_TooMany) (.ref C_BadTable) = some false)
    (kt_TooMany_BadText : PySem.W.kitOne K (.ref C_TooMany) (.ref C_BadText) = some false)
    (kt_TooMany_BadWeb : PySem.W.kitOne K (.ref C_TooMany) (.ref C_BadWeb) = some false)
    (kt_TooMany_Flat : PySem.W.kitOne K (.ref C_TooMany) (.ref C_Flat) = some false)
    (kt_TooMany_NoName : PySem.W.kitOne K (.ref C_TooMany) (.ref C_NoName) = some false)
    (kt_TooMany_NoPlace : PySem.W.kitOne K (.ref C_TooMany) (.ref C_NoPlace) = some false)
    (kt_TooMany_NoRow : PySem.W.kitOne K (.ref C_TooMany) (.ref C_NoRow) = some false)
    (kt_TooMany_NoWall : PySem.W.kitOne K (.ref C_TooMany) (.ref C_NoWall) = some false)
    (kt_TooMany_NotKept : PySem.W.kitOne K (.ref C_TooMany) (.ref C_NotKept) = some false)
    (kt_TooMany_NotOnce : PySem.W.kitOne K (.ref C_TooMany) (.ref C_NotOnce) = some false)
    (kt_TooMany_NotPlain : PySem.W.kitOne K (.ref C_TooMany) (.ref C_NotPlain) = some false)
    (kt_TooMany_NothingToRedo : PySem.W.kitOne K (.ref C_TooMany) (.ref C_NothingToRedo) = some false)
    (kt_TooMany_NothingToUndo : PySem.W.kitOne K (.ref C_TooMany) (.ref C_NothingToUndo) = some false)
    (kt_TooMany_TakenName : PySem.W.kitOne K (.ref C_TooMany) (.ref C_TakenName) = some false)
    (kt_TooMany_TooMany : PySem.W.kitOne K (.ref C_TooMany) (.ref C_TooMany) = some true)
    (kt_TooMany_Unlike : PySem.W.kitOne K (.ref C_TooMany) (.ref C_Unlike) = some false)
    (cl_Unlike : (PySem.W.clsIn K C_Unlike).isSome = true)
    (ga_Unlike : PySem.W.findIn K (.ref C_Unlike) "__getattribute__" = some (some (.builtin "BaseException.__getattribute__")))
    (gg_Unlike : PySem.W.findIn K (.ref C_Unlike) "__getattr__" = some none)
    (fc_Unlike : PySem.W.findIn K (.ref C_Unlike) "__class__" = some (some (.builtin "object.__class__")))
    (mo_Unlike : PySem.W.mroIn K C_Unlike (.type "object") = some true)
    (hD_Unlike : PySem.W.hasDictIn K C_Unlike = true)
    (ve_Unlike : PySem.W.kitOne K (.ref C_Unlike) (.type "ValueError") = some true)
    (er_Unlike : PySem.W.exmOne K (.ref C_Unlike) (.ref C_RestsError) = some true)
    (kt_Unlike_BadFrame : PySem.W.kitOne K (.ref C_Unlike) (.ref C_BadFrame) = some false)
    (kt_Unlike_BadHouse : PySem.W.kitOne K (.ref C_Unlike) (.ref C_BadHouse) = some false)
    (kt_Unlike_BadLoad : PySem.W.kitOne K (.ref C_Unlike) (.ref C_BadLoad) = some false)
    (kt_Unlike_BadName : PySem.W.kitOne K (.ref C_Unlike) (.ref C_BadName) = some false)
    (kt_Unlike_BadNet : PySem.W.kitOne K (.ref C_Unlike) (.ref C_BadNet) = some false)
    (kt_Unlike_BadNumber : PySem.W.kitOne K (.ref C_Unlike) (.ref C_BadNumber) = some false)
    (kt_Unlike_BadRow : PySem.W.kitOne K (.ref C_Unlike) (.ref C_BadRow) = some false)
    (kt_Unlike_BadTable : PySem.W.kitOne K (.ref C_Unlike) (.ref C_BadTable) = some false)
    (kt_Unlike_BadText : PySem.W.kitOne K (.ref C_Unlike) (.ref C_BadText) = some false)
    (kt_Unlike_BadWeb : PySem.W.kitOne K (.ref C_Unlike) (.ref C_BadWeb) = some false)
    (kt_Unlike_Flat : PySem.W.kitOne K (.ref C_Unlike) (.ref C_Flat) = some false)
    (kt_Unlike_NoName : PySem.W.kitOne K (.ref C_Unlike) (.ref C_NoName) = some false)
    (kt_Unlike_NoPlace : PySem.W.kitOne K (.ref C_Unlike) (.ref C_NoPlace) = some false)
    (kt_Unlike_NoRow : PySem.W.kitOne K (.ref C_Unlike) (.ref C_NoRow) = some false)
    (kt_Unlike_NoWall : PySem.W.kitOne K (.ref C_Unlike) (.ref C_NoWall) = some false)
    (kt_Unlike_NotKept : PySem.W.kitOne K (.ref C_Unlike) (.ref C_NotKept) = some false)
    (kt_Unlike_NotOnce : PySem.W.kitOne K (.ref C_Unlike) (.ref C_NotOnce) = some false)
    (kt_Unlike_NotPlain : PySem.W.kitOne K (.ref C_Unlike) (.ref C_NotPlain) = some false)
    (kt_Unlike_NothingToRedo : PySem.W.kitOne K (.ref C_Unlike) (.ref C_NothingToRedo) = some false)
    (kt_Unlike_NothingToUndo : PySem.W.kitOne K (.ref C_Unlike) (.ref C_NothingToUndo) = some false)
    (kt_Unlike_TakenName : PySem.W.kitOne K (.ref C_Unlike) (.ref C_TakenName) = some false)
    (kt_Unlike_TooMany : PySem.W.kitOne K (.ref C_Unlike) (.ref C_TooMany) = some false)
    (kt_Unlike_Unlike : PySem.W.kitOne K (.ref C_Unlike) (.ref C_Unlike) = some true)
    (spc : PySem.W.specialIn K (.builtin "object.__class__") "__get__" = some (some (.builtin "getset_descriptor.__get__")))
    (tkc : PySem.W.takesIn K (.builtin "object.__class__") = some true)
    (q0_NothingToRedo : PySem.W.excIn K C_NothingToRedo [.type "ValueError", .type "Exception", .type "BaseException", .type "object"] "ValueError.__new__" = true)
    (k0_NothingToRedo : PySem.W.keepIn K (.ref C_NothingToRedo) = true)
    (eC_NothingToRedo : PySem.W.subIn K (.ref C_NothingToRedo) (.type "BaseException") = some true)
    (t0_NothingToRedo : PySem.W.typeIn K (.ref C_NothingToRedo) = some (.type "type"))
    (q0_NothingToUndo : PySem.W.excIn K C_NothingToUndo [.type "ValueError", .type "Exception", .type "BaseException", .type "object"] "ValueError.__new__" = true)
    (k0_NothingToUndo : PySem.W.keepIn K (.ref C_NothingToUndo) = true)
    (eC_NothingToUndo : PySem.W.subIn K (.ref C_NothingToUndo) (.type "BaseException") = some true)
    (t0_NothingToUndo : PySem.W.typeIn K (.ref C_NothingToUndo) = some (.type "type"))
    : LawAtH l w K 5 63 "script" mg fa h := by
  have e := hfa.symm.trans (PySem.W.mg_of X G a_law)
  cases e
  have g_BadFrame := PySem.W.mg_of X G A_BadFrame
  have e_BadFrame : cmOf mg "BadFrame" = C_BadFrame := cmOf_eq g_BadFrame
  have g_BadHouse := PySem.W.mg_of X G A_BadHouse
  have e_BadHouse : cmOf mg "BadHouse" = C_BadHouse := cmOf_eq g_BadHouse
  have g_BadLoad := PySem.W.mg_of X G A_BadLoad
  have e_BadLoad : cmOf mg "BadLoad" = C_BadLoad := cmOf_eq g_BadLoad
  have g_BadName := PySem.W.mg_of X G A_BadName
  have e_BadName : cmOf mg "BadName" = C_BadName := cmOf_eq g_BadName
  have g_BadNet := PySem.W.mg_of X G A_BadNet
  have e_BadNet : cmOf mg "BadNet" = C_BadNet := cmOf_eq g_BadNet
  have g_BadNumber := PySem.W.mg_of X G A_BadNumber
  have e_BadNumber : cmOf mg "BadNumber" = C_BadNumber := cmOf_eq g_BadNumber
  have g_BadRow := PySem.W.mg_of X G A_BadRow
  have e_BadRow : cmOf mg "BadRow" = C_BadRow := cmOf_eq g_BadRow
  have g_BadTable := PySem.W.mg_of X G A_BadTable
  have e_BadTable : cmOf mg "BadTable" = C_BadTable := cmOf_eq g_BadTable
  have g_BadText := PySem.W.mg_of X G A_BadText
  have e_BadText : cmOf mg "BadText" = C_BadText := cmOf_eq g_BadText
  have g_BadWeb := PySem.W.mg_of X G A_BadWeb
  have e_BadWeb : cmOf mg "BadWeb" = C_BadWeb := cmOf_eq g_BadWeb
  have g_Flat := PySem.W.mg_of X G A_Flat
  have e_Flat : cmOf mg "Flat" = C_Flat := cmOf_eq g_Flat
  have g_NoName := PySem.W.mg_of X G A_NoName
  have e_NoName : cmOf mg "NoName" = C_NoName := cmOf_eq g_NoName
  have g_NoPlace := PySem.W.mg_of X G A_NoPlace
  have e_NoPlace : cmOf mg "NoPlace" = C_NoPlace := cmOf_eq g_NoPlace
  have g_NoRow := PySem.W.mg_of X G A_NoRow
  have e_NoRow : cmOf mg "NoRow" = C_NoRow := cmOf_eq g_NoRow
  have g_NoWall := PySem.W.mg_of X G A_NoWall
  have e_NoWall : cmOf mg "NoWall" = C_NoWall := cmOf_eq g_NoWall
  have g_NotKept := PySem.W.mg_of X G A_NotKept
  have e_NotKept : cmOf mg "NotKept" = C_NotKept := cmOf_eq g_NotKept
  have g_NotOnce := PySem.W.mg_of X G A_NotOnce
  have e_NotOnce : cmOf mg "NotOnce" = C_NotOnce := cmOf_eq g_NotOnce
  have g_NotPlain := PySem.W.mg_of X G A_NotPlain
  have e_NotPlain : cmOf mg "NotPlain" = C_NotPlain := cmOf_eq g_NotPlain
  have g_NothingToRedo := PySem.W.mg_of X G A_NothingToRedo
  have e_NothingToRedo : cmOf mg "NothingToRedo" = C_NothingToRedo := cmOf_eq g_NothingToRedo
  have g_NothingToUndo := PySem.W.mg_of X G A_NothingToUndo
  have e_NothingToUndo : cmOf mg "NothingToUndo" = C_NothingToUndo := cmOf_eq g_NothingToUndo
  have g_RestsError := PySem.W.mg_of X G A_RestsError
  have e_RestsError : cmOf mg "RestsError" = C_RestsError := cmOf_eq g_RestsError
  have g_TakenName := PySem.W.mg_of X G A_TakenName
  have e_TakenName : cmOf mg "TakenName" = C_TakenName := cmOf_eq g_TakenName
  have g_TooMany := PySem.W.mg_of X G A_TooMany
  have e_TooMany : cmOf mg "TooMany" = C_TooMany := cmOf_eq g_TooMany
  have g_Unlike := PySem.W.mg_of X G A_Unlike
  have e_Unlike : cmOf mg "Unlike" = C_Unlike := cmOf_eq g_Unlike
  have Z : Zn mg := ⟨PySem.W.mg_none_of X G z_ValueError, PySem.W.mg_none_of X G z_int, PySem.W.mg_none_of X G z_isinstance, PySem.W.mg_none_of X G z_len, PySem.W.mg_none_of X G z_list, PySem.W.mg_none_of X G z_range, PySem.W.mg_none_of X G z_repr⟩
  have Y : Yn K mg := ⟨trivial⟩
  have XC : ∀ c ∈ excN, XcC K (cmOf mg c) := x_one (by rw [e_BadFrame]; exact ⟨cl_BadFrame, ga_BadFrame, gg_BadFrame, eC_BadFrame, fc_BadFrame, spc, tkc, mo_BadFrame⟩) (by rw [e_BadHouse]; exact ⟨cl_BadHouse, ga_BadHouse, gg_BadHouse, eC_BadHouse, fc_BadHouse, spc, tkc, mo_BadHouse⟩) (by rw [e_BadLoad]; exact ⟨cl_BadLoad, ga_BadLoad, gg_BadLoad, eC_BadLoad, fc_BadLoad, spc, tkc, mo_BadLoad⟩) (by rw [e_BadName]; exact ⟨cl_BadName, ga_BadName, gg_BadName, eC_BadName, fc_BadName, spc, tkc, mo_BadName⟩) (by rw [e_BadNet]; exact ⟨cl_BadNet, ga_BadNet, gg_BadNet, eC_BadNet, fc_BadNet, spc, tkc, mo_BadNet⟩) (by rw [e_BadNumber]; exact ⟨cl_BadNumber, ga_BadNumber, gg_BadNumber, eC_BadNumber, fc_BadNumber, spc, tkc, mo_BadNumber⟩) (by rw [e_BadRow]; exact ⟨cl_BadRow, ga_BadRow, gg_BadRow, eC_BadRow, fc_BadRow, spc, tkc, mo_BadRow⟩) (by rw [e_BadTable]; exact ⟨cl_BadTable, ga_BadTable, gg_BadTable, eC_BadTable, fc_BadTable, spc, tkc, mo_BadTable⟩) (by rw [e_BadText]; exact ⟨cl_BadText, ga_BadText, gg_BadText, eC_BadText, fc_BadText, spc, tkc, mo_BadText⟩) (by rw [e_BadWeb]; exact ⟨cl_BadWeb, ga_BadWeb, gg_BadWeb, eC_BadWeb, fc_BadWeb, spc, tkc, mo_BadWeb⟩) (by rw [e_Flat]; exact ⟨cl_Flat, ga_Flat, gg_Flat, eC_Flat, fc_Flat, spc, tkc, mo_Flat⟩) (by rw [e_NoName]; exact ⟨cl_NoName, ga_NoName, gg_NoName, eC_NoName, fc_NoName, spc, tkc, mo_NoName⟩) (by rw [e_NoPlace]; exact ⟨cl_NoPlace, ga_NoPlace, gg_NoPlace, eC_NoPlace, fc_NoPlace, spc, tkc, mo_NoPlace⟩) (by rw [e_NoRow]; exact ⟨cl_NoRow, ga_NoRow, gg_NoRow, eC_NoRow, fc_NoRow, spc, tkc, mo_NoRow⟩) (by rw [e_NoWall]; exact ⟨cl_NoWall, ga_NoWall, gg_NoWall, eC_NoWall, fc_NoWall, spc, tkc, mo_NoWall⟩) (by rw [e_NotKept]; exact ⟨cl_NotKept, ga_NotKept, gg_NotKept, eC_NotKept, fc_NotKept, spc, tkc, mo_NotKept⟩) (by rw [e_NotOnce]; exact ⟨cl_NotOnce, ga_NotOnce, gg_NotOnce, eC_NotOnce, fc_NotOnce, spc, tkc, mo_NotOnce⟩) (by rw [e_NotPlain]; exact ⟨cl_NotPlain, ga_NotPlain, gg_NotPlain, eC_NotPlain, fc_NotPlain, spc, tkc, mo_NotPlain⟩) (by rw [e_NothingToRedo]; exact ⟨cl_NothingToRedo, ga_NothingToRedo, gg_NothingToRedo, eC_NothingToRedo, fc_NothingToRedo, spc, tkc, mo_NothingToRedo⟩) (by rw [e_NothingToUndo]; exact ⟨cl_NothingToUndo, ga_NothingToUndo, gg_NothingToUndo, eC_NothingToUndo, fc_NothingToUndo, spc, tkc, mo_NothingToUndo⟩) (by rw [e_TakenName]; exact ⟨cl_TakenName, ga_TakenName, gg_TakenName, eC_TakenName, fc_TakenName, spc, tkc, mo_TakenName⟩) (by rw [e_TooMany]; exact ⟨cl_TooMany, ga_TooMany, gg_TooMany, eC_TooMany, fc_TooMany, spc, tkc, mo_TooMany⟩) (by rw [e_Unlike]; exact ⟨cl_Unlike, ga_Unlike, gg_Unlike, eC_Unlike, fc_Unlike, spc, tkc, mo_Unlike⟩)
  have Xn : XnOk K mg := ⟨(by rw [e_BadFrame]; exact g_BadFrame),
    (fun c hc => ⟨XC c hc, x_one (P := fun c => PySem.W.kitOne K (.ref (cmOf mg c)) (.ref (cmOf mg "BadFrame")) = some (c == "BadFrame")) (by rw [e_BadFrame]; exact kt_BadFrame_BadFrame) (by rw [e_BadHouse, e_BadFrame]; exact kt_BadHouse_BadFrame) (by rw [e_BadLoad, e_BadFrame]; exact kt_BadLoad_BadFrame) (by rw [e_BadName, e_BadFrame]; exact kt_BadName_BadFrame) (by rw [e_BadNet, e_BadFrame]; exact kt_BadNet_BadFrame) (by rw [e_BadNumber, e_BadFrame]; exact kt_BadNumber_BadFrame) (by rw [e_BadRow, e_BadFrame]; exact kt_BadRow_BadFrame) (by rw [e_BadTable, e_BadFrame]; exact kt_BadTable_BadFrame) (by rw [e_BadText, e_BadFrame]; exact kt_BadText_BadFrame) (by rw [e_BadWeb, e_BadFrame]; exact kt_BadWeb_BadFrame) (by rw [e_Flat, e_BadFrame]; exact kt_Flat_BadFrame) (by rw [e_NoName, e_BadFrame]; exact kt_NoName_BadFrame) (by rw [e_NoPlace, e_BadFrame]; exact kt_NoPlace_BadFrame) (by rw [e_NoRow, e_BadFrame]; exact kt_NoRow_BadFrame) (by rw [e_NoWall, e_BadFrame]; exact kt_NoWall_BadFrame) (by rw [e_NotKept, e_BadFrame]; exact kt_NotKept_BadFrame) (by rw [e_NotOnce, e_BadFrame]; exact kt_NotOnce_BadFrame) (by rw [e_NotPlain, e_BadFrame]; exact kt_NotPlain_BadFrame) (by rw [e_NothingToRedo, e_BadFrame]; exact kt_NothingToRedo_BadFrame) (by rw [e_NothingToUndo, e_BadFrame]; exact kt_NothingToUndo_BadFrame) (by rw [e_TakenName, e_BadFrame]; exact kt_TakenName_BadFrame) (by rw [e_TooMany, e_BadFrame]; exact kt_TooMany_BadFrame) (by rw [e_Unlike, e_BadFrame]; exact kt_Unlike_BadFrame) c hc⟩),
    (by rw [e_BadHouse]; exact g_BadHouse),
    (fun c hc => ⟨XC c hc, x_one (P := fun c => PySem.W.kitOne K (.ref (cmOf mg c)) (.ref (cmOf mg "BadHouse")) = some (c == "BadHouse")) (by rw [e_BadFrame, e_BadHouse]; exact kt_BadFrame_BadHouse) (by rw [e_BadHouse]; exact kt_BadHouse_BadHouse) (by rw [e_BadLoad, e_BadHouse]; exact kt_BadLoad_BadHouse) (by rw [e_BadName, e_BadHouse]; exact kt_BadName_BadHouse) (by rw [e_BadNet, e_BadHouse]; exact kt_BadNet_BadHouse) (by rw [e_BadNumber, e_BadHouse]; exact kt_BadNumber_BadHouse) (by rw [e_BadRow, e_BadHouse]; exact kt_BadRow_BadHouse) (by rw [e_BadTable, e_BadHouse]; exact kt_BadTable_BadHouse) (by rw [e_BadText, e_BadHouse]; exact kt_BadText_BadHouse) (by rw [e_BadWeb, e_BadHouse]; exact kt_BadWeb_BadHouse) (by rw [e_Flat, e_BadHouse]; exact kt_Flat_BadHouse) (by rw [e_NoName, e_BadHouse]; exact kt_NoName_BadHouse) (by rw [e_NoPlace, e_BadHouse]; exact kt_NoPlace_BadHouse) (by rw [e_NoRow, e_BadHouse]; exact kt_NoRow_BadHouse) (by rw [e_NoWall, e_BadHouse]; exact kt_NoWall_BadHouse) (by rw [e_NotKept, e_BadHouse]; exact kt_NotKept_BadHouse) (by rw [e_NotOnce, e_BadHouse]; exact kt_NotOnce_BadHouse) (by rw [e_NotPlain, e_BadHouse]; exact kt_NotPlain_BadHouse) (by rw [e_NothingToRedo, e_BadHouse]; exact kt_NothingToRedo_BadHouse) (by rw [e_NothingToUndo, e_BadHouse]; exact kt_NothingToUndo_BadHouse) (by rw [e_TakenName, e_BadHouse]; exact kt_TakenName_BadHouse) (by rw [e_TooMany, e_BadHouse]; exact kt_TooMany_BadHouse) (by rw [e_Unlike, e_BadHouse]; exact kt_Unlike_BadHouse) c hc⟩),
    (by rw [e_BadLoad]; exact g_BadLoad),
    (fun c hc => ⟨XC c hc, x_one (P := fun c => PySem.W.kitOne K (.ref (cmOf mg c)) (.ref (cmOf mg "BadLoad")) = some (c == "BadLoad")) (by rw [e_BadFrame, e_BadLoad]; exact kt_BadFrame_BadLoad) (by rw [e_BadHouse, e_BadLoad]; exact kt_BadHouse_BadLoad) (by rw [e_BadLoad]; exact kt_BadLoad_BadLoad) (by rw [e_BadName, e_BadLoad]; exact kt_BadName_BadLoad) (by rw [e_BadNet, e_BadLoad]; exact kt_BadNet_BadLoad) (by rw [e_BadNumber, e_BadLoad]; exact kt_BadNumber_BadLoad) (by rw [e_BadRow, e_BadLoad]; exact kt_BadRow_BadLoad) (by rw [e_BadTable, e_BadLoad]; exact kt_BadTable_BadLoad) (by rw [e_BadText, e_BadLoad]; exact kt_BadText_BadLoad) (by rw [e_BadWeb, e_BadLoad]; exact kt_BadWeb_BadLoad) (by rw [e_Flat, e_BadLoad]; exact kt_Flat_BadLoad) (by rw [e_NoName, e_BadLoad]; exact kt_NoName_BadLoad) (by rw [e_NoPlace, e_BadLoad]; exact kt_NoPlace_BadLoad) (by rw [e_NoRow, e_BadLoad]; exact kt_NoRow_BadLoad) (by rw [e_NoWall, e_BadLoad]; exact kt_NoWall_BadLoad) (by rw [e_NotKept, e_BadLoad]; exact kt_NotKept_BadLoad) (by rw [e_NotOnce, e_BadLoad]; exact kt_NotOnce_BadLoad) (by rw [e_NotPlain, e_BadLoad]; exact kt_NotPlain_BadLoad) (by rw [e_NothingToRedo, e_BadLoad]; exact kt_NothingToRedo_BadLoad) (by rw [e_NothingToUndo, e_BadLoad]; exact kt_NothingToUndo_BadLoad) (by rw [e_TakenName, e_BadLoad]; exact kt_TakenName_BadLoad) (by rw [e_TooMany, e_BadLoad]; exact kt_TooMany_BadLoad) (by rw [e_Unlike, e_BadLoad]; exact kt_Unlike_BadLoad) c hc⟩),
    (by rw [e_BadName]; exact g_BadName),
    (fun c hc => ⟨XC c hc, x_one (P := fun c => PySem.W.kitOne K (.ref (cmOf mg c)) (.ref (cmOf mg "BadName")) = some (c == "BadName")) (by rw [e_BadFrame, e_BadName]; exact kt_BadFrame_BadName) (by rw [e_BadHouse, e_BadName]; exact kt_BadHouse_BadName) (by rw [e_BadLoad, e_BadName]; exact kt_BadLoad_BadName) (by rw [e_BadName]; exact kt_BadName_BadName) (by rw [e_BadNet, e_BadName]; exact kt_BadNet_BadName) (by rw [e_BadNumber, e_BadName]; exact kt_BadNumber_BadName) (by rw [e_BadRow, e_BadName]; exact kt_BadRow_BadName) (by rw [e_BadTable, e_BadName]; exact kt_BadTable_BadName) (by rw [e_BadText, e_BadName]; exact kt_BadText_BadName) (by rw [e_BadWeb, e_BadName]; exact kt_BadWeb_BadName) (by rw [e_Flat, e_BadName]; exact kt_Flat_BadName) (by rw [e_NoName, e_BadName]; exact kt_NoName_BadName) (by rw [e_NoPlace, e_BadName]; exact kt_NoPlace_BadName) (by rw [e_NoRow, e_BadName]; exact kt_NoRow_BadName) (by rw [e_NoWall, e_BadName]; exact kt_NoWall_BadName) (by rw [e_NotKept, e_BadName]; exact kt_NotKept_BadName) (by rw [e_NotOnce, e_BadName]; exact kt_NotOnce_BadName) (by rw [e_NotPlain, e_BadName]; exact kt_NotPlain_BadName) (by rw [e_NothingToRedo, e_BadName]; exact kt_NothingToRedo_BadName) (by rw [e_NothingToUndo, e_BadName]; exact kt_NothingToUndo_BadName) (by rw [e_TakenName, e_BadName]; exact kt_TakenName_BadName) (by rw [e_TooMany, e_BadName]; exact kt_TooMany_BadName) (by rw [e_Unlike, e_BadName]; exact kt_Unlike_BadName) c hc⟩),
    (by rw [e_BadNet]; exact g_BadNet),
    (fun c hc => ⟨XC c hc, x_one (P := fun c => PySem.W.kitOne K (.ref (cmOf mg c)) (.ref (cmOf mg "BadNet")) = some (c == "BadNet")) (by rw [e_BadFrame, e_BadNet]; exact kt_BadFrame_BadNet) (by rw [e_BadHouse, e_BadNet]; exact kt_BadHouse_BadNet) (by rw [e_BadLoad, e_BadNet]; exact kt_BadLoad_BadNet) (by rw [e_BadName, e_BadNet]; exact kt_BadName_BadNet) (by rw [e_BadNet]; exact kt_BadNet_BadNet) (by rw [e_BadNumber, e_BadNet]; exact kt_BadNumber_BadNet) (by rw [e_BadRow, e_BadNet]; exact kt_BadRow_BadNet) (by rw [e_BadTable, e_BadNet]; exact kt_BadTable_BadNet) (by rw [e_BadText, e_BadNet]; exact kt_BadText_BadNet) (by rw [e_BadWeb, e_BadNet]; exact kt_BadWeb_BadNet) (by rw [e_Flat, e_BadNet]; exact kt_Flat_BadNet) (by rw [e_NoName, e_BadNet]; exact kt_NoName_BadNet) (by rw [e_NoPlace, e_BadNet]; exact kt_NoPlace_BadNet) (by rw [e_NoRow, e_BadNet]; exact kt_NoRow_BadNet) (by rw [e_NoWall, e_BadNet]; exact kt_NoWall_BadNet) (by rw [e_NotKept, e_BadNet]; exact kt_NotKept_BadNet) (by rw [e_NotOnce, e_BadNet]; exact kt_NotOnce_BadNet) (by rw [e_NotPlain, e_BadNet]; exact kt_NotPlain_BadNet) (by rw [e_NothingToRedo, e_BadNet]; exact kt_NothingToRedo_BadNet) (by rw [e_NothingToUndo, e_BadNet]; exact kt_NothingToUndo_BadNet) (by rw [e_TakenName, e_BadNet]; exact kt_TakenName_BadNet) (by rw [e_TooMany, e_BadNet]; exact kt_TooMany_BadNet) (by rw [e_Unlike, e_BadNet]; exact kt_Unlike_BadNet) c hc⟩),
    (by rw [e_BadNumber]; exact g_BadNumber),
    (fun c hc => ⟨XC c hc, x_one (P := fun c => PySem.W.kitOne K (.ref (cmOf mg c)) (.ref (cmOf mg "BadNumber")) = some (c == "BadNumber")) (by rw [e_BadFrame, e_BadNumber]; exact kt_BadFrame_BadNumber) (by rw [e_BadHouse, e_BadNumber]; exact kt_BadHouse_BadNumber) (by rw [e_BadLoad, e_BadNumber]; exact kt_BadLoad_BadNumber) (by rw [e_BadName, e_BadNumber]; exact kt_BadName_BadNumber) (by rw [e_BadNet, e_BadNumber]; exact kt_BadNet_BadNumber) (by rw [e_BadNumber]; exact kt_BadNumber_BadNumber) (by rw [e_BadRow, e_BadNumber]; exact kt_BadRow_BadNumber) (by rw [e_BadTable, e_BadNumber]; exact kt_BadTable_BadNumber) (by rw [e_BadText, e_BadNumber]; exact kt_BadText_BadNumber) (by rw [e_BadWeb, e_BadNumber]; exact kt_BadWeb_BadNumber) (by rw [e_Flat, e_BadNumber]; exact kt_Flat_BadNumber) (by rw [e_NoName, e_BadNumber]; exact kt_NoName_BadNumber) (by rw [e_NoPlace, e_BadNumber]; exact kt_NoPlace_BadNumber) (by rw [e_NoRow, e_BadNumber]; exact kt_NoRow_BadNumber) (by rw [e_NoWall, e_BadNumber]; exact kt_NoWall_BadNumber) (by rw [e_NotKept, e_BadNumber]; exact kt_NotKept_BadNumber) (by rw [e_NotOnce, e_BadNumber]; exact kt_NotOnce_BadNumber) (by rw [e_NotPlain, e_BadNumber]; exact kt_NotPlain_BadNumber) (by rw [e_NothingToRedo, e_BadNumber]; exact kt_NothingToRedo_BadNumber) (by rw [e_NothingToUndo, e_BadNumber]; exact kt_NothingToUndo_BadNumber) (by rw [e_TakenName, e_BadNumber]; exact kt_TakenName_BadNumber) (by rw [e_TooMany, e_BadNumber]; exact kt_TooMany_BadNumber) (by rw [e_Unlike, e_BadNumber]; exact kt_Unlike_BadNumber) c hc⟩),
    (by rw [e_BadRow]; exact g_BadRow),
    (fun c hc => ⟨XC c hc, x_one (P := fun c => PySem.W.kitOne K (.ref (cmOf mg c)) (.ref (cmOf mg "BadRow")) = some (c == "BadRow")) (by rw [e_BadFrame, e_BadRow]; exact kt_BadFrame_BadRow) (by rw [e_BadHouse, e_BadRow]; exact kt_BadHouse_BadRow) (by rw [e_BadLoad, e_BadRow]; exact kt_BadLoad_BadRow) (by rw [e_BadName, e_BadRow]; exact kt_BadName_BadRow) (by rw [e_BadNet, e_BadRow]; exact kt_BadNet_BadRow) (by rw [e_BadNumber, e_BadRow]; exact kt_BadNumber_BadRow) (by rw [e_BadRow]; exact kt_BadRow_BadRow) (by rw [e_BadTable, e_BadRow]; exact kt_BadTable_BadRow) (by rw [e_BadText, e_BadRow]; exact kt_BadText_BadRow) (by rw [e_BadWeb, e_BadRow]; exact kt_BadWeb_BadRow) (by rw [e_Flat, e_BadRow]; exact kt_Flat_BadRow) (by rw [e_NoName, e_BadRow]; exact kt_NoName_BadRow) (by rw [e_NoPlace, e_BadRow]; exact kt_NoPlace_BadRow) (by rw [e_NoRow, e_BadRow]; exact kt_NoRow_BadRow) (by rw [e_NoWall, e_BadRow]; exact kt_NoWall_BadRow) (by rw [e_NotKept, e_BadRow]; exact kt_NotKept_BadRow) (by rw [e_NotOnce, e_BadRow]; exact kt_NotOnce_BadRow) (by rw [e_NotPlain, e_BadRow]; exact kt_NotPlain_BadRow) (by rw [e_NothingToRedo, e_BadRow]; exact kt_NothingToRedo_BadRow) (by rw [e_NothingToUndo, e_BadRow]; exact kt_NothingToUndo_BadRow) (by rw [e_TakenName, e_BadRow]; exact kt_TakenName_BadRow) (by rw [e_TooMany, e_BadRow]; exact kt_TooMany_BadRow) (by rw [e_Unlike, e_BadRow]; exact kt_Unlike_BadRow) c hc⟩),
    (by rw [e_BadTable]; exact g_BadTable),
    (fun c hc => ⟨XC c hc, x_one (P := fun c => PySem.W.kitOne K (.ref (cmOf mg c)) (.ref (cmOf mg "BadTable")) = some (c == "BadTable")) (by rw [e_BadFrame, e_BadTable]; exact kt_BadFrame_BadTable) (by rw [e_BadHouse, e_BadTable]; exact kt_BadHouse_BadTable) (by rw [e_BadLoad, e_BadTable]; exact kt_BadLoad_BadTable) (by rw [e_BadName, e_BadTable]; exact kt_BadName_BadTable) (by rw [e_BadNet, e_BadTable]; exact kt_BadNet_BadTable) (by rw [e_BadNumber, e_BadTable]; exact kt_BadNumber_BadTable) (by rw [e_BadRow, e_BadTable]; exact kt_BadRow_BadTable) (by rw [e_BadTable]; exact kt_BadTable_BadTable) (by rw [e_BadText, e_BadTable]; exact kt_BadText_BadTable) (by rw [e_BadWeb, e_BadTable]; exact kt_BadWeb_BadTable) (by rw [e_Flat, e_BadTable]; exact kt_Flat_BadTable) (by rw [e_NoName, e_BadTable]; exact kt_NoName_BadTable) (by rw [e_NoPlace, e_BadTable]; exact kt_NoPlace_BadTable) (by rw [e_NoRow, e_BadTable]; exact kt_NoRow_BadTable) (by rw [e_NoWall, e_BadTable]; exact kt_NoWall_BadTable) (by rw [e_NotKept, e_BadTable]; exact kt_NotKept_BadTable) (by rw [e_NotOnce, e_BadTable]; exact kt_NotOnce_BadTable) (by rw [e_NotPlain, e_BadTable]; exact kt_NotPlain_BadTable) (by rw [e_NothingToRedo, e_BadTable]; exact kt_NothingToRedo_BadTable) (by rw [e_NothingToUndo, e_BadTable]; exact kt_NothingToUndo_BadTable) (by rw [e_TakenName, e_BadTable]; exact kt_TakenName_BadTable) (by rw [e_TooMany, e_BadTable]; exact kt_TooMany_BadTable) (by rw [e_Unlike, e_BadTable]; exact kt_Unlike_BadTable) c hc⟩),
    (by rw [e_BadText]; exact g_BadText),
    (fun c hc => ⟨XC c hc, x_one (P := fun c => PySem.W.kitOne K (.ref (cmOf mg c)) (.ref (cmOf mg "BadText")) = some (c == "BadText")) (by rw [e_BadFrame, e_BadText]; exact kt_BadFrame_BadText) (by rw [e_BadHouse, e_BadText]; exact kt_BadHouse_BadText) (by rw [e_BadLoad, e_BadText]; exact kt_BadLoad_BadText) (by rw [e_BadName, e_BadText]; exact kt_BadName_BadText) (by rw [e_BadNet, e_BadText]; exact kt_BadNet_BadText) (by rw [e_BadNumber, e_BadText]; exact kt_BadNumber_BadText) (by rw [e_BadRow, e_BadText]; exact kt_BadRow_BadText) (by rw [e_BadTable, e_BadText]; exact kt_BadTable_BadText) (by rw [e_BadText]; exact kt_BadText_BadText) (by rw [e_BadWeb, e_BadText]; exact kt_BadWeb_BadText) (by rw [e_Flat, e_BadText]; exact kt_Flat_BadText) (by rw [e_NoName, e_BadText]; exact kt_NoName_BadText) (by rw [e_NoPlace, e_BadText]; exact kt_NoPlace_BadText) (by rw [e_NoRow, e_BadText]; exact kt_NoRow_BadText) (by rw [e_NoWall, e_BadText]; exact kt_NoWall_BadText) (by rw [e_NotKept, e_BadText]; exact kt_NotKept_BadText) (by rw [e_NotOnce, e_BadText]; exact kt_NotOnce_BadText) (by rw [e_NotPlain, e_BadText]; exact kt_NotPlain_BadText) (by rw [e_NothingToRedo, e_BadText]; exact kt_NothingToRedo_BadText) (by rw [e_NothingToUndo, e_BadText]; exact kt_NothingToUndo_BadText) (by rw [e_TakenName, e_BadText]; exact kt_TakenName_BadText) (by rw [e_TooMany, e_BadText]; exact kt_TooMany_BadText) (by rw [e_Unlike, e_BadText]; exact kt_Unlike_BadText) c hc⟩),
    (by rw [e_BadWeb]; exact g_BadWeb),
    (fun c hc => ⟨XC c hc, x_one (P := fun c => PySem.W.kitOne K (.ref (cmOf mg c)) (.ref (cmOf mg "BadWeb")) = some (c == "BadWeb")) (by rw [e_BadFrame, e_BadWeb]; exact kt_BadFrame_BadWeb) (by rw [e_BadHouse, e_BadWeb]; exact kt_BadHouse_BadWeb) (by rw [e_BadLoad, e_BadWeb]; exact kt_BadLoad_BadWeb) (by rw [e_BadName, e_BadWeb]; exact kt_BadName_BadWeb) (by rw [e_BadNet, e_BadWeb]; exact kt_BadNet_BadWeb) (by rw [e_BadNumber, e_BadWeb]; exact kt_BadNumber_BadWeb) (by rw [e_BadRow, e_BadWeb]; exact kt_BadRow_BadWeb) (by rw [e_BadTable, e_BadWeb]; exact kt_BadTable_BadWeb) (by rw [e_BadText, e_BadWeb]; exact kt_BadText_BadWeb) (by rw [e_BadWeb]; exact kt_BadWeb_BadWeb) (by rw [e_Flat, e_BadWeb]; exact kt_Flat_BadWeb) (by rw [e_NoName, e_BadWeb]; exact kt_NoName_BadWeb) (by rw [e_NoPlace, e_BadWeb]; exact kt_NoPlace_BadWeb) (by rw [e_NoRow, e_BadWeb]; exact kt_NoRow_BadWeb) (by rw [e_NoWall, e_BadWeb]; exact kt_NoWall_BadWeb) (by rw [e_NotKept, e_BadWeb]; exact kt_NotKept_BadWeb) (by rw [e_NotOnce, e_BadWeb]; exact kt_NotOnce_BadWeb) (by rw [e_NotPlain, e_BadWeb]; exact kt_NotPlain_BadWeb) (by rw [e_NothingToRedo, e_BadWeb]; exact kt_NothingToRedo_BadWeb) (by rw [e_NothingToUndo, e_BadWeb]; exact kt_NothingToUndo_BadWeb) (by rw [e_TakenName, e_BadWeb]; exact kt_TakenName_BadWeb) (by rw [e_TooMany, e_BadWeb]; exact kt_TooMany_BadWeb) (by rw [e_Unlike, e_BadWeb]; exact kt_Unlike_BadWeb) c hc⟩),
    (by rw [e_Flat]; exact g_Flat),
    (fun c hc => ⟨XC c hc, x_one (P := fun c => PySem.W.kitOne K (.ref (cmOf mg c)) (.ref (cmOf mg "Flat")) = some (c == "Flat")) (by rw [e_BadFrame, e_Flat]; exact kt_BadFrame_Flat) (by rw [e_BadHouse, e_Flat]; exact kt_BadHouse_Flat) (by rw [e_BadLoad, e_Flat]; exact kt_BadLoad_Flat) (by rw [e_BadName, e_Flat]; exact kt_BadName_Flat) (by rw [e_BadNet, e_Flat]; exact kt_BadNet_Flat) (by rw [e_BadNumber, e_Flat]; exact kt_BadNumber_Flat) (by rw [e_BadRow, e_Flat]; exact kt_BadRow_Flat) (by rw [e_BadTable, e_Flat]; exact kt_BadTable_Flat) (by rw [e_BadText, e_Flat]; exact kt_BadText_Flat) (by rw [e_BadWeb, e_Flat]; exact kt_BadWeb_Flat) (by rw [e_Flat]; exact kt_Flat_Flat) (by rw [e_NoName, e_Flat]; exact kt_NoName_Flat) (by rw [e_NoPlace, e_Flat]; exact kt_NoPlace_Flat) (by rw [e_NoRow, e_Flat]; exact kt_NoRow_Flat) (by rw [e_NoWall, e_Flat]; exact kt_NoWall_Flat) (by rw [e_NotKept, e_Flat]; exact kt_NotKept_Flat) (by rw [e_NotOnce, e_Flat]; exact kt_NotOnce_Flat) (by rw [e_NotPlain, e_Flat]; exact kt_NotPlain_Flat) (by rw [e_NothingToRedo, e_Flat]; exact kt_NothingToRedo_Flat) (by rw [e_NothingToUndo, e_Flat]; exact kt_NothingToUndo_Flat) (by rw [e_TakenName, e_Flat]; exact kt_TakenName_Flat) (by rw [e_TooMany, e_Flat]; exact kt_TooMany_Flat) (by rw [e_Unlike, e_Flat]; exact kt_Unlike_Flat) c hc⟩),
    (by rw [e_NoName]; exact g_NoName),
    (fun c hc => ⟨XC c hc, x_one (P := fun c => PySem.W.kitOne K (.ref (cmOf mg c)) (.ref (cmOf mg "NoName")) = some (c == "NoName")) (by rw [e_BadFrame, e_NoName]; exact kt_BadFrame_NoName) (by rw [e_BadHouse, e_NoName]; exact kt_BadHouse_NoName) (by rw [e_BadLoad, e_NoName]; exact kt_BadLoad_NoName) (by rw [e_BadName, e_NoName]; exact kt_BadName_NoName) (by rw [e_BadNet, e_NoName]; exact kt_BadNet_NoName) (by rw [e_BadNumber, e_NoName]; exact kt_BadNumber_NoName) (by rw [e_BadRow, e_NoName]; exact kt_BadRow_NoName) (by rw [e_BadTable, e_NoName]; exact kt_BadTable_NoName) (by rw [e_BadText, e_NoName]; exact kt_BadText_NoName) (by rw [e_BadWeb, e_NoName]; exact kt_BadWeb_NoName) (by rw [e_Flat, e_NoName]; exact kt_Flat_NoName) (by rw [e_NoName]; exact kt_NoName_NoName) (by rw [e_NoPlace, e_NoName]; exact kt_NoPlace_NoName) (by rw [e_NoRow, e_NoName]; exact kt_NoRow_NoName) (by rw [e_NoWall, e_NoName]; exact kt_NoWall_NoName) (by rw [e_NotKept, e_NoName]; exact kt_NotKept_NoName) (by rw [e_NotOnce, e_NoName]; exact kt_NotOnce_NoName) (by rw [e_NotPlain, e_NoName]; exact kt_NotPlain_NoName) (by rw [e_NothingToRedo, e_NoName]; exact kt_NothingToRedo_NoName) (by rw [e_NothingToUndo, e_NoName]; exact kt_NothingToUndo_NoName) (by rw [e_TakenName, e_NoName]; exact kt_TakenName_NoName) (by rw [e_TooMany, e_NoName]; exact kt_TooMany_NoName) (by rw [e_Unlike, e_NoName]; exact kt_Unlike_NoName) c hc⟩),
    (by rw [e_NoPlace]; exact g_NoPlace),
    (fun c hc => ⟨XC c hc, x_one (P := fun c => PySem.W.kitOne K (.ref (cmOf mg c)) (.ref (cmOf mg "NoPlace")) = some (c == "NoPlace")) (by rw [e_BadFrame, e_NoPlace]; exact kt_BadFrame_NoPlace) (by rw [e_BadHouse, e_NoPlace]; exact kt_BadHouse_NoPlace) (by rw [e_BadLoad, e_NoPlace]; exact kt_BadLoad_NoPlace) (by rw [e_BadName, e_NoPlace]; exact kt_BadName_NoPlace) (by rw [e_BadNet, e_NoPlace]; exact kt_BadNet_NoPlace) (by rw [e_BadNumber, e_NoPlace]; exact kt_BadNumber_NoPlace) (by rw [e_BadRow, e_NoPlace]; exact kt_BadRow_NoPlace) (by rw [e_BadTable, e_NoPlace]; exact kt_BadTable_NoPlace) (by rw [e_BadText, e_NoPlace]; exact kt_BadText_NoPlace) (by rw [e_BadWeb, e_NoPlace]; exact kt_BadWeb_NoPlace) (by rw [e_Flat, e_NoPlace]; exact kt_Flat_NoPlace) (by rw [e_NoName, e_NoPlace]; exact kt_NoName_NoPlace) (by rw [e_NoPlace]; exact kt_NoPlace_NoPlace) (by rw [e_NoRow, e_NoPlace]; exact kt_NoRow_NoPlace) (by rw [e_NoWall, e_NoPlace]; exact kt_NoWall_NoPlace) (by rw [e_NotKept, e_NoPlace]; exact kt_NotKept_NoPlace) (by rw [e_NotOnce, e_NoPlace]; exact kt_NotOnce_NoPlace) (by rw [e_NotPlain, e_NoPlace]; exact kt_NotPlain_NoPlace) (by rw [e_NothingToRedo, e_NoPlace]; exact kt_NothingToRedo_NoPlace) (by rw [e_NothingToUndo, e_NoPlace]; exact kt_NothingToUndo_NoPlace) (by rw [e_TakenName, e_NoPlace]; exact kt_TakenName_NoPlace) (by rw [e_TooMany, e_NoPlace]; exact kt_TooMany_NoPlace) (by rw [e_Unlike, e_NoPlace]; exact kt_Unlike_NoPlace) c hc⟩),
    (by rw [e_NoRow]; exact g_NoRow),
    (fun c hc => ⟨XC c hc, x_one (P := fun c => PySem.W.kitOne K (.ref (cmOf mg c)) (.ref (cmOf mg "NoRow")) = some (c == "NoRow")) (by rw [e_BadFrame, e_NoRow]; exact kt_BadFrame_NoRow) (by rw [e_BadHouse, e_NoRow]; exact kt_BadHouse_NoRow) (by rw [e_BadLoad, e_NoRow]; exact kt_BadLoad_NoRow) (by rw [e_BadName, e_NoRow]; exact kt_BadName_NoRow) (by rw [e_BadNet, e_NoRow]; exact kt_BadNet_NoRow) (by rw [e_BadNumber, e_NoRow]; exact kt_BadNumber_NoRow) (by rw [e_BadRow, e_NoRow]; exact kt_BadRow_NoRow) (by rw [e_BadTable, e_NoRow]; exact kt_BadTable_NoRow) (by rw [e_BadText, e_NoRow]; exact kt_BadText_NoRow) (by rw [e_BadWeb, e_NoRow]; exact kt_BadWeb_NoRow) (by rw [e_Flat, e_NoRow]; exact kt_Flat_NoRow) (by rw [e_NoName, e_NoRow]; exact kt_NoName_NoRow) (by rw [e_NoPlace, e_NoRow]; exact kt_NoPlace_NoRow) (by rw [e_NoRow]; exact kt_NoRow_NoRow) (by rw [e_NoWall, e_NoRow]; exact kt_NoWall_NoRow) (by rw [e_NotKept, e_NoRow]; exact kt_NotKept_NoRow) (by rw [e_NotOnce, e_NoRow]; exact kt_NotOnce_NoRow) (by rw [e_NotPlain, e_NoRow]; exact kt_NotPlain_NoRow) (by rw [e_NothingToRedo, e_NoRow]; exact kt_NothingToRedo_NoRow) (by rw [e_NothingToUndo, e_NoRow]; exact kt_NothingToUndo_NoRow) (by rw [e_TakenName, e_NoRow]; exact kt_TakenName_NoRow) (by rw [e_TooMany, e_NoRow]; exact kt_TooMany_NoRow) (by rw [e_Unlike, e_NoRow]; exact kt_Unlike_NoRow) c hc⟩),
    (by rw [e_NoWall]; exact g_NoWall),
    (fun c hc => ⟨XC c hc, x_one (P := fun c => PySem.W.kitOne K (.ref (cmOf mg c)) (.ref (cmOf mg "NoWall")) = some (c == "NoWall")) (by rw [e_BadFrame, e_NoWall]; exact kt_BadFrame_NoWall) (by rw [e_BadHouse, e_NoWall]; exact kt_BadHouse_NoWall) (by rw [e_BadLoad, e_NoWall]; exact kt_BadLoad_NoWall) (by rw [e_BadName, e_NoWall]; exact kt_BadName_NoWall) (by rw [e_BadNet, e_NoWall]; exact kt_BadNet_NoWall) (by rw [e_BadNumber, e_NoWall]; exact kt_BadNumber_NoWall) (by rw [e_BadRow, e_NoWall]; exact kt_BadRow_NoWall) (by rw [e_BadTable, e_NoWall]; exact kt_BadTable_NoWall) (by rw [e_BadText, e_NoWall]; exact kt_BadText_NoWall) (by rw [e_BadWeb, e_NoWall]; exact kt_BadWeb_NoWall) (by rw [e_Flat, e_NoWall]; exact kt_Flat_NoWall) (by rw [e_NoName, e_NoWall]; exact kt_NoName_NoWall) (by rw [e_NoPlace, e_NoWall]; exact kt_NoPlace_NoWall) (by rw [e_NoRow, e_NoWall]; exact kt_NoRow_NoWall) (by rw [e_NoWall]; exact kt_NoWall_NoWall) (by rw [e_NotKept, e_NoWall]; exact kt_NotKept_NoWall) (by rw [e_NotOnce, e_NoWall]; exact kt_NotOnce_NoWall) (by rw [e_NotPlain, e_NoWall]; exact kt_NotPlain_NoWall) (by rw [e_NothingToRedo, e_NoWall]; exact kt_NothingToRedo_NoWall) (by rw [e_NothingToUndo, e_NoWall]; exact kt_NothingToUndo_NoWall) (by rw [e_TakenName, e_NoWall]; exact kt_TakenName_NoWall) (by rw [e_TooMany, e_NoWall]; exact kt_TooMany_NoWall) (by rw [e_Unlike, e_NoWall]; exact kt_Unlike_NoWall) c hc⟩),
    (by rw [e_NotKept]; exact g_NotKept),
    (fun c hc => ⟨XC c hc, x_one (P := fun c => PySem.W.kitOne K (.ref (cmOf mg c)) (.ref (cmOf mg "NotKept")) = some (c == "NotKept")) (by rw [e_BadFrame, e_NotKept]; exact kt_BadFrame_NotKept) (by rw [e_BadHouse, e_NotKept]; exact kt_BadHouse_NotKept) (by rw [e_BadLoad, e_NotKept]; exact kt_BadLoad_NotKept) (by rw [e_BadName, e_NotKept]; exact kt_BadName_NotKept) (by rw [e_BadNet, e_NotKept]; exact kt_BadNet_NotKept) (by rw [e_BadNumber, e_NotKept]; exact kt_BadNumber_NotKept) (by rw [e_BadRow, e_NotKept]; exact kt_BadRow_NotKept) (by rw [e_BadTable, e_NotKept]; exact kt_BadTable_NotKept) (by rw [e_BadText, e_NotKept]; exact kt_BadText_NotKept) (by rw [e_BadWeb, e_NotKept]; exact kt_BadWeb_NotKept) (by rw [e_Flat, e_NotKept]; exact kt_Flat_NotKept) (by rw [e_NoName, e_NotKept]; exact kt_NoName_NotKept) (by rw [e_NoPlace, e_NotKept]; exact kt_NoPlace_NotKept) (by rw [e_NoRow, e_NotKept]; exact kt_NoRow_NotKept) (by rw [e_NoWall, e_NotKept]; exact kt_NoWall_NotKept) (by rw [e_NotKept]; exact kt_NotKept_NotKept) (by rw [e_NotOnce, e_NotKept]; exact kt_NotOnce_NotKept) (by rw [e_NotPlain, e_NotKept]; exact kt_NotPlain_NotKept) (by rw [e_NothingToRedo, e_NotKept]; exact kt_NothingToRedo_NotKept) (by rw [e_NothingToUndo, e_NotKept]; exact kt_NothingToUndo_NotKept) (by rw [e_TakenName, e_NotKept]; exact kt_TakenName_NotKept) (by rw [e_TooMany, e_NotKept]; exact kt_TooMany_NotKept) (by rw [e_Unlike, e_NotKept]; exact kt_Unlike_NotKept) c hc⟩),
    (by rw [e_NotOnce]; exact g_NotOnce),
    (fun c hc => ⟨XC c hc, x_one (P := fun c => PySem.W.kitOne K (.ref (cmOf mg c)) (.ref (cmOf mg "NotOnce")) = some (c == "NotOnce")) (by rw [e_BadFrame, e_NotOnce]; exact kt_BadFrame_NotOnce) (by rw [e_BadHouse, e_NotOnce]; exact kt_BadHouse_NotOnce) (by rw [e_BadLoad, e_NotOnce]; exact kt_BadLoad_NotOnce) (by rw [e_BadName, e_NotOnce]; exact kt_BadName_NotOnce) (by rw [e_BadNet, e_NotOnce]; exact kt_BadNet_NotOnce) (by rw [e_BadNumber, e_NotOnce]; exact kt_BadNumber_NotOnce) (by rw [e_BadRow, e_NotOnce]; exact kt_BadRow_NotOnce) (by rw [e_BadTable, e_NotOnce]; exact kt_BadTable_NotOnce) (by rw [e_BadText, e_NotOnce]; exact kt_BadText_NotOnce) (by rw [e_BadWeb, e_NotOnce]; exact kt_BadWeb_NotOnce) (by rw [e_Flat, e_NotOnce]; exact kt_Flat_NotOnce) (by rw [e_NoName, e_NotOnce]; exact kt_NoName_NotOnce) (by rw [e_NoPlace, e_NotOnce]; exact kt_NoPlace_NotOnce) (by rw [e_NoRow, e_NotOnce]; exact kt_NoRow_NotOnce) (by rw [e_NoWall, e_NotOnce]; exact kt_NoWall_NotOnce) (by rw [e_NotKept, e_NotOnce]; exact kt_NotKept_NotOnce) (by rw [e_NotOnce]; exact kt_NotOnce_NotOnce) (by rw [e_NotPlain, e_NotOnce]; exact kt_NotPlain_NotOnce) (by rw [e_NothingToRedo, e_NotOnce]; exact kt_NothingToRedo_NotOnce) (by rw [e_NothingToUndo, e_NotOnce]; exact kt_NothingToUndo_NotOnce) (by rw [e_TakenName, e_NotOnce]; exact kt_TakenName_NotOnce) (by rw [e_TooMany, e_NotOnce]; exact kt_TooMany_NotOnce) (by rw [e_Unlike, e_NotOnce]; exact kt_Unlike_NotOnce) c hc⟩),
    (by rw [e_NotPlain]; exact g_NotPlain),
    (fun c hc => ⟨XC c hc, x_one (P := fun c => PySem.W.kitOne K (.ref (cmOf mg c)) (.ref (cmOf mg "NotPlain")) = some (c == "NotPlain")) (by rw [e_BadFrame, e_NotPlain]; exact kt_BadFrame_NotPlain) (by rw [e_BadHouse, e_NotPlain]; exact kt_BadHouse_NotPlain) (by rw [e_BadLoad, e_NotPlain]; exact kt_BadLoad_NotPlain) (by rw [e_BadName, e_NotPlain]; exact kt_BadName_NotPlain) (by rw [e_BadNet, e_NotPlain]; exact kt_BadNet_NotPlain) (by rw [e_BadNumber, e_NotPlain]; exact kt_BadNumber_NotPlain) (by rw [e_BadRow, e_NotPlain]; exact kt_BadRow_NotPlain) (by rw [e_BadTable, e_NotPlain]; exact kt_BadTable_NotPlain) (by rw [e_BadText, e_NotPlain]; exact kt_BadText_NotPlain) (by rw [e_BadWeb, e_NotPlain]; exact kt_BadWeb_NotPlain) (by rw [e_Flat, e_NotPlain]; exact kt_Flat_NotPlain) (by rw [e_NoName, e_NotPlain]; exact kt_NoName_NotPlain) (by rw [e_NoPlace, e_NotPlain]; exact kt_NoPlace_NotPlain) (by rw [e_NoRow, e_NotPlain]; exact kt_NoRow_NotPlain) (by rw [e_NoWall, e_NotPlain]; exact kt_NoWall_NotPlain) (by rw [e_NotKept, e_NotPlain]; exact kt_NotKept_NotPlain) (by rw [e_NotOnce, e_NotPlain]; exact kt_NotOnce_NotPlain) (by rw [e_NotPlain]; exact kt_NotPlain_NotPlain) (by rw [e_NothingToRedo, e_NotPlain]; exact kt_NothingToRedo_NotPlain) (by rw [e_NothingToUndo, e_NotPlain]; exact kt_NothingToUndo_NotPlain) (by rw [e_TakenName, e_NotPlain]; exact kt_TakenName_NotPlain) (by rw [e_TooMany, e_NotPlain]; exact kt_TooMany_NotPlain) (by rw [e_Unlike, e_NotPlain]; exact kt_Unlike_NotPlain) c hc⟩),
    (by rw [e_NothingToRedo]; exact g_NothingToRedo),
    (fun c hc => ⟨XC c hc, x_one (P := fun c => PySem.W.kitOne K (.ref (cmOf mg c)) (.ref (cmOf mg "NothingToRedo")) = some (c == "NothingToRedo")) (by rw [e_BadFrame, e_NothingToRedo]; exact kt_BadFrame_NothingToRedo) (by rw [e_BadHouse, e_NothingToRedo]; exact kt_BadHouse_NothingToRedo) (by rw [e_BadLoad, e_NothingToRedo]; exact kt_BadLoad_NothingToRedo) (by rw [e_BadName, e_NothingToRedo]; exact kt_BadName_NothingToRedo) (by rw [e_BadNet, e_NothingToRedo]; exact kt_BadNet_NothingToRedo) (by rw [e_BadNumber, e_NothingToRedo]; exact kt_BadNumber_NothingToRedo) (by rw [e_BadRow, e_NothingToRedo]; exact kt_BadRow_NothingToRedo) (by rw [e_BadTable, e_NothingToRedo]; exact kt_BadTable_NothingToRedo) (by rw [e_BadText, e_NothingToRedo]; exact kt_BadText_NothingToRedo) (by rw [e_BadWeb, e_NothingToRedo]; exact kt_BadWeb_NothingToRedo) (by rw [e_Flat, e_NothingToRedo]; exact kt_Flat_NothingToRedo) (by rw [e_NoName, e_NothingToRedo]; exact kt_NoName_NothingToRedo) (by rw [e_NoPlace, e_NothingToRedo]; exact kt_NoPlace_NothingToRedo) (by rw [e_NoRow, e_NothingToRedo]; exact kt_NoRow_NothingToRedo) (by rw [e_NoWall, e_NothingToRedo]; exact kt_NoWall_NothingToRedo) (by rw [e_NotKept, e_NothingToRedo]; exact kt_NotKept_NothingToRedo) (by rw [e_NotOnce, e_NothingToRedo]; exact kt_NotOnce_NothingToRedo) (by rw [e_NotPlain, e_NothingToRedo]; exact kt_NotPlain_NothingToRedo) (by rw [e_NothingToRedo]; exact kt_NothingToRedo_NothingToRedo) (by rw [e_NothingToUndo, e_NothingToRedo]; exact kt_NothingToUndo_NothingToRedo) (by rw [e_TakenName, e_NothingToRedo]; exact kt_TakenName_NothingToRedo) (by rw [e_TooMany, e_NothingToRedo]; exact kt_TooMany_NothingToRedo) (by rw [e_Unlike, e_NothingToRedo]; exact kt_Unlike_NothingToRedo) c hc⟩),
    (by rw [e_NothingToUndo]; exact g_NothingToUndo),
    (fun c hc => ⟨XC c hc, x_one (P := fun c => PySem.W.kitOne K (.ref (cmOf mg c)) (.ref (cmOf mg "NothingToUndo")) = some (c == "NothingToUndo")) (by rw [e_BadFrame, e_NothingToUndo]; exact kt_BadFrame_NothingToUndo) (by rw [e_BadHouse, e_NothingToUndo]; exact kt_BadHouse_NothingToUndo) (by rw [e_BadLoad, e_NothingToUndo]; exact kt_BadLoad_NothingToUndo) (by rw [e_BadName, e_NothingToUndo]; exact kt_BadName_NothingToUndo) (by rw [e_BadNet, e_NothingToUndo]; exact kt_BadNet_NothingToUndo) (by rw [e_BadNumber, e_NothingToUndo]; exact kt_BadNumber_NothingToUndo) (by rw [e_BadRow, e_NothingToUndo]; exact kt_BadRow_NothingToUndo) (by rw [e_BadTable, e_NothingToUndo]; exact kt_BadTable_NothingToUndo) (by rw [e_BadText, e_NothingToUndo]; exact kt_BadText_NothingToUndo) (by rw [e_BadWeb, e_NothingToUndo]; exact kt_BadWeb_NothingToUndo) (by rw [e_Flat, e_NothingToUndo]; exact kt_Flat_NothingToUndo) (by rw [e_NoName, e_NothingToUndo]; exact kt_NoName_NothingToUndo) (by rw [e_NoPlace, e_NothingToUndo]; exact kt_NoPlace_NothingToUndo) (by rw [e_NoRow, e_NothingToUndo]; exact kt_NoRow_NothingToUndo) (by rw [e_NoWall, e_NothingToUndo]; exact kt_NoWall_NothingToUndo) (by rw [e_NotKept, e_NothingToUndo]; exact kt_NotKept_NothingToUndo) (by rw [e_NotOnce, e_NothingToUndo]; exact kt_NotOnce_NothingToUndo) (by rw [e_NotPlain, e_NothingToUndo]; exact kt_NotPlain_NothingToUndo) (by rw [e_NothingToRedo, e_NothingToUndo]; exact kt_NothingToRedo_NothingToUndo) (by rw [e_NothingToUndo]; exact kt_NothingToUndo_NothingToUndo) (by rw [e_TakenName, e_NothingToUndo]; exact kt_TakenName_NothingToUndo) (by rw [e_TooMany, e_NothingToUndo]; exact kt_TooMany_NothingToUndo) (by rw [e_Unlike, e_NothingToUndo]; exact kt_Unlike_NothingToUndo) c hc⟩),
    (by rw [e_TakenName]; exact g_TakenName),
    (fun c hc => ⟨XC c hc, x_one (P := fun c => PySem.W.kitOne K (.ref (cmOf mg c)) (.ref (cmOf mg "TakenName")) = some (c == "TakenName")) (by rw [e_BadFrame, e_TakenName]; exact kt_BadFrame_TakenName) (by rw [e_BadHouse, e_TakenName]; exact kt_BadHouse_TakenName) (by rw [e_BadLoad, e_TakenName]; exact kt_BadLoad_TakenName) (by rw [e_BadName, e_TakenName]; exact kt_BadName_TakenName) (by rw [e_BadNet, e_TakenName]; exact kt_BadNet_TakenName) (by rw [e_BadNumber, e_TakenName]; exact kt_BadNumber_TakenName) (by rw [e_BadRow, e_TakenName]; exact kt_BadRow_TakenName) (by rw [e_BadTable, e_TakenName]; exact kt_BadTable_TakenName) (by rw [e_BadText, e_TakenName]; exact kt_BadText_TakenName) (by rw [e_BadWeb, e_TakenName]; exact kt_BadWeb_TakenName) (by rw [e_Flat, e_TakenName]; exact kt_Flat_TakenName) (by rw [e_NoName, e_TakenName]; exact kt_NoName_TakenName) (by rw [e_NoPlace, e_TakenName]; exact kt_NoPlace_TakenName) (by rw [e_NoRow, e_TakenName]; exact kt_NoRow_TakenName) (by rw [e_NoWall, e_TakenName]; exact kt_NoWall_TakenName) (by rw [e_NotKept, e_TakenName]; exact kt_NotKept_TakenName) (by rw [e_NotOnce, e_TakenName]; exact kt_NotOnce_TakenName) (by rw [e_NotPlain, e_TakenName]; exact kt_NotPlain_TakenName) (by rw [e_NothingToRedo, e_TakenName]; exact kt_NothingToRedo_TakenName) (by rw [e_NothingToUndo, e_TakenName]; exact kt_NothingToUndo_TakenName) (by rw [e_TakenName]; exact kt_TakenName_TakenName) (by rw [e_TooMany, e_TakenName]; exact kt_TooMany_TakenName) (by rw [e_Unlike, e_TakenName]; exact kt_Unlike_TakenName) c hc⟩),
    (by rw [e_TooMany]; exact g_TooMany),
    (fun c hc => ⟨XC c hc, x_one (P := fun c => PySem.W.kitOne K (.ref (cmOf mg c)) (.ref (cmOf mg "TooMany")) = some (c == "TooMany")) (by rw [e_BadFrame, e_TooMany]; exact kt_BadFrame_TooMany) (by rw [e_BadHouse, e_TooMany]; exact kt_BadHouse_TooMany) (by rw [e_BadLoad, e_TooMany]; exact kt_BadLoad_TooMany) (by rw [e_BadName, e_TooMany]; exact kt_BadName_TooMany) (by rw [e_BadNet, e_TooMany]; exact kt_BadNet_TooMany) (by rw [e_BadNumber, e_TooMany]; exact kt_BadNumber_TooMany) (by rw [e_BadRow, e_TooMany]; exact kt_BadRow_TooMany) (by rw [e_BadTable, e_TooMany]; exact kt_BadTable_TooMany) (by rw [e_BadText, e_TooMany]; exact kt_BadText_TooMany) (by rw [e_BadWeb, e_TooMany]; exact kt_BadWeb_TooMany) (by rw [e_Flat, e_TooMany]; exact kt_Flat_TooMany) (by rw [e_NoName, e_TooMany]; exact kt_NoName_TooMany) (by rw [e_NoPlace, e_TooMany]; exact kt_NoPlace_TooMany) (by rw [e_NoRow, e_TooMany]; exact kt_NoRow_TooMany) (by rw [e_NoWall, e_TooMany]; exact kt_NoWall_TooMany) (by rw [e_NotKept, e_TooMany]; exact kt_NotKept_TooMany) (by rw [e_NotOnce, e_TooMany]; exact kt_NotOnce_TooMany) (by rw [e_NotPlain, e_TooMany]; exact kt_NotPlain_TooMany) (by rw [e_NothingToRedo, e_TooMany]; exact kt_NothingToRedo_TooMany) (by rw [e_NothingToUndo, e_TooMany]; exact kt_NothingToUndo_TooMany) (by rw [e_TakenName, e_TooMany]; exact kt_TakenName_TooMany) (by rw [e_TooMany]; exact kt_TooMany_TooMany) (by rw [e_Unlike, e_TooMany]; exact kt_Unlike_TooMany) c hc⟩),
    (by rw [e_Unlike]; exact g_Unlike),
    (fun c hc => ⟨XC c hc, x_one (P := fun c => PySem.W.kitOne K (.ref (cmOf mg c)) (.ref (cmOf mg "Unlike")) = some (c == "Unlike")) (by rw [e_BadFrame, e_Unlike]; exact kt_BadFrame_Unlike) (by rw [e_BadHouse, e_Unlike]; exact kt_BadHouse_Unlike) (by rw [e_BadLoad, e_Unlike]; exact kt_BadLoad_Unlike) (by rw [e_BadName, e_Unlike]; exact kt_BadName_Unlike) (by rw [e_BadNet, e_Unlike]; exact kt_BadNet_Unlike) (by rw [e_BadNumber, e_Unlike]; exact kt_BadNumber_Unlike) (by rw [e_BadRow, e_Unlike]; exact kt_BadRow_Unlike) (by rw [e_BadTable, e_Unlike]; exact kt_BadTable_Unlike) (by rw [e_BadText, e_Unlike]; exact kt_BadText_Unlike) (by rw [e_BadWeb, e_Unlike]; exact kt_BadWeb_Unlike) (by rw [e_Flat, e_Unlike]; exact kt_Flat_Unlike) (by rw [e_NoName, e_Unlike]; exact kt_NoName_Unlike) (by rw [e_NoPlace, e_Unlike]; exact kt_NoPlace_Unlike) (by rw [e_NoRow, e_Unlike]; exact kt_NoRow_Unlike) (by rw [e_NoWall, e_Unlike]; exact kt_NoWall_Unlike) (by rw [e_NotKept, e_Unlike]; exact kt_NotKept_Unlike) (by rw [e_NotOnce, e_Unlike]; exact kt_NotOnce_Unlike) (by rw [e_NotPlain, e_Unlike]; exact kt_NotPlain_Unlike) (by rw [e_NothingToRedo, e_Unlike]; exact kt_NothingToRedo_Unlike) (by rw [e_NothingToUndo, e_Unlike]; exact kt_NothingToUndo_Unlike) (by rw [e_TakenName, e_Unlike]; exact kt_TakenName_Unlike) (by rw [e_TooMany, e_Unlike]; exact kt_TooMany_Unlike) (by rw [e_Unlike]; exact kt_Unlike_Unlike) c hc⟩),
    (fun c hc => ⟨XC c hc, x_one (P := fun c => PySem.W.kitOne K (.ref (cmOf mg c)) (.type "ValueError") = some true) (by rw [e_BadFrame]; exact ve_BadFrame) (by rw [e_BadHouse]; exact ve_BadHouse) (by rw [e_BadLoad]; exact ve_BadLoad) (by rw [e_BadName]; exact ve_BadName) (by rw [e_BadNet]; exact ve_BadNet) (by rw [e_BadNumber]; exact ve_BadNumber) (by rw [e_BadRow]; exact ve_BadRow) (by rw [e_BadTable]; exact ve_BadTable) (by rw [e_BadText]; exact ve_BadText) (by rw [e_BadWeb]; exact ve_BadWeb) (by rw [e_Flat]; exact ve_Flat) (by rw [e_NoName]; exact ve_NoName) (by rw [e_NoPlace]; exact ve_NoPlace) (by rw [e_NoRow]; exact ve_NoRow) (by rw [e_NoWall]; exact ve_NoWall) (by rw [e_NotKept]; exact ve_NotKept) (by rw [e_NotOnce]; exact ve_NotOnce) (by rw [e_NotPlain]; exact ve_NotPlain) (by rw [e_NothingToRedo]; exact ve_NothingToRedo) (by rw [e_NothingToUndo]; exact ve_NothingToUndo) (by rw [e_TakenName]; exact ve_TakenName) (by rw [e_TooMany]; exact ve_TooMany) (by rw [e_Unlike]; exact ve_Unlike) c hc⟩),
    (⟨by rw [e_BadFrame]; exact ⟨ga_BadFrame, gg_BadFrame, eC_BadFrame, hD_BadFrame⟩, by rw [e_BadFrame]; exact nb_BadFrame_place⟩),
    (⟨by rw [e_BadFrame]; exact ⟨ga_BadFrame, gg_BadFrame, eC_BadFrame, hD_BadFrame⟩, by rw [e_BadFrame]; exact nb_BadFrame_what⟩),
    (⟨by rw [e_BadHouse]; exact ⟨ga_BadHouse, gg_BadHouse, eC_BadHouse, hD_BadHouse⟩, by rw [e_BadHouse]; exact nb_BadHouse_place⟩),
    (⟨by rw [e_BadHouse]; exact ⟨ga_BadHouse, gg_BadHouse, eC_BadHouse, hD_BadHouse⟩, by rw [e_BadHouse]; exact nb_BadHouse_what⟩),
    (⟨by rw [e_BadLoad]; exact ⟨ga_BadLoad, gg_BadLoad, eC_BadLoad, hD_BadLoad⟩, by rw [e_BadLoad]; exact nb_BadLoad_what⟩),
    (⟨by rw [e_BadName]; exact ⟨ga_BadName, gg_BadName, eC_BadName, hD_BadName⟩, by rw [e_BadName]; exact nb_BadName_name⟩),
    (⟨by rw [e_BadNet]; exact ⟨ga_BadNet, gg_BadNet, eC_BadNet, hD_BadNet⟩, by rw [e_BadNet]; exact nb_BadNet_gate⟩),
    (⟨by rw [e_BadNet]; exact ⟨ga_BadNet, gg_BadNet, eC_BadNet, hD_BadNet⟩, by rw [e_BadNet]; exact nb_BadNet_what⟩),
    (⟨by rw [e_BadNumber]; exact ⟨ga_BadNumber, gg_BadNumber, eC_BadNumber, hD_BadNumber⟩, by rw [e_BadNumber]; exact nb_BadNumber_number⟩),
    (⟨by rw [e_BadNumber]; exact ⟨ga_BadNumber, gg_BadNumber, eC_BadNumber, hD_BadNumber⟩, by rw [e_BadNumber]; exact nb_BadNumber_what⟩),
    (⟨by rw [e_BadRow]; exact ⟨ga_BadRow, gg_BadRow, eC_BadRow, hD_BadRow⟩, by rw [e_BadRow]; exact nb_BadRow_row⟩),
    (⟨by rw [e_BadRow]; exact ⟨ga_BadRow, gg_BadRow, eC_BadRow, hD_BadRow⟩, by rw [e_BadRow]; exact nb_BadRow_what⟩),
    (⟨by rw [e_BadTable]; exact ⟨ga_BadTable, gg_BadTable, eC_BadTable, hD_BadTable⟩, by rw [e_BadTable]; exact nb_BadTable_what⟩),
    (⟨by rw [e_BadText]; exact ⟨ga_BadText, gg_BadText, eC_BadText, hD_BadText⟩, by rw [e_BadText]; exact nb_BadText_line⟩),
    (⟨by rw [e_BadText]; exact ⟨ga_BadText, gg_BadText, eC_BadText, hD_BadText⟩, by rw [e_BadText]; exact nb_BadText_word⟩),
    (⟨by rw [e_BadWeb]; exact ⟨ga_BadWeb, gg_BadWeb, eC_BadWeb, hD_BadWeb⟩, by rw [e_BadWeb]; exact nb_BadWeb_place⟩),
    (⟨by rw [e_BadWeb]; exact ⟨ga_BadWeb, gg_BadWeb, eC_BadWeb, hD_BadWeb⟩, by rw [e_BadWeb]; exact nb_BadWeb_what⟩),
    (⟨by rw [e_Flat]; exact ⟨ga_Flat, gg_Flat, eC_Flat, hD_Flat⟩, by rw [e_Flat]; exact nb_Flat_choice⟩),
    (⟨by rw [e_NoName]; exact ⟨ga_NoName, gg_NoName, eC_NoName, hD_NoName⟩, by rw [e_NoName]; exact nb_NoName_name⟩),
    (⟨by rw [e_NoPlace]; exact ⟨ga_NoPlace, gg_NoPlace, eC_NoPlace, hD_NoPlace⟩, by rw [e_NoPlace]; exact nb_NoPlace_place⟩),
    (⟨by rw [e_NoRow]; exact ⟨ga_NoRow, gg_NoRow, eC_NoRow, hD_NoRow⟩, by rw [e_NoRow]; exact nb_NoRow_place⟩),
    (⟨by rw [e_NoRow]; exact ⟨ga_NoRow, gg_NoRow, eC_NoRow, hD_NoRow⟩, by rw [e_NoRow]; exact nb_NoRow_row⟩),
    (⟨by rw [e_NoWall]; exact ⟨ga_NoWall, gg_NoWall, eC_NoWall, hD_NoWall⟩, by rw [e_NoWall]; exact nb_NoWall_place⟩),
    (⟨by rw [e_NotKept]; exact ⟨ga_NotKept, gg_NotKept, eC_NotKept, hD_NotKept⟩, by rw [e_NotKept]; exact nb_NotKept_promise⟩),
    (⟨by rw [e_NotKept]; exact ⟨ga_NotKept, gg_NotKept, eC_NotKept, hD_NotKept⟩, by rw [e_NotKept]; exact nb_NotKept_witness⟩),
    (⟨by rw [e_NotOnce]; exact ⟨ga_NotOnce, gg_NotOnce, eC_NotOnce, hD_NotOnce⟩, by rw [e_NotOnce]; exact nb_NotOnce_row⟩),
    (⟨by rw [e_NotPlain]; exact ⟨ga_NotPlain, gg_NotPlain, eC_NotPlain, hD_NotPlain⟩, by rw [e_NotPlain]; exact nb_NotPlain_choice⟩),
    (⟨by rw [e_TakenName]; exact ⟨ga_TakenName, gg_TakenName, eC_TakenName, hD_TakenName⟩, by rw [e_TakenName]; exact nb_TakenName_name⟩),
    (⟨by rw [e_TooMany]; exact ⟨ga_TooMany, gg_TooMany, eC_TooMany, hD_TooMany⟩, by rw [e_TooMany]; exact nb_TooMany_limit⟩),
    (⟨by rw [e_TooMany]; exact ⟨ga_TooMany, gg_TooMany, eC_TooMany, hD_TooMany⟩, by rw [e_TooMany]; exact nb_TooMany_many⟩),
    (⟨by rw [e_TooMany]; exact ⟨ga_TooMany, gg_TooMany, eC_TooMany, hD_TooMany⟩, by rw [e_TooMany]; exact nb_TooMany_what⟩),
    (⟨by rw [e_Unlike]; exact ⟨ga_Unlike, gg_Unlike, eC_Unlike, hD_Unlike⟩, by rw [e_Unlike]; exact nb_Unlike_what⟩)⟩
  have XR : XrOk K mg C_RestsError := x_one (P := fun c => PySem.W.exmOne K (.ref (cmOf mg c)) (.ref C_RestsError) = some true) (by rw [e_BadFrame]; exact er_BadFrame) (by rw [e_BadHouse]; exact er_BadHouse) (by rw [e_BadLoad]; exact er_BadLoad) (by rw [e_BadName]; exact er_BadName) (by rw [e_BadNet]; exact er_BadNet) (by rw [e_BadNumber]; exact er_BadNumber) (by rw [e_BadRow]; exact er_BadRow) (by rw [e_BadTable]; exact er_BadTable) (by rw [e_BadText]; exact er_BadText) (by rw [e_BadWeb]; exact er_BadWeb) (by rw [e_Flat]; exact er_Flat) (by rw [e_NoName]; exact er_NoName) (by rw [e_NoPlace]; exact er_NoPlace) (by rw [e_NoRow]; exact er_NoRow) (by rw [e_NoWall]; exact er_NoWall) (by rw [e_NotKept]; exact er_NotKept) (by rw [e_NotOnce]; exact er_NotOnce) (by rw [e_NotPlain]; exact er_NotPlain) (by rw [e_NothingToRedo]; exact er_NothingToRedo) (by rw [e_NothingToUndo]; exact er_NothingToUndo) (by rw [e_TakenName]; exact er_TakenName) (by rw [e_TooMany]; exact er_TooMany) (by rw [e_Unlike]; exact er_Unlike)
  have F__law_pen := fun_mk (st := s__law_pen) l__law_pen c__law_pen k__law_pen
  have b__law_pen := F__law_pen.binds (ps := ["script"]) fun _ _ _ _ _ _ us hl => match us, hl with | [_], _ => rfl
  have D__law_pen : DefG K mg "_law_pen" ["script"] _ _ := ⟨⟨k__law_pen, b__law_pen⟩, PySem.W.mg_of X G a__law_pen⟩
  have F__law_draw := fun_mk (st := s__law_draw) l__law_draw c__law_draw k__law_draw
  have b__law_draw := F__law_draw.binds (ps := ["pen", "many"]) fun _ _ _ _ _ _ us hl => match us, hl with | [_, _], _ => rfl
  have D__law_draw : DefG K mg "_law_draw" ["pen", "many"] _ _ := ⟨⟨k__law_draw, b__law_draw⟩, PySem.W.mg_of X G a__law_draw⟩
  have F__law_pick := fun_mk (st := s__law_pick) l__law_pick c__law_pick k__law_pick
  have b__law_pick := F__law_pick.binds (ps := ["pen", "some"]) fun _ _ _ _ _ _ us hl => match us, hl with | [_, _], _ => rfl
  have D__law_pick : DefG K mg "_law_pick" ["pen", "some"] _ _ := ⟨⟨k__law_pick, b__law_pick⟩, PySem.W.mg_of X G a__law_pick⟩
  have F__law_more_kinds := fun_mk (st := s__law_more_kinds) l__law_more_kinds c__law_more_kinds k__law_more_kinds
  have b__law_more_kinds := F__law_more_kinds.binds (ps := ["e"]) fun _ _ _ _ _ _ us hl => match us, hl with | [_], _ => rfl
  have D__law_more_kinds : DefG K mg "_law_more_kinds" ["e"] _ _ := ⟨⟨k__law_more_kinds, b__law_more_kinds⟩, PySem.W.mg_of X G a__law_more_kinds⟩
  have F__law_kinds := fun_mk (st := s__law_kinds) l__law_kinds c__law_kinds k__law_kinds
  have b__law_kinds := F__law_kinds.binds (ps := ["e"]) fun _ _ _ _ _ _ us hl => match us, hl with | [_], _ => rfl
  have D__law_kinds : DefG K mg "_law_kinds" ["e"] _ _ := ⟨⟨k__law_kinds, b__law_kinds⟩, PySem.W.mg_of X G a__law_kinds⟩
  have F__law_value := fun_mk (st := s__law_value) l__law_value c__law_value k__law_value
  have b__law_value := F__law_value.binds (ps := ["pen"]) fun _ _ _ _ _ _ us hl => match us, hl with | [_], _ => rfl
  have D__law_value : DefG K mg "_law_value" ["pen"] _ _ := ⟨⟨k__law_value, b__law_value⟩, PySem.W.mg_of X G a__law_value⟩
  have F__law_first := fun_mk (st := s__law_first) l__law_first c__law_first k__law_first
  have b__law_first := F__law_first.binds (ps := ["kind", "one", "two"]) fun _ _ _ _ _ _ us hl => match us, hl with | [_, _, _], _ => rfl
  have D__law_first : DefG K mg "_law_first" ["kind", "one", "two"] _ _ := ⟨⟨k__law_first, b__law_first⟩, PySem.W.mg_of X G a__law_first⟩
  have F__law_second := fun_mk (st := s__law_second) l__law_second c__law_second k__law_second
  have b__law_second := F__law_second.binds (ps := ["kind", "one", "two", "three"]) fun _ _ _ _ _ _ us hl => match us, hl with | [_, _, _, _], _ => rfl
  have D__law_second : DefG K mg "_law_second" ["kind", "one", "two", "three"] _ _ := ⟨⟨k__law_second, b__law_second⟩, PySem.W.mg_of X G a__law_second⟩
  have F__law_told := fun_mk (st := s__law_told) l__law_told c__law_told k__law_told
  have b__law_told := F__law_told.binds (ps := ["kind", "one", "two", "three"]) fun _ _ _ _ _ _ us hl => match us, hl with | [_, _, _, _], _ => rfl
  have D__law_told : DefG K mg "_law_told" ["kind", "one", "two", "three"] _ _ := ⟨⟨k__law_told, b__law_told⟩, PySem.W.mg_of X G a__law_told⟩
  have F__law_due := fun_mk (st := s__law_due) l__law_due c__law_due k__law_due
  have b__law_due := F__law_due.binds (ps := ["kind", "one", "two", "three"]) fun _ _ _ _ _ _ us hl => match us, hl with | [_, _, _, _], _ => rfl
  have D__law_due : DefG K mg "_law_due" ["kind", "one", "two", "three"] _ _ := ⟨⟨k__law_due, b__law_due⟩, PySem.W.mg_of X G a__law_due⟩
  have F_law := fun_mk (st := s_law) l_law c_law k_law
  have b_law := F_law.binds (ps := ["script"]) fun _ _ _ _ _ _ us hl => match us, hl with | [_], _ => rfl
  have D_law : DefG K mg "law" ["script"] _ _ := ⟨⟨k_law, b_law⟩, PySem.W.mg_of X G a_law⟩
  have F_BadFrame___init__ := fun_mk (st := s_BadFrame___init__) l_BadFrame___init__ c_BadFrame___init__ k_BadFrame___init__
  have b_BadFrame___init__ := F_BadFrame___init__.binds (ps := ["self", "what", "place"]) fun _ _ _ _ _ _ us hl => match us, hl with | [_, _, _], _ => rfl
  have D_BadFrame___init__ : DefAt K mg ["self", "what", "place"] _ _ := ⟨k_BadFrame___init__, b_BadFrame___init__⟩
  have no_BadFrame : ∀ f ∈ (["what", "place"] : List Str), PySem.W.findIn K (.ref C_BadFrame) f = some none := fun f hf => by
    simp only [List.mem_cons, List.mem_nil_iff, or_false] at hf
    rcases hf with rfl | rfl
    · exact nb_BadFrame_what
    · exact nb_BadFrame_place
  have O_BadFrame : ExOk K mg "BadFrame" C_BadFrame f_BadFrame___init__ ["what", "place"] := { gC := g_BadFrame, ox := ⟨⟨nm_BadFrame, q_BadFrame, N_BadFrame, bs_BadFrame, _, sn_BadFrame, su_BadFrame, ab_BadFrame, co_BadFrame, dd_BadFrame, m0_BadFrame, m1_BadFrame, m2_BadFrame, m3_BadFrame, m5_BadFrame, xL_BadFrame, by rfl⟩, sa_BadFrame, eC_BadFrame, tC_BadFrame, kC_BadFrame⟩, no := no_BadFrame, iC := a_BadFrame___init__, tI := tI_BadFrame }
  have F_BadHouse___init__ := fun_mk (st := s_BadHouse___init__) l_BadHouse___init__ c_BadHouse___init__ k_BadHouse___init__
  have b_BadHouse___init__ := F_BadHouse___init__.binds (ps := ["self", "what", "place"]) fun _ _ _ _ _ _ us hl => match us, hl with | [_, _, _], _ => rfl
  have D_BadHouse___init__ : DefAt K mg ["self", "what", "place"] _ _ := ⟨k_BadHouse___init__, b_BadHouse___init__⟩
  have no_BadHouse : ∀ f ∈ (["what", "place"] : List Str), PySem.W.findIn K (.ref C_BadHouse) f = some none := fun f hf => by
    simp only [List.mem_cons, List.mem_nil_iff, or_false] at hf
    rcases hf with rfl | rfl
    · exact nb_BadHouse_what
    · exact nb_BadHouse_place
  have O_BadHouse : ExOk K mg "BadHouse" C_BadHouse f_BadHouse___init__ ["what", "place"] := { gC := g_BadHouse, ox := ⟨⟨nm_BadHouse, q_BadHouse, N_BadHouse, bs_BadHouse, _, sn_BadHouse, su_BadHouse, ab_BadHouse, co_BadHouse, dd_BadHouse, m0_BadHouse, m1_BadHouse, m2_BadHouse, m3_BadHouse, m5_BadHouse, xL_BadHouse, by rfl⟩, sa_BadHouse, eC_BadHouse, tC_BadHouse, kC_BadHouse⟩, no := no_BadHouse, iC := a_BadHouse___init__, tI := tI_BadHouse }
  have F_BadLoad___init__ := fun_mk (st := s_BadLoad___init__) l_BadLoad___init__ c_BadLoad___init__ k_BadLoad___init__
  have b_BadLoad___init__ := F_BadLoad___init__.binds (ps := ["self", "what"]) fun _ _ _ _ _ _ us hl => match us, hl with | [_, _], _ => rfl
  have D_BadLoad___init__ : DefAt K mg ["self", "what"] _ _ := ⟨k_BadLoad___init__, b_BadLoad___init__⟩
  have no_BadLoad : ∀ f ∈ (["what"] : List Str), PySem.W.findIn K (.ref C_BadLoad) f = some none := fun f hf => by
    simp only [List.mem_cons, List.mem_nil_iff, or_false] at hf
    rcases hf with rfl
    · exact nb_BadLoad_what
  have O_BadLoad : ExOk K mg "BadLoad" C_BadLoad f_BadLoad___init__ ["what"] := { gC := g_BadLoad, ox := ⟨⟨nm_BadLoad, q_BadLoad, N_BadLoad, bs_BadLoad, _, sn_BadLoad, su_BadLoad, ab_BadLoad, co_BadLoad, dd_BadLoad, m0_BadLoad, m1_BadLoad, m2_BadLoad, m3_BadLoad, m5_BadLoad, xL_BadLoad, by rfl⟩, sa_BadLoad, eC_BadLoad, tC_BadLoad, kC_BadLoad⟩, no := no_BadLoad, iC := a_BadLoad___init__, tI := tI_BadLoad }
  have F_BadName___init__ := fun_mk (st := s_BadName___init__) l_BadName___init__ c_BadName___init__ k_BadName___init__
  have b_BadName___init__ := F_BadName___init__.binds (ps := ["self", "name"]) fun _ _ _ _ _ _ us hl => match us, hl with | [_, _], _ => rfl
  have D_BadName___init__ : DefAt K mg ["self", "name"] _ _ := ⟨k_BadName___init__, b_BadName___init__⟩
  have no_BadName : ∀ f ∈ (["name"] : List Str), PySem.W.findIn K (.ref C_BadName) f = some none := fun f hf => by
    simp only [List.mem_cons, List.mem_nil_iff, or_false] at hf
    rcases hf with rfl
    · exact nb_BadName_name
  have O_BadName : ExOk K mg "BadName" C_BadName f_BadName___init__ ["name"] := { gC := g_BadName, ox := ⟨⟨nm_BadName, q_BadName, N_BadName, bs_BadName, _, sn_BadName, su_BadName, ab_BadName, co_BadName, dd_BadName, m0_BadName, m1_BadName, m2_BadName, m3_BadName, m5_BadName, xL_BadName, by rfl⟩, sa_BadName, eC_BadName, tC_BadName, kC_BadName⟩, no := no_BadName, iC := a_BadName___init__, tI := tI_BadName }
  have F_BadNet___init__ := fun_mk (st := s_BadNet___init__) l_BadNet___init__ c_BadNet___init__ k_BadNet___init__
  have b_BadNet___init__ := F_BadNet___init__.binds (ps := ["self", "what", "gate"]) fun _ _ _ _ _ _ us hl => match us, hl with | [_, _, _], _ => rfl
  have D_BadNet___init__ : DefAt K mg ["self", "what", "gate"] _ _ := ⟨k_BadNet___init__, b_BadNet___init__⟩
  have no_BadNet : ∀ f ∈ (["what", "gate"] : List Str), PySem.W.findIn K (.ref C_BadNet) f = some none := fun f hf => by
    simp only [List.mem_cons, List.mem_nil_iff, or_false] at hf
    rcases hf with rfl | rfl
    · exact nb_BadNet_what
    · exact nb_BadNet_gate
  have O_BadNet : ExOk K mg "BadNet" C_BadNet f_BadNet___init__ ["what", "gate"] := { gC := g_BadNet, ox := ⟨⟨nm_BadNet, q_BadNet, N_BadNet, bs_BadNet, _, sn_BadNet, su_BadNet, ab_BadNet, co_BadNet, dd_BadNet, m0_BadNet, m1_BadNet, m2_BadNet, m3_BadNet, m5_BadNet, xL_BadNet, by rfl⟩, sa_BadNet, eC_BadNet, tC_BadNet, kC_BadNet⟩, no := no_BadNet, iC := a_BadNet___init__, tI := tI_BadNet }
  have F_BadNumber___init__ := fun_mk (st := s_BadNumber___init__) l_BadNumber___init__ c_BadNumber___init__ k_BadNumber___init__
  have b_BadNumber___init__ := F_BadNumber___init__.binds (ps := ["self", "what", "number"]) fun _ _ _ _ _ _ us hl => match us, hl with | [_, _, _], _ => rfl
  have D_BadNumber___init__ : DefAt K mg ["self", "what", "number"] _ _ := ⟨k_BadNumber___init__, b_BadNumber___init__⟩
  have no_BadNumber : ∀ f ∈ (["what", "number"] : List Str), PySem.W.findIn K (.ref C_BadNumber) f = some none := fun f hf => by
    simp only [List.mem_cons, List.mem_nil_iff, or_false] at hf
    rcases hf with rfl | rfl
    · exact nb_BadNumber_what
    · exact nb_BadNumber_number
  have O_BadNumber : ExOk K mg "BadNumber" C_BadNumber f_BadNumber___init__ ["what", "number"] := { gC := g_BadNumber, ox := ⟨⟨nm_BadNumber, q_BadNumber, N_BadNumber, bs_BadNumber, _, sn_BadNumber, su_BadNumber, ab_BadNumber, co_BadNumber, dd_BadNumber, m0_BadNumber, m1_BadNumber, m2_BadNumber, m3_BadNumber, m5_BadNumber, xL_BadNumber, by rfl⟩, sa_BadNumber, eC_BadNumber, tC_BadNumber, kC_BadNumber⟩, no := no_BadNumber, iC := a_BadNumber___init__, tI := tI_BadNumber }
  have F_BadRow___init__ := fun_mk (st := s_BadRow___init__) l_BadRow___init__ c_BadRow___init__ k_BadRow___init__
  have b_BadRow___init__ := F_BadRow___init__.binds (ps := ["self", "what", "row"]) fun _ _ _ _ _ _ us hl => match us, hl with | [_, _, _], _ => rfl
  have D_BadRow___init__ : DefAt K mg ["self", "what", "row"] _ _ := ⟨k_BadRow___init__, b_BadRow___init__⟩
  have no_BadRow : ∀ f ∈ (["what", "row"] : List Str), PySem.W.findIn K (.ref C_BadRow) f = some none := fun f hf => by
    simp only [List.mem_cons, List.mem_nil_iff, or_false] at hf
    rcases hf with rfl | rfl
    · exact nb_BadRow_what
    · exact nb_BadRow_row
  have O_BadRow : ExOk K mg "BadRow" C_BadRow f_BadRow___init__ ["what", "row"] := { gC := g_BadRow, ox := ⟨⟨nm_BadRow, q_BadRow, N_BadRow, bs_BadRow, _, sn_BadRow, su_BadRow, ab_BadRow, co_BadRow, dd_BadRow, m0_BadRow, m1_BadRow, m2_BadRow, m3_BadRow, m5_BadRow, xL_BadRow, by rfl⟩, sa_BadRow, eC_BadRow, tC_BadRow, kC_BadRow⟩, no := no_BadRow, iC := a_BadRow___init__, tI := tI_BadRow }
  have F_BadTable___init__ := fun_mk (st := s_BadTable___init__) l_BadTable___init__ c_BadTable___init__ k_BadTable___init__
  have b_BadTable___init__ := F_BadTable___init__.binds (ps := ["self", "what"]) fun _ _ _ _ _ _ us hl => match us, hl with | [_, _], _ => rfl
  have D_BadTable___init__ : DefAt K mg ["self", "what"] _ _ := ⟨k_BadTable___init__, b_BadTable___init__⟩
  have no_BadTable : ∀ f ∈ (["what"] : List Str), PySem.W.findIn K (.ref C_BadTable) f = some none := fun f hf => by
    simp only [List.mem_cons, List.mem_nil_iff, or_false] at hf
    rcases hf with rfl
    · exact nb_BadTable_what
  have O_BadTable : ExOk K mg "BadTable" C_BadTable f_BadTable___init__ ["what"] := { gC := g_BadTable, ox := ⟨⟨nm_BadTable, q_BadTable, N_BadTable, bs_BadTable, _, sn_BadTable, su_BadTable, ab_BadTable, co_BadTable, dd_BadTable, m0_BadTable, m1_BadTable, m2_BadTable, m3_BadTable, m5_BadTable, xL_BadTable, by rfl⟩, sa_BadTable, eC_BadTable, tC_BadTable, kC_BadTable⟩, no := no_BadTable, iC := a_BadTable___init__, tI := tI_BadTable }
  have F_BadText___init__ := fun_mk (st := s_BadText___init__) l_BadText___init__ c_BadText___init__ k_BadText___init__
  have b_BadText___init__ := F_BadText___init__.binds (ps := ["self", "line", "word"]) fun _ _ _ _ _ _ us hl => match us, hl with | [_, _, _], _ => rfl
  have D_BadText___init__ : DefAt K mg ["self", "line", "word"] _ _ := ⟨k_BadText___init__, b_BadText___init__⟩
  have no_BadText : ∀ f ∈ (["line", "word"] : List Str), PySem.W.findIn K (.ref C_BadText) f = some none := fun f hf => by
    simp only [List.mem_cons, List.mem_nil_iff, or_false] at hf
    rcases hf with rfl | rfl
    · exact nb_BadText_line
    · exact nb_BadText_word
  have O_BadText : ExOk K mg "BadText" C_BadText f_BadText___init__ ["line", "word"] := { gC := g_BadText, ox := ⟨⟨nm_BadText, q_BadText, N_BadText, bs_BadText, _, sn_BadText, su_BadText, ab_BadText, co_BadText, dd_BadText, m0_BadText, m1_BadText, m2_BadText, m3_BadText, m5_BadText, xL_BadText, by rfl⟩, sa_BadText, eC_BadText, tC_BadText, kC_BadText⟩, no := no_BadText, iC := a_BadText___init__, tI := tI_BadText }
  have F_BadWeb___init__ := fun_mk (st := s_BadWeb___init__) l_BadWeb___init__ c_BadWeb___init__ k_BadWeb___init__
  have b_BadWeb___init__ := F_BadWeb___init__.binds (ps := ["self", "what", "place"]) fun _ _ _ _ _ _ us hl => match us, hl with | [_, _, _], _ => rfl
  have D_BadWeb___init__ : DefAt K mg ["self", "what", "place"] _ _ := ⟨k_BadWeb___init__, b_BadWeb___init__⟩
  have no_BadWeb : ∀ f ∈ (["what", "place"] : List Str), PySem.W.findIn K (.ref C_BadWeb) f = some none := fun f hf => by
    simp only [List.mem_cons, List.mem_nil_iff, or_false] at hf
    rcases hf with rfl | rfl
    · exact nb_BadWeb_what
    · exact nb_BadWeb_place
  have O_BadWeb : ExOk K mg "BadWeb" C_BadWeb f_BadWeb___init__ ["what", "place"] := { gC := g_BadWeb, ox := ⟨⟨nm_BadWeb, q_BadWeb, N_BadWeb, bs_BadWeb, _, sn_BadWeb, su_BadWeb, ab_BadWeb, co_BadWeb, dd_BadWeb, m0_BadWeb, m1_BadWeb, m2_BadWeb, m3_BadWeb, m5_BadWeb, xL_BadWeb, by rfl⟩, sa_BadWeb, eC_BadWeb, tC_BadWeb, kC_BadWeb⟩, no := no_BadWeb, iC := a_BadWeb___init__, tI := tI_BadWeb }
  have F_Flat___init__ := fun_mk (st := s_Flat___init__) l_Flat___init__ c_Flat___init__ k_Flat___init__
  have b_Flat___init__ := F_Flat___init__.binds (ps := ["self", "choice"]) fun _ _ _ _ _ _ us hl => match us, hl with | [_, _], _ => rfl
  have D_Flat___init__ : DefAt K mg ["self", "choice"] _ _ := ⟨k_Flat___init__, b_Flat___init__⟩
  have no_Flat : ∀ f ∈ (["choice"] : List Str), PySem.W.findIn K (.ref C_Flat) f = some none := fun f hf => by
    simp only [List.mem_cons, List.mem_nil_iff, or_false] at hf
    rcases hf with rfl
    · exact nb_Flat_choice
  have O_Flat : ExOk K mg "Flat" C_Flat f_Flat___init__ ["choice"] := { gC := g_Flat, ox := ⟨⟨nm_Flat, q_Flat, N_Flat, bs_Flat, _, sn_Flat, su_Flat, ab_Flat, co_Flat, dd_Flat, m0_Flat, m1_Flat, m2_Flat, m3_Flat, m5_Flat, xL_Flat, by rfl⟩, sa_Flat, eC_Flat, tC_Flat, kC_Flat⟩, no := no_Flat, iC := a_Flat___init__, tI := tI_Flat }
  have F_NoName___init__ := fun_mk (st := s_NoName___init__) l_NoName___init__ c_NoName___init__ k_NoName___init__
  have b_NoName___init__ := F_NoName___init__.binds (ps := ["self", "name"]) fun _ _ _ _ _ _ us hl => match us, hl with | [_, _], _ => rfl
  have D_NoName___init__ : DefAt K mg ["self", "name"] _ _ := ⟨k_NoName___init__, b_NoName___init__⟩
  have no_NoName : ∀ f ∈ (["name"] : List Str), PySem.W.findIn K (.ref C_NoName) f = some none := fun f hf => by
    simp only [List.mem_cons, List.mem_nil_iff, or_false] at hf
    rcases hf with rfl
    · exact nb_NoName_name
  have O_NoName : ExOk K mg "NoName" C_NoName f_NoName___init__ ["name"] := { gC := g_NoName, ox := ⟨⟨nm_NoName, q_NoName, N_NoName, bs_NoName, _, sn_NoName, su_NoName, ab_NoName, co_NoName, dd_NoName, m0_NoName, m1_NoName, m2_NoName, m3_NoName, m5_NoName, xL_NoName, by rfl⟩, sa_NoName, eC_NoName, tC_NoName, kC_NoName⟩, no := no_NoName, iC := a_NoName___init__, tI := tI_NoName }
  have F_NoPlace___init__ := fun_mk (st := s_NoPlace___init__) l_NoPlace___init__ c_NoPlace___init__ k_NoPlace___init__
  have b_NoPlace___init__ := F_NoPlace___init__.binds (ps := ["self", "place"]) fun _ _ _ _ _ _ us hl => match us, hl with | [_, _], _ => rfl
  have D_NoPlace___init__ : DefAt K mg ["self", "place"] _ _ := ⟨k_NoPlace___init__, b_NoPlace___init__⟩
  have no_NoPlace : ∀ f ∈ (["place"] : List Str), PySem.W.findIn K (.ref C_NoPlace) f = some none := fun f hf => by
    simp only [List.mem_cons, List.mem_nil_iff, or_false] at hf
    rcases hf with rfl
    · exact nb_NoPlace_place
  have O_NoPlace : ExOk K mg "NoPlace" C_NoPlace f_NoPlace___init__ ["place"] := { gC := g_NoPlace, ox := ⟨⟨nm_NoPlace, q_NoPlace, N_NoPlace, bs_NoPlace, _, sn_NoPlace, su_NoPlace, ab_NoPlace, co_NoPlace, dd_NoPlace, m0_NoPlace, m1_NoPlace, m2_NoPlace, m3_NoPlace, m5_NoPlace, xL_NoPlace, by rfl⟩, sa_NoPlace, eC_NoPlace, tC_NoPlace, kC_NoPlace⟩, no := no_NoPlace, iC := a_NoPlace___init__, tI := tI_NoPlace }
  have F_NoRow___init__ := fun_mk (st := s_NoRow___init__) l_NoRow___init__ c_NoRow___init__ k_NoRow___init__
  have b_NoRow___init__ := F_NoRow___init__.binds (ps := ["self", "place", "row"]) fun _ _ _ _ _ _ us hl => match us, hl with | [_, _, _], _ => rfl
  have D_NoRow___init__ : DefAt K mg ["self", "place", "row"] _ _ := ⟨k_NoRow___init__, b_NoRow___init__⟩
  have no_NoRow : ∀ f ∈ (["place", "row"] : List Str), PySem.W.findIn K (.ref C_NoRow) f = some none := fun f hf => by
    simp only [List.mem_cons, List.mem_nil_iff, or_false] at hf
    rcases hf with rfl | rfl
    · exact nb_NoRow_place
    · exact nb_NoRow_row
  have O_NoRow : ExOk K mg "NoRow" C_NoRow f_NoRow___init__ ["place", "row"] := { gC := g_NoRow, ox := ⟨⟨nm_NoRow, q_NoRow, N_NoRow, bs_NoRow, _, sn_NoRow, su_NoRow, ab_NoRow, co_NoRow, dd_NoRow, m0_NoRow, m1_NoRow, m2_NoRow, m3_NoRow, m5_NoRow, xL_NoRow, by rfl⟩, sa_NoRow, eC_NoRow, tC_NoRow, kC_NoRow⟩, no := no_NoRow, iC := a_NoRow___init__, tI := tI_NoRow }
  have F_NoWall___init__ := fun_mk (st := s_NoWall___init__) l_NoWall___init__ c_NoWall___init__ k_NoWall___init__
  have b_NoWall___init__ := F_NoWall___init__.binds (ps := ["self", "place"]) fun _ _ _ _ _ _ us hl => match us, hl with | [_, _], _ => rfl
  have D_NoWall___init__ : DefAt K mg ["self", "place"] _ _ := ⟨k_NoWall___init__, b_NoWall___init__⟩
  have no_NoWall : ∀ f ∈ (["place"] : List Str), PySem.W.findIn K (.ref C_NoWall) f = some none := fun f hf => by
    simp only [List.mem_cons, List.mem_nil_iff, or_false] at hf
    rcases hf with rfl
    · exact nb_NoWall_place
  have O_NoWall : ExOk K mg "NoWall" C_NoWall f_NoWall___init__ ["place"] := { gC := g_NoWall, ox := ⟨⟨nm_NoWall, q_NoWall, N_NoWall, bs_NoWall, _, sn_NoWall, su_NoWall, ab_NoWall, co_NoWall, dd_NoWall, m0_NoWall, m1_NoWall, m2_NoWall, m3_NoWall, m5_NoWall, xL_NoWall, by rfl⟩, sa_NoWall, eC_NoWall, tC_NoWall, kC_NoWall⟩, no := no_NoWall, iC := a_NoWall___init__, tI := tI_NoWall }
  have F_NotKept___init__ := fun_mk (st := s_NotKept___init__) l_NotKept___init__ c_NotKept___init__ k_NotKept___init__
  have b_NotKept___init__ := F_NotKept___init__.binds (ps := ["self", "promise", "witness"]) fun _ _ _ _ _ _ us hl => match us, hl with | [_, _, _], _ => rfl
  have D_NotKept___init__ : DefAt K mg ["self", "promise", "witness"] _ _ := ⟨k_NotKept___init__, b_NotKept___init__⟩
  have no_NotKept : ∀ f ∈ (["promise", "witness"] : List Str), PySem.W.findIn K (.ref C_NotKept) f = some none := fun f hf => by
    simp only [List.mem_cons, List.mem_nil_iff, or_false] at hf
    rcases hf with rfl | rfl
    · exact nb_NotKept_promise
    · exact nb_NotKept_witness
  have O_NotKept : ExOk K mg "NotKept" C_NotKept f_NotKept___init__ ["promise", "witness"] := { gC := g_NotKept, ox := ⟨⟨nm_NotKept, q_NotKept, N_NotKept, bs_NotKept, _, sn_NotKept, su_NotKept, ab_NotKept, co_NotKept, dd_NotKept, m0_NotKept, m1_NotKept, m2_NotKept, m3_NotKept, m5_NotKept, xL_NotKept, by rfl⟩, sa_NotKept, eC_NotKept, tC_NotKept, kC_NotKept⟩, no := no_NotKept, iC := a_NotKept___init__, tI := tI_NotKept }
  have F_NotOnce___init__ := fun_mk (st := s_NotOnce___init__) l_NotOnce___init__ c_NotOnce___init__ k_NotOnce___init__
  have b_NotOnce___init__ := F_NotOnce___init__.binds (ps := ["self", "row"]) fun _ _ _ _ _ _ us hl => match us, hl with | [_, _], _ => rfl
  have D_NotOnce___init__ : DefAt K mg ["self", "row"] _ _ := ⟨k_NotOnce___init__, b_NotOnce___init__⟩
  have no_NotOnce : ∀ f ∈ (["row"] : List Str), PySem.W.findIn K (.ref C_NotOnce) f = some none := fun f hf => by
    simp only [List.mem_cons, List.mem_nil_iff, or_false] at hf
    rcases hf with rfl
    · exact nb_NotOnce_row
  have O_NotOnce : ExOk K mg "NotOnce" C_NotOnce f_NotOnce___init__ ["row"] := { gC := g_NotOnce, ox := ⟨⟨nm_NotOnce, q_NotOnce, N_NotOnce, bs_NotOnce, _, sn_NotOnce, su_NotOnce, ab_NotOnce, co_NotOnce, dd_NotOnce, m0_NotOnce, m1_NotOnce, m2_NotOnce, m3_NotOnce, m5_NotOnce, xL_NotOnce, by rfl⟩, sa_NotOnce, eC_NotOnce, tC_NotOnce, kC_NotOnce⟩, no := no_NotOnce, iC := a_NotOnce___init__, tI := tI_NotOnce }
  have F_NotPlain___init__ := fun_mk (st := s_NotPlain___init__) l_NotPlain___init__ c_NotPlain___init__ k_NotPlain___init__
  have b_NotPlain___init__ := F_NotPlain___init__.binds (ps := ["self", "choice"]) fun _ _ _ _ _ _ us hl => match us, hl with | [_, _], _ => rfl
  have D_NotPlain___init__ : DefAt K mg ["self", "choice"] _ _ := ⟨k_NotPlain___init__, b_NotPlain___init__⟩
  have no_NotPlain : ∀ f ∈ (["choice"] : List Str), PySem.W.findIn K (.ref C_NotPlain) f = some none := fun f hf => by
    simp only [List.mem_cons, List.mem_nil_iff, or_false] at hf
    rcases hf with rfl
    · exact nb_NotPlain_choice
  have O_NotPlain : ExOk K mg "NotPlain" C_NotPlain f_NotPlain___init__ ["choice"] := { gC := g_NotPlain, ox := ⟨⟨nm_NotPlain, q_NotPlain, N_NotPlain, bs_NotPlain, _, sn_NotPlain, su_NotPlain, ab_NotPlain, co_NotPlain, dd_NotPlain, m0_NotPlain, m1_NotPlain, m2_NotPlain, m3_NotPlain, m5_NotPlain, xL_NotPlain, by rfl⟩, sa_NotPlain, eC_NotPlain, tC_NotPlain, kC_NotPlain⟩, no := no_NotPlain, iC := a_NotPlain___init__, tI := tI_NotPlain }
  have F_TakenName___init__ := fun_mk (st := s_TakenName___init__) l_TakenName___init__ c_TakenName___init__ k_TakenName___init__
  have b_TakenName___init__ := F_TakenName___init__.binds (ps := ["self", "name"]) fun _ _ _ _ _ _ us hl => match us, hl with | [_, _], _ => rfl
  have D_TakenName___init__ : DefAt K mg ["self", "name"] _ _ := ⟨k_TakenName___init__, b_TakenName___init__⟩
  have no_TakenName : ∀ f ∈ (["name"] : List Str), PySem.W.findIn K (.ref C_TakenName) f = some none := fun f hf => by
    simp only [List.mem_cons, List.mem_nil_iff, or_false] at hf
    rcases hf with rfl
    · exact nb_TakenName_name
  have O_TakenName : ExOk K mg "TakenName" C_TakenName f_TakenName___init__ ["name"] := { gC := g_TakenName, ox := ⟨⟨nm_TakenName, q_TakenName, N_TakenName, bs_TakenName, _, sn_TakenName, su_TakenName, ab_TakenName, co_TakenName, dd_TakenName, m0_TakenName, m1_TakenName, m2_TakenName, m3_TakenName, m5_TakenName, xL_TakenName, by rfl⟩, sa_TakenName, eC_TakenName, tC_TakenName, kC_TakenName⟩, no := no_TakenName, iC := a_TakenName___init__, tI := tI_TakenName }
  have F_TooMany___init__ := fun_mk (st := s_TooMany___init__) l_TooMany___init__ c_TooMany___init__ k_TooMany___init__
  have b_TooMany___init__ := F_TooMany___init__.binds (ps := ["self", "what", "many", "limit"]) fun _ _ _ _ _ _ us hl => match us, hl with | [_, _, _, _], _ => rfl
  have D_TooMany___init__ : DefAt K mg ["self", "what", "many", "limit"] _ _ := ⟨k_TooMany___init__, b_TooMany___init__⟩
  have no_TooMany : ∀ f ∈ (["what", "many", "limit"] : List Str), PySem.W.findIn K (.ref C_TooMany) f = some none := fun f hf => by
    simp only [List.mem_cons, List.mem_nil_iff, or_false] at hf
    rcases hf with rfl | rfl | rfl
    · exact nb_TooMany_what
    · exact nb_TooMany_many
    · exact nb_TooMany_limit
  have O_TooMany : ExOk K mg "TooMany" C_TooMany f_TooMany___init__ ["what", "many", "limit"] := { gC := g_TooMany, ox := ⟨⟨nm_TooMany, q_TooMany, N_TooMany, bs_TooMany, _, sn_TooMany, su_TooMany, ab_TooMany, co_TooMany, dd_TooMany, m0_TooMany, m1_TooMany, m2_TooMany, m3_TooMany, m5_TooMany, xL_TooMany, by rfl⟩, sa_TooMany, eC_TooMany, tC_TooMany, kC_TooMany⟩, no := no_TooMany, iC := a_TooMany___init__, tI := tI_TooMany }
  have F_Unlike___init__ := fun_mk (st := s_Unlike___init__) l_Unlike___init__ c_Unlike___init__ k_Unlike___init__
  have b_Unlike___init__ := F_Unlike___init__.binds (ps := ["self", "what"]) fun _ _ _ _ _ _ us hl => match us, hl with | [_, _], _ => rfl
  have D_Unlike___init__ : DefAt K mg ["self", "what"] _ _ := ⟨k_Unlike___init__, b_Unlike___init__⟩
  have no_Unlike : ∀ f ∈ (["what"] : List Str), PySem.W.findIn K (.ref C_Unlike) f = some none := fun f hf => by
    simp only [List.mem_cons, List.mem_nil_iff, or_false] at hf
    rcases hf with rfl
    · exact nb_Unlike_what
  have O_Unlike : ExOk K mg "Unlike" C_Unlike f_Unlike___init__ ["what"] := { gC := g_Unlike, ox := ⟨⟨nm_Unlike, q_Unlike, N_Unlike, bs_Unlike, _, sn_Unlike, su_Unlike, ab_Unlike, co_Unlike, dd_Unlike, m0_Unlike, m1_Unlike, m2_Unlike, m3_Unlike, m5_Unlike, xL_Unlike, by rfl⟩, sa_Unlike, eC_Unlike, tC_Unlike, kC_Unlike⟩, no := no_Unlike, iC := a_Unlike___init__, tI := tI_Unlike }
  have O0_NothingToRedo : Ex0Ok K mg "NothingToRedo" C_NothingToRedo := ⟨g_NothingToRedo, q0_NothingToRedo, k0_NothingToRedo, eC_NothingToRedo, t0_NothingToRedo⟩
  have O0_NothingToUndo : Ex0Ok K mg "NothingToUndo" C_NothingToUndo := ⟨g_NothingToUndo, q0_NothingToUndo, k0_NothingToUndo, eC_NothingToUndo, t0_NothingToUndo⟩
  let T : List (Addr × Str) := []
  refine ⟨PySem.W.fnOf "law" "law" (defArgs s_law) (defBody s_law) (defScope s_law) .none kV_law dc_law pm_law an_law cd_law ct_law, [], lSp ⟨K, cmOf mg, [], T⟩ 1 sp_law, ⟨?_, ?_, ?_⟩, fun s u => .of_eq rfl, fun H a ns hn hb hT hS => ?_, fun base hK hN hTB SM => ?_⟩
  · intro p hp
    cases hp
  · intro p hp
    cases hp
  · intro p hp
    cases hp
  · refine ⟨H, fun _ => none, [.scr ns], fun d => d = .bl true, fun _ => False, (jn_none' H).symm, ⟨fun _ _ _ => rfl, fun _ _ z => by cases z⟩, ?_, ?_, rfl, ⟨ns, rfl, hn, rfl⟩, ⟨fun v d F' x dj rv q => by rw [q] at rv; exact rep_bl rv⟩, fun _ _ _ _ _ _ _ z => z.elim⟩
    · intro p hp
      cases hp
    · exact Reps.cons (by unfold Rep; exact ⟨a, rfl, hS⟩) Reps.nil
  · skip
    have G_BadFrame___init__ : FnOk l.prog w K mg base (L2.CX l.prog w) 1 _ _ ["self", "what", "place"] (spInit K ["what", "place"]) := ok_init2 F_BadFrame___init__ sc_BadFrame___init__ rfl (.inl rfl) (.inl rfl) rfl rfl (.inl rfl) rfl rfl
    have G_BadHouse___init__ : FnOk l.prog w K mg base (L2.CX l.prog w) 1 _ _ ["self", "what", "place"] (spInit K ["what", "place"]) := ok_init2 F_BadHouse___init__ sc_BadHouse___init__ rfl (.inl rfl) (.inl rfl) rfl rfl (.inl rfl) rfl rfl
    have G_BadLoad___init__ : FnOk l.prog w K mg base (L2.CX l.prog w) 1 _ _ ["self", "what"] (spInit K ["what"]) := ok_init1 F_BadLoad___init__ sc_BadLoad___init__ rfl (.inl rfl) (.inl rfl) rfl rfl
    have G_BadName___init__ : FnOk l.prog w K mg base (L2.CX l.prog w) 1 _ _ ["self", "name"] (spInit K ["name"]) := ok_init1 F_BadName___init__ sc_BadName___init__ rfl (.inl rfl) (.inl rfl) rfl rfl
    have G_BadNet___init__ : FnOk l.prog w K mg base (L2.CX l.prog w) 1 _ _ ["self", "what", "gate"] (spInit K ["what", "gate"]) := ok_init2 F_BadNet___init__ sc_BadNet___init__ rfl (.inl rfl) (.inl rfl) rfl rfl (.inl rfl) rfl rfl
    have G_BadNumber___init__ : FnOk l.prog w K mg base (L2.CX l.prog w) 1 _ _ ["self", "what", "number"] (spInit K ["what", "number"]) := ok_init2 F_BadNumber___init__ sc_BadNumber___init__ rfl (.inl rfl) (.inl rfl) rfl rfl (.inl rfl) rfl rfl
    have G_BadRow___init__ : FnOk l.prog w K mg base (L2.CX l.prog w) 1 _ _ ["self", "what", "row"] (spInit K ["what", "row"]) := ok_init2 F_BadRow___init__ sc_BadRow___init__ rfl (.inl rfl) (.inl rfl) rfl rfl (.inl rfl) rfl rfl
    have G_BadTable___init__ : FnOk l.prog w K mg base (L2.CX l.prog w) 1 _ _ ["self", "what"] (spInit K ["what"]) := ok_init1 F_BadTable___init__ sc_BadTable___init__ rfl (.inl rfl) (.inl rfl) rfl rfl
    have G_BadText___init__ : FnOk l.prog w K mg base (L2.CX l.prog w) 1 _ _ ["self", "line", "word"] (spInit K ["line", "word"]) := ok_init2 F_BadText___init__ sc_BadText___init__ rfl (.inl rfl) (.inl rfl) rfl rfl (.inl rfl) rfl rfl
    have G_BadWeb___init__ : FnOk l.prog w K mg base (L2.CX l.prog w) 1 _ _ ["self", "what", "place"] (spInit K ["what", "place"]) := ok_init2 F_BadWeb___init__ sc_BadWeb___init__ rfl (.inl rfl) (.inl rfl) rfl rfl (.inl rfl) rfl rfl
    have G_Flat___init__ : FnOk l.prog w K mg base (L2.CX l.prog w) 1 _ _ ["self", "choice"] (spInit K ["choice"]) := ok_init1 F_Flat___init__ sc_Flat___init__ rfl (.inl rfl) (.inl rfl) rfl rfl
    have G_NoName___init__ : FnOk l.prog w K mg base (L2.CX l.prog w) 1 _ _ ["self", "name"] (spInit K ["name"]) := ok_init1 F_NoName___init__ sc_NoName___init__ rfl (.inl rfl) (.inl rfl) rfl rfl
    have G_NoPlace___init__ : FnOk l.prog w K mg base (L2.CX l.prog w) 1 _ _ ["self", "place"] (spInit K ["place"]) := ok_init1 F_NoPlace___init__ sc_NoPlace___init__ rfl (.inl rfl) (.inl rfl) rfl rfl
    have G_NoRow___init__ : FnOk l.prog w K mg base (L2.CX l.prog w) 1 _ _ ["self", "place", "row"] (spInit K ["place", "row"]) := ok_init2 F_NoRow___init__ sc_NoRow___init__ rfl (.inl rfl) (.inl rfl) rfl rfl (.inl rfl) rfl rfl
    have G_NoWall___init__ : FnOk l.prog w K mg base (L2.CX l.prog w) 1 _ _ ["self", "place"] (spInit K ["place"]) := ok_init1 F_NoWall___init__ sc_NoWall___init__ rfl (.inl rfl) (.inl rfl) rfl rfl
    have G_NotKept___init__ : FnOk l.prog w K mg base (L2.CX l.prog w) 1 _ _ ["self", "promise", "witness"] (spInit K ["promise", "witness"]) := ok_init2 F_NotKept___init__ sc_NotKept___init__ rfl (.inl rfl) (.inl rfl) rfl rfl (.inl rfl) rfl rfl
    have G_NotOnce___init__ : FnOk l.prog w K mg base (L2.CX l.prog w) 1 _ _ ["self", "row"] (spInit K ["row"]) := ok_init1 F_NotOnce___init__ sc_NotOnce___init__ rfl (.inl rfl) (.inl rfl) rfl rfl
    have G_NotPlain___init__ : FnOk l.prog w K mg base (L2.CX l.prog w) 1 _ _ ["self", "choice"] (spInit K ["choice"]) := ok_init1 F_NotPlain___init__ sc_NotPlain___init__ rfl (.inl rfl) (.inl rfl) rfl rfl
    have G_TakenName___init__ : FnOk l.prog w K mg base (L2.CX l.prog w) 1 _ _ ["self", "name"] (spInit K ["name"]) := ok_init1 F_TakenName___init__ sc_TakenName___init__ rfl (.inl rfl) (.inl rfl) rfl rfl
    have G_TooMany___init__ : FnOk l.prog w K mg base (L2.CX l.prog w) 1 _ _ ["self", "what", "many", "limit"] (spInit K ["what", "many", "limit"]) := ok_init3 F_TooMany___init__ sc_TooMany___init__ rfl (.inl rfl) (.inl rfl) rfl rfl (.inl rfl) rfl rfl (.inl rfl) rfl rfl
    have G_Unlike___init__ : FnOk l.prog w K mg base (L2.CX l.prog w) 1 _ _ ["self", "what"] (spInit K ["what"]) := ok_init1 F_Unlike___init__ sc_Unlike___init__ rfl (.inl rfl) (.inl rfl) rfl rfl
    have G__law_pen := ok__law_pen (P := l.prog) (w := w) (base := base) (T := T) Z Y  F__law_pen
    have G__law_draw := ok__law_draw (P := l.prog) (w := w) (base := base) (T := T) (PySem.W.mg_none_of X G z_len) (PySem.W.mg_none_of X G z_int) F__law_draw
    have G__law_pick := ok__law_pick (P := l.prog) (w := w) (base := base) (T := T) Z Y D__law_draw G__law_draw F__law_pick
    have G__law_more_kinds := ok__law_more_kinds (P := l.prog) (w := w) (base := base) (T := T) Z Y Xn SM F__law_more_kinds
    have G__law_kinds := ok__law_kinds (P := l.prog) (w := w) (base := base) (T := T) Z Y D__law_more_kinds G__law_more_kinds Xn SM F__law_kinds
    have G__law_value := ok__law_value (P := l.prog) (w := w) (base := base) (T := T) Z Y D__law_draw G__law_draw D__law_pick G__law_pick F__law_value
    have G__law_first := ok__law_first (P := l.prog) (w := w) (base := base) (T := T) Z Y O_BadNumber D_BadNumber___init__ G_BadNumber___init__ O_BadRow D_BadRow___init__ G_BadRow___init__ O_BadTable D_BadTable___init__ G_BadTable___init__ O_BadFrame D_BadFrame___init__ G_BadFrame___init__ O_BadLoad D_BadLoad___init__ G_BadLoad___init__ O_BadNet D_BadNet___init__ G_BadNet___init__ O_BadHouse D_BadHouse___init__ G_BadHouse___init__ O_BadWeb D_BadWeb___init__ G_BadWeb___init__ O_BadName D_BadName___init__ G_BadName___init__ O_BadText D_BadText___init__ G_BadText___init__ O_NoPlace D_NoPlace___init__ G_NoPlace___init__ O_NoRow D_NoRow___init__ G_NoRow___init__ F__law_first
    have G__law_second := ok__law_second (P := l.prog) (w := w) (base := base) (T := T) Z Y O_NoWall D_NoWall___init__ G_NoWall___init__ O_NoName D_NoName___init__ G_NoName___init__ O_TakenName D_TakenName___init__ G_TakenName___init__ O_Unlike D_Unlike___init__ G_Unlike___init__ O_Flat D_Flat___init__ G_Flat___init__ O_NotOnce D_NotOnce___init__ G_NotOnce___init__ O_NotPlain D_NotPlain___init__ G_NotPlain___init__ O_TooMany D_TooMany___init__ G_TooMany___init__ O_NotKept D_NotKept___init__ G_NotKept___init__ O0_NothingToUndo O0_NothingToRedo F__law_second
    have G__law_told := ok__law_told (P := l.prog) (w := w) (base := base) (T := T) Z Y D__law_first G__law_first D__law_second G__law_second D__law_kinds G__law_kinds Xn g_RestsError XR F__law_told
    have G__law_due := ok__law_due (P := l.prog) (w := w) (base := base) (T := T) Z Y SM F__law_due
    have G_law := ok_law (P := l.prog) (w := w) (base := base) (T := T) Z Y D__law_pen G__law_pen D__law_value G__law_value D__law_told G__law_told D__law_due G__law_due SM F_law
    exact G_law
end Cl
open PySem PySem.W PySem.Calls  PyProof.Rows
open PySem PySem.W in
open PyProof.Rows in
set_option maxRecDepth 120000 in
set_option maxHeartbeats 0 in
theorem PySem.Challenge.cw_onerests_k01_errors_as_told_holds : PySem.Challenge.rw_onerests_k01_errors_as_told.Holds := by
  w_on; o_law
  refine HandSHeadRun.head_imp (r := (PySem.W.OpenLaw.row PySem.Challenge.rw_onerests_k01_errors_as_told)) (q := Cl.qv) (H := Cl.hkS) (ob := Cl.obS) (M := 30000) (loose := Cl.looseN) (d := Cl.dl) (kwd := []) (fun s => Cl.km_obS s) Cl.run_h (by kernel_rfl) (by kernel_rfl) (by kernel_rfl) (by rfl) (by first | assumption | decide +kernel) (by decide +kernel) ⟨rfl, rfl, rfl, rfl, rfl, by decide +kernel⟩ ?hw ?hc
  (case hw => w_witness2)
  k_fill
  refine L3.walkH (l := PySem.Challenge.rw_onerests_k01_errors_as_told) (n := 63) (k := 5) (x := "script") rfl (by decide) (by kernel_rfl) ⟨⟨rfl, by decide, by decide⟩, rfl⟩ (fun w h Y => PySem.W.km_in_of Y.1) (fun w h Y => Cl.sm_of Y.2) ?F
  case F =>
    intro w mg fa h Y KX G hmg
    have hmg : mg ("law" : PySem.Str) = some (.ref fa) :=  by
      have e : Cl.dl.name = ("law" : PySem.Str) := by kernel_rfl
      rw [← e]
      exact hmg
    refine' Cl.all_mk KX G hmg ?A_BadFrame ?A_BadHouse ?A_BadLoad ?A_BadName ?A_BadNet ?A_BadNumber ?A_BadRow ?A_BadTable ?A_BadText ?A_BadWeb ?A_Flat ?A_NoName ?A_NoPlace ?A_NoRow ?A_NoWall ?A_NotKept ?A_NotOnce ?A_NotPlain ?A_NothingToRedo ?A_NothingToUndo ?A_RestsError ?A_TakenName ?A_TooMany ?A_Unlike ?a__law_pen ?l__law_pen ?c__law_pen ?k__law_pen ?a__law_draw ?l__law_draw ?c__law_draw ?k__law_draw ?a__law_pick ?l__law_pick ?c__law_pick ?k__law_pick ?a__law_more_kinds ?l__law_more_kinds ?c__law_more_kinds ?k__law_more_kinds ?a__law_kinds ?l__law_kinds ?c__law_kinds ?k__law_kinds ?a__law_value ?l__law_value ?c__law_value ?k__law_value ?a__law_first ?l__law_first ?c__law_first ?k__law_first ?a__law_second ?l__law_second ?c__law_second ?k__law_second ?a__law_told ?l__law_told ?c__law_told ?k__law_told ?a__law_due ?l__law_due ?c__law_due ?k__law_due ?a_law ?l_law ?c_law ?k_law ?a_BadFrame___init__ ?l_BadFrame___init__ ?c_BadFrame___init__ ?k_BadFrame___init__ ?xL_BadFrame ?sa_BadFrame ?eC_BadFrame ?tC_BadFrame ?kC_BadFrame ?tI_BadFrame ?nb_BadFrame_what ?nb_BadFrame_place ?a_BadHouse___init__ ?l_BadHouse___init__ ?c_BadHouse___init__ ?k_BadHouse___init__ ?xL_BadHouse ?sa_BadHouse ?eC_BadHouse ?tC_BadHouse ?kC_BadHouse ?tI_BadHouse ?nb_BadHouse_what ?nb_BadHouse_place ?a_BadLoad___init__ ?l_BadLoad___init__ ?c_BadLoad___init__ ?k_BadLoad___init__ ?xL_BadLoad ?sa_BadLoad ?eC_BadLoad ?tC_BadLoad ?kC_BadLoad ?tI_BadLoad ?nb_BadLoad_what ?a_BadName___init__ ?l_BadName___init__ ?c_BadName___init__ ?k_BadName___init__ ?xL_BadName ?sa_BadName ?eC_BadName ?tC_BadName ?kC_BadName ?tI_BadName ?nb_BadName_name ?a_BadNet___init__ ?l_BadNet___init__ ?c_BadNet___init__ ?k_BadNet___init__ ?xL_BadNet ?sa_BadNet ?eC_BadNet ?tC_BadNet ?kC_BadNet ?tI_BadNet ?nb_BadNet_what ?nb_BadNet_gate ?a_BadNumber___init__ ?l_BadNumber___init__ ?c_BadNumber___init__ ?k_BadNumber___init__ ?xL_BadNumber ?sa_BadNumber ?eC_BadNumber ?tC_BadNumber ?kC_BadNumber ?tI_BadNumber ?nb_BadNumber_what ?nb_BadNumber_number ?a_BadRow___init__ ?l_BadRow___init__ ?c_BadRow___init__ ?k_BadRow___init__ ?xL_BadRow ?sa_BadRow ?eC_BadRow ?tC_BadRow ?kC_BadRow ?tI_BadRow ?nb_BadRow_what ?nb_BadRow_row ?a_BadTable___init__ ?l_BadTable___init__ ?c_BadTable___init__ ?k_BadTable___init__ ?xL_BadTable ?sa_BadTable ?eC_BadTable ?tC_BadTable ?kC_BadTable ?tI_BadTable ?nb_BadTable_what ?a_BadText___init__ ?l_BadText___init__ ?c_BadText___init__ ?k_BadText___init__ ?xL_BadText ?sa_BadText ?eC_BadText ?tC_BadText ?kC_BadText ?tI_BadText ?nb_BadText_line ?nb_BadText_word ?a_BadWeb___init__ ?l_BadWeb___init__ ?c_BadWeb___init__ ?k_BadWeb___init__ ?xL_BadWeb ?sa_BadWeb ?eC_BadWeb ?tC_BadWeb ?kC_BadWeb ?tI_BadWeb ?nb_BadWeb_what ?nb_BadWeb_place ?a_Flat___init__ ?l_Flat___init__ ?c_Flat___init__ ?k_Flat___init__ ?xL_Flat ?sa_Flat ?eC_Flat ?tC_Flat ?kC_Flat ?tI_Flat ?nb_Flat_choice ?a_NoName___init__ ?l_NoName___init__ ?c_NoName___init__ ?k_NoName___init__ ?xL_NoName ?sa_NoName ?eC_NoName ?tC_NoName ?kC_NoName ?tI_NoName ?nb_NoName_name ?a_NoPlace___init__ ?l_NoPlace___init__ ?c_NoPlace___init__ ?k_NoPlace___init__ ?xL_NoPlace ?sa_NoPlace ?eC_NoPlace ?tC_NoPlace ?kC_NoPlace ?tI_NoPlace ?nb_NoPlace_place ?a_NoRow___init__ ?l_NoRow___init__ ?c_NoRow___init__ ?k_NoRow___init__ ?xL_NoRow ?sa_NoRow ?eC_NoRow ?tC_NoRow ?kC_NoRow ?tI_NoRow ?nb_NoRow_place ?nb_NoRow_row ?a_NoWall___init__ ?l_NoWall___init__ ?c_NoWall___init__ ?k_NoWall___init__ ?xL_NoWall ?sa_NoWall ?eC_NoWall ?tC_NoWall ?kC_NoWall ?tI_NoWall ?nb_NoWall_place ?a_NotKept___init__ ?l_NotKept___init__ ?c_NotKept___init__ ?k_NotKept___init__ ?xL_NotKept ?sa_NotKept ?eC_NotKept ?tC_NotKept ?kC_NotKept ?tI_NotKept ?nb_NotKept_promise ?nb_NotKept_witness ?a_NotOnce___init__ ?l_NotOnce___init__ ?c_NotOnce___init__ ?k_NotOnce___init__ ?xL_NotOnce ?sa_NotOnce ?eC_NotOnce ?tC_NotOnce ?kC_NotOnce ?tI_NotOnce ?nb_NotOnce_row ?a_NotPlain___init__ ?l_NotPlain___init__ ?c_NotPlain___init__ ?k_NotPlain___init__ ?xL_NotPlain ?sa_NotPlain ?eC_NotPlain ?tC_NotPlain ?kC_NotPlain ?tI_NotPlain ?nb_NotPlain_choice ?a_TakenName___init__ ?l_TakenName___init__ ?c_TakenName___init__ ?k_TakenName___init__ ?xL_TakenName ?sa_TakenName ?eC_TakenName ?tC_TakenName ?kC_TakenName ?tI_TakenName ?nb_TakenName_name ?a_TooMany___init__ ?l_TooMany___init__ ?c_TooMany___init__ ?k_TooMany___init__ ?xL_TooMany ?sa_TooMany ?eC_TooMany ?tC_TooMany ?kC_TooMany ?tI_TooMany ?nb_TooMany_what ?nb_TooMany_many ?nb_TooMany_limit ?a_Unlike___init__ ?l_Unlike___init__ ?c_Unlike___init__ ?k_Unlike___init__ ?xL_Unlike ?sa_Unlike ?eC_Unlike ?tC_Unlike ?kC_Unlike ?tI_Unlike ?nb_Unlike_what ?z_ValueError ?z_int ?z_isinstance ?z_len ?z_list ?z_range ?z_repr ?cl_BadFrame ?ga_BadFrame ?gg_BadFrame ?fc_BadFrame ?mo_BadFrame ?hD_BadFrame ?ve_BadFrame ?er_BadFrame ?kt_BadFrame_BadFrame ?kt_BadFrame_BadHouse ?kt_BadFrame_BadLoad ?kt_BadFrame_BadName ?kt_BadFrame_BadNet ?kt_BadFrame_BadNumber ?kt_BadFrame_BadRow ?kt_BadFrame_BadTable ?kt_BadFrame_BadText ?kt_BadFrame_BadWeb ?kt_BadFrame_Flat ?kt_BadFrame_NoName ?kt_BadFrame_NoPlace ?kt_BadFrame_NoRow ?kt_BadFrame_NoWall ?kt_BadFrame_NotKept ?kt_BadFrame_NotOnce ?kt_BadFrame_NotPlain ?kt_BadFrame_NothingToRedo ?kt_BadFrame_NothingToUndo ?kt_BadFrame_TakenName ?kt_BadFrame_TooMany ?kt_BadFrame_Unlike ?cl_BadHouse ?ga_BadHouse ?gg_BadHouse ?fc_BadHouse ?mo_BadHouse ?hD_BadHouse ?ve_BadHouse ?er_BadHouse ?kt_BadHouse_BadFrame ?kt_BadHouse_BadHouse ?kt_BadHouse_BadLoad ?kt_BadHouse_BadName ?kt_BadHouse_BadNet ?kt_BadHouse_BadNumber ?kt_BadHouse_BadRow ?kt_BadHouse_BadTable ?kt_BadHouse_BadText ?kt_BadHouse_BadWeb ?kt_BadHouse_Flat ?kt_BadHouse_NoName ?kt_BadHouse_NoPlace ?kt_BadHouse_NoRow ?kt_BadHouse_NoWall ?kt_BadHouse_NotKept ?kt_BadHouse_NotOnce ?kt_BadHouse_NotPlain ?kt_BadHouse_NothingToRedo ?kt_BadHouse_NothingToUndo ?kt_BadHouse_TakenName ?kt_BadHouse_TooMany ?kt_BadHouse_Unlike ?cl_BadLoad ?ga_BadLoad ?gg_BadLoad ?fc_BadLoad ?mo_BadLoad ?hD_BadLoad ?ve_BadLoad ?er_BadLoad ?kt_BadLoad_BadFrame ?kt_BadLoad_BadHouse ?kt_BadLoad_BadLoad ?kt_BadLoad_BadName ?kt_BadLoad_BadNet ?kt_BadLoad_BadNumber ?kt_BadLoad_BadRow ?kt_BadLoad_BadTable ?kt_BadLoad_BadText ?kt_BadLoad_BadWeb ?kt_BadLoad_Flat ?kt_BadLoad_NoName ?kt_BadLoad_NoPlace ?kt_BadLoad_NoRow ?kt_BadLoad_NoWall ?kt_BadLoad_NotKept ?kt_BadLoad_NotOnce ?kt_BadLoad_NotPlain ?kt_BadLoad_NothingToRedo ?kt_BadLoad_NothingToUndo ?kt_BadLoad_TakenName ?kt_BadLoad_TooMany ?kt_BadLoad_Unlike ?cl_BadName ?ga_BadName ?gg_BadName ?fc_BadName ?mo_BadName ?hD_BadName ?ve_BadName ?er_BadName ?kt_BadName_BadFrame ?kt_BadName_BadHouse ?kt_BadName_BadLoad ?kt_BadName_BadName ?kt_BadName_BadNet ?kt_BadName_BadNumber ?kt_BadName_BadRow ?kt_BadName_BadTable ?kt_BadName_BadText ?kt_BadName_BadWeb ?kt_BadName_Flat ?kt_BadName_NoName ?kt_BadName_NoPlace ?kt_BadName_NoRow ?kt_BadName_NoWall ?kt_BadName_NotKept ?kt_BadName_NotOnce ?kt_BadName_NotPlain ?kt_BadName_NothingToRedo ?kt_BadName_NothingToUndo ?kt_BadName_TakenName ?kt_BadName_TooMany ?kt_BadName_Unlike ?cl_BadNet ?ga_BadNet ?gg_BadNet ?fc_BadNet ?mo_BadNet ?hD_BadNet ?ve_BadNet ?er_BadNet ?kt_BadNet_BadFrame ?kt_BadNet_BadHouse ?kt_BadNet_BadLoad ?kt_BadNet_BadName ?kt_BadNet_BadNet ?kt_BadNet_BadNumber ?kt_BadNet_BadRow ?kt_BadNet_BadTable ?kt_BadNet_BadText ?kt_BadNet_BadWeb ?kt_BadNet_Flat ?kt_BadNet_NoName ?kt_BadNet_NoPlace ?kt_BadNet_NoRow ?kt_BadNet_NoWall ?kt_BadNet_NotKept ?kt_BadNet_NotOnce ?kt_BadNet_NotPlain ?kt_BadNet_NothingToRedo ?kt_BadNet_NothingToUndo ?kt_BadNet_TakenName ?kt_BadNet_TooMany ?kt_BadNet_Unlike ?cl_BadNumber ?ga_BadNumber ?gg_BadNumber ?fc_BadNumber ?mo_BadNumber ?hD_BadNumber ?ve_BadNumber ?er_BadNumber ?kt_BadNumber_BadFrame ?kt_BadNumber_BadHouse ?kt_BadNumber_BadLoad ?kt_BadNumber_BadName ?kt_BadNumber_BadNet ?kt_BadNumber_BadNumber ?kt_BadNumber_BadRow ?kt_BadNumber_BadTable ?kt_BadNumber_BadText ?kt_BadNumber_BadWeb ?kt_BadNumber_Flat ?kt_BadNumber_NoName ?kt_BadNumber_NoPlace ?kt_BadNumber_NoRow ?kt_BadNumber_NoWall ?kt_BadNumber_NotKept ?kt_BadNumber_NotOnce ?kt_BadNumber_NotPlain ?kt_BadNumber_NothingToRedo ?kt_BadNumber_NothingToUndo ?kt_BadNumber_TakenName ?kt_BadNumber_TooMany ?kt_BadNumber_Unlike ?cl_BadRow ?ga_BadRow ?gg_BadRow ?fc_BadRow ?mo_BadRow ?hD_BadRow ?ve_BadRow ?er_BadRow ?kt_BadRow_BadFrame ?kt_BadRow_BadHouse ?kt_BadRow_BadLoad ?kt_BadRow_BadName ?kt_BadRow_BadNet ?kt_BadRow_BadNumber ?kt_BadRow_BadRow ?kt_BadRow_BadTable ?kt_BadRow_BadText ?kt_BadRow_BadWeb ?kt_BadRow_Flat ?kt_BadRow_NoName ?kt_BadRow_NoPlace ?kt_BadRow_NoRow ?kt_BadRow_NoWall ?kt_BadRow_NotKept ?kt_BadRow_NotOnce ?kt_BadRow_NotPlain ?kt_BadRow_NothingToRedo ?kt_BadRow_NothingToUndo ?kt_BadRow_TakenName ?kt_BadRow_TooMany ?kt_BadRow_Unlike ?cl_BadTable ?ga_BadTable ?gg_BadTable ?fc_BadTable ?mo_BadTable ?hD_BadTable ?ve_BadTable ?er_BadTable ?kt_BadTable_BadFrame ?kt_BadTable_BadHouse ?kt_BadTable_BadLoad ?kt_BadTable_BadName ?kt_BadTable_BadNet ?kt_BadTable_BadNumber ?kt_BadTable_BadRow ?kt_BadTable_BadTable ?kt_BadTable_BadText ?kt_BadTable_BadWeb ?kt_BadTable_Flat ?kt_BadTable_NoName ?kt_BadTable_NoPlace ?kt_BadTable_NoRow ?kt_BadTable_NoWall ?kt_BadTable_NotKept ?kt_BadTable_NotOnce ?kt_BadTable_NotPlain ?kt_BadTable_NothingToRedo ?kt_BadTable_NothingToUndo ?kt_BadTable_TakenName ?kt_BadTable_TooMany ?kt_BadTable_Unlike ?cl_BadText ?ga_BadText ?gg_BadText ?fc_BadText ?mo_BadText ?hD_BadText ?ve_BadText ?er_BadText ?kt_BadText_BadFrame ?kt_BadText_BadHouse ?kt_BadText_BadLoad ?kt_BadText_BadName ?kt_BadText_BadNet ?kt_BadText_BadNumber ?kt_BadText_BadRow ?kt_BadText_BadTable ?kt_BadText_BadText ?kt_BadText_BadWeb ?kt_BadText_Flat ?kt_BadText_NoName ?kt_BadText_NoPlace ?kt_BadText_NoRow ?kt_BadText_NoWall ?kt_BadText_NotKept ?kt_BadText_NotOnce ?kt_BadText_NotPlain ?kt_BadText_NothingToRedo ?kt_BadText_NothingToUndo ?kt_BadText_TakenName ?kt_BadText_TooMany ?kt_BadText_Unlike ?cl_BadWeb ?ga_BadWeb ?gg_BadWeb ?fc_BadWeb ?mo_BadWeb ?hD_BadWeb ?ve_BadWeb ?er_BadWeb ?kt_BadWeb_BadFrame ?kt_BadWeb_BadHouse ?kt_BadWeb_BadLoad ?kt_BadWeb_BadName ?kt_BadWeb_BadNet ?kt_BadWeb_BadNumber ?kt_BadWeb_BadRow ?kt_BadWeb_BadTable ?kt_BadWeb_BadText ?kt_BadWeb_BadWeb ?kt_BadWeb_Flat ?kt_BadWeb_NoName ?kt_BadWeb_NoPlace ?kt_BadWeb_NoRow ?kt_BadWeb_NoWall ?kt_BadWeb_NotKept ?kt_BadWeb_NotOnce ?kt_BadWeb_NotPlain ?kt_BadWeb_NothingToRedo ?kt_BadWeb_NothingToUndo ?kt_BadWeb_TakenName ?kt_BadWeb_TooMany ?kt_BadWeb_Unlike ?cl_Flat ?ga_Flat ?gg_Flat ?fc_Flat ?mo_Flat ?hD_Flat ?ve_Flat ?er_Flat ?kt_Flat_BadFrame ?kt_Flat_BadHouse ?kt_Flat_BadLoad ?kt_Flat_BadName ?kt_Flat_BadNet ?kt_Flat_BadNumber ?kt_Flat_BadRow ?kt_Flat_BadTable ?kt_Flat_BadText ?kt_Flat_BadWeb ?kt_Flat_Flat ?kt_Flat_NoName ?kt_Flat_NoPlace ?kt_Flat_NoRow ?kt_Flat_NoWall ?kt_Flat_NotKept ?kt_Flat_NotOnce ?kt_Flat_NotPlain ?kt_Flat_NothingToRedo ?kt_Flat_NothingToUndo ?kt_Flat_TakenName ?kt_Flat_TooMany ?kt_Flat_Unlike ?cl_NoName ?ga_NoName ?gg_NoName ?fc_NoName ?mo_NoName ?hD_NoName ?ve_NoName ?er_NoName ?kt_NoName_BadFrame ?kt_NoName_BadHouse ?kt_NoName_BadLoad ?kt_NoName_BadName ?kt_NoName_BadNet ?kt_NoName_BadNumber ?kt_NoName_BadRow ?kt_NoName_BadTable ?kt_NoName_BadText ?kt_NoName_BadWeb ?kt_NoName_Flat ?kt_NoName_NoName ?kt_NoName_NoPlace ?kt_NoName_NoRow ?kt_NoName_NoWall ?kt_NoName_NotKept ?kt_NoName_NotOnce ?kt_NoName_NotPlain ?kt_NoName_NothingToRedo ?kt_NoName_NothingToUndo ?kt_NoName_TakenName ?kt_NoName_TooMany ?kt_NoName_Unlike ?cl_NoPlace ?ga_NoPlace ?gg_NoPlace ?fc_NoPlace ?mo_NoPlace ?hD_NoPlace ?ve_NoPlace ?er_NoPlace ?kt_NoPlace_BadFrame ?kt_NoPlace_BadHouse ?kt_NoPlace_BadLoad ?kt_NoPlace_BadName ?kt_NoPlace_BadNet ?kt_NoPlace_BadNumber ?kt_NoPlace_BadRow ?kt_NoPlace_BadTable ?kt_NoPlace_BadText ?kt_NoPlace_BadWeb ?kt_NoPlace_Flat ?kt_NoPlace_NoName ?kt_NoPlace_NoPlace ?kt_NoPlace_NoRow ?kt_NoPlace_NoWall ?kt_NoPlace_NotKept ?kt_NoPlace_NotOnce ?kt_NoPlace_NotPlain ?kt_NoPlace_NothingToRedo ?kt_NoPlace_NothingToUndo ?kt_NoPlace_TakenName ?kt_NoPlace_TooMany ?kt_NoPlace_Unlike ?cl_NoRow ?ga_NoRow ?gg_NoRow ?fc_NoRow ?mo_NoRow ?hD_NoRow ?ve_NoRow ?er_NoRow ?kt_NoRow_BadFrame ?kt_NoRow_BadHouse ?kt_NoRow_BadLoad ?kt_NoRow_BadName ?kt_NoRow_BadNet ?kt_NoRow_BadNumber ?kt_NoRow_BadRow ?kt_NoRow_BadTable ?kt_NoRow_BadText ?kt_NoRow_BadWeb ?kt_NoRow_Flat ?kt_NoRow_NoName ?kt_NoRow_NoPlace ?kt_NoRow_NoRow ?kt_NoRow_NoWall ?kt_NoRow_NotKept ?kt_NoRow_NotOnce ?kt_NoRow_NotPlain ?kt_NoRow_NothingToRedo ?kt_NoRow_NothingToUndo ?kt_NoRow_TakenName ?kt_NoRow_TooMany ?kt_NoRow_Unlike ?cl_NoWall ?ga_NoWall ?gg_NoWall ?fc_NoWall ?mo_NoWall ?hD_NoWall ?ve_NoWall ?er_NoWall ?kt_NoWall_BadFrame ?kt_NoWall_BadHouse ?kt_NoWall_BadLoad ?kt_NoWall_BadName ?kt_NoWall_BadNet ?kt_NoWall_BadNumber ?kt_NoWall_BadRow ?kt_NoWall_BadTable ?kt_NoWall_BadText ?kt_NoWall_BadWeb ?kt_NoWall_Flat ?kt_NoWall_NoName ?kt_NoWall_NoPlace ?kt_NoWall_NoRow ?kt_NoWall_NoWall ?kt_NoWall_NotKept ?kt_NoWall_NotOnce ?kt_NoWall_NotPlain ?kt_NoWall_NothingToRedo ?kt_NoWall_NothingToUndo ?kt_NoWall_TakenName ?kt_NoWall_TooMany ?kt_NoWall_Unlike ?cl_NotKept ?ga_NotKept ?gg_NotKept ?fc_NotKept ?mo_NotKept ?hD_NotKept ?ve_NotKept ?er_NotKept ?kt_NotKept_BadFrame ?kt_NotKept_BadHouse ?kt_NotKept_BadLoad ?kt_NotKept_BadName ?kt_NotKept_BadNet ?kt_NotKept_BadNumber ?kt_NotKept_BadRow ?kt_NotKept_BadTable ?kt_NotKept_BadText ?kt_NotKept_BadWeb ?kt_NotKept_Flat ?kt_NotKept_NoName ?kt_NotKept_NoPlace ?kt_NotKept_NoRow ?kt_NotKept_NoWall ?kt_NotKept_NotKept ?kt_NotKept_NotOnce ?kt_NotKept_NotPlain ?kt_NotKept_NothingToRedo ?kt_NotKept_NothingToUndo ?kt_NotKept_TakenName ?kt_NotKept_TooMany ?kt_NotKept_Unlike ?cl_NotOnce ?ga_NotOnce ?gg_NotOnce ?fc_NotOnce ?mo_NotOnce ?hD_NotOnce ?ve_NotOnce ?er_NotOnce ?kt_NotOnce_BadFrame ?kt_NotOnce_BadHouse ?kt_NotOnce_BadLoad ?kt_NotOnce_BadName ?kt_NotOnce_BadNet ?kt_NotOnce_BadNumber ?kt_NotOnce_BadRow ?kt_NotOnce_BadTable ?kt_NotOnce_BadText ?kt_NotOnce_BadWeb ?kt_NotOnce_Flat ?kt_NotOnce_NoName ?kt_NotOnce_NoPlace ?kt_NotOnce_NoRow ?kt_NotOnce_NoWall ?kt_NotOnce_NotKept ?kt_NotOnce_NotOnce ?kt_NotOnce_NotPlain ?kt_NotOnce_NothingToRedo ?kt_NotOnce_NothingToUndo ?kt_NotOnce_TakenName ?kt_NotOnce_TooMany ?kt_NotOnce_Unlike ?cl_NotPlain ?ga_NotPlain ?gg_NotPlain ?fc_NotPlain ?mo_NotPlain ?hD_NotPlain ?ve_NotPlain ?er_NotPlain ?kt_NotPlain_BadFrame ?kt_NotPlain_BadHouse ?kt_NotPlain_BadLoad ?kt_NotPlain_BadName ?kt_NotPlain_BadNet ?kt_NotPlain_BadNumber ?kt_NotPlain_BadRow ?kt_NotPlain_BadTable ?kt_NotPlain_BadText ?kt_NotPlain_BadWeb ?kt_NotPlain_Flat ?kt_NotPlain_NoName ?kt_NotPlain_NoPlace ?kt_NotPlain_NoRow ?kt_NotPlain_NoWall ?kt_NotPlain_NotKept ?kt_NotPlain_NotOnce ?kt_NotPlain_NotPlain ?kt_NotPlain_NothingToRedo ?kt_NotPlain_NothingToUndo ?kt_NotPlain_TakenName ?kt_NotPlain_TooMany ?kt_NotPlain_Unlike ?cl_NothingToRedo ?ga_NothingToRedo ?gg_NothingToRedo ?fc_NothingToRedo ?mo_NothingToRedo ?hD_NothingToRedo ?ve_NothingToRedo ?er_NothingToRedo ?kt_NothingToRedo_BadFrame ?kt_NothingToRedo_BadHouse ?kt_NothingToRedo_BadLoad ?kt_NothingToRedo_BadName ?kt_NothingToRedo_BadNet ?kt_NothingToRedo_BadNumber ?kt_NothingToRedo_BadRow ?kt_NothingToRedo_BadTable ?kt_NothingToRedo_BadText ?kt_NothingToRedo_BadWeb ?kt_NothingToRedo_Flat ?kt_NothingToRedo_NoName ?kt_NothingToRedo_NoPlace ?kt_NothingToRedo_NoRow ?kt_NothingToRedo_NoWall ?kt_NothingToRedo_NotKept ?kt_NothingToRedo_NotOnce ?kt_NothingToRedo_NotPlain ?kt_NothingToRedo_NothingToRedo ?kt_NothingToRedo_NothingToUndo ?kt_NothingToRedo_TakenName ?kt_NothingToRedo_TooMany ?kt_NothingToRedo_Unlike ?cl_NothingToUndo ?ga_NothingToUndo ?gg_NothingToUndo ?fc_NothingToUndo ?mo_NothingToUndo ?hD_NothingToUndo ?ve_NothingToUndo ?er_NothingToUndo ?kt_NothingToUndo_BadFrame ?kt_NothingToUndo_BadHouse ?kt_NothingToUndo_BadLoad ?kt_NothingToUndo_BadName ?kt_NothingToUndo_BadNet ?kt_NothingToUndo_BadNumber ?kt_NothingToUndo_BadRow ?kt_NothingToUndo_BadTable ?kt_NothingToUndo_BadText ?kt_NothingToUndo_BadWeb ?kt_NothingToUndo_Flat ?kt_NothingToUndo_NoName ?kt_NothingToUndo_NoPlace ?kt_NothingToUndo_NoRow ?kt_NothingToUndo_NoWall ?kt_NothingToUndo_NotKept ?kt_NothingToUndo_NotOnce ?kt_NothingToUndo_NotPlain ?kt_NothingToUndo_NothingToRedo ?kt_NothingToUndo_NothingToUndo ?kt_NothingToUndo_TakenName ?kt_NothingToUndo_TooMany ?kt_NothingToUndo_Unlike ?cl_TakenName ?ga_TakenName ?gg_TakenName ?fc_TakenName ?mo_TakenName ?hD_TakenName ?ve_TakenName ?er_TakenName ?kt_TakenName_BadFrame ?kt_TakenName_BadHouse ?kt_TakenName_BadLoad ?kt_TakenName_BadName ?kt_TakenName_BadNet ?kt_TakenName_BadNumber ?kt_TakenName_BadRow ?kt_TakenName_BadTable ?kt_TakenName_BadText ?kt_TakenName_BadWeb ?kt_TakenName_Flat ?kt_TakenName_NoName ?kt_TakenName_NoPlace ?kt_TakenName_NoRow ?kt_TakenName_NoWall ?kt_TakenName_NotKept ?kt_TakenName_NotOnce ?kt_TakenName_NotPlain ?kt_TakenName_NothingToRedo ?kt_TakenName_NothingToUndo ?kt_TakenName_TakenName ?kt_TakenName_TooMany ?kt_TakenName_Unlike ?cl_TooMany ?ga_TooMany ?gg_TooMany ?fc_TooMany ?mo_TooMany ?hD_TooMany ?ve_TooMany ?er_TooMany ?kt_TooMany_BadFrame ?kt_TooMany_BadHouse ?kt_TooMany_BadLoad ?kt_TooMany_BadName ?kt_TooMany_BadNet ?kt_TooMany_BadNumber ?kt_TooMany_BadRow ?kt_TooMany_BadTable ?kt_TooMany_BadText ?kt_TooMany_BadWeb ?kt_TooMany_Flat ?kt_TooMany_NoName ?kt_TooMany_NoPlace ?kt_TooMany_NoRow ?kt_TooMany_NoWall ?kt_TooMany_NotKept ?kt_TooMany_NotOnce ?kt_TooMany_NotPlain ?kt_TooMany_NothingToRedo ?kt_TooMany_NothingToUndo ?kt_TooMany_TakenName ?kt_TooMany_TooMany ?kt_TooMany_Unlike ?cl_Unlike ?ga_Unlike ?gg_Unlike ?fc_Unlike ?mo_Unlike ?hD_Unlike ?ve_Unlike ?er_Unlike ?kt_Unlike_BadFrame ?kt_Unlike_BadHouse ?kt_Unlike_BadLoad ?kt_Unlike_BadName ?kt_Unlike_BadNet ?kt_Unlike_BadNumber ?kt_Unlike_BadRow ?kt_Unlike_BadTable ?kt_Unlike_BadText ?kt_Unlike_BadWeb ?kt_Unlike_Flat ?kt_Unlike_NoName ?kt_Unlike_NoPlace ?kt_Unlike_NoRow ?kt_Unlike_NoWall ?kt_Unlike_NotKept ?kt_Unlike_NotOnce ?kt_Unlike_NotPlain ?kt_Unlike_NothingToRedo ?kt_Unlike_NothingToUndo ?kt_Unlike_TakenName ?kt_Unlike_TooMany ?kt_Unlike_Unlike ?spc ?tkc ?q0_NothingToRedo ?k0_NothingToRedo ?eC_NothingToRedo ?t0_NothingToRedo ?q0_NothingToUndo ?k0_NothingToUndo ?eC_NothingToUndo ?t0_NothingToUndo
    (case A_BadFrame => k_is)
    (case A_BadHouse => k_is)
    (case A_BadLoad => k_is)
    (case A_BadName => k_is)
    (case A_BadNet => k_is)
    (case A_BadNumber => k_is)
    (case A_BadRow => k_is)
    (case A_BadTable => k_is)
    (case A_BadText => k_is)
    (case A_BadWeb => k_is)
    (case A_Flat => k_is)
    (case A_NoName => k_is)
    (case A_NoPlace => k_is)
    (case A_NoRow => k_is)
    (case A_NoWall => k_is)
    (case A_NotKept => k_is)
    (case A_NotOnce => k_is)
    (case A_NotPlain => k_is)
    (case A_NothingToRedo => k_is)
    (case A_NothingToUndo => k_is)
    (case A_RestsError => k_is)
    (case A_TakenName => k_is)
    (case A_TooMany => k_is)
    (case A_Unlike => k_is)
    (case a__law_pen => k_is)
    (case l__law_pen => k_is)
    (case c__law_pen => k_is)
    (case k__law_pen => k_is)
    (case a__law_draw => k_is)
    (case l__law_draw => k_is)
    (case c__law_draw => k_is)
    (case k__law_draw => k_is)
    (case a__law_pick => k_is)
    (case l__law_pick => k_is)
    (case c__law_pick => k_is)
    (case k__law_pick => k_is)
    (case a__law_more_kinds => k_is)
    (case l__law_more_kinds => k_is)
    (case c__law_more_kinds => k_is)
    (case k__law_more_kinds => k_is)
    (case a__law_kinds => k_is)
    (case l__law_kinds => k_is)
    (case c__law_kinds => k_is)
    (case k__law_kinds => k_is)
    (case a__law_value => k_is)
    (case l__law_value => k_is)
    (case c__law_value => k_is)
    (case k__law_value => k_is)
    (case a__law_first => k_is)
    (case l__law_first => k_is)
    (case c__law_first => k_is)
    (case k__law_first => k_is)
    (case a__law_second => k_is)
    (case l__law_second => k_is)
    (case c__law_second => k_is)
    (case k__law_second => k_is)
    (case a__law_told => k_is)
    (case l__law_told => k_is)
    (case c__law_told => k_is)
    (case k__law_told => k_is)
    (case a__law_due => k_is)
    (case l__law_due => k_is)
    (case c__law_due => k_is)
    (case k__law_due => k_is)
    (case a_law => k_is)
    (case l_law => k_is)
    (case c_law => k_is)
    (case k_law => k_is)
    (case a_BadFrame___init__ => k_is)
    (case l_BadFrame___init__ => k_is)
    (case c_BadFrame___init__ => k_is)
    (case k_BadFrame___init__ => k_is)
    (case xL_BadFrame => k_is)
    (case sa_BadFrame => k_is)
    (case eC_BadFrame => k_is)
    (case tC_BadFrame => k_is)
    (case kC_BadFrame => k_is)
    (case tI_BadFrame => k_is)
    (case nb_BadFrame_what => k_is)
    (case nb_BadFrame_place => k_is)
    (case a_BadHouse___init__ => k_is)
    (case l_BadHouse___init__ => k_is)
    (case c_BadHouse___init__ => k_is)
    (case k_BadHouse___init__ => k_is)
    (case xL_BadHouse => k_is)
    (case sa_BadHouse => k_is)
    (case eC_BadHouse => k_is)
    (case tC_BadHouse => k_is)
    (case kC_BadHouse => k_is)
    (case tI_BadHouse => k_is)
    (case nb_BadHouse_what => k_is)
    (case nb_BadHouse_place => k_is)
    (case a_BadLoad___init__ => k_is)
    (case l_BadLoad___init__ => k_is)
    (case c_BadLoad___init__ => k_is)
    (case k_BadLoad___init__ => k_is)
    (case xL_BadLoad => k_is)
    (case sa_BadLoad => k_is)
    (case eC_BadLoad => k_is)
    (case tC_BadLoad => k_is)
    (case kC_BadLoad => k_is)
    (case tI_BadLoad => k_is)
    (case nb_BadLoad_what => k_is)
    (case a_BadName___init__ => k_is)
    (case l_BadName___init__ => k_is)
    (case c_BadName___init__ => k_is)
    (case k_BadName___init__ => k_is)
    (case xL_BadName => k_is)
    (case sa_BadName => k_is)
    (case eC_BadName => k_is)
    (case tC_BadName => k_is)
    (case kC_BadName => k_is)
    (case tI_BadName => k_is)
    (case nb_BadName_name => k_is)
    (case a_BadNet___init__ => k_is)
    (case l_BadNet___init__ => k_is)
    (case c_BadNet___init__ => k_is)
    (case k_BadNet___init__ => k_is)
    (case xL_BadNet => k_is)
    (case sa_BadNet => k_is)
    (case eC_BadNet => k_is)
    (case tC_BadNet => k_is)
    (case kC_BadNet => k_is)
    (case tI_BadNet => k_is)
    (case nb_BadNet_what => k_is)
    (case nb_BadNet_gate => k_is)
    (case a_BadNumber___init__ => k_is)
    (case l_BadNumber___init__ => k_is)
    (case c_BadNumber___init__ => k_is)
    (case k_BadNumber___init__ => k_is)
    (case xL_BadNumber => k_is)
    (case sa_BadNumber => k_is)
    (case eC_BadNumber => k_is)
    (case tC_BadNumber => k_is)
    (case kC_BadNumber => k_is)
    (case tI_BadNumber => k_is)
    (case nb_BadNumber_what => k_is)
    (case nb_BadNumber_number => k_is)
    (case a_BadRow___init__ => k_is)
    (case l_BadRow___init__ => k_is)
    (case c_BadRow___init__ => k_is)
    (case k_BadRow___init__ => k_is)
    (case xL_BadRow => k_is)
    (case sa_BadRow => k_is)
    (case eC_BadRow => k_is)
    (case tC_BadRow => k_is)
    (case kC_BadRow => k_is)
    (case tI_BadRow => k_is)
    (case nb_BadRow_what => k_is)
    (case nb_BadRow_row => k_is)
    (case a_BadTable___init__ => k_is)
    (case l_BadTable___init__ => k_is)
    (case c_BadTable___init__ => k_is)
    (case k_BadTable___init__ => k_is)
    (case xL_BadTable => k_is)
    (case sa_BadTable => k_is)
    (case eC_BadTable => k_is)
    (case tC_BadTable => k_is)
    (case kC_BadTable => k_is)
    (case tI_BadTable => k_is)
    (case nb_BadTable_what => k_is)
    (case a_BadText___init__ => k_is)
    (case l_BadText___init__ => k_is)
    (case c_BadText___init__ => k_is)
    (case k_BadText___init__ => k_is)
    (case xL_BadText => k_is)
    (case sa_BadText => k_is)
    (case eC_BadText => k_is)
    (case tC_BadText => k_is)
    (case kC_BadText => k_is)
    (case tI_BadText => k_is)
    (case nb_BadText_line => k_is)
    (case nb_BadText_word => k_is)
    (case a_BadWeb___init__ => k_is)
    (case l_BadWeb___init__ => k_is)
    (case c_BadWeb___init__ => k_is)
    (case k_BadWeb___init__ => k_is)
    (case xL_BadWeb => k_is)
    (case sa_BadWeb => k_is)
    (case eC_BadWeb => k_is)
    (case tC_BadWeb => k_is)
    (case kC_BadWeb => k_is)
    (case tI_BadWeb => k_is)
    (case nb_BadWeb_what => k_is)
    (case nb_BadWeb_place => k_is)
    (case a_Flat___init__ => k_is)
    (case l_Flat___init__ => k_is)
    (case c_Flat___init__ => k_is)
    (case k_Flat___init__ => k_is)
    (case xL_Flat => k_is)
    (case sa_Flat => k_is)
    (case eC_Flat => k_is)
    (case tC_Flat => k_is)
    (case kC_Flat => k_is)
    (case tI_Flat => k_is)
    (case nb_Flat_choice => k_is)
    (case a_NoName___init__ => k_is)
    (case l_NoName___init__ => k_is)
    (case c_NoName___init__ => k_is)
    (case k_NoName___init__ => k_is)
    (case xL_NoName => k_is)
    (case sa_NoName => k_is)
    (case eC_NoName => k_is)
    (case tC_NoName => k_is)
    (case kC_NoName => k_is)
    (case tI_NoName => k_is)
    (case nb_NoName_name => k_is)
    (case a_NoPlace___init__ => k_is)
    (case l_NoPlace___init__ => k_is)
    (case c_NoPlace___init__ => k_is)
    (case k_NoPlace___init__ => k_is)
    (case xL_NoPlace => k_is)
    (case sa_NoPlace => k_is)
    (case eC_NoPlace => k_is)
    (case tC_NoPlace => k_is)
    (case kC_NoPlace => k_is)
    (case tI_NoPlace => k_is)
    (case nb_NoPlace_place => k_is)
    (case a_NoRow___init__ => k_is)
    (case l_NoRow___init__ => k_is)
    (case c_NoRow___init__ => k_is)
    (case k_NoRow___init__ => k_is)
    (case xL_NoRow => k_is)
    (case sa_NoRow => k_is)
    (case eC_NoRow => k_is)
    (case tC_NoRow => k_is)
    (case kC_NoRow => k_is)
    (case tI_NoRow => k_is)
    (case nb_NoRow_place => k_is)
    (case nb_NoRow_row => k_is)
    (case a_NoWall___init__ => k_is)
    (case l_NoWall___init__ => k_is)
    (case c_NoWall___init__ => k_is)
    (case k_NoWall___init__ => k_is)
    (case xL_NoWall => k_is)
    (case sa_NoWall => k_is)
    (case eC_NoWall => k_is)
    (case tC_NoWall => k_is)
    (case kC_NoWall => k_is)
    (case tI_NoWall => k_is)
    (case nb_NoWall_place => k_is)
    (case a_NotKept___init__ => k_is)
    (case l_NotKept___init__ => k_is)
    (case c_NotKept___init__ => k_is)
    (case k_NotKept___init__ => k_is)
    (case xL_NotKept => k_is)
    (case sa_NotKept => k_is)
    (case eC_NotKept => k_is)
    (case tC_NotKept => k_is)
    (case kC_NotKept => k_is)
    (case tI_NotKept => k_is)
    (case nb_NotKept_promise => k_is)
    (case nb_NotKept_witness => k_is)
    (case a_NotOnce___init__ => k_is)
    (case l_NotOnce___init__ => k_is)
    (case c_NotOnce___init__ => k_is)
    (case k_NotOnce___init__ => k_is)
    (case xL_NotOnce => k_is)
    (case sa_NotOnce => k_is)
    (case eC_NotOnce => k_is)
    (case tC_NotOnce => k_is)
    (case kC_NotOnce => k_is)
    (case tI_NotOnce => k_is)
    (case nb_NotOnce_row => k_is)
    (case a_NotPlain___init__ => k_is)
    (case l_NotPlain___init__ => k_is)
    (case c_NotPlain___init__ => k_is)
    (case k_NotPlain___init__ => k_is)
    (case xL_NotPlain => k_is)
    (case sa_NotPlain => k_is)
    (case eC_NotPlain => k_is)
    (case tC_NotPlain => k_is)
    (case kC_NotPlain => k_is)
    (case tI_NotPlain => k_is)
    (case nb_NotPlain_choice => k_is)
    (case a_TakenName___init__ => k_is)
    (case l_TakenName___init__ => k_is)
    (case c_TakenName___init__ => k_is)
    (case k_TakenName___init__ => k_is)
    (case xL_TakenName => k_is)
    (case sa_TakenName => k_is)
    (case eC_TakenName => k_is)
    (case tC_TakenName => k_is)
    (case kC_TakenName => k_is)
    (case tI_TakenName => k_is)
    (case nb_TakenName_name => k_is)
    (case a_TooMany___init__ => k_is)
    (case l_TooMany___init__ => k_is)
    (case c_TooMany___init__ => k_is)
    (case k_TooMany___init__ => k_is)
    (case xL_TooMany => k_is)
    (case sa_TooMany => k_is)
    (case eC_TooMany => k_is)
    (case tC_TooMany => k_is)
    (case kC_TooMany => k_is)
    (case tI_TooMany => k_is)
    (case nb_TooMany_what => k_is)
    (case nb_TooMany_many => k_is)
    (case nb_TooMany_limit => k_is)
    (case a_Unlike___init__ => k_is)
    (case l_Unlike___init__ => k_is)
    (case c_Unlike___init__ => k_is)
    (case k_Unlike___init__ => k_is)
    (case xL_Unlike => k_is)
    (case sa_Unlike => k_is)
    (case eC_Unlike => k_is)
    (case tC_Unlike => k_is)
    (case kC_Unlike => k_is)
    (case tI_Unlike => k_is)
    (case nb_Unlike_what => k_is)
    (case z_ValueError => k_is)
    (case z_int => k_is)
    (case z_isinstance => k_is)
    (case z_len => k_is)
    (case z_list => k_is)
    (case z_range => k_is)
    (case z_repr => k_is)
    (case cl_BadFrame => kernel_rfl)
    (case ga_BadFrame => k_is)
    (case gg_BadFrame => k_is)
    (case fc_BadFrame => k_is)
    (case mo_BadFrame => k_is)
    (case hD_BadFrame => k_is)
    (case ve_BadFrame => kit_is)
    (case er_BadFrame => kts_exm)
    (case kt_BadFrame_BadFrame => kit_is)
    (case kt_BadFrame_BadHouse => kit_is)
    (case kt_BadFrame_BadLoad => kit_is)
    (case kt_BadFrame_BadName => kit_is)
    (case kt_BadFrame_BadNet => kit_is)
    (case kt_BadFrame_BadNumber => kit_is)
    (case kt_BadFrame_BadRow => kit_is)
    (case kt_BadFrame_BadTable => kit_is)
    (case kt_BadFrame_BadText => kit_is)
    (case kt_BadFrame_BadWeb => kit_is)
    (case kt_BadFrame_Flat => kit_is)
    (case kt_BadFrame_NoName => kit_is)
    (case kt_BadFrame_NoPlace => kit_is)
    (case kt_BadFrame_NoRow => kit_is)
    (case kt_BadFrame_NoWall => kit_is)
    (case kt_BadFrame_NotKept => kit_is)
    (case kt_BadFrame_NotOnce => kit_is)
    (case kt_BadFrame_NotPlain => kit_is)
    (case kt_BadFrame_NothingToRedo => kit_is)
    (case kt_BadFrame_NothingToUndo => kit_is)
    (case kt_BadFrame_TakenName => kit_is)
    (case kt_BadFrame_TooMany => kit_is)
    (case kt_BadFrame_Unlike => kit_is)
    (case cl_BadHouse => kernel_rfl)
    (case ga_BadHouse => k_is)
    (case gg_BadHouse => k_is)
    (case fc_BadHouse => k_is)
    (case mo_BadHouse => k_is)
    (case hD_BadHouse => k_is)
    (case ve_BadHouse => kit_is)
    (case er_BadHouse => kts_exm)
    (case kt_BadHouse_BadFrame => kit_is)
    (case kt_BadHouse_BadHouse => kit_is)
    (case kt_BadHouse_BadLoad => kit_is)
    (case kt_BadHouse_BadName => kit_is)
    (case kt_BadHouse_BadNet => kit_is)
    (case kt_BadHouse_BadNumber => kit_is)
    (case kt_BadHouse_BadRow => kit_is)
    (case kt_BadHouse_BadTable => kit_is)
    (case kt_BadHouse_BadText => kit_is)
    (case kt_BadHouse_BadWeb => kit_is)
    (case kt_BadHouse_Flat => kit_is)
    (case kt_BadHouse_NoName => kit_is)
    (case kt_BadHouse_NoPlace => kit_is)
    (case kt_BadHouse_NoRow => kit_is)
    (case kt_BadHouse_NoWall => kit_is)
    (case kt_BadHouse_NotKept => kit_is)
    (case kt_BadHouse_NotOnce => kit_is)
    (case kt_BadHouse_NotPlain => kit_is)
    (case kt_BadHouse_NothingToRedo => kit_is)
    (case kt_BadHouse_NothingToUndo => kit_is)
    (case kt_BadHouse_TakenName => kit_is)
    (case kt_BadHouse_TooMany => kit_is)
    (case kt_BadHouse_Unlike => kit_is)
    (case cl_BadLoad => kernel_rfl)
    (case ga_BadLoad => k_is)
    (case gg_BadLoad => k_is)
    (case fc_BadLoad => k_is)
    (case mo_BadLoad => k_is)
    (case hD_BadLoad => k_is)
    (case ve_BadLoad => kit_is)
    (case er_BadLoad => kts_exm)
    (case kt_BadLoad_BadFrame => kit_is)
    (case kt_BadLoad_BadHouse => kit_is)
    (case kt_BadLoad_BadLoad => kit_is)
    (case kt_BadLoad_BadName => kit_is)
    (case kt_BadLoad_BadNet => kit_is)
    (case kt_BadLoad_BadNumber => kit_is)
    (case kt_BadLoad_BadRow => kit_is)
    (case kt_BadLoad_BadTable => kit_is)
    (case kt_BadLoad_BadText => kit_is)
    (case kt_BadLoad_BadWeb => kit_is)
    (case kt_BadLoad_Flat => kit_is)
    (case kt_BadLoad_NoName => kit_is)
    (case kt_BadLoad_NoPlace => kit_is)
    (case kt_BadLoad_NoRow => kit_is)
    (case kt_BadLoad_NoWall => kit_is)
    (case kt_BadLoad_NotKept => kit_is)
    (case kt_BadLoad_NotOnce => kit_is)
    (case kt_BadLoad_NotPlain => kit_is)
    (case kt_BadLoad_NothingToRedo => kit_is)
    (case kt_BadLoad_NothingToUndo => kit_is)
    (case kt_BadLoad_TakenName => kit_is)
    (case kt_BadLoad_TooMany => kit_is)
    (case kt_BadLoad_Unlike => kit_is)
    (case cl_BadName => kernel_rfl)
    (case ga_BadName => k_is)
    (case gg_BadName => k_is)
    (case fc_BadName => k_is)
    (case mo_BadName => k_is)
    (case hD_BadName => k_is)
    (case ve_BadName => kit_is)
    (case er_BadName => kts_exm)
    (case kt_BadName_BadFrame => kit_is)
    (case kt_BadName_BadHouse => kit_is)
    (case kt_BadName_BadLoad => kit_is)
    (case kt_BadName_BadName => kit_is)
    (case kt_BadName_BadNet => kit_is)
    (case kt_BadName_BadNumber => kit_is)
    (case kt_BadName_BadRow => kit_is)
    (case kt_BadName_BadTable => kit_is)
    (case kt_BadName_BadText => kit_is)
    (case kt_BadName_BadWeb => kit_is)
    (case kt_BadName_Flat => kit_is)
    (case kt_BadName_NoName => kit_is)
    (case kt_BadName_NoPlace => kit_is)
    (case kt_BadName_NoRow => kit_is)
    (case kt_BadName_NoWall => kit_is)
    (case kt_BadName_NotKept => kit_is)
    (case kt_BadName_NotOnce => kit_is)
    (case kt_BadName_NotPlain => kit_is)
    (case kt_BadName_NothingToRedo => kit_is)
    (case kt_BadName_NothingToUndo => kit_is)
    (case kt_BadName_TakenName => kit_is)
    (case kt_BadName_TooMany => kit_is)
    (case kt_BadName_Unlike => kit_is)
    (case cl_BadNet => kernel_rfl)
    (case ga_BadNet => k_is)
    (case gg_BadNet => k_is)
    (case fc_BadNet => k_is)
    (case mo_BadNet => k_is)
    (case hD_BadNet => k_is)
    (case ve_BadNet => kit_is)
    (case er_BadNet => kts_exm)
    (case kt_BadNet_BadFrame => kit_is)
    (case kt_BadNet_BadHouse => kit_is)
    (case kt_BadNet_BadLoad => kit_is)
    (case kt_BadNet_BadName => kit_is)
    (case kt_BadNet_BadNet => kit_is)
    (case kt_BadNet_BadNumber => kit_is)
    (case kt_BadNet_BadRow => kit_is)
    (case kt_BadNet_BadTable => kit_is)
    (case kt_BadNet_BadText => kit_is)
    (case kt_BadNet_BadWeb => kit_is)
    (case kt_BadNet_Flat => kit_is)
    (case kt_BadNet_NoName => kit_is)
    (case kt_BadNet_NoPlace => kit_is)
    (case kt_BadNet_NoRow => kit_is)
    (case kt_BadNet_NoWall => kit_is)
    (case kt_BadNet_NotKept => kit_is)
    (case kt_BadNet_NotOnce => kit_is)
    (case kt_BadNet_NotPlain => kit_is)
    (case kt_BadNet_NothingToRedo => kit_is)
    (case kt_BadNet_NothingToUndo => kit_is)
    (case kt_BadNet_TakenName => kit_is)
    (case kt_BadNet_TooMany => kit_is)
    (case kt_BadNet_Unlike => kit_is)
    (case cl_BadNumber => kernel_rfl)
    (case ga_BadNumber => k_is)
    (case gg_BadNumber => k_is)
    (case fc_BadNumber => k_is)
    (case mo_BadNumber => k_is)
    (case hD_BadNumber => k_is)
    (case ve_BadNumber => kit_is)
    (case er_BadNumber => kts_exm)
    (case kt_BadNumber_BadFrame => kit_is)
    (case kt_BadNumber_BadHouse => kit_is)
    (case kt_BadNumber_BadLoad => kit_is)
    (case kt_BadNumber_BadName => kit_is)
    (case kt_BadNumber_BadNet => kit_is)
    (case kt_BadNumber_BadNumber => kit_is)
    (case kt_BadNumber_BadRow => kit_is)
    (case kt_BadNumber_BadTable => kit_is)
    (case kt_BadNumber_BadText => kit_is)
    (case kt_BadNumber_BadWeb => kit_is)
    (case kt_BadNumber_Flat => kit_is)
    (case kt_BadNumber_NoName => kit_is)
    (case kt_BadNumber_NoPlace => kit_is)
    (case kt_BadNumber_NoRow => kit_is)
    (case kt_BadNumber_NoWall => kit_is)
    (case kt_BadNumber_NotKept => kit_is)
    (case kt_BadNumber_NotOnce => kit_is)
    (case kt_BadNumber_NotPlain => kit_is)
    (case kt_BadNumber_NothingToRedo => kit_is)
    (case kt_BadNumber_NothingToUndo => kit_is)
    (case kt_BadNumber_TakenName => kit_is)
    (case kt_BadNumber_TooMany => kit_is)
    (case kt_BadNumber_Unlike => kit_is)
    (case cl_BadRow => kernel_rfl)
    (case ga_BadRow => k_is)
    (case gg_BadRow => k_is)
    (case fc_BadRow => k_is)
    (case mo_BadRow => k_is)
    (case hD_BadRow => k_is)
    (case ve_BadRow => kit_is)
    (case er_BadRow => kts_exm)
    (case kt_BadRow_BadFrame => kit_is)
    (case kt_BadRow_BadHouse => kit_is)
    (case kt_BadRow_BadLoad => kit_is)
    (case kt_BadRow_BadName => kit_is)
    (case kt_BadRow_BadNet => kit_is)
    (case kt_BadRow_BadNumber => kit_is)
    (case kt_BadRow_BadRow => kit_is)
    (case kt_BadRow_BadTable => kit_is)
    (case kt_BadRow_BadText => kit_is)
    (case kt_BadRow_BadWeb => kit_is)
    (case kt_BadRow_Flat => kit_is)
    (case kt_BadRow_NoName => kit_is)
    (case kt_BadRow_NoPlace => kit_is)
    (case kt_BadRow_NoRow => kit_is)
    (case kt_BadRow_NoWall => kit_is)
    (case kt_BadRow_NotKept => kit_is)
    (case kt_BadRow_NotOnce => kit_is)
    (case kt_BadRow_NotPlain => kit_is)
    (case kt_BadRow_NothingToRedo => kit_is)
    (case kt_BadRow_NothingToUndo => kit_is)
    (case kt_BadRow_TakenName => kit_is)
    (case kt_BadRow_TooMany => kit_is)
    (case kt_BadRow_Unlike => kit_is)
    (case cl_BadTable => kernel_rfl)
    (case ga_BadTable => k_is)
    (case gg_BadTable => k_is)
    (case fc_BadTable => k_is)
    (case mo_BadTable => k_is)
    (case hD_BadTable => k_is)
    (case ve_BadTable => kit_is)
    (case er_BadTable => kts_exm)
    (case kt_BadTable_BadFrame => kit_is)
    (case kt_BadTable_BadHouse => kit_is)
    (case kt_BadTable_BadLoad => kit_is)
    (case kt_BadTable_BadName => kit_is)
    (case kt_BadTable_BadNet => kit_is)
    (case kt_BadTable_BadNumber => kit_is)
    (case kt_BadTable_BadRow => kit_is)
    (case kt_BadTable_BadTable => kit_is)
    (case kt_BadTable_BadText => kit_is)
    (case kt_BadTable_BadWeb => kit_is)
    (case kt_BadTable_Flat => kit_is)
    (case kt_BadTable_NoName => kit_is)
    (case kt_BadTable_NoPlace => kit_is)
    (case kt_BadTable_NoRow => kit_is)
    (case kt_BadTable_NoWall => kit_is)
    (case kt_BadTable_NotKept => kit_is)
    (case kt_BadTable_NotOnce => kit_is)
    (case kt_BadTable_NotPlain => kit_is)
    (case kt_BadTable_NothingToRedo => kit_is)
    (case kt_BadTable_NothingToUndo => kit_is)
    (case kt_BadTable_TakenName => kit_is)
    (case kt_BadTable_TooMany => kit_is)
    (case kt_BadTable_Unlike => kit_is)
    (case cl_BadText => kernel_rfl)
    (case ga_BadText => k_is)
    (case gg_BadText => k_is)
    (case fc_BadText => k_is)
    (case mo_BadText => k_is)
    (case hD_BadText => k_is)
    (case ve_BadText => kit_is)
    (case er_BadText => kts_exm)
    (case kt_BadText_BadFrame => kit_is)
    (case kt_BadText_BadHouse => kit_is)
    (case kt_BadText_BadLoad => kit_is)
    (case kt_BadText_BadName => kit_is)
    (case kt_BadText_BadNet => kit_is)
    (case kt_BadText_BadNumber => kit_is)
    (case kt_BadText_BadRow => kit_is)
    (case kt_BadText_BadTable => kit_is)
    (case kt_BadText_BadText => kit_is)
    (case kt_BadText_BadWeb => kit_is)
    (case kt_BadText_Flat => kit_is)
    (case kt_BadText_NoName => kit_is)
    (case kt_BadText_NoPlace => kit_is)
    (case kt_BadText_NoRow => kit_is)
    (case kt_BadText_NoWall => kit_is)
    (case kt_BadText_NotKept => kit_is)
    (case kt_BadText_NotOnce => kit_is)
    (case kt_BadText_NotPlain => kit_is)
    (case kt_BadText_NothingToRedo => kit_is)
    (case kt_BadText_NothingToUndo => kit_is)
    (case kt_BadText_TakenName => kit_is)
    (case kt_BadText_TooMany => kit_is)
    (case kt_BadText_Unlike => kit_is)
    (case cl_BadWeb => kernel_rfl)
    (case ga_BadWeb => k_is)
    (case gg_BadWeb => k_is)
    (case fc_BadWeb => k_is)
    (case mo_BadWeb => k_is)
    (case hD_BadWeb => k_is)
    (case ve_BadWeb => kit_is)
    (case er_BadWeb => kts_exm)
    (case kt_BadWeb_BadFrame => kit_is)
    (case kt_BadWeb_BadHouse => kit_is)
    (case kt_BadWeb_BadLoad => kit_is)
    (case kt_BadWeb_BadName => kit_is)
    (case kt_BadWeb_BadNet => kit_is)
    (case kt_BadWeb_BadNumber => kit_is)
    (case kt_BadWeb_BadRow => kit_is)
    (case kt_BadWeb_BadTable => kit_is)
    (case kt_BadWeb_BadText => kit_is)
    (case kt_BadWeb_BadWeb => kit_is)
    (case kt_BadWeb_Flat => kit_is)
    (case kt_BadWeb_NoName => kit_is)
    (case kt_BadWeb_NoPlace => kit_is)
    (case kt_BadWeb_NoRow => kit_is)
    (case kt_BadWeb_NoWall => kit_is)
    (case kt_BadWeb_NotKept => kit_is)
    (case kt_BadWeb_NotOnce => kit_is)
    (case kt_BadWeb_NotPlain => kit_is)
    (case kt_BadWeb_NothingToRedo => kit_is)
    (case kt_BadWeb_NothingToUndo => kit_is)
    (case kt_BadWeb_TakenName => kit_is)
    (case kt_BadWeb_TooMany => kit_is)
    (case kt_BadWeb_Unlike => kit_is)
    (case cl_Flat => kernel_rfl)
    (case ga_Flat => k_is)
    (case gg_Flat => k_is)
    (case fc_Flat => k_is)
    (case mo_Flat => k_is)
    (case hD_Flat => k_is)
    (case ve_Flat => kit_is)
    (case er_Flat => kts_exm)
    (case kt_Flat_BadFrame => kit_is)
    (case kt_Flat_BadHouse => kit_is)
    (case kt_Flat_BadLoad => kit_is)
    (case kt_Flat_BadName => kit_is)
    (case kt_Flat_BadNet => kit_is)
    (case kt_Flat_BadNumber => kit_is)
    (case kt_Flat_BadRow => kit_is)
    (case kt_Flat_BadTable => kit_is)
    (case kt_Flat_BadText => kit_is)
    (case kt_Flat_BadWeb => kit_is)
    (case kt_Flat_Flat => kit_is)
    (case kt_Flat_NoName => kit_is)
    (case kt_Flat_NoPlace => kit_is)
    (case kt_Flat_NoRow => kit_is)
    (case kt_Flat_NoWall => kit_is)
    (case kt_Flat_NotKept => kit_is)
    (case kt_Flat_NotOnce => kit_is)
    (case kt_Flat_NotPlain => kit_is)
    (case kt_Flat_NothingToRedo => kit_is)
    (case kt_Flat_NothingToUndo => kit_is)
    (case kt_Flat_TakenName => kit_is)
    (case kt_Flat_TooMany => kit_is)
    (case kt_Flat_Unlike => kit_is)
    (case cl_NoName => kernel_rfl)
    (case ga_NoName => k_is)
    (case gg_NoName => k_is)
    (case fc_NoName => k_is)
    (case mo_NoName => k_is)
    (case hD_NoName => k_is)
    (case ve_NoName => kit_is)
    (case er_NoName => kts_exm)
    (case kt_NoName_BadFrame => kit_is)
    (case kt_NoName_BadHouse => kit_is)
    (case kt_NoName_BadLoad => kit_is)
    (case kt_NoName_BadName => kit_is)
    (case kt_NoName_BadNet => kit_is)
    (case kt_NoName_BadNumber => kit_is)
    (case kt_NoName_BadRow => kit_is)
    (case kt_NoName_BadTable => kit_is)
    (case kt_NoName_BadText => kit_is)
    (case kt_NoName_BadWeb => kit_is)
    (case kt_NoName_Flat => kit_is)
    (case kt_NoName_NoName => kit_is)
    (case kt_NoName_NoPlace => kit_is)
    (case kt_NoName_NoRow => kit_is)
    (case kt_NoName_NoWall => kit_is)
    (case kt_NoName_NotKept => kit_is)
    (case kt_NoName_NotOnce => kit_is)
    (case kt_NoName_NotPlain => kit_is)
    (case kt_NoName_NothingToRedo => kit_is)
    (case kt_NoName_NothingToUndo => kit_is)
    (case kt_NoName_TakenName => kit_is)
    (case kt_NoName_TooMany => kit_is)
    (case kt_NoName_Unlike => kit_is)
    (case cl_NoPlace => kernel_rfl)
    (case ga_NoPlace => k_is)
    (case gg_NoPlace => k_is)
    (case fc_NoPlace => k_is)
    (case mo_NoPlace => k_is)
    (case hD_NoPlace => k_is)
    (case ve_NoPlace => kit_is)
    (case er_NoPlace => kts_exm)
    (case kt_NoPlace_BadFrame => kit_is)
    (case kt_NoPlace_BadHouse => kit_is)
    (case kt_NoPlace_BadLoad => kit_is)
    (case kt_NoPlace_BadName => kit_is)
    (case kt_NoPlace_BadNet => kit_is)
    (case kt_NoPlace_BadNumber => kit_is)
    (case kt_NoPlace_BadRow => kit_is)
    (case kt_NoPlace_BadTable => kit_is)
    (case kt_NoPlace_BadText => kit_is)
    (case kt_NoPlace_BadWeb => kit_is)
    (case kt_NoPlace_Flat => kit_is)
    (case kt_NoPlace_NoName => kit_is)
    (case kt_NoPlace_NoPlace => kit_is)
    (case kt_NoPlace_NoRow => kit_is)
    (case kt_NoPlace_NoWall => kit_is)
    (case kt_NoPlace_NotKept => kit_is)
    (case kt_NoPlace_NotOnce => kit_is)
    (case kt_NoPlace_NotPlain => kit_is)
    (case kt_NoPlace_NothingToRedo => kit_is)
    (case kt_NoPlace_NothingToUndo => kit_is)
    (case kt_NoPlace_TakenName => kit_is)
    (case kt_NoPlace_TooMany => kit_is)
    (case kt_NoPlace_Unlike => kit_is)
    (case cl_NoRow => kernel_rfl)
    (case ga_NoRow => k_is)
    (case gg_NoRow => k_is)
    (case fc_NoRow => k_is)
    (case mo_NoRow => k_is)
    (case hD_NoRow => k_is)
    (case ve_NoRow => kit_is)
    (case er_NoRow => kts_exm)
    (case kt_NoRow_BadFrame => kit_is)
    (case kt_NoRow_BadHouse => kit_is)
    (case kt_NoRow_BadLoad => kit_is)
    (case kt_NoRow_BadName => kit_is)
    (case kt_NoRow_BadNet => kit_is)
    (case kt_NoRow_BadNumber => kit_is)
    (case kt_NoRow_BadRow => kit_is)
    (case kt_NoRow_BadTable => kit_is)
    (case kt_NoRow_BadText => kit_is)
    (case kt_NoRow_BadWeb => kit_is)
    (case kt_NoRow_Flat => kit_is)
    (case kt_NoRow_NoName => kit_is)
    (case kt_NoRow_NoPlace => kit_is)
    (case kt_NoRow_NoRow => kit_is)
    (case kt_NoRow_NoWall => kit_is)
    (case kt_NoRow_NotKept => kit_is)
    (case kt_NoRow_NotOnce => kit_is)
    (case kt_NoRow_NotPlain => kit_is)
    (case kt_NoRow_NothingToRedo => kit_is)
    (case kt_NoRow_NothingToUndo => kit_is)
    (case kt_NoRow_TakenName => kit_is)
    (case kt_NoRow_TooMany => kit_is)
    (case kt_NoRow_Unlike => kit_is)
    (case cl_NoWall => kernel_rfl)
    (case ga_NoWall => k_is)
    (case gg_NoWall => k_is)
    (case fc_NoWall => k_is)
    (case mo_NoWall => k_is)
    (case hD_NoWall => k_is)
    (case ve_NoWall => kit_is)
    (case er_NoWall => kts_exm)
    (case kt_NoWall_BadFrame => kit_is)
    (case kt_NoWall_BadHouse => kit_is)
    (case kt_NoWall_BadLoad => kit_is)
    (case kt_NoWall_BadName => kit_is)
    (case kt_NoWall_BadNet => kit_is)
    (case kt_NoWall_BadNumber => kit_is)
    (case kt_NoWall_BadRow => kit_is)
    (case kt_NoWall_BadTable => kit_is)
    (case kt_NoWall_BadText => kit_is)
    (case kt_NoWall_BadWeb => kit_is)
    (case kt_NoWall_Flat => kit_is)
    (case kt_NoWall_NoName => kit_is)
    (case kt_NoWall_NoPlace => kit_is)
    (case kt_NoWall_NoRow => kit_is)
    (case kt_NoWall_NoWall => kit_is)
    (case kt_NoWall_NotKept => kit_is)
    (case kt_NoWall_NotOnce => kit_is)
    (case kt_NoWall_NotPlain => kit_is)
    (case kt_NoWall_NothingToRedo => kit_is)
    (case kt_NoWall_NothingToUndo => kit_is)
    (case kt_NoWall_TakenName => kit_is)
    (case kt_NoWall_TooMany => kit_is)
    (case kt_NoWall_Unlike => kit_is)
    (case cl_NotKept => kernel_rfl)
    (case ga_NotKept => k_is)
    (case gg_NotKept => k_is)
    (case fc_NotKept => k_is)
    (case mo_NotKept => k_is)
    (case hD_NotKept => k_is)
    (case ve_NotKept => kit_is)
    (case er_NotKept => kts_exm)
    (case kt_NotKept_BadFrame => kit_is)
    (case kt_NotKept_BadHouse => kit_is)
    (case kt_NotKept_BadLoad => kit_is)
    (case kt_NotKept_BadName => kit_is)
    (case kt_NotKept_BadNet => kit_is)
    (case kt_NotKept_BadNumber => kit_is)
    (case kt_NotKept_BadRow => kit_is)
    (case kt_NotKept_BadTable => kit_is)
    (case kt_NotKept_BadText => kit_is)
    (case kt_NotKept_BadWeb => kit_is)
    (case kt_NotKept_Flat => kit_is)
    (case kt_NotKept_NoName => kit_is)
    (case kt_NotKept_NoPlace => kit_is)
    (case kt_NotKept_NoRow => kit_is)
    (case kt_NotKept_NoWall => kit_is)
    (case kt_NotKept_NotKept => kit_is)
    (case kt_NotKept_NotOnce => kit_is)
    (case kt_NotKept_NotPlain => kit_is)
    (case kt_NotKept_NothingToRedo => kit_is)
    (case kt_NotKept_NothingToUndo => kit_is)
    (case kt_NotKept_TakenName => kit_is)
    (case kt_NotKept_TooMany => kit_is)
    (case kt_NotKept_Unlike => kit_is)
    (case cl_NotOnce => kernel_rfl)
    (case ga_NotOnce => k_is)
    (case gg_NotOnce => k_is)
    (case fc_NotOnce => k_is)
    (case mo_NotOnce => k_is)
    (case hD_NotOnce => k_is)
    (case ve_NotOnce => kit_is)
    (case er_NotOnce => kts_exm)
    (case kt_NotOnce_BadFrame => kit_is)
    (case kt_NotOnce_BadHouse => kit_is)
    (case kt_NotOnce_BadLoad => kit_is)
    (case kt_NotOnce_BadName => kit_is)
    (case kt_NotOnce_BadNet => kit_is)
    (case kt_NotOnce_BadNumber => kit_is)
    (case kt_NotOnce_BadRow => kit_is)
    (case kt_NotOnce_BadTable => kit_is)
    (case kt_NotOnce_BadText => kit_is)
    (case kt_NotOnce_BadWeb => kit_is)
    (case kt_NotOnce_Flat => kit_is)
    (case kt_NotOnce_NoName => kit_is)
    (case kt_NotOnce_NoPlace => kit_is)
    (case kt_NotOnce_NoRow => kit_is)
    (case kt_NotOnce_NoWall => kit_is)
    (case kt_NotOnce_NotKept => kit_is)
    (case kt_NotOnce_NotOnce => kit_is)
    (case kt_NotOnce_NotPlain => kit_is)
    (case kt_NotOnce_NothingToRedo => kit_is)
    (case kt_NotOnce_NothingToUndo => kit_is)
    (case kt_NotOnce_TakenName => kit_is)
    (case kt_NotOnce_TooMany => kit_is)
    (case kt_NotOnce_Unlike => kit_is)
    (case cl_NotPlain => kernel_rfl)
    (case ga_NotPlain => k_is)
    (case gg_NotPlain => k_is)
    (case fc_NotPlain => k_is)
    (case mo_NotPlain => k_is)
    (case hD_NotPlain => k_is)
    (case ve_NotPlain => kit_is)
    (case er_NotPlain => kts_exm)
    (case kt_NotPlain_BadFrame => kit_is)
    (case kt_NotPlain_BadHouse => kit_is)
    (case kt_NotPlain_BadLoad => kit_is)
    (case kt_NotPlain_BadName => kit_is)
    (case kt_NotPlain_BadNet => kit_is)
    (case kt_NotPlain_BadNumber => kit_is)
    (case kt_NotPlain_BadRow => kit_is)
    (case kt_NotPlain_BadTable => kit_is)
    (case kt_NotPlain_BadText => kit_is)
    (case kt_NotPlain_BadWeb => kit_is)
    (case kt_NotPlain_Flat => kit_is)
    (case kt_NotPlain_NoName => kit_is)
    (case kt_NotPlain_NoPlace => kit_is)
    (case kt_NotPlain_NoRow => kit_is)
    (case kt_NotPlain_NoWall => kit_is)
    (case kt_NotPlain_NotKept => kit_is)
    (case kt_NotPlain_NotOnce => kit_is)
    (case kt_NotPlain_NotPlain => kit_is)
    (case kt_NotPlain_NothingToRedo => kit_is)
    (case kt_NotPlain_NothingToUndo => kit_is)
    (case kt_NotPlain_TakenName => kit_is)
    (case kt_NotPlain_TooMany => kit_is)
    (case kt_NotPlain_Unlike => kit_is)
    (case cl_NothingToRedo => kernel_rfl)
    (case ga_NothingToRedo => k_is)
    (case gg_NothingToRedo => k_is)
    (case fc_NothingToRedo => k_is)
    (case mo_NothingToRedo => k_is)
    (case hD_NothingToRedo => k_is)
    (case ve_NothingToRedo => kit_is)
    (case er_NothingToRedo => kts_exm)
    (case kt_NothingToRedo_BadFrame => kit_is)
    (case kt_NothingToRedo_BadHouse => kit_is)
    (case kt_NothingToRedo_BadLoad => kit_is)
    (case kt_NothingToRedo_BadName => kit_is)
    (case kt_NothingToRedo_BadNet => kit_is)
    (case kt_NothingToRedo_BadNumber => kit_is)
    (case kt_NothingToRedo_BadRow => kit_is)
    (case kt_NothingToRedo_BadTable => kit_is)
    (case kt_NothingToRedo_BadText => kit_is)
    (case kt_NothingToRedo_BadWeb => kit_is)
    (case kt_NothingToRedo_Flat => kit_is)
    (case kt_NothingToRedo_NoName => kit_is)
    (case kt_NothingToRedo_NoPlace => kit_is)
    (case kt_NothingToRedo_NoRow => kit_is)
    (case kt_NothingToRedo_NoWall => kit_is)
    (case kt_NothingToRedo_NotKept => kit_is)
    (case kt_NothingToRedo_NotOnce => kit_is)
    (case kt_NothingToRedo_NotPlain => kit_is)
    (case kt_NothingToRedo_NothingToRedo => kit_is)
    (case kt_NothingToRedo_NothingToUndo => kit_is)
    (case kt_NothingToRedo_TakenName => kit_is)
    (case kt_NothingToRedo_TooMany => kit_is)
    (case kt_NothingToRedo_Unlike => kit_is)
    (case cl_NothingToUndo => kernel_rfl)
    (case ga_NothingToUndo => k_is)
    (case gg_NothingToUndo => k_is)
    (case fc_NothingToUndo => k_is)
    (case mo_NothingToUndo => k_is)
    (case hD_NothingToUndo => k_is)
    (case ve_NothingToUndo => kit_is)
    (case er_NothingToUndo => kts_exm)
    (case kt_NothingToUndo_BadFrame => kit_is)
    (case kt_NothingToUndo_BadHouse => kit_is)
    (case kt_NothingToUndo_BadLoad => kit_is)
    (case kt_NothingToUndo_BadName => kit_is)
    (case kt_NothingToUndo_BadNet => kit_is)
    (case kt_NothingToUndo_BadNumber => kit_is)
    (case kt_NothingToUndo_BadRow => kit_is)
    (case kt_NothingToUndo_BadTable => kit_is)
    (case kt_NothingToUndo_BadText => kit_is)
    (case kt_NothingToUndo_BadWeb => kit_is)
    (case kt_NothingToUndo_Flat => kit_is)
    (case kt_NothingToUndo_NoName => kit_is)
    (case kt_NothingToUndo_NoPlace => kit_is)
    (case kt_NothingToUndo_NoRow => kit_is)
    (case kt_NothingToUndo_NoWall => kit_is)
    (case kt_NothingToUndo_NotKept => kit_is)
    (case kt_NothingToUndo_NotOnce => kit_is)
    (case kt_NothingToUndo_NotPlain => kit_is)
    (case kt_NothingToUndo_NothingToRedo => kit_is)
    (case kt_NothingToUndo_NothingToUndo => kit_is)
    (case kt_NothingToUndo_TakenName => kit_is)
    (case kt_NothingToUndo_TooMany => kit_is)
    (case kt_NothingToUndo_Unlike => kit_is)
    (case cl_TakenName => kernel_rfl)
    (case ga_TakenName => k_is)
    (case gg_TakenName => k_is)
    (case fc_TakenName => k_is)
    (case mo_TakenName => k_is)
    (case hD_TakenName => k_is)
    (case ve_TakenName => kit_is)
    (case er_TakenName => kts_exm)
    (case kt_TakenName_BadFrame => kit_is)
    (case kt_TakenName_BadHouse => kit_is)
    (case kt_TakenName_BadLoad => kit_is)
    (case kt_TakenName_BadName => kit_is)
    (case kt_TakenName_BadNet => kit_is)
    (case kt_TakenName_BadNumber => kit_is)
    (case kt_TakenName_BadRow => kit_is)
    (case kt_TakenName_BadTable => kit_is)
    (case kt_TakenName_BadText => kit_is)
    (case kt_TakenName_BadWeb => kit_is)
    (case kt_TakenName_Flat => kit_is)
    (case kt_TakenName_NoName => kit_is)
    (case kt_TakenName_NoPlace => kit_is)
    (case kt_TakenName_NoRow => kit_is)
    (case kt_TakenName_NoWall => kit_is)
    (case kt_TakenName_NotKept => kit_is)
    (case kt_TakenName_NotOnce => kit_is)
    (case kt_TakenName_NotPlain => kit_is)
    (case kt_TakenName_NothingToRedo => kit_is)
    (case kt_TakenName_NothingToUndo => kit_is)
    (case kt_TakenName_TakenName => kit_is)
    (case kt_TakenName_TooMany => kit_is)
    (case kt_TakenName_Unlike => kit_is)
    (case cl_TooMany => kernel_rfl)
    (case ga_TooMany => k_is)
    (case gg_TooMany => k_is)
    (case fc_TooMany => k_is)
    (case mo_TooMany => k_is)
    (case hD_TooMany => k_is)
    (case ve_TooMany => kit_is)
    (case er_TooMany => kts_exm)
    (case kt_TooMany_BadFrame => kit_is)
    (case kt_TooMany_BadHouse => kit_is)
    (case kt_TooMany_BadLoad => kit_is)
    (case kt_TooMany_BadName => kit_is)
    (case kt_TooMany_BadNet => kit_is)
    (case kt_TooMany_BadNumber => kit_is)
    (case kt_TooMany_BadRow => kit_is)
    (case kt_TooMany_BadTable => kit_is)
    (case kt_TooMany_BadText => kit_is)
    (case kt_TooMany_BadWeb => kit_is)
    (case kt_TooMany_Flat => kit_is)
    (case kt_TooMany_NoName => kit_is)
    (case kt_TooMany_NoPlace => kit_is)
    (case kt_TooMany_NoRow => kit_is)
    (case kt_TooMany_NoWall => kit_is)
    (case kt_TooMany_NotKept => kit_is)
    (case kt_TooMany_NotOnce => kit_is)
    (case kt_TooMany_NotPlain => kit_is)
    (case kt_TooMany_NothingToRedo => kit_is)
    (case kt_TooMany_NothingToUndo => kit_is)
    (case kt_TooMany_TakenName => kit_is)
    (case kt_TooMany_TooMany => kit_is)
    (case kt_TooMany_Unlike => kit_is)
    (case cl_Unlike => kernel_rfl)
    (case ga_Unlike => k_is)
    (case gg_Unlike => k_is)
    (case fc_Unlike => k_is)
    (case mo_Unlike => k_is)
    (case hD_Unlike => k_is)
    (case ve_Unlike => kit_is)
    (case er_Unlike => kts_exm)
    (case kt_Unlike_BadFrame => kit_is)
    (case kt_Unlike_BadHouse => kit_is)
    (case kt_Unlike_BadLoad => kit_is)
    (case kt_Unlike_BadName => kit_is)
    (case kt_Unlike_BadNet => kit_is)
    (case kt_Unlike_BadNumber => kit_is)
    (case kt_Unlike_BadRow => kit_is)
    (case kt_Unlike_BadTable => kit_is)
    (case kt_Unlike_BadText => kit_is)
    (case kt_Unlike_BadWeb => kit_is)
    (case kt_Unlike_Flat => kit_is)
    (case kt_Unlike_NoName => kit_is)
    (case kt_Unlike_NoPlace => kit_is)
    (case kt_Unlike_NoRow => kit_is)
    (case kt_Unlike_NoWall => kit_is)
    (case kt_Unlike_NotKept => kit_is)
    (case kt_Unlike_NotOnce => kit_is)
    (case kt_Unlike_NotPlain => kit_is)
    (case kt_Unlike_NothingToRedo => kit_is)
    (case kt_Unlike_NothingToUndo => kit_is)
    (case kt_Unlike_TakenName => kit_is)
    (case kt_Unlike_TooMany => kit_is)
    (case kt_Unlike_Unlike => kit_is)
    (case spc => k_is)
    (case tkc => k_is)
    (case q0_NothingToRedo => kernel_rfl)
    (case k0_NothingToRedo => k_is)
    (case eC_NothingToRedo => k_is)
    (case t0_NothingToRedo => k_is)
    (case q0_NothingToUndo => kernel_rfl)
    (case k0_NothingToUndo => k_is)
    (case eC_NothingToUndo => k_is)
    (case t0_NothingToUndo => k_is)
